import PyProof.Rows.All
import Wide.All
import OpenK.AllK
import Wide.FinOn
import HandS.ForMost
import HandS.Wide
import HandS.IsInst
import HandS.DictComp
import HandS.SortRule
import HandS.Flow
import HandS.NoneIn
import HandS.Style
import HandS.TupLe
import HandS.Deep
import HandS.TupAny
import HandS.Conv
import HandS.Zip
import KE.KMathGB
import HandS.ClsMeth
import HandS.SortKw
import HandS.SortInts
import HandS.TupLen
import HandS.HeadHook1
import HandS.HeadHook2
import HandS.Defaults
import Lean
import PySem.Challenge.RW_calmspot_k44_depth
set_option Elab.async false
set_option linter.all false
set_option maxRecDepth 100000
set_option maxHeartbeats 0
set_option exponentiation.threshold 3000
section
open PySem PySem.W PyProof.Rows
open_top hd for PySem.Challenge.rw_calmspot_k44_depth
end
/-! D1: data without addresses; how a value stands for a datum; environments of data. -/
namespace DL
open PySem PySem.Spec L2

/-- the attributes' names, by number -/
def atrs : List Str := ["many", "book", "least", "homes", "rule", "dimension", "calm", "gap", "spot", "shares", "entries", "centre", "low", "high", "voter", "one", "two", "quota", "lot", "arrow", "weight"]
def atr (n : Nat) : Str := atrs.getD n "many"
theorem atr_inj : ∀ n, n < 21 → ∀ m, m < 21 → (atr n == atr m) = decide (n = m) := by decide +kernel

/-- a datum. scr: the script's list; dI, dT: dicts by ints, by tuples of ints; ins t fs: an instance of the t-th class -/
inductive D where
  | non | bl (b : Bool) | int (i : Int) | str (x : Str)
  | lst (xs : List D) | tup (xs : List D) | scr (ns : List Int)
  | dI (ks : List (Int × D)) | dT (ks : List (List Int × D))
  | ins (t : Nat) (fs : List (Nat × D))

abbrev Ex (H H' : Hp) : Prop := ∀ a o, H a = some o → H' a = some o
theorem Ex.refl (H : Hp) : Ex H H := fun _ _ h => h
theorem Ex.trans {H H1 H2 : Hp} (a : Ex H H1) (b : Ex H1 H2) : Ex H H2 := fun x o h => b x o (a x o h)
theorem Ex.new {H : Hp} {p : Addr} {o : HO} (h : H p = none) : Ex H (upd H p o) := fun a u e => by
  rw [upd_ne (ne_of_none e h)]; exact e
theorem ex_rd {H H' : Hp} {a : Addr} {u : HO} (e : Ex H H') (h : Rd H a u) : Rd H' a u := by
  rcases h with h | ⟨o, h⟩
  · exact Or.inl (e a _ h)
  · exact Or.inr ⟨o, e a _ h⟩
theorem ex_l {K : PySem.W.Frag} {H H' : Hp} {a : Addr} {xs : List V} (e : Ex H H') (h : SqL K H a xs) : SqL K H' a xs := by
  rcases h with h | h
  · exact Or.inl (ex_rd e h)
  · exact Or.inr h
theorem ex_t {K : PySem.W.Frag} {H H' : Hp} {a : Addr} {xs : List V} (e : Ex H H') (h : SqT K H a xs) : SqT K H' a xs := by
  rcases h with h | h
  · exact Or.inl (ex_rd e h)
  · exact Or.inr h

mutual
inductive Rep (K : PySem.W.Frag) (cm : Nat → Addr) (H : Hp) : V → D → Prop
  | non : Rep K cm H .non .non
  | bl (b : Bool) : Rep K cm H (.bl b) (.bl b)
  | int (i : Int) : Rep K cm H (.int i) (.int i)
  | str (x : Str) : Rep K cm H (.str x) (.str x)
  | lst {a : Addr} {vs : List V} {ds : List D} : H a = some (.lst vs) → Reps K cm H vs ds → Rep K cm H (.ref a) (.lst ds)
  | tup {a : Addr} {vs : List V} {ds : List D} : H a = some (.tup vs) → Reps K cm H vs ds → Rep K cm H (.ref a) (.tup ds)
  | scr {a : Addr} {ns : List Int} : SqL K H a (ns.map V.int) → Rep K cm H (.ref a) (.scr ns)
  | dI {a : Addr} {kvs : List (Key × V)} {ks : List (Int × D)} : H a = some (.dK kvs) → RepI K cm H kvs ks → Rep K cm H (.ref a) (.dI ks)
  | dT {a : Addr} {kvs : List (List Key × V)} {ks : List (List Int × D)} : H a = some (.dT kvs) → RepT K cm H kvs ks → Rep K cm H (.ref a) (.dT ks)
  | ins {a dx : Addr} {vf : List (Str × V)} {t : Nat} {fs : List (Nat × D)} : H a = some (.ins (cm t) dx vf) → RepF K cm H vf fs → Rep K cm H (.ref a) (.ins t fs)
inductive Reps (K : PySem.W.Frag) (cm : Nat → Addr) (H : Hp) : List V → List D → Prop
  | nil : Reps K cm H [] []
  | cons {v : V} {vs : List V} {d : D} {ds : List D} : Rep K cm H v d → Reps K cm H vs ds → Reps K cm H (v :: vs) (d :: ds)
inductive RepI (K : PySem.W.Frag) (cm : Nat → Addr) (H : Hp) : List (Key × V) → List (Int × D) → Prop
  | nil : RepI K cm H [] []
  | cons {k : Int} {v : V} {vs : List (Key × V)} {d : D} {ds : List (Int × D)} : Rep K cm H v d → RepI K cm H vs ds → RepI K cm H ((Sum.inl k, v) :: vs) ((k, d) :: ds)
inductive RepT (K : PySem.W.Frag) (cm : Nat → Addr) (H : Hp) : List (List Key × V) → List (List Int × D) → Prop
  | nil : RepT K cm H [] []
  | cons {k : List Int} {v : V} {vs : List (List Key × V)} {d : D} {ds : List (List Int × D)} : Rep K cm H v d → RepT K cm H vs ds → RepT K cm H ((k.map Sum.inl, v) :: vs) ((k, d) :: ds)
inductive RepF (K : PySem.W.Frag) (cm : Nat → Addr) (H : Hp) : List (Str × V) → List (Nat × D) → Prop
  | nil : RepF K cm H [] []
  | cons {n : Nat} {v : V} {vs : List (Str × V)} {d : D} {ds : List (Nat × D)} : n < 21 → Rep K cm H v d → RepF K cm H vs ds → RepF K cm H ((atr n, v) :: vs) ((n, d) :: ds)
end

section
variable {K : PySem.W.Frag} {cm : Nat → Addr} {H H' : Hp}
mutual
theorem Rep.mono (e : Ex H H') : ∀ (d : D) (v : V), Rep K cm H v d → Rep K cm H' v d
  | .non, _, h => by cases h; exact .non
  | .bl b, _, h => by cases h; exact .bl b
  | .int i, _, h => by cases h; exact .int i
  | .str x, _, h => by cases h; exact .str x
  | .lst ds, _, h => by cases h with | lst h1 h2 => exact .lst (e _ _ h1) (Reps.mono e ds _ h2)
  | .tup ds, _, h => by cases h with | tup h1 h2 => exact .tup (e _ _ h1) (Reps.mono e ds _ h2)
  | .scr ns, _, h => by cases h with | scr h1 => exact .scr (ex_l e h1)
  | .dI ks, _, h => by cases h with | dI h1 h2 => exact .dI (e _ _ h1) (RepI.mono e ks _ h2)
  | .dT ks, _, h => by cases h with | dT h1 h2 => exact .dT (e _ _ h1) (RepT.mono e ks _ h2)
  | .ins t fs, _, h => by cases h with | ins h1 h2 => exact .ins (e _ _ h1) (RepF.mono e fs _ h2)
theorem Reps.mono (e : Ex H H') : ∀ (ds : List D) (vs : List V), Reps K cm H vs ds → Reps K cm H' vs ds
  | [], _, h => by cases h; exact .nil
  | d :: ds, _, h => by cases h with | cons h1 h2 => exact .cons (Rep.mono e d _ h1) (Reps.mono e ds _ h2)
theorem RepI.mono (e : Ex H H') : ∀ (ds : List (Int × D)) (vs : List (Key × V)), RepI K cm H vs ds → RepI K cm H' vs ds
  | [], _, h => by cases h; exact .nil
  | (k, d) :: ds, _, h => by cases h with | cons h1 h2 => exact .cons (Rep.mono e d _ h1) (RepI.mono e ds _ h2)
theorem RepT.mono (e : Ex H H') : ∀ (ds : List (List Int × D)) (vs : List (List Key × V)), RepT K cm H vs ds → RepT K cm H' vs ds
  | [], _, h => by cases h; exact .nil
  | (k, d) :: ds, _, h => by cases h with | cons h1 h2 => exact .cons (Rep.mono e d _ h1) (RepT.mono e ds _ h2)
theorem RepF.mono (e : Ex H H') : ∀ (ds : List (Nat × D)) (vs : List (Str × V)), RepF K cm H vs ds → RepF K cm H' vs ds
  | [], _, h => by cases h; exact .nil
  | (k, d) :: ds, _, h => by cases h with | cons h0 h1 h2 => exact .cons h0 (Rep.mono e d _ h1) (RepF.mono e ds _ h2)
end
theorem Rep.up {v : V} {d : D} (h : Rep K cm H v d) (e : Ex H H') : Rep K cm H' v d := Rep.mono e d v h
theorem Reps.up {v : List V} {d : List D} (h : Reps K cm H v d) (e : Ex H H') : Reps K cm H' v d := Reps.mono e d v h
theorem RepF.up {v : List (Str × V)} {d : List (Nat × D)} (h : RepF K cm H v d) (e : Ex H H') : RepF K cm H' v d := RepF.mono e d v h
theorem RepI.up {v : List (Key × V)} {d : List (Int × D)} (h : RepI K cm H v d) (e : Ex H H') : RepI K cm H' v d := RepI.mono e d v h
theorem RepT.up {v : List (List Key × V)} {d : List (List Int × D)} (h : RepT K cm H v d) (e : Ex H H') : RepT K cm H' v d := RepT.mono e d v h
theorem Reps.length : ∀ {vs : List V} {ds : List D}, Reps K cm H vs ds → vs.length = ds.length
  | _, _, .nil => rfl
  | _, _, .cons _ h => by simp [Reps.length h]
theorem Reps.append : ∀ {vs ws : List V} {ds es : List D}, Reps K cm H vs ds → Reps K cm H ws es → Reps K cm H (vs ++ ws) (ds ++ es)
  | _, _, _, _, .nil, h => h
  | _, _, _, _, .cons h1 h2, h => .cons h1 (Reps.append h2 h)
theorem Reps.get : ∀ {vs : List V} {ds : List D} {i : Nat} {d : D}, Reps K cm H vs ds → ds[i]? = some d → ∃ v, vs[i]? = some v ∧ Rep K cm H v d
  | _, _, _, _, .nil, e => by simp at e
  | _, _, 0, _, .cons h1 h2, e => by simp at e; subst e; exact ⟨_, rfl, h1⟩
  | _, _, i + 1, _, .cons h1 h2, e => by
    obtain ⟨v, e1, e2⟩ := Reps.get (i := i) h2 (by simpa using e)
    exact ⟨v, by simpa using e1, e2⟩
theorem Reps.getV : ∀ {vs : List V} {ds : List D} {i : Nat} {v : V}, Reps K cm H vs ds → vs[i]? = some v → ∃ d, ds[i]? = some d ∧ Rep K cm H v d
  | _, _, _, _, .nil, e => by simp at e
  | _, _, 0, _, .cons h1 h2, e => by simp at e; subst e; exact ⟨_, rfl, h1⟩
  | _, _, i + 1, _, .cons h1 h2, e => by
    obtain ⟨v, e1, e2⟩ := Reps.getV (i := i) h2 (by simpa using e)
    exact ⟨v, by simpa using e1, e2⟩
theorem Reps.set : ∀ {vs : List V} {ds : List D} {v : V} {d : D} (i : Nat), Rep K cm H v d → Reps K cm H vs ds → Reps K cm H (vs.set i v) (ds.set i d)
  | _, _, _, _, _, _, .nil => .nil
  | _, _, _, _, 0, h, .cons h1 h2 => .cons h h2
  | _, _, _, _, i + 1, h, .cons h1 h2 => .cons h1 (Reps.set i h h2)
theorem Reps.take : ∀ {vs : List V} {ds : List D} (n : Nat), Reps K cm H vs ds → Reps K cm H (vs.take n) (ds.take n)
  | _, _, 0, _ => .nil
  | _, _, n + 1, .nil => .nil
  | _, _, n + 1, .cons h1 h2 => .cons h1 (Reps.take n h2)
theorem Reps.drop : ∀ {vs : List V} {ds : List D} (n : Nat), Reps K cm H vs ds → Reps K cm H (vs.drop n) (ds.drop n)
  | _, _, 0, h => h
  | _, _, n + 1, .nil => .nil
  | _, _, n + 1, .cons h1 h2 => Reps.drop n h2
theorem Reps.nil_iff {vs : List V} {ds : List D} (h : Reps K cm H vs ds) : vs = [] ↔ ds = [] := by
  cases h <;> simp
theorem Reps.flat (K : PySem.W.Frag) (cm : Nat → Addr) (H : Hp) : ∀ ns : List Int, Reps K cm H (ns.map V.int) (ns.map D.int)
  | [] => .nil
  | n :: ns => .cons (.int n) (Reps.flat K cm H ns)
end
end DL

/-! D2: growth, environments, the judgements. -/
namespace DL
open PySem PySem.Spec L2

/-- the heap grows; of what stood nothing more is frozen -/
structure Gr (F H F' H' : Hp) : Prop where
  ex : Ex H H'
  fx : Ex F F'
  le : Ex F' H'
  old : ∀ a, H a ≠ none → F' a = F a ∨ ∃ xs, H a = some (.tup xs)
theorem Gr.refl {F H : Hp} (le : Ex F H) : Gr F H F H := ⟨Ex.refl H, Ex.refl F, le, fun _ _ => .inl rfl⟩
theorem Gr.trans {F H F1 H1 F2 H2 : Hp} (a : Gr F H F1 H1) (b : Gr F1 H1 F2 H2) : Gr F H F2 H2 :=
  ⟨a.ex.trans b.ex, a.fx.trans b.fx, b.le, fun p hp => by
    have h1 : H1 p ≠ none := fun z => by
      cases e : H p with
      | none => exact hp e
      | some o => rw [a.ex p o e] at z; cases z
    rcases a.old p hp with z | z
    · rcases b.old p h1 with y | ⟨xs, y⟩
      · exact .inl (y.trans z)
      · cases e : H p with
        | none => exact absurd e hp
        | some o => rw [a.ex p o e] at y; cases y; exact .inr ⟨xs, rfl⟩
    · exact .inr z⟩
theorem none_of_none {F H : Hp} (le : Ex F H) {p : Addr} (h : H p = none) : F p = none := by
  cases e : F p with
  | none => rfl
  | some o => rw [le p o e] at h; cases h
theorem Gr.new {F H : Hp} {p : Addr} {o : HO} (le : Ex F H) (h : H p = none) : Gr F H (upd F p o) (upd H p o) := by
  refine ⟨Ex.new h, Ex.new (none_of_none le h), fun a u e => ?_, fun a ha => ?_⟩
  · by_cases z : a = p
    · subst z; rw [upd_same] at e ⊢; exact e
    · rw [upd_ne z] at e ⊢; exact le a u e
  · have z : a ≠ p := fun z => ha (z ▸ h)
    rw [upd_ne z]; exact .inl rfl

/-- a slot: nothing; a datum; a list, a dict, an instance of one's own that nobody else holds -/
inductive Sl where
  | no | va (d : D) | ol (xs : List D) | oI (ks : List (Int × D)) | oT (ks : List (List Int × D)) | oi (a : Addr) (t : Nat) (fs : List (Nat × D))
abbrev Env := List Sl

def Sl.own : Sl → Bool
  | .no => false
  | .va _ => false
  | _ => true
/-- the object of an own slot -/
def OwnO (K : PySem.W.Frag) (cm : Nat → Addr) (F : Hp) (a : Addr) : Sl → HO → Prop
  | .ol xs, o => ∃ vs, o = .lst vs ∧ Reps K cm F vs xs
  | .oI ks, o => ∃ kvs, o = .dK kvs ∧ RepI K cm F kvs ks
  | .oT ks, o => ∃ kvs, o = .dT kvs ∧ RepT K cm F kvs ks
  | .oi b t fs, o => a = b ∧ ∃ dx vf, o = .ins (cm t) dx vf ∧ RepF K cm F vf fs
  | _, _ => False
def SlR (K : PySem.W.Frag) (cm : Nat → Addr) (F H : Hp) (x : Option V) : Sl → Prop
  | .no => True
  | .va d => ∃ v, x = some v ∧ Rep K cm F v d
  | s => ∃ a o, x = some (.ref a) ∧ H a = some o ∧ F a = none ∧ OwnO K cm F a s o

structure RE (K : PySem.W.Frag) (cm : Nat → Addr) (F H : Hp) (σ : L2.St) (ρ : Env) : Prop where
  le : Ex F H
  len : σ.length = ρ.length
  sl : ∀ (i : Nat) (x : Option V) (s : Sl), σ[i]? = some x → ρ[i]? = some s → SlR K cm F H x s
  ap : ∀ (i j : Nat) (a : Addr) (s t : Sl), i ≠ j → σ[i]? = some (some (.ref a)) → σ[j]? = some (some (.ref a)) → ρ[i]? = some s → ρ[j]? = some t → s.own = true → t.own = true → False

section
variable {K : PySem.W.Frag} {cm : Nat → Addr} {F H F' H' : Hp} {σ : L2.St} {ρ : Env}
theorem OwnO.up {a : Addr} {s : Sl} {o : HO} (h : OwnO K cm F a s o) (e : Ex F F') : OwnO K cm F' a s o := by
  cases s with
  | no => exact h
  | va d => exact h
  | ol xs => obtain ⟨vs, h1, h2⟩ := h; exact ⟨vs, h1, h2.up e⟩
  | oI xs => obtain ⟨vs, h1, h2⟩ := h; exact ⟨vs, h1, h2.up e⟩
  | oT xs => obtain ⟨vs, h1, h2⟩ := h; exact ⟨vs, h1, h2.up e⟩
  | oi b t fs => obtain ⟨h0, dx, vf, h1, h2⟩ := h; exact ⟨h0, dx, vf, h1, h2.up e⟩
theorem OwnO.notup {a : Addr} {s : Sl} {xs : List V} (hs : s.own = true) (h : OwnO K cm F a s (.tup xs)) : False := by
  cases s with
  | no => cases hs
  | va d => cases hs
  | ol xs => obtain ⟨vs, h1, h2⟩ := h; cases h1
  | oI xs => obtain ⟨vs, h1, h2⟩ := h; cases h1
  | oT xs => obtain ⟨vs, h1, h2⟩ := h; cases h1
  | oi b t fs => obtain ⟨h0, dx, vf, h1, h2⟩ := h; cases h1
theorem SlR.own {s : Sl} {x : Option V} (hs : s.own = true) (h : SlR K cm F H x s) : ∃ a o, x = some (.ref a) ∧ H a = some o ∧ F a = none ∧ OwnO K cm F a s o := by
  cases s with
  | no => cases hs
  | va d => cases hs
  | _ => exact h
theorem SlR.of_own {s : Sl} {x : Option V} (hs : s.own = true) (h : ∃ a o, x = some (.ref a) ∧ H a = some o ∧ F a = none ∧ OwnO K cm F a s o) : SlR K cm F H x s := by
  cases s with
  | no => cases hs
  | va d => cases hs
  | _ => exact h
theorem SlR.gr {s : Sl} {x : Option V} (h : SlR K cm F H x s) (g : Gr F H F' H') : SlR K cm F' H' x s := by
  cases hs : s.own with
  | true =>
    obtain ⟨a, o, e1, e2, e3, e4⟩ := SlR.own hs h
    refine SlR.of_own hs ⟨a, o, e1, g.ex _ _ e2, ?_, e4.up g.fx⟩
    rcases g.old a (by rw [e2]; simp) with z | ⟨xs, z⟩
    · rw [z]; exact e3
    · rw [e2] at z; cases z; exact (OwnO.notup hs e4).elim
  | false =>
    cases s with
    | no => trivial
    | va d => obtain ⟨v, e, r⟩ := h; exact ⟨v, e, r.up g.fx⟩
    | ol xs => cases hs
    | oI xs => cases hs
    | oT xs => cases hs
    | oi b t fs => cases hs
theorem RE.gr (r : RE K cm F H σ ρ) (g : Gr F H F' H') : RE K cm F' H' σ ρ :=
  ⟨g.le, r.len, fun i x s h1 h2 => (r.sl i x s h1 h2).gr g, r.ap⟩
theorem RE.at (r : RE K cm F H σ ρ) {i : Nat} {s : Sl} (h : ρ[i]? = some s) : ∃ x, σ[i]? = some x ∧ SlR K cm F H x s := by
  have hi : i < ρ.length := (List.getElem?_eq_some_iff.mp h).1
  have hi' : i < σ.length := by rw [r.len]; exact hi
  exact ⟨σ[i], List.getElem?_eq_getElem hi', r.sl i _ s (List.getElem?_eq_getElem hi') h⟩
end

/-! ### the judgements -/
def tD (K : PySem.W.Frag) (cm : Nat → Addr) (f : Env → Option D) : TE := fun σ H Q =>
  ∃ F ρ d, RE K cm F H σ ρ ∧ f ρ = some d ∧ ∀ F' H' v, Gr F H F' H' → Rep K cm F' v d → Q v H'
def tDT (K : PySem.W.Frag) (cm : Nat → Addr) (f : Env → Option Bool) : TT := fun σ H Q =>
  ∃ F ρ b, RE K cm F H σ ρ ∧ f ρ = some b ∧ ∀ F' H', Gr F H F' H' → Q b H'
def tDA (K : PySem.W.Frag) (cm : Nat → Addr) (f : Env → Option (List D)) : TA := fun σ H Q =>
  ∃ F ρ ds, RE K cm F H σ ρ ∧ f ρ = some ds ∧ ∀ F' H' vs, Gr F H F' H' → Reps K cm F' vs ds → Q vs H'
abbrev DE (cm : Nat → Addr) (X : Cx) (e : Expr) (f : Env → Option D) : Prop := PE X e (tD X.K cm f)
abbrev DT (cm : Nat → Addr) (X : Cx) (e : Expr) (f : Env → Option Bool) : Prop := PT X e (tDT X.K cm f)
abbrev DW (cm : Nat → Addr) (X : Cx) (e : Expr) (f : Env → Option Bool) : Prop := PW X e (tDT X.K cm f)
abbrev DA (cm : Nat → Addr) (X : Cx) (es : List Expr) (f : Env → Option (List D)) : Prop := PA X es (tDA X.K cm f)

theorem PE.imp {X : Cx} {e : Expr} {t t' : TE} (h : PE X e t) (w : ∀ σ H Q, t' σ H Q → t σ H Q) : PE X e t' := ⟨fun pins s σ H Q I q => h.run pins s σ H Q I (w σ H Q q)⟩
theorem PT.imp {X : Cx} {e : Expr} {t t' : TT} (h : PT X e t) (w : ∀ σ H Q, t' σ H Q → t σ H Q) : PT X e t' := ⟨fun pins s σ H Q I q => h.run pins s σ H Q I (w σ H Q q)⟩
theorem PW.imp {X : Cx} {e : Expr} {t t' : TT} (h : PW X e t) (w : ∀ σ H Q, t' σ H Q → t σ H Q) : PW X e t' := ⟨fun wh pins s σ H Q I q => h.run wh pins s σ H Q I (w σ H Q q)⟩
theorem PA.imp {X : Cx} {e : List Expr} {t t' : TA} (h : PA X e t) (w : ∀ σ H Q, t' σ H Q → t σ H Q) : PA X e t' := ⟨fun pos pins s σ H Q I q => h.run pos pins s σ H Q I (w σ H Q q)⟩

/-- lists and tuples of a heap are no longer than the line -/
def LenOk (H : Hp) : Prop := ∀ a xs, (H a = some (.lst xs) ∨ H a = some (.tup xs)) → xs.length ≤ sizeLine
theorem Inv.lenOk {X : Cx} {pins : List (Addr × Obj)} {σ : L2.St} {H : Hp} {s : Shared} (I : Inv X pins σ H s) : LenOk H := fun a xs h => by
  rcases h with h | h
  · obtain ⟨z, _⟩ := I.hok a _ h; exact z
  · obtain ⟨z, _⟩ := I.hok a _ h; exact z
theorem PE.len {X : Cx} {e : Expr} {t : TE} (h : PE X e t) : PE X e (fun σ H Q => t σ H fun v H' => LenOk H' → Q v H') := ⟨fun pins s σ H Q I q =>
  thn (h.run pins s σ H _ I q) fun u s1 ⟨v, H', I', r, q'⟩ => ⟨v, H', I', r, q' (Inv.lenOk I')⟩⟩

section
variable {cm : Nat → Addr} {X : Cx} {e a b c : Expr} {es : List Expr} {f g h : Env → Option D} {pos : Pos}

/-! ### names, constants -/
def eVar (i : Nat) : Env → Option D := fun ρ => match ρ[i]? with
  | some (.va d) => some d
  | _ => none
theorem de_var {i : Nat} {x : Str} (hN : X.N[i]? = some x) (hv : Vis X.env.scope x) (hd : (x == ("__debug__" : Str)) = false := by decide) (hcd : (x == ("__classdict__" : Str)) = false := by decide) : DE cm X (.Name x pos) (eVar i) :=
  PE.imp (pe_var hN hv hd hcd) fun σ H Q ⟨F, ρ, d, re, e, q⟩ => by
    unfold eVar at e
    split at e
    · rename_i d' h'
      cases e
      obtain ⟨x, h1, v, h2, r⟩ := re.at h'
      subst h2
      exact ⟨v, h1, q F H v (Gr.refl re.le) r⟩
    · cases e
def eC (d : D) : Env → Option D := fun _ => some d
theorem de_c {v : V} {d : D} (h : PE X e (tC v)) (r : ∀ H, Rep X.K cm H v d) : DE cm X e (eC d) :=
  PE.imp h fun σ H Q ⟨F, ρ, d', re, e, q⟩ => by cases e; exact q F H v (Gr.refl re.le) (r F)
theorem de_int {i : Int} {j : Nat} : DE cm X (.Constant (.int i) j pos) (eC (.int i)) := de_c pe_int fun _ => .int i
theorem de_bl {i : Bool} {j : Nat} : DE cm X (.Constant (.bool i) j pos) (eC (.bl i)) := de_c pe_bl fun _ => .bl i
theorem de_non {j : Nat} : DE cm X (.Constant .none j pos) (eC .non) := de_c pe_non fun _ => .non
theorem de_str {i : Str} {j : Nat} : DE cm X (.Constant (.str i) j pos) (eC (.str i)) := de_c pe_str fun _ => .str i
theorem de_glob {x : Str} {i : Int} {t : Tok} (hg : Gl X x) (hm : X.mg x = some (.int i t)) (hd : (x == ("__debug__" : Str)) = false := by decide) : DE cm X (.Name x pos) (eC (.int i)) :=
  de_c (pe_glob (v := .int i) hg hm ⟨t, rfl⟩ hd) fun _ => .int i

/-! ### operators -/
/-- a two-place operation on values, on data -/
def OpD (K : PySem.W.Frag) (cm : Nat → Addr) (r : R2) (G : D → D → Option D) : Prop :=
  ∀ (F H : Hp) (x y : V) (dx dy d : D) (Q : VK), Ex F H → LenOk H → Rep K cm F x dx → Rep K cm F y dy → G dx dy = some d → (∀ F' H' v, Gr F H F' H' → Rep K cm F' v d → Q v H') → r x y H Q
def eOp (G : D → D → Option D) (f g : Env → Option D) : Env → Option D := fun ρ => (f ρ).bind fun x => (g ρ).bind fun y => G x y
theorem eOp_dec {G : D → D → Option D} {ρ : Env} {d : D} (e : eOp G f g ρ = some d) : ∃ x y, f ρ = some x ∧ g ρ = some y ∧ G x y = some d := by
  unfold eOp at e
  cases h1 : f ρ with
  | none => rw [h1] at e; cases e
  | some x =>
    rw [h1] at e
    cases h2 : g ρ with
    | none => rw [h2] at e; cases e
    | some y => rw [h2] at e; exact ⟨x, y, rfl, rfl, e⟩
theorem op_imp {r : R2} {G : D → D → Option D} (hG : OpD X.K cm r G) : ∀ σ H Q, tD X.K cm (eOp G f g) σ H Q → tOp r (tD X.K cm f) (fun σ H Q => tD X.K cm g σ H fun v H' => LenOk H' → Q v H') σ H Q :=
  fun σ H Q ⟨F, ρ, d, re, e, q⟩ => by
    obtain ⟨dx, dy, e1, e2, e3⟩ := eOp_dec e
    exact ⟨F, ρ, dx, re, e1, fun F1 H1 x g1 r1 => ⟨F1, ρ, dy, re.gr g1, e2, fun F2 H2 y g2 r2 lo => hG F2 H2 x y dx dy d Q g2.le lo (r1.up g2.fx) r2 e3 fun F3 H3 v g3 r3 => q _ _ _ ((g1.trans g2).trans g3) r3⟩⟩
theorem de_op {op : Operator} {r : R2} {G : D → D → Option D} (hG : OpD X.K cm r G) (ho : OpR X (binaryOp op) r) (ha : DE cm X a f) (hb : DE cm X b g) : DE cm X (.BinOp a op b pos) (eOp G f g) :=
  PE.imp (pe_op ho ha (PE.len hb)) (op_imp hG)
theorem de_cmp {op : CmpOp} {r : R2} {G : D → D → Option D} (hG : OpD X.K cm r G) (ho : OpR X (compareOp op) r) (ha : DE cm X a f) (hb : DE cm X b g) (hm : behindInMarks op b = false) : DE cm X (.Compare a [op] [b] pos) (eOp G f g) :=
  PE.imp (pe_cmpR ho ha (PE.len hb) hm) (op_imp hG)
/-- a value as a test -/
def eT (f : Env → Option D) : Env → Option Bool := fun ρ => match f ρ with
  | some (.bl b) => some b
  | _ => none
theorem eT_dec {ρ : Env} {b : Bool} (e : eT f ρ = some b) : f ρ = some (.bl b) := by
  unfold eT at e
  split at e
  · rename_i b' h'; cases e; exact h'
  · cases e
theorem tst_imp : ∀ σ H (Q : Bool → Hp → Prop), tDT X.K cm (eT f) σ H Q → tTest (tD X.K cm f) σ H Q := fun σ H Q ⟨F, ρ, b, re, e, q⟩ =>
  ⟨F, ρ, .bl b, re, eT_dec e, fun F' H' v g r => by cases r; exact ⟨b, rfl, q F' H' g⟩⟩
theorem dt_val (h : DE cm X e f) (he : ∀ whole, isTrue e X.env whole = (do let v ← whole; standAt e.pos; holding [v] (truthy v)) := by intro _; rfl) : DT cm X e (eT f) := PT.imp (pt_val h he) fun σ H Q q => tst_imp σ H Q q
theorem dt_cmp {op : CmpOp} {r : R2} {G : D → D → Option D} (hG : OpD X.K cm r G) (ho : OpR X (compareOp op) r) (ha : DE cm X a f) (hb : DE cm X b g) (hm : behindInMarks op b = false) : DT cm X (.Compare a [op] [b] pos) (eT (eOp G f g)) :=
  PT.imp (pt_cmpR ho ha (PE.len hb) hm) fun σ H Q q => by
    obtain ⟨F, ρ, b, re, e, q⟩ := q
    exact op_imp hG σ H _ ⟨F, ρ, .bl b, re, eT_dec e, fun F' H' v g r => by cases r; exact ⟨b, rfl, q F' H' g⟩⟩
end
end DL

/-! D3: the operators on data. -/
namespace DL
open PySem PySem.Spec L2

def lim : Nat := 1000000
theorem lim_le {n : Nat} (h : n ≤ lim) : n ≤ sizeLine := by rw [sizeLine_eq]; unfold lim at h; omega
def wide (i : Int) : Prop := i.natAbs < 2 ^ 400000
instance (i : Int) : Decidable (wide i) := by unfold wide; infer_instance
theorem wide_cmul {i j : Int} (hi : wide i) (hj : wide j) : CMulW i j := wide_mul hi hj (by decide) (by decide) (by decide)
def slim (i : Int) : Prop := 0 < i ∧ i.natAbs < 2 ^ 8000
theorem slim_cdiv {i j : Int} (hj : slim j) : CDivW i j := wide_div hj.1 hj.2 (by decide) (by decide)

section
variable {K : PySem.W.Frag} {cm : Nat → Addr}

/-! ### ints -/
noncomputable def iD (C : Int → Int → Prop) (g : Int → Int → D) : D → D → Option D := by
  classical exact fun x y => match x, y with
    | .int i, .int j => if C i j then some (g i j) else none
    | _, _ => none
theorem iD_int {C : Int → Int → Prop} {g : Int → Int → D} {i j : Int} (h : C i j) : iD C g (.int i) (.int j) = some (g i j) := by
  unfold iD; simp [h]
theorem iD_dec {C : Int → Int → Prop} {g : Int → Int → D} {x y d : D} (h : iD C g x y = some d) : ∃ i j, x = .int i ∧ y = .int j ∧ C i j ∧ d = g i j := by
  unfold iD at h
  split at h
  · rename_i i j
    split at h
    · rename_i hc; cases h; exact ⟨i, j, rfl, rfl, hc, rfl⟩
    · cases h
  · cases h
/-- from values to data: a flat answer -/
inductive Fl : V → D → Prop | non : Fl .non .non | bl (b : Bool) : Fl (.bl b) (.bl b) | int (i : Int) : Fl (.int i) (.int i) | str (x : Str) : Fl (.str x) (.str x)
theorem Fl.rep {H : Hp} {v : V} {d : D} (h : Fl v d) : Rep K cm H v d := by cases h with | non => exact .non | bl b => exact .bl b | int i => exact .int i | str x => exact .str x
theorem od_I {C : Int → Int → Prop} {C' : Int → Int → Prop} {g : Int → Int → V} {g' : Int → Int → D} (hC : ∀ i j, C' i j → C i j) (hg : ∀ i j, Fl (g i j) (g' i j)) : OpD K cm (rI C g) (iD C' g') :=
  fun F H x y dx dy d Q le lo rx ry e q => by
    obtain ⟨i, j, rfl, rfl, hc, rfl⟩ := iD_dec e
    cases rx; cases ry
    exact ⟨i, j, rfl, rfl, hC i j hc, q F H _ (Gr.refl le) (hg i j).rep⟩
theorem od_I0 {g : Int → Int → V} {g' : Int → Int → D} (hg : ∀ i j, Fl (g i j) (g' i j)) : OpD K cm (rI0 g) (iD (fun _ _ => True) g') :=
  fun F H x y dx dy d Q le lo rx ry e q => by
    obtain ⟨i, j, rfl, rfl, hc, rfl⟩ := iD_dec e
    cases rx; cases ry
    exact ⟨i, j, rfl, rfl, q F H _ (Gr.refl le) (hg i j).rep⟩
noncomputable abbrev subD := iD (fun _ _ => True) fun i j => .int (i - j)
noncomputable abbrev imulD := iD (fun i j => wide i ∧ wide j) fun i j => .int (i * j)
noncomputable abbrev fdivD := iD (fun _ j => slim j) fun i j => .int (i / j)
noncomputable abbrev modD := iD (fun _ j => 0 < j) fun i j => .int (i % j)
noncomputable abbrev powD := iD CPow fun i j => .int (i ^ j.toNat)
noncomputable abbrev shlD := iD CPow fun i j => .int (i * 2 ^ j.toNat)
noncomputable abbrev shrD := iD (fun _ j => 0 ≤ j) fun i j => .int (i / 2 ^ j.toNat)
noncomputable abbrev iandD := iD (fun _ _ => True) fun i j => .int (Builtin.bitAnd i j)
noncomputable abbrev ltD := iD (fun _ _ => True) fun i j => .bl (decide (i < j))
noncomputable abbrev leD := iD (fun _ _ => True) fun i j => .bl (decide (i ≤ j))
noncomputable abbrev gtD := iD (fun _ _ => True) fun i j => .bl (decide (j < i))
noncomputable abbrev geD := iD (fun _ _ => True) fun i j => .bl (decide (j ≤ i))
theorem od_sub : OpD K cm (rI0 fun i j => .int (i - j)) subD := od_I0 fun i j => .int _
theorem od_imul : OpD K cm (rI CMulW fun i j => .int (i * j)) imulD := od_I (fun i j h => wide_cmul h.1 h.2) fun i j => .int _
theorem od_fdiv : OpD K cm (rI CDivW fun i j => .int (i / j)) fdivD := od_I (fun i j h => slim_cdiv h) fun i j => .int _
theorem od_mod : OpD K cm (rI (fun _ j => 0 < j) fun i j => .int (i % j)) modD := od_I (fun i j h => h) fun i j => .int _
theorem od_pow : OpD K cm (rI CPow fun i j => .int (i ^ j.toNat)) powD := od_I (fun i j h => h) fun i j => .int _
theorem od_shl : OpD K cm (rI CPow fun i j => .int (i * 2 ^ j.toNat)) shlD := od_I (fun i j h => h) fun i j => .int _
theorem od_shr : OpD K cm (rI (fun _ j => 0 ≤ j) fun i j => .int (i / 2 ^ j.toNat)) shrD := od_I (fun i j h => h) fun i j => .int _
theorem od_iand : OpD K cm (rI0 fun i j => .int (Builtin.bitAnd i j)) iandD := od_I0 fun i j => .int _
theorem od_lt : OpD K cm (rI0 fun i j => .bl (decide (i < j))) ltD := od_I0 fun i j => .bl _
theorem od_le : OpD K cm (rI0 fun i j => .bl (decide (i ≤ j))) leD := od_I0 fun i j => .bl _
theorem od_gt : OpD K cm (rI0 fun i j => .bl (decide (j < i))) gtD := od_I0 fun i j => .bl _
theorem od_ge : OpD K cm (rI0 fun i j => .bl (decide (j ≤ i))) geD := od_I0 fun i j => .bl _

/-! ### +: ints, lists, tuples -/
def addD : D → D → Option D
  | .int i, .int j => some (.int (i + j))
  | .lst xs, .lst ys => if xs.length + ys.length ≤ lim then some (.lst (xs ++ ys)) else none
  | .tup xs, .tup ys => if xs.length + ys.length ≤ lim then some (.tup (xs ++ ys)) else none
  | _, _ => none
def rAddD (K : PySem.W.Frag) : R2 := fun x y H Q => (rI0 (fun i j => .int (i + j))) x y H Q ∨ (rCat x y H Q ∨ rCatA K x y H Q)
theorem op_addD {X : Cx} : OpR X (binaryOp .Add) (rAddD X.K) := op_add.or (op_cat.or op_catA)
theorem od_add : OpD K cm (rAddD K) addD := fun F H x y dx dy d Q le lo rx ry e q => by
  unfold addD at e
  split at e
  · cases e; cases rx; cases ry
    exact .inl ⟨_, _, rfl, rfl, q F H _ (Gr.refl le) (.int _)⟩
  · split at e
    · rename_i xs ys hl
      cases e
      cases rx with | @lst a vs _ h1 r1 =>
      cases ry with | @lst b ws _ h2 r2 =>
      refine .inr (.inl ⟨a, b, vs, ws, rfl, rfl, le _ _ h1, le _ _ h2, ?_, fun p hp => ?_⟩)
      · rw [r1.length, r2.length]; exact lim_le hl
      · have g := Gr.new (o := .lst (vs ++ ws)) le hp
        exact q _ _ _ g (.lst upd_same ((r1.append r2).up g.fx))
    · cases e
  · split at e
    · rename_i xs ys hl
      cases e
      cases rx with | @tup a vs _ h1 r1 =>
      cases ry with | @tup b ws _ h2 r2 =>
      refine .inr (.inr ⟨a, b, vs, ws, rfl, rfl, SqT.of (le _ _ h1), SqT.of (le _ _ h2), ?_, fun hn => ?_, fun _ hn => ?_, fun _ _ p hp => ?_⟩)
      · rw [r1.length, r2.length]; exact lim_le hl
      · subst hn
        have e2 : xs = [] := r1.nil_iff.mp rfl
        subst e2
        exact q F H _ (Gr.refl le) (.tup h2 r2)
      · subst hn
        have e2 : ys = [] := r2.nil_iff.mp rfl
        subst e2
        refine q F H _ (Gr.refl le) ?_
        simp only [List.append_nil]
        exact .tup h1 r1
      · have g := Gr.new (o := .tup (vs ++ ws)) le hp
        exact q _ _ _ g (.tup upd_same ((r1.append r2).up g.fx))
    · cases e
  · cases e

/-! ### *: ints, a list by an int -/
noncomputable def mulD : D → D → Option D := by
  classical exact fun x y => match x, y with
    | .lst xs, .int k => if 0 ≤ k ∧ k < 1000 ∧ xs.length ≤ 1000 then some (.lst (List.replicate k.toNat xs).flatten) else none
    | x, y => imulD x y
def rMulD : R2 := fun x y H Q => (rI CMulW fun i j => .int (i * j)) x y H Q ∨ rRep x y H Q
theorem op_mulD {X : Cx} : OpR X (binaryOp .Mult) rMulD := op_mulW.or op_rep
theorem Reps.rep {F : Hp} {vs : List V} {ds : List D} (h : Reps K cm F vs ds) : ∀ n : Nat, Reps K cm F (List.replicate n vs).flatten (List.replicate n ds).flatten
  | 0 => .nil
  | n + 1 => by
    rw [List.replicate_succ, List.replicate_succ, List.flatten_cons, List.flatten_cons]
    exact h.append (Reps.rep h n)
theorem od_mul : OpD K cm rMulD mulD := fun F H x y dx dy d Q le lo rx ry e q => by
  unfold mulD at e
  split at e
  · split at e
    · rename_i xs k hk
      cases e
      cases rx with | @lst a vs _ h1 r1 =>
      cases ry
      refine .inr ⟨a, k, vs, rfl, rfl, le _ _ h1, by omega, by omega, ?_, fun p hp => ?_⟩
      · rw [r1.length, sizeLine_eq]
        have := Nat.mul_le_mul hk.2.2 (show k.toNat ≤ 1000 by omega)
        omega
      · have g := Gr.new (o := .lst (List.replicate k.toNat vs).flatten) le hp
        exact q _ _ _ g (.lst upd_same ((r1.rep _).up g.fx))
    · cases e
  · exact .inl (od_imul F H _ _ _ _ d Q le lo rx ry e q)
theorem mulD_int {i j : Int} (hi : wide i) (hj : wide j) : mulD (.int i) (.int j) = some (.int (i * j)) := by
  unfold mulD; exact iD_int ⟨hi, hj⟩

/-! ### ==, != -/
mutual
def toPy : D → PyData
  | .non => .none | .bl b => .bool b | .int i => .int i | .str x => .str x
  | .lst xs => .list (toPys xs) | .tup xs => .tuple (toPys xs)
  | _ => .none
def toPys : List D → List PyData
  | [] => []
  | x :: xs => toPy x :: toPys xs
end
mutual
/-- data without texts and objects, not deep -/
def okPy : Nat → D → Bool
  | _, .non => true | _, .bl _ => true | _, .int _ => true
  | n + 1, .lst xs => okPys n xs | n + 1, .tup xs => okPys n xs
  | _, _ => false
def okPys : Nat → List D → Bool
  | _, [] => true
  | n, x :: xs => okPy n x && okPys n xs
end
mutual
theorem Rep.dp {H : Hp} : ∀ (d : D) (n : Nat) (v : V), okPy n d = true → Rep K cm H v d → Dp K H v (toPy d)
  | .non, _, _, _, r => by cases r; exact .non
  | .bl b, _, _, _, r => by cases r; exact .bl b
  | .int i, _, _, _, r => by cases r; exact .int i
  | .str x, _, _, _, r => by cases r; exact .str x
  | .lst xs, n + 1, _, h, r => by cases r with | lst h1 h2 => exact .lst (SqL.of h1) (Reps.dp xs n _ h h2)
  | .tup xs, n + 1, _, h, r => by cases r with | tup h1 h2 => exact .tup (SqT.of h1) (Reps.dp xs n _ h h2)
  | .lst xs, 0, _, h, _ => by cases h
  | .tup xs, 0, _, h, _ => by cases h
  | .scr _, n, _, h, _ => by cases n <;> cases h
  | .dI _, n, _, h, _ => by cases n <;> cases h
  | .dT _, n, _, h, _ => by cases n <;> cases h
  | .ins _ _, n, _, h, _ => by cases n <;> cases h
theorem Reps.dp {H : Hp} : ∀ (ds : List D) (n : Nat) (vs : List V), okPys n ds = true → Reps K cm H vs ds → DpAll K H vs (toPys ds)
  | [], _, _, _, r => by cases r; exact .nil
  | d :: ds, n, _, h, r => by
    have h' : okPy n d = true ∧ okPys n ds = true := by simpa [okPys] using h
    cases r with | cons h1 h2 => exact .cons (Rep.dp d n _ h'.1 h1) (Reps.dp ds n _ h'.2 h2)
end
mutual
theorem ok_lay : ∀ (d : D) (n : Nat), okPy n d = true → (toPy d).canLay0 = true ∧ (toPy d).depth ≤ n
  | .non, _, _ => ⟨rfl, Nat.zero_le _⟩
  | .bl b, _, _ => ⟨rfl, Nat.zero_le _⟩
  | .int i, _, _ => ⟨rfl, Nat.zero_le _⟩
  | .str x, n, h => by cases n <;> cases h
  | .lst xs, n + 1, h => by
    obtain ⟨a, b⟩ := ok_lays xs n h
    exact ⟨a, by show PyData.depthAll (toPys xs) + 1 ≤ n + 1; omega⟩
  | .tup xs, n + 1, h => by
    obtain ⟨a, b⟩ := ok_lays xs n h
    exact ⟨a, by show PyData.depthAll (toPys xs) + 1 ≤ n + 1; omega⟩
  | .lst xs, 0, h => by cases h
  | .tup xs, 0, h => by cases h
  | .scr _, n, h => by cases n <;> cases h
  | .dI _, n, h => by cases n <;> cases h
  | .dT _, n, h => by cases n <;> cases h
  | .ins _ _, n, h => by cases n <;> cases h
theorem ok_lays : ∀ (ds : List D) (n : Nat), okPys n ds = true → PyData.canLayAll0 (toPys ds) = true ∧ PyData.depthAll (toPys ds) ≤ n
  | [], _, _ => ⟨rfl, Nat.zero_le _⟩
  | d :: ds, n, h => by
    have h' : okPy n d = true ∧ okPys n ds = true := by simpa [okPys] using h
    obtain ⟨a, b⟩ := ok_lay d n h'.1
    obtain ⟨a', b'⟩ := ok_lays ds n h'.2
    refine ⟨?_, ?_⟩
    · show ((toPy d).canLay0 && PyData.canLayAll0 (toPys ds)) = true
      rw [a, a']; rfl
    · show max (toPy d).depth (PyData.depthAll (toPys ds)) ≤ n
      omega
end
theorem ok_shaped {d : D} (h : okPy 40 d = true) : SeqAt.shaped (toPy d) = true := by
  obtain ⟨a, b⟩ := ok_lay d 40 h
  unfold SeqAt.shaped
  rw [a, decide_eq_true (by omega)]; rfl
def eqD : D → D → Option D
  | .str a, .str b => some (.bl (decide (a = b)))
  | x, y => if okPy 40 x && okPy 40 y then some (.bl (PyData.eqv (toPy x) (toPy y))) else none
def neD : D → D → Option D
  | .str a, .str b => some (.bl (!decide (a = b)))
  | x, y => if okPy 40 x && okPy 40 y then some (.bl (!PyData.eqv (toPy x) (toPy y))) else none
def rEqA (K : PySem.W.Frag) : R2 := fun x y H Q => rEq x y H Q ∨ rEqD K x y H Q
def rNeA (K : PySem.W.Frag) : R2 := fun x y H Q => rNe x y H Q ∨ rNeD K x y H Q
theorem op_eqA {X : Cx} (hu : X.A.units + 64 < cLine) : OpR X (compareOp .Eq) (rEqA X.K) := op_eq.or (op_eqD hu)
theorem op_neA {X : Cx} (hu : X.A.units + 64 < cLine) : OpR X (compareOp .NotEq) (rNeA X.K) := op_ne.or (op_neD hu)
theorem od_eq : OpD K cm (rEqA K) eqD := fun F H x y dx dy d Q le lo rx ry e q => by
  unfold eqD at e
  split at e
  · cases e; cases rx; cases ry
    refine .inl ⟨rfl, ?_⟩
    have := q F H _ (Gr.refl le) (.bl _)
    simpa using this
  · split at e
    · rename_i h
      rw [Bool.and_eq_true] at h
      cases e
      exact .inr ⟨_, _, (Rep.dp _ 40 _ h.1 (rx.up le)), (Rep.dp _ 40 _ h.2 (ry.up le)), ok_shaped h.1, ok_shaped h.2, q F H _ (Gr.refl le) (.bl _)⟩
    · cases e
theorem od_ne : OpD K cm (rNeA K) neD := fun F H x y dx dy d Q le lo rx ry e q => by
  unfold neD at e
  split at e
  · cases e; cases rx; cases ry
    refine .inl ⟨rfl, ?_⟩
    have := q F H _ (Gr.refl le) (.bl _)
    simpa using this
  · split at e
    · rename_i h
      rw [Bool.and_eq_true] at h
      cases e
      exact .inr ⟨_, _, (Rep.dp _ 40 _ h.1 (rx.up le)), (Rep.dp _ 40 _ h.2 (ry.up le)), ok_shaped h.1, ok_shaped h.2, q F H _ (Gr.refl le) (.bl _)⟩
    · cases e

/-! ### is, is not: None on the right, or two bools -/
def isND : D → D → Option D
  | .non, .non => some (.bl true)
  | _, .non => some (.bl false)
  | .bl a, .bl b => some (.bl (decide (a = b)))
  | _, _ => none
def notND : D → D → Option D
  | .non, .non => some (.bl false)
  | _, .non => some (.bl true)
  | .bl a, .bl b => some (.bl (!decide (a = b)))
  | _, _ => none
def rIsA : R2 := fun x y H Q => (y = .non ∧ Q (.bl (decide (x = .non))) H) ∨ ∃ a b, x = .bl a ∧ y = .bl b ∧ Q (.bl (decide (a = b))) H
def rNotA : R2 := fun x y H Q => (y = .non ∧ Q (.bl (!decide (x = .non))) H) ∨ ∃ a b, x = .bl a ∧ y = .bl b ∧ Q (.bl (!decide (a = b))) H
theorem op_isA {X : Cx} : OpR X (compareOp .Is) rIsA := op_isN.or op_is_bl
theorem op_notA {X : Cx} : OpR X (compareOp .IsNot) rNotA := op_notN.or op_isnot_bl
theorem Rep.non_iff {H : Hp} {v : V} {d : D} (r : Rep K cm H v d) : v = .non ↔ d = .non := by
  cases r <;> simp
theorem od_is : OpD K cm rIsA isND := fun F H x y dx dy d Q le lo rx ry e q => by
  unfold isND at e
  split at e
  · cases e; cases rx; cases ry
    exact .inl ⟨rfl, by simpa using q F H _ (Gr.refl le) (.bl _)⟩
  · rename_i hn
    cases e; cases ry
    refine .inl ⟨rfl, ?_⟩
    have z : ¬ x = .non := fun z => hn (rx.non_iff.mp z)
    simpa [z] using q F H _ (Gr.refl le) (.bl _)
  · cases e; cases rx; cases ry
    exact .inr ⟨_, _, rfl, rfl, q F H _ (Gr.refl le) (.bl _)⟩
  · cases e
theorem od_not : OpD K cm rNotA notND := fun F H x y dx dy d Q le lo rx ry e q => by
  unfold notND at e
  split at e
  · cases e; cases rx; cases ry
    exact .inl ⟨rfl, by simpa using q F H _ (Gr.refl le) (.bl _)⟩
  · rename_i hn
    cases e; cases ry
    refine .inl ⟨rfl, ?_⟩
    have z : ¬ x = .non := fun z => hn (rx.non_iff.mp z)
    simpa [z] using q F H _ (Gr.refl le) (.bl _)
  · cases e; cases rx; cases ry
    exact .inr ⟨_, _, rfl, rfl, q F H _ (Gr.refl le) (.bl _)⟩
  · cases e
end
end DL

/-! D4: and, or, not, items, slices, displays, calls of what is built in. -/
namespace DL
open PySem PySem.Spec L2
theorem ifT {P Q : Prop} (h : P) : if true = true then P else Q := by rw [if_pos rfl]; exact h
theorem ifF {P Q : Prop} (h : Q) : if false = true then P else Q := by rw [if_neg Bool.false_ne_true]; exact h

section
variable {cm : Nat → Addr} {X : Cx} {e a b c : Expr} {es rest : List Expr} {f g h : Env → Option D} {fb gb : Env → Option Bool} {pos : Pos}

/-! ### one place -/
def UnD (K : PySem.W.Frag) (cm : Nat → Addr) (r : V → Hp → VK → Prop) (G : D → Option D) : Prop :=
  ∀ (F H : Hp) (x : V) (dx d : D) (Q : VK), Ex F H → Rep K cm F x dx → G dx = some d → (∀ F' H' v, Gr F H F' H' → Rep K cm F' v d → Q v H') → r x H Q
def eU (G : D → Option D) (f : Env → Option D) : Env → Option D := fun ρ => (f ρ).bind G
theorem eU_dec {G : D → Option D} {ρ : Env} {d : D} (e : eU G f ρ = some d) : ∃ x, f ρ = some x ∧ G x = some d := by
  unfold eU at e
  cases h1 : f ρ with
  | none => rw [h1] at e; cases e
  | some x => rw [h1] at e; exact ⟨x, rfl, e⟩
theorem de_un {op : UnaryOp} {r : V → Hp → VK → Prop} {G : D → Option D} (hG : UnD X.K cm r G) (ho : UnR X (unaryOp op) r) (ha : DE cm X a f) : DE cm X (.UnaryOp op a pos) (eU G f) :=
  PE.imp (pe_un ho ha) fun σ H Q ⟨F, ρ, d, re, e, q⟩ => by
    obtain ⟨dx, e1, e2⟩ := eU_dec e
    exact ⟨F, ρ, dx, re, e1, fun F1 H1 x g1 r1 => hG F1 H1 x dx d Q g1.le r1 e2 fun F2 H2 v g2 r2 => q _ _ _ (g1.trans g2) r2⟩
def negD : D → Option D
  | .int i => some (.int (-i))
  | _ => none
theorem ud_neg {K : PySem.W.Frag} : UnD K cm (rU fun i => .int (-i)) negD := fun F H x dx d Q le rx e q => by
  unfold negD at e
  split at e
  · cases e; cases rx; exact ⟨_, rfl, q F H _ (Gr.refl le) (.int _)⟩
  · cases e
def notD : D → Option D
  | .bl i => some (.bl (!i))
  | _ => none
theorem de_not (ha : DE cm X a f) : DE cm X (.UnaryOp .Not a pos) (eU notD f) :=
  PE.imp (pe_not ha) fun σ H Q ⟨F, ρ, d, re, e, q⟩ => by
    obtain ⟨dx, e1, e2⟩ := eU_dec e
    unfold notD at e2
    split at e2
    · rename_i i
      cases e2
      exact ⟨F, ρ, _, re, e1, fun F1 H1 x g1 r1 => by cases r1; exact ⟨i, rfl, q _ _ _ g1 (.bl _)⟩⟩
    · cases e2

/-! ### and, or -/
def eAnd (f g : Env → Option D) : Env → Option D := fun ρ => match f ρ with
  | some (.bl true) => g ρ
  | some (.bl false) => some (.bl false)
  | _ => none
def eOr (f g : Env → Option D) : Env → Option D := fun ρ => match f ρ with
  | some (.bl true) => some (.bl true)
  | some (.bl false) => g ρ
  | _ => none
theorem de_one {op} (h : DE cm X a f) : DE cm X (.BoolOp op [a] pos) f := pe_one h
theorem de_and (ha : DE cm X a f) (hb : DE cm X (.BoolOp .And (b :: rest) pos) g) : DE cm X (.BoolOp .And (a :: b :: rest) pos) (eAnd f g) :=
  PE.imp (pe_and ha hb) fun σ H Q ⟨F, ρ, d, re, e, q⟩ => by
    unfold eAnd at e
    split at e
    · rename_i h1
      exact ⟨F, ρ, _, re, h1, fun F1 H1 x g1 r1 => by cases r1; exact ⟨true, rfl, ifT ⟨F1, ρ, d, re.gr g1, e, fun F2 H2 v g2 r2 => q _ _ _ (g1.trans g2) r2⟩⟩⟩
    · rename_i h1
      cases e
      exact ⟨F, ρ, _, re, h1, fun F1 H1 x g1 r1 => by cases r1; exact ⟨false, rfl, ifF (q _ _ _ g1 (.bl _))⟩⟩
    · cases e
theorem de_or (ha : DE cm X a f) (hb : DE cm X (.BoolOp .Or (b :: rest) pos) g) : DE cm X (.BoolOp .Or (a :: b :: rest) pos) (eOr f g) :=
  PE.imp (pe_or ha hb) fun σ H Q ⟨F, ρ, d, re, e, q⟩ => by
    unfold eOr at e
    split at e
    · rename_i h1
      cases e
      exact ⟨F, ρ, _, re, h1, fun F1 H1 x g1 r1 => by cases r1; exact ⟨true, rfl, ifT (q _ _ _ g1 (.bl _))⟩⟩
    · rename_i h1
      exact ⟨F, ρ, _, re, h1, fun F1 H1 x g1 r1 => by cases r1; exact ⟨false, rfl, ifF ⟨F1, ρ, d, re.gr g1, e, fun F2 H2 v g2 r2 => q _ _ _ (g1.trans g2) r2⟩⟩⟩
    · cases e
/-- as tests -/
def bAnd (f g : Env → Option Bool) : Env → Option Bool := fun ρ => match f ρ with
  | some true => g ρ
  | some false => some false
  | none => none
def bOr (f g : Env → Option Bool) : Env → Option Bool := fun ρ => match f ρ with
  | some true => some true
  | some false => g ρ
  | none => none
def bNot (f : Env → Option Bool) : Env → Option Bool := fun ρ => (f ρ).map (!·)
theorem dw_and1 (ha : DT cm X a fb) : DW cm X (.BoolOp .And [a] pos) fb := pw_and1 ha
theorem dw_or1 (ha : DT cm X a fb) : DW cm X (.BoolOp .Or [a] pos) fb := pw_or1 ha
theorem dw_and (ha : DT cm X a fb) (hb : DW cm X (.BoolOp .And (b :: rest) pos) gb) : DW cm X (.BoolOp .And (a :: b :: rest) pos) (bAnd fb gb) :=
  PW.imp (pw_and ha hb) fun σ H Q ⟨F, ρ, d, re, e, q⟩ => by
    unfold bAnd at e
    split at e
    · rename_i h1
      exact ⟨F, ρ, _, re, h1, fun F1 H1 g1 => ifT ⟨F1, ρ, d, re.gr g1, e, fun F2 H2 g2 => q _ _ (g1.trans g2)⟩⟩
    · rename_i h1
      cases e
      exact ⟨F, ρ, _, re, h1, fun F1 H1 g1 => ifF (q _ _ g1)⟩
    · cases e
theorem dw_or (ha : DT cm X a fb) (hb : DW cm X (.BoolOp .Or (b :: rest) pos) gb) : DW cm X (.BoolOp .Or (a :: b :: rest) pos) (bOr fb gb) :=
  PW.imp (pw_or ha hb) fun σ H Q ⟨F, ρ, d, re, e, q⟩ => by
    unfold bOr at e
    split at e
    · rename_i h1
      cases e
      exact ⟨F, ρ, _, re, h1, fun F1 H1 g1 => ifT (q _ _ g1)⟩
    · rename_i h1
      exact ⟨F, ρ, _, re, h1, fun F1 H1 g1 => ifF ⟨F1, ρ, d, re.gr g1, e, fun F2 H2 g2 => q _ _ (g1.trans g2)⟩⟩
    · cases e
theorem dw_dt (h : DW cm X e fb) : DT cm X e fb := PW.pt h
theorem dt_not (ha : DT cm X a fb) : DT cm X (.UnaryOp .Not a pos) (bNot fb) :=
  PT.imp (pt_not ha) fun σ H Q ⟨F, ρ, d, re, e, q⟩ => by
    unfold bNot at e
    cases h1 : fb ρ with
    | none => rw [h1] at e; cases e
    | some x =>
      rw [h1] at e
      cases e
      exact ⟨F, ρ, x, re, h1, fun F1 H1 g1 => q _ _ g1⟩
def eIf (t : Env → Option Bool) (f g : Env → Option D) : Env → Option D := fun ρ => match t ρ with
  | some true => f ρ
  | some false => g ρ
  | none => none
theorem de_if (hc : DT cm X c fb) (ha : DE cm X a f) (hb : DE cm X b g) : DE cm X (.IfExp c a b pos) (eIf fb f g) :=
  PE.imp (pe_ifExp hc ha hb) fun σ H Q ⟨F, ρ, d, re, e, q⟩ => by
    unfold eIf at e
    split at e
    · rename_i h1
      exact ⟨F, ρ, _, re, h1, fun F1 H1 g1 => ifT ⟨F1, ρ, d, re.gr g1, e, fun F2 H2 v g2 r2 => q _ _ _ (g1.trans g2) r2⟩⟩
    · rename_i h1
      exact ⟨F, ρ, _, re, h1, fun F1 H1 g1 => ifF ⟨F1, ρ, d, re.gr g1, e, fun F2 H2 v g2 r2 => q _ _ _ (g1.trans g2) r2⟩⟩
    · cases e

/-! ### items -/
def ixD : D → D → Option D
  | .lst xs, .int i => atI xs i
  | .tup xs, .int i => atI xs i
  | .scr ns, .int i => (atI ns i).map D.int
  | _, _ => none
theorem Reps.atI {K : PySem.W.Frag} {F : Hp} {vs : List V} {ds : List D} {i : Int} {d : D} (r : Reps K cm F vs ds) (h : L2.atI ds i = some d) : ∃ v, L2.atI vs i = some v ∧ Rep K cm F v d := by
  unfold L2.atI at h ⊢
  rw [r.length]
  cases e : ixN ds.length i with
  | none => rw [e] at h; cases h
  | some j => rw [e] at h; exact r.get h
theorem atI_map {α β : Type} (f : α → β) (xs : List α) (i : Int) : L2.atI (xs.map f) i = (L2.atI xs i).map f := by
  unfold L2.atI
  rw [List.length_map]
  cases ixN xs.length i with
  | none => rfl
  | some j => simp
theorem od_ix {K : PySem.W.Frag} : OpD K cm (rIx K) ixD := fun F H x y dx dy d Q le lo rx ry e q => by
  unfold ixD at e
  split at e
  · cases ry
    cases rx with | lst h1 r1 =>
    obtain ⟨v, h2, r2⟩ := r1.atI e
    exact .inl ⟨_, _, _, v, rfl, rfl, SqL.of (le _ _ h1), h2, q F H v (Gr.refl le) r2⟩
  · cases ry
    cases rx with | tup h1 r1 =>
    obtain ⟨v, h2, r2⟩ := r1.atI e
    exact .inr (.inl ⟨_, _, _, v, rfl, rfl, SqT.of (le _ _ h1), h2, q F H v (Gr.refl le) r2⟩)
  · rename_i ns i
    cases ry
    cases rx with | scr h1 =>
    cases e2 : L2.atI ns i with
    | none => rw [e2] at e; cases e
    | some n =>
      rw [e2] at e
      cases e
      exact .inl ⟨_, _, _, V.int n, rfl, rfl, ex_l le h1, by rw [atI_map, e2]; rfl, q F H _ (Gr.refl le) (.int n)⟩
  · cases e
theorem de_ix (ha : DE cm X a f) (hb : DE cm X b g) (hs : PlainIx b) : DE cm X (.Subscript a b pos) (eOp ixD f g) := PE.imp (pe_ix ix_seq ha (PE.len hb) hs) (op_imp od_ix)

/-! ### slices -/
def tDO (K : PySem.W.Frag) (cm : Nat → Addr) (f : Env → Option (Option Int)) : TO := fun σ H Q =>
  ∃ F ρ o, RE K cm F H σ ρ ∧ f ρ = some o ∧ ∀ F' H', Gr F H F' H' → Q o H'
abbrev DO (cm : Nat → Addr) (X : Cx) (e : Option Expr) (f : Env → Option (Option Int)) : Prop := PO X e (tDO X.K cm f)
def oNo : Env → Option (Option Int) := fun _ => some none
def oI (f : Env → Option D) : Env → Option (Option Int) := fun ρ => match f ρ with
  | some (.int i) => some (some i)
  | _ => none
theorem do_none : DO cm X none oNo := ⟨fun pins s σ H Q I ⟨F, ρ, o, re, e, q⟩ => by
  cases e
  exact po_none.run pins s σ H Q I (q F H (Gr.refl re.le))⟩
theorem do_some (h : DE cm X e f) : DO cm X (some e) (oI f) := ⟨fun pins s σ H Q I ⟨F, ρ, o, re, e1, q⟩ => by
  unfold oI at e1
  split at e1
  · rename_i i h1
    cases e1
    exact (po_some h).run pins s σ H Q I ⟨F, ρ, _, re, h1, fun F1 H1 v g1 r1 => by cases r1; exact ⟨i, rfl, q _ _ g1⟩⟩
  · cases e1⟩
def cutD (xs : List D) (lo hi : Option Int) : List D := (xs.drop (HT.sIx xs.length 0 lo)).take (HT.sIx xs.length xs.length hi - HT.sIx xs.length 0 lo)
theorem Reps.cut {K : PySem.W.Frag} {F : Hp} {vs : List V} {ds : List D} (r : Reps K cm F vs ds) (lo hi : Option Int) : Reps K cm F (cutV vs lo hi) (cutD ds lo hi) := by
  unfold cutV cutD
  rw [r.length]
  exact (r.drop _).take _
def slD : D → Option Int → Option Int → Option D
  | .lst xs, lo, hi => some (.lst (cutD xs lo hi))
  | .tup xs, lo, hi => some (.tup (cutD xs lo hi))
  | _, _, _ => none
def eSl (f : Env → Option D) (lo hi : Env → Option (Option Int)) : Env → Option D := fun ρ => (f ρ).bind fun x => (lo ρ).bind fun l => (hi ρ).bind fun u => slD x l u
theorem HT_le (n d : Nat) (hd : d ≤ n) (o : Option Int) : HT.sIx n d o ≤ n := HT.sIx_le n d hd o
theorem cut_whole {α : Type} {xs : List α} {lo hi : Nat} (h : lo = 0 ∧ hi = xs.length) : (xs.drop lo).take (hi - lo) = xs := by
  obtain ⟨rfl, rfl⟩ := h
  simp
theorem cut_whole_of {K : PySem.W.Frag} {F : Hp} {vs : List V} {ds : List D} {lo hi : Option Int} (rs : Reps K cm F vs ds) (hw : HT.sIx vs.length 0 lo = 0 ∧ HT.sIx vs.length vs.length hi = vs.length) : cutD ds lo hi = ds := by
  unfold cutD
  rw [rs.length] at hw
  exact cut_whole hw
theorem de_sl {lo hi : Option Expr} {fl fh : Env → Option (Option Int)} {p2 : Pos} (he : DE cm X e f) (hl : DO cm X lo fl) (hu : DO cm X hi fh) : DE cm X (.Subscript e (.Slice lo hi none p2) pos) (eSl f fl fh) :=
  PE.imp (pe_slice (sl_list.or sl_tupA) he hl hu) fun σ H Q ⟨F, ρ, d, re, e0, q⟩ => by
    unfold eSl at e0
    cases h1 : f ρ with
    | none => rw [h1] at e0; cases e0
    | some x =>
    rw [h1] at e0
    cases h2 : fl ρ with
    | none => rw [h2] at e0; cases e0
    | some l =>
    rw [h2] at e0
    cases h3 : fh ρ with
    | none => rw [h3] at e0; cases e0
    | some u =>
    rw [h3] at e0
    have e1 : slD x l u = some d := e0
    refine ⟨F, ρ, x, re, h1, fun F1 H1 v g1 r1 => ⟨F1, ρ, l, re.gr g1, h2, fun F2 H2 g2 => ⟨F2, ρ, u, (re.gr g1).gr g2, h3, fun F3 H3 g3 => ?_⟩⟩⟩
    have r1' := (r1.up g2.fx).up g3.fx
    have g123 := (g1.trans g2).trans g3
    unfold slD at e1
    split at e1
    · cases e1
      cases r1' with | @lst a vs _ hq rs =>
      refine .inl ⟨_, vs, rfl, SqL.of (g3.le _ _ hq), fun p hp => ?_⟩
      have gn := Gr.new (o := .lst (cutV vs l u)) g3.le hp
      exact q _ _ _ (g123.trans gn) (.lst upd_same ((rs.cut l u).up gn.fx))
    · cases e1
      cases r1' with | @tup a vs _ hq rs =>
      refine .inr ⟨_, vs, rfl, SqT.of (g3.le _ _ hq), fun hw => ?_, fun _ p hp => ?_⟩
      · have ew := cut_whole_of rs hw
        rw [ew] at q
        exact q _ _ _ g123 (.tup hq rs)
      · have gn := Gr.new (o := .tup (cutV vs l u)) g3.le hp
        exact q _ _ _ (g123.trans gn) (.tup upd_same ((rs.cut l u).up gn.fx))
    · cases e1

/-! ### argument lists, displays -/
def aNil : Env → Option (List D) := fun _ => some []
def aCons (f : Env → Option D) (r : Env → Option (List D)) : Env → Option (List D) := fun ρ => (f ρ).bind fun x => (r ρ).bind fun xs => some (x :: xs)
variable {fa : Env → Option (List D)}
theorem da_nil : DA cm X [] aNil := PA.imp pa_nil fun σ H Q ⟨F, ρ, d, re, e, q⟩ => by cases e; exact q F H [] (Gr.refl re.le) .nil
theorem aCons_dec {ρ : Env} {ds : List D} (e : aCons f fa ρ = some ds) : ∃ x xs, f ρ = some x ∧ fa ρ = some xs ∧ ds = x :: xs := by
  unfold aCons at e
  cases h1 : f ρ with
  | none => rw [h1] at e; cases e
  | some x =>
    rw [h1] at e
    cases h2 : fa ρ with
    | none => rw [h2] at e; cases e
    | some xs => rw [h2] at e; cases e; exact ⟨x, xs, rfl, rfl, rfl⟩
theorem da_cons (ha : DE cm X e f) (hr : DA cm X es fa) (hs : starEach (e :: es) X.env = (false, eval e X.env) :: starEach es X.env := by rfl) : DA cm X (e :: es) (aCons f fa) :=
  PA.imp (pa_cons ha hr hs) fun σ H Q ⟨F, ρ, d, re, e, q⟩ => by
    obtain ⟨x, xs, e1, e2, rfl⟩ := aCons_dec e
    exact ⟨F, ρ, x, re, e1, fun F1 H1 v g1 r1 => ⟨F1, ρ, xs, re.gr g1, e2, fun F2 H2 vs g2 r2 => q _ _ _ (g1.trans g2) (.cons (r1.up g2.fx) r2)⟩⟩
def eTup (fa : Env → Option (List D)) : Env → Option D := fun ρ => (fa ρ).bind fun xs => if xs.length ≤ lim then some (.tup xs) else none
def eLst (fa : Env → Option (List D)) : Env → Option D := fun ρ => (fa ρ).bind fun xs => if xs.length ≤ lim then some (.lst xs) else none
theorem de_tup {x1} (h : DA cm X es fa) : DE cm X (.Tuple es x1 pos) (eTup fa) :=
  PE.imp (pe_tup h) fun σ H Q ⟨F, ρ, d, re, e, q⟩ => by
    unfold eTup at e
    cases h1 : fa ρ with
    | none => rw [h1] at e; cases e
    | some xs =>
      rw [h1] at e
      have e' : (if xs.length ≤ lim then some (D.tup xs) else none) = some d := e
      split at e'
      · rename_i hl
        cases e'
        refine ⟨F, ρ, xs, re, h1, fun F1 H1 vs g1 r1 => ⟨by rw [r1.length]; exact lim_le hl, fun p hp => ?_⟩⟩
        have gn := Gr.new (o := .tup vs) g1.le hp
        exact q _ _ _ (g1.trans gn) (.tup upd_same (r1.up gn.fx))
      · cases e'
theorem de_lst (h : DA cm X es fa) : DE cm X (.List es pos) (eLst fa) :=
  PE.imp (pe_lst h) fun σ H Q ⟨F, ρ, d, re, e, q⟩ => by
    unfold eLst at e
    cases h1 : fa ρ with
    | none => rw [h1] at e; cases e
    | some xs =>
      rw [h1] at e
      have e' : (if xs.length ≤ lim then some (D.lst xs) else none) = some d := e
      split at e'
      · rename_i hl
        cases e'
        refine ⟨F, ρ, xs, re, h1, fun F1 H1 vs g1 r1 => ⟨by rw [r1.length]; exact lim_le hl, fun p hp => ?_⟩⟩
        have gn := Gr.new (o := .lst vs) g1.le hp
        exact q _ _ _ (g1.trans gn) (.lst upd_same (r1.up gn.fx))
      · cases e'

/-! ### calls of what is built in -/
def CallD (K : PySem.W.Frag) (cm : Nat → Addr) (r : List V → Hp → VK → Prop) (G : List D → Option D) : Prop :=
  ∀ (F H : Hp) (vs : List V) (ds : List D) (d : D) (Q : VK), Ex F H → Reps K cm F vs ds → G ds = some d → (∀ F' H' v, Gr F H F' H' → Rep K cm F' v d → Q v H') → r vs H Q
def eCall (G : List D → Option D) (fa : Env → Option (List D)) : Env → Option D := fun ρ => (fa ρ).bind G
theorem call_imp {r : List V → Hp → VK → Prop} {G : List D → Option D} (hG : CallD X.K cm r G) : ∀ σ H Q, tD X.K cm (eCall G fa) σ H Q → tCB r (tDA X.K cm fa) σ H Q := fun σ H Q ⟨F, ρ, d, re, e, q⟩ => by
  unfold eCall at e
  cases h1 : fa ρ with
  | none => rw [h1] at e; cases e
  | some xs =>
    rw [h1] at e
    exact ⟨F, ρ, xs, re, h1, fun F1 H1 vs g1 r1 => hG F1 H1 vs xs d Q g1.le r1 e fun F2 H2 v g2 r2 => q _ _ _ (g1.trans g2) r2⟩
theorem de_callB {id : String} {x : Str} {p : Pos} {r : List V → Hp → VK → Prop} {G : List D → Option D} (hG : CallD X.K cm r G) (hc : CallR X (.builtin id) r) (hg : Gl X x) (hm : X.mg x = none) (hv : bootBuiltins x = some (.builtin id)) (ha : DA cm X (e :: es) fa) (hn : x ≠ "__name__" := by decide) (hdb : (x == ("__debug__" : Str)) = false := by decide)
    (he : starEach (e :: es) X.env = (false, eval e X.env) :: starEach es X.env := by rfl) (hpl : (backTo pos (starEach es X.env)).any (·.1) = false := by rfl) : DE cm X (.Call (.Name x p) (e :: es) [] pos) (eCall G fa) :=
  PE.imp (pe_callB hc hg hm hv ha hn hdb he hpl) (call_imp hG)
theorem de_callTy {id : String} {x : Str} {p : Pos} {r : List V → Hp → VK → Prop} {G : List D → Option D} (hG : CallD X.K cm r G) (hc : CallR X (.type id) r) (hg : Gl X x) (hm : X.mg x = none) (hv : bootBuiltins x = some (.type id)) (ha : DA cm X (e :: es) fa) (hn : x ≠ "__name__" := by decide) (hdb : (x == ("__debug__" : Str)) = false := by decide)
    (he : starEach (e :: es) X.env = (false, eval e X.env) :: starEach es X.env := by rfl) (hpl : (backTo pos (starEach es X.env)).any (·.1) = false := by rfl) : DE cm X (.Call (.Name x p) (e :: es) [] pos) (eCall G fa) :=
  PE.imp (pe_callTy hc hg hm hv ha hn hdb he hpl) (call_imp hG)
/-- a built-in function that stands in the module (from math import gcd) -/
theorem de_callM {id : String} {x : Str} {p : Pos} {r : List V → Hp → VK → Prop} {G : List D → Option D} (hG : CallD X.K cm r G) (hc : CallR X (.builtin id) r) (hg : Gl X x) (hm : X.mg x = some (.builtin id)) (ha : DA cm X (e :: es) fa) (hdb : (x == ("__debug__" : Str)) = false := by decide)
    (he : starEach (e :: es) X.env = (false, eval e X.env) :: starEach es X.env := by rfl) (hpl : (backTo pos (starEach es X.env)).any (·.1) = false := by rfl) : DE cm X (.Call (.Name x p) (e :: es) [] pos) (eCall G fa) :=
  PE.imp (t := tCB r (tDA X.K cm fa)) ⟨fun pins s σ H Q I h => by
    refine wpAny_Call_Name_kw (ld_glob I hg hm ?_ hdb)
    exact PyProof.Rows.callWith_builtin1 (thn (ha.run pos pins s σ H _ I h) fun us s1 ⟨vs, H1, I1, r1, q1⟩ => hc pins s1 σ H1 vs us Q I1 r1 q1) he hpl⟩ (call_imp hG)
end
end DL

/-! D5: targets, what is walked, comprehensions. -/
namespace DL
open PySem PySem.Spec L2

/-! ### targets -/
/-- the slots at ts may change, no other -/
def Same (ts : List Nat) (σ σ' : L2.St) : Prop := σ'.length = σ.length ∧ ∀ i, i ∉ ts → σ'[i]? = σ[i]?
theorem Same.refl (ts : List Nat) (σ : L2.St) : Same ts σ σ := ⟨rfl, fun _ _ => rfl⟩
theorem Same.trans {ts : List Nat} {a b c : L2.St} (h : Same ts a b) (k : Same ts b c) : Same ts a c := ⟨k.1.trans h.1, fun i hi => (k.2 i hi).trans (h.2 i hi)⟩
theorem Same.mono {ts us : List Nat} {a b : L2.St} (h : Same ts a b) (hs : ∀ i ∈ ts, i ∈ us) : Same us a b := ⟨h.1, fun i hi => h.2 i fun z => hi (hs i z)⟩
def setS (ρ : Env) (i : Nat) (s : Sl) : Env := ρ.set i s
section
variable {K : PySem.W.Frag} {cm : Nat → Addr} {F H : Hp} {σ : L2.St} {ρ : Env}
theorem RE.set (r : RE K cm F H σ ρ) (i : Nat) {v : V} {d : D} (h : Rep K cm F v d) : RE K cm F H (σ.set i (some v)) (setS ρ i (.va d)) := by
  unfold setS
  refine ⟨r.le, by simp [r.len], fun j x s h1 h2 => ?_, fun j k a s t hjk h1 h2 h3 h4 hs ht => ?_⟩
  · by_cases hj : i = j
    · subst hj
      have hi : i < ρ.length := by
        have := (List.getElem?_eq_some_iff.mp h2).1
        simpa using this
      rw [List.getElem?_set_self hi] at h2
      rw [List.getElem?_set_self (by rw [r.len]; exact hi)] at h1
      cases h1; cases h2
      exact ⟨v, rfl, h⟩
    · rw [List.getElem?_set_ne hj] at h1 h2
      exact r.sl j x s h1 h2
  · by_cases hj : i = j
    · subst hj
      have hi : i < ρ.length := by
        have := (List.getElem?_eq_some_iff.mp h3).1
        simpa using this
      rw [List.getElem?_set_self hi] at h3
      cases h3; cases hs
    · by_cases hk : i = k
      · subst hk
        have hi : i < ρ.length := by
          have := (List.getElem?_eq_some_iff.mp h4).1
          simpa using this
        rw [List.getElem?_set_self hi] at h4
        cases h4; cases ht
      · rw [List.getElem?_set_ne hj] at h1 h3
        rw [List.getElem?_set_ne hk] at h2 h4
        exact r.ap j k a s t hjk h1 h2 h3 h4 hs ht
theorem Sl.own_of {a : Addr} {s : Sl} {o : HO} (h : OwnO K cm F a s o) : s.own = true := by
  cases s with
  | no => exact h.elim
  | va d => exact h.elim
  | _ => rfl
/-- an object that nobody holds into a slot -/
theorem RE.setOwn (r : RE K cm F H σ ρ) (i : Nat) {a : Addr} {o : HO} {s : Sl} (ha : H a = some o) (fa : F a = none) (ho : OwnO K cm F a s o) (fresh : ∀ (j : Nat) (t : Sl), σ[j]? = some (some (.ref a)) → ρ[j]? = some t → t.own = true → False) : RE K cm F H (σ.set i (some (.ref a))) (setS ρ i s) := by
  unfold setS
  have hs := Sl.own_of ho
  refine ⟨r.le, by simp [r.len], fun j x t h1 h2 => ?_, fun j k b t u hjk h1 h2 h3 h4 ht hu => ?_⟩
  · by_cases hj : i = j
    · subst hj
      have hi : i < ρ.length := by
        have := (List.getElem?_eq_some_iff.mp h2).1
        simpa using this
      rw [List.getElem?_set_self hi] at h2
      rw [List.getElem?_set_self (by rw [r.len]; exact hi)] at h1
      cases h1; cases h2
      exact SlR.of_own hs ⟨a, o, rfl, ha, fa, ho⟩
    · rw [List.getElem?_set_ne hj] at h1 h2
      exact r.sl j x t h1 h2
  · by_cases hj : i = j
    · subst hj
      have hi : i < ρ.length := by
        have := (List.getElem?_eq_some_iff.mp h3).1
        simpa using this
      rw [List.getElem?_set_self (by rw [r.len]; exact hi)] at h1
      cases h1
      rw [List.getElem?_set_ne hjk] at h2 h4
      exact fresh k u h2 h4 hu
    · by_cases hk : i = k
      · subst hk
        have hi : i < ρ.length := by
          have := (List.getElem?_eq_some_iff.mp h4).1
          simpa using this
        rw [List.getElem?_set_self (by rw [r.len]; exact hi)] at h2
        cases h2
        rw [List.getElem?_set_ne hj] at h1 h3
        exact fresh j t h1 h3 ht
      · rw [List.getElem?_set_ne hj] at h1 h3
        rw [List.getElem?_set_ne hk] at h2 h4
        exact r.ap j k b t u hjk h1 h2 h3 h4 ht hu
/-- the object of an own slot is changed -/
theorem RE.mut (r : RE K cm F H σ ρ) {i : Nat} {a : Addr} {s s' : Sl} {o' : HO} (hσ : σ[i]? = some (some (.ref a))) (hρ : ρ[i]? = some s) (hs : s.own = true) (ho : OwnO K cm F a s' o') : RE K cm F (upd H a o') σ (setS ρ i s') := by
  unfold setS
  have hs' := Sl.own_of ho
  obtain ⟨b, o, e1, e2, e3, e4⟩ := SlR.own hs (r.sl i _ s hσ hρ)
  cases e1
  have hi : i < ρ.length := (List.getElem?_eq_some_iff.mp hρ).1
  refine ⟨fun b u e => ?_, by simp [r.len], fun j x t h1 h2 => ?_, fun j k b t u hjk h1 h2 h3 h4 ht hu => ?_⟩
  · rw [upd_ne (fun z => by rw [z, e3] at e; cases e)]; exact r.le b u e
  · by_cases hj : i = j
    · subst hj
      rw [List.getElem?_set_self hi] at h2
      rw [hσ] at h1
      cases h1; cases h2
      exact SlR.of_own hs' ⟨a, o', rfl, upd_same, e3, ho⟩
    · rw [List.getElem?_set_ne hj] at h2
      cases ht : t.own with
      | true =>
        obtain ⟨c, u, q1, q2, q3, q4⟩ := SlR.own ht (r.sl j x t h1 h2)
        refine SlR.of_own ht ⟨c, u, q1, ?_, q3, q4⟩
        rw [upd_ne (fun z => by subst z; subst q1; exact r.ap i j c s t hj hσ h1 hρ h2 hs ht)]
        exact q2
      | false =>
        have q := r.sl j x t h1 h2
        cases t with
        | no => trivial
        | va d => exact q
        | ol xs => cases ht
        | oI xs => cases ht
        | oT xs => cases ht
        | oi b t fs => cases ht
  · have up : ∀ (j : Nat) (t : Sl), (ρ.set i s')[j]? = some t → t.own = true → ∃ t', ρ[j]? = some t' ∧ t'.own = true := fun j t h ht => by
      by_cases hj : i = j
      · subst hj; exact ⟨s, hρ, hs⟩
      · rw [List.getElem?_set_ne hj] at h; exact ⟨t, h, ht⟩
    obtain ⟨t', q1, q2⟩ := up j t h3 ht
    obtain ⟨u', q3, q4⟩ := up k u h4 hu
    exact r.ap j k b t' u' hjk h1 h2 q1 q3 q2 q4
theorem RE.wipe (r : RE K cm F H σ ρ) : ∀ vs : List Nat, RE K cm F H (L2.wipe σ vs) (vs.foldr (fun v ρ => setS ρ v .no) ρ)
  | [] => r
  | v :: vs => by
    have ih := RE.wipe r vs
    show RE K cm F H ((L2.wipe σ vs).set v none) (setS (vs.foldr (fun v ρ => setS ρ v .no) ρ) v .no)
    generalize L2.wipe σ vs = σ1 at ih
    generalize vs.foldr (fun v ρ => setS ρ v .no) ρ = ρ1 at ih
    unfold setS
    refine ⟨ih.le, by simp [ih.len], fun j x s h1 h2 => ?_, fun j k a s t hjk h1 h2 h3 h4 hs ht => ?_⟩
    · by_cases hj : v = j
      · subst hj
        have hi : v < ρ1.length := by
          have := (List.getElem?_eq_some_iff.mp h2).1
          simpa using this
        rw [List.getElem?_set_self hi] at h2
        cases h2
        trivial
      · rw [List.getElem?_set_ne hj] at h1 h2
        exact ih.sl j x s h1 h2
    · by_cases hj : v = j
      · subst hj
        have hi : v < ρ1.length := by
          have := (List.getElem?_eq_some_iff.mp h3).1
          simpa using this
        rw [List.getElem?_set_self hi] at h3
        cases h3; cases hs
      · by_cases hk : v = k
        · subst hk
          have hi : v < ρ1.length := by
            have := (List.getElem?_eq_some_iff.mp h4).1
            simpa using this
          rw [List.getElem?_set_self hi] at h4
          cases h4; cases ht
        · rw [List.getElem?_set_ne hj] at h1 h3
          rw [List.getElem?_set_ne hk] at h2 h4
          exact ih.ap j k a s t hjk h1 h2 h3 h4 hs ht
end
def wipeD (ρ : Env) (vs : List Nat) : Env := vs.foldr (fun v ρ => setS ρ v .no) ρ
theorem same_wipe {ts vs : List Nat} {σ σ' : L2.St} (h : Same ts σ σ') (hs : ∀ i ∈ ts, i ∈ vs) : L2.wipe σ' vs = L2.wipe σ vs := by
  apply List.ext_getElem?
  intro i
  by_cases hi : i ∈ vs
  · have key : ∀ (τ : L2.St) (us : List Nat), i ∈ us → i < τ.length → (L2.wipe τ us)[i]? = some none := by
      intro τ us
      induction us with
      | nil => intro z; cases z
      | cons u us ih =>
        intro hm hl
        show ((L2.wipe τ us).set u none)[i]? = _
        by_cases hu : u = i
        · subst hu; rw [List.getElem?_set_self (by rw [wipe_length]; exact hl)]
        · rw [List.getElem?_set_ne hu]
          exact ih ((List.mem_cons.mp hm).elim (fun z => absurd z.symm hu) id) hl
    by_cases hl : i < σ.length
    · rw [key σ' vs hi (by rw [h.1]; exact hl), key σ vs hi hl]
    · rw [List.getElem?_eq_none (by rw [wipe_length, h.1]; omega), List.getElem?_eq_none (by rw [wipe_length]; omega)]
  · rw [wipe_out hi, wipe_out hi]
    exact h.2 i fun z => hi (hs i z)

/-- own slots behind a target are those that stood, none of them stored to -/
def OwnSub (ts : List Nat) (ρ ρ' : Env) : Prop := ∀ i s, ρ'[i]? = some s → s.own = true → ρ[i]? = some s ∧ i ∉ ts
theorem OwnSub.refl (ρ : Env) : OwnSub [] ρ ρ := fun i s h _ => ⟨h, by simp⟩
theorem OwnSub.trans {ts us : List Nat} {a b c : Env} (h : OwnSub ts a b) (k : OwnSub us b c) : OwnSub (ts ++ us) a c := fun i s e hs => by
  obtain ⟨e1, n1⟩ := k i s e hs
  obtain ⟨e2, n2⟩ := h i s e1 hs
  exact ⟨e2, by simp [n1, n2]⟩
theorem OwnSub.set (ρ : Env) (i : Nat) (d : D) : OwnSub [i] ρ (setS ρ i (.va d)) := fun j s e hs => by
  unfold setS at e
  by_cases hj : i = j
  · subst hj
    have hi : i < ρ.length := by
      have := (List.getElem?_eq_some_iff.mp e).1
      simpa using this
    rw [List.getElem?_set_self hi] at e
    cases e; cases hs
  · rw [List.getElem?_set_ne hj] at e
    exact ⟨e, by simp; exact fun z => hj z.symm⟩
def tDG (K : PySem.W.Frag) (cm : Nat → Addr) (ts : List Nat) (g : D → Env → Option Env) : TG := fun v σ H Q =>
  ∃ F ρ d ρ', RE K cm F H σ ρ ∧ Rep K cm F v d ∧ g d ρ = some ρ' ∧ ∀ F' H' σ', Gr F H F' H' → RE K cm F' H' σ' ρ' → Same ts σ σ' → OwnSub ts ρ ρ' → Q σ' H'
def tDGs (K : PySem.W.Frag) (cm : Nat → Addr) (ts : List Nat) (g : List D → Env → Option Env) : TGs := fun vs σ H Q =>
  ∃ F ρ ds ρ', RE K cm F H σ ρ ∧ Reps K cm F vs ds ∧ g ds ρ = some ρ' ∧ ∀ F' H' σ', Gr F H F' H' → RE K cm F' H' σ' ρ' → Same ts σ σ' → OwnSub ts ρ ρ' → Q σ' H'
abbrev DG (cm : Nat → Addr) (X : Cx) (e : Expr) (ts : List Nat) (g : D → Env → Option Env) : Prop := PG X e (tDG X.K cm ts g)
abbrev DGs (cm : Nat → Addr) (X : Cx) (e : List Expr) (ts : List Nat) (g : List D → Env → Option Env) : Prop := PGs X e (tDGs X.K cm ts g)
theorem PG.imp {X : Cx} {e : Expr} {t t' : TG} (h : PG X e t) (w : ∀ v σ H Q, t' v σ H Q → t v σ H Q) : PG X e t' := ⟨fun pins s σ H v u Q I r q => h.run pins s σ H v u Q I r (w v σ H Q q)⟩
theorem PGs.imp {X : Cx} {e : List Expr} {t t' : TGs} (h : PGs X e t) (w : ∀ v σ H Q, t' v σ H Q → t v σ H Q) : PGs X e t' := ⟨fun pins s σ H v u Q I r q => h.run pins s σ H v u Q I r (w v σ H Q q)⟩
section
variable {cm : Nat → Addr} {X : Cx} {e : Expr} {es : List Expr} {pos : Pos} {ts us : List Nat} {g : D → Env → Option Env} {gs : List D → Env → Option Env}
def gN (i : Nat) : D → Env → Option Env := fun d ρ => some (setS ρ i (.va d))
theorem dg_name {i : Nat} {x : Str} (hN : X.N.Nodup) (hi : X.N[i]? = some x) (hx : Loc X.env.scope x) (hf : X.fn x = true ∨ X.env.scope.names.lookup x = some .local := by first | exact .inl rfl | exact .inr rfl | assumption) : DG cm X (.Name x pos) [i] (gN i) :=
  PG.imp (pg_name hN hi hx hf) fun v σ H Q ⟨F, ρ, d, ρ', re, rd, eg, q⟩ => by
    cases eg
    refine q F H _ (Gr.refl re.le) (re.set i rd) ⟨by simp, fun j hj => ?_⟩ (OwnSub.set ρ i d)
    rw [List.getElem?_set_ne (fun z => hj (by simp [z]))]
def gsNil : List D → Env → Option Env := fun ds ρ => match ds with
  | [] => some ρ
  | _ => none
def gsCons (g : D → Env → Option Env) (gs : List D → Env → Option Env) : List D → Env → Option Env := fun ds ρ => match ds with
  | d :: ds => (g d ρ).bind (gs ds)
  | _ => none
theorem dgs_nil : DGs cm X [] [] gsNil := PGs.imp pgs_nil fun v σ H Q ⟨F, ρ, d, ρ', re, rd, eg, q⟩ => by
  cases rd with
  | nil => cases eg; exact ⟨rfl, q F H σ (Gr.refl re.le) re (Same.refl _ _) (OwnSub.refl ρ)⟩
  | cons _ _ => cases eg
theorem dgs_cons (h1 : DG cm X e ts g) (h2 : DGs cm X es us gs) (hs : (assignEach (e :: es) X.env).map (·.2) = assign e X.env :: (assignEach es X.env).map (·.2) := by rfl) : DGs cm X (e :: es) (ts ++ us) (gsCons g gs) :=
  PGs.imp (pgs_cons h1 h2 hs) fun v σ H Q ⟨F, ρ, ds, ρ', re, rd, eg, q⟩ => by
    cases rd with
    | nil => cases eg
    | @cons v vs d ds r1 r2 =>
      have eg' : (g d ρ).bind (gs ds) = some ρ' := eg
      cases h : g d ρ with
      | none => rw [h] at eg'; cases eg'
      | some ρ1 =>
        rw [h] at eg'
        exact ⟨_, _, rfl, F, ρ, d, ρ1, re, r1, h, fun F1 H1 σ1 g1 re1 s1 o1 => ⟨F1, ρ1, ds, ρ', re1, r2.up g1.fx, eg', fun F2 H2 σ2 g2 re2 s2 o2 =>
          q F2 H2 σ2 (g1.trans g2) re2 ((s1.mono fun i hi => List.mem_append_left _ hi).trans (s2.mono fun i hi => List.mem_append_right _ hi)) (o1.trans o2)⟩⟩
/-- (a, b, ..) = a tuple, a list of that length -/
def gT (n : Nat) (gs : List D → Env → Option Env) : D → Env → Option Env := fun d ρ => match d with
  | .tup xs => if xs.length = n then gs xs ρ else none
  | _ => none
def gL (n : Nat) (gs : List D → Env → Option Env) : D → Env → Option Env := fun d ρ => match d with
  | .lst xs => if xs.length = n then gs xs ρ else none
  | _ => none
theorem dg_tup {k n : Nat} (hc : X.calm = true) (h : DGs cm X es ts gs) (hn : (assignEach es X.env).length = n := by rfl) (hst : (assignEach es X.env).findIdx? (·.1) = none := by rfl) : DG cm X (.Tuple es k pos) ts (gT n gs) :=
  PG.imp (pg_tup hc h hn hst) fun v σ H Q ⟨F, ρ, d, ρ', re, rd, eg, q⟩ => by
    unfold gT at eg
    split at eg
    · split at eg
      · rename_i hl
        cases rd with | tup h1 r1 =>
        exact ⟨_, _, rfl, SqT.of (re.le _ _ h1), by rw [r1.length]; exact hl, F, ρ, _, ρ', re, r1, eg, q⟩
      · cases eg
    · cases eg
theorem dg_lst {k n : Nat} (hc : X.calm = true) (h : DGs cm X es ts gs) (hn : (assignEach es X.env).length = n := by rfl) (hst : (assignEach es X.env).findIdx? (·.1) = none := by rfl) : DG cm X (.Tuple es k pos) ts (gL n gs) :=
  PG.imp (pg_unl hc h hn hst) fun v σ H Q ⟨F, ρ, d, ρ', re, rd, eg, q⟩ => by
    unfold gL at eg
    split at eg
    · split at eg
      · rename_i hl
        cases rd with | lst h1 r1 =>
        exact ⟨_, _, rfl, SqL.of (re.le _ _ h1), by rw [r1.length]; exact hl, F, ρ, _, ρ', re, r1, eg, q⟩
      · cases eg
    · cases eg
end

/-! ### what is walked -/
structure ItOk (K : PySem.W.Frag) (cm : Nat → Addr) (J : It) (F0 : Hp) (items : List D) : Prop where
  go : ∀ F H i, Ex F0 F → Ex F H → i < items.length → J.go i H
  stop : ∀ F H i, Ex F0 F → Ex F H → items.length ≤ i → J.stop i H
  yld : ∀ F H i x H', Ex F0 F → Ex F H → J.yld i H x H' → ∀ d, items[i]? = some d → ∃ F', Gr F H F' H' ∧ Rep K cm F' x d
def tDI (K : PySem.W.Frag) (cm : Nat → Addr) (f : Env → Option (List D)) : TI := fun σ H R =>
  ∃ F ρ items, RE K cm F H σ ρ ∧ f ρ = some items ∧ ∀ F' H' J, Gr F H F' H' → ItOk K cm J F' items → items.length ≤ sizeLine → R J H'
abbrev DI (cm : Nat → Addr) (X : Cx) (tg iter : Expr) (f : Env → Option (List D)) : Prop := PI X tg iter (tDI X.K cm f)
theorem PI.imp {X : Cx} {tg e : Expr} {t t' : TI} (h : PI X tg e t) (w : ∀ σ H Q, t' σ H Q → t σ H Q) : PI X tg e t' := ⟨fun pins s σ H Q I q => h.run pins s σ H Q I (w σ H Q q)⟩
section
variable {cm : Nat → Addr} {X : Cx} {tg e : Expr} {pos : Pos} {f g : Env → Option D}
theorem itl_ok {K : PySem.W.Frag} {a : Addr} {vs : List V} {F0 : Hp} {items : List D} (h : F0 a = some (.lst vs)) (r : Reps K cm F0 vs items) : ItOk K cm (Itl K a) F0 items where
  go := fun F H i e1 e2 hi => by
    have hi' : i < vs.length := by rw [r.length]; exact hi
    exact ⟨vs, vs[i], SqL.of (e2 _ _ (e1 _ _ h)), List.getElem?_eq_getElem hi'⟩
  stop := fun F H i e1 e2 hi => ⟨vs, SqL.of (e2 _ _ (e1 _ _ h)), by rw [r.length]; exact hi⟩
  yld := fun F H i x H' e1 e2 y d hd => by
    obtain ⟨rfl, y⟩ := y
    have hx := y vs (SqL.of (e2 _ _ (e1 _ _ h)))
    obtain ⟨d', h1, h2⟩ := r.getV hx
    rw [hd] at h1; cases h1
    exact ⟨F, Gr.refl e2, h2.up e1⟩
theorem itt_ok {K : PySem.W.Frag} {a : Addr} {vs : List V} {F0 : Hp} {items : List D} (h : F0 a = some (.tup vs)) (r : Reps K cm F0 vs items) : ItOk K cm (Itt K a) F0 items where
  go := fun F H i e1 e2 hi => by
    have hi' : i < vs.length := by rw [r.length]; exact hi
    exact ⟨vs, vs[i], SqT.of (e2 _ _ (e1 _ _ h)), List.getElem?_eq_getElem hi'⟩
  stop := fun F H i e1 e2 hi => ⟨vs, SqT.of (e2 _ _ (e1 _ _ h)), by rw [r.length]; exact hi⟩
  yld := fun F H i x H' e1 e2 y d hd => by
    obtain ⟨rfl, y⟩ := y
    have hx := y vs (SqT.of (e2 _ _ (e1 _ _ h)))
    obtain ⟨d', h1, h2⟩ := r.getV hx
    rw [hd] at h1; cases h1
    exact ⟨F, Gr.refl e2, h2.up e1⟩
theorem its_ok {K : PySem.W.Frag} {a : Addr} {ns : List Int} {F0 : Hp} (h : SqL K F0 a (ns.map V.int)) : ItOk K cm (Itl K a) F0 (ns.map D.int) where
  go := fun F H i e1 e2 hi => by
    have hi' : i < (ns.map V.int).length := by simpa using hi
    exact ⟨_, (ns.map V.int)[i], ex_l e2 (ex_l e1 h), List.getElem?_eq_getElem hi'⟩
  stop := fun F H i e1 e2 hi => ⟨_, ex_l e2 (ex_l e1 h), by simpa using hi⟩
  yld := fun F H i x H' e1 e2 y d hd => by
    obtain ⟨rfl, y⟩ := y
    have hx := y _ (ex_l e2 (ex_l e1 h))
    rw [List.getElem?_map] at hx hd
    cases e : ns[i]? with
    | none => rw [e] at hd; cases hd
    | some n =>
      rw [e] at hd hx
      cases hd; cases hx
      exact ⟨F, Gr.refl e2, .int n⟩
def iL (f : Env → Option D) : Env → Option (List D) := fun ρ => match f ρ with
  | some (.lst xs) => some xs
  | _ => none
def iT (f : Env → Option D) : Env → Option (List D) := fun ρ => match f ρ with
  | some (.tup xs) => some xs
  | _ => none
def iS (f : Env → Option D) : Env → Option (List D) := fun ρ => match f ρ with
  | some (.scr ns) => if ns.length ≤ lim then some (ns.map D.int) else none
  | _ => none
theorem di_list (h : DE cm X e f) : DI cm X tg e (iL f) := PI.imp (pi_list (PE.len h)) fun σ H Q ⟨F, ρ, items, re, e1, q⟩ => by
  unfold iL at e1
  split at e1
  · rename_i xs h1
    cases e1
    refine ⟨F, ρ, _, re, h1, fun F1 H1 v g1 r1 lo => ?_⟩
    cases r1 with | @lst a vs _ h2 r2 =>
    exact ⟨a, rfl, ⟨_, SqL.of (g1.le _ _ h2)⟩, q F1 H1 _ g1 (itl_ok h2 r2) (by rw [← r2.length]; exact lo _ _ (.inl (g1.le _ _ h2)))⟩
  · cases e1
theorem di_tup (h : DE cm X e f) : DI cm X tg e (iT f) := PI.imp (pi_tup (PE.len h)) fun σ H Q ⟨F, ρ, items, re, e1, q⟩ => by
  unfold iT at e1
  split at e1
  · rename_i xs h1
    cases e1
    refine ⟨F, ρ, _, re, h1, fun F1 H1 v g1 r1 lo => ?_⟩
    cases r1 with | @tup a vs _ h2 r2 =>
    exact ⟨a, rfl, ⟨_, SqT.of (g1.le _ _ h2)⟩, q F1 H1 _ g1 (itt_ok h2 r2) (by rw [← r2.length]; exact lo _ _ (.inr (g1.le _ _ h2)))⟩
  · cases e1
theorem di_scr (h : DE cm X e f) : DI cm X tg e (iS f) := PI.imp (pi_list h) fun σ H Q ⟨F, ρ, items, re, e1, q⟩ => by
  unfold iS at e1
  split at e1
  · rename_i xs h1
    split at e1
    · rename_i hl
      cases e1
      refine ⟨F, ρ, _, re, h1, fun F1 H1 v g1 r1 => ?_⟩
      cases r1 with | scr h2 =>
      exact ⟨_, rfl, ⟨_, ex_l g1.le h2⟩, q F1 H1 _ g1 (its_ok h2) (by rw [List.length_map]; exact lim_le hl)⟩
    · cases e1
  · cases e1
def rng (lo : Int) (n : Nat) : List D := (List.range n).map fun k : Nat => D.int (lo + (k : Int))
theorem itr_ok {K : PySem.W.Frag} {lo : Int} {n : Nat} {F0 : Hp} : ItOk K cm (Itr lo n) F0 (rng lo n) where
  go := fun F H i e1 e2 hi => by show i < n; simpa [rng] using hi
  stop := fun F H i e1 e2 hi => by show n ≤ i; simpa [rng] using hi
  yld := fun F H i x H' e1 e2 y d hd => by
    obtain ⟨rfl, rfl⟩ := y
    have hi : i < n := by
      have := (List.getElem?_eq_some_iff.mp hd).1
      simpa [rng] using this
    have : d = .int (lo + (i : Int)) := by
      unfold rng at hd
      rw [List.getElem?_map, List.getElem?_range hi] at hd
      cases hd; rfl
    subst this
    exact ⟨F, Gr.refl e2, .int _⟩
def iR1 (f : Env → Option D) : Env → Option (List D) := fun ρ => match f ρ with
  | some (.int j) => if -(lim : Int) ≤ j ∧ j ≤ lim then some (rng 0 j.toNat) else none
  | _ => none
def iR2 (f g : Env → Option D) : Env → Option (List D) := fun ρ => match f ρ, g ρ with
  | some (.int i), some (.int j) => if -(lim : Int) ≤ i ∧ i ≤ lim ∧ -(lim : Int) ≤ j ∧ j ≤ lim ∧ j - i ≤ lim then some (rng i (j - i).toNat) else none
  | _, _ => none
theorem rng_len (lo : Int) (n : Nat) : (rng lo n).length = n := by simp [rng]
theorem di_range1 {p : Pos} (hg : Gl X "range") (hm : X.mg "range" = none) (h : DE cm X e f) (hs : starEach [e] X.env = [(false, eval e X.env)] := by rfl) : DI cm X tg (.Call (.Name "range" p) [e] [] pos) (iR1 f) :=
  PI.imp (pi_range1 hg hm (pa_cons h pa_nil hs) hs) fun σ H Q ⟨F, ρ, items, re, e1, q⟩ => by
    unfold iR1 at e1
    split at e1
    · rename_i j h1
      split at e1
      · rename_i hl
        cases e1
        refine ⟨F, ρ, _, re, h1, fun F1 H1 v g1 r1 => ?_⟩
        cases r1
        unfold lim at hl
        refine ⟨j, rfl, by omega, by omega, q F1 H1 _ g1 itr_ok ?_⟩
        rw [rng_len]
        exact lim_le (by unfold lim; omega)
      · cases e1
    · cases e1
theorem di_range2 {a b : Expr} {p : Pos} (hg : Gl X "range") (hm : X.mg "range" = none) (ha : DE cm X a f) (hb : DE cm X b g) (hs : starEach [a, b] X.env = [(false, eval a X.env), (false, eval b X.env)] := by rfl) (hs2 : starEach [b] X.env = [(false, eval b X.env)] := by rfl) : DI cm X tg (.Call (.Name "range" p) [a, b] [] pos) (iR2 f g) :=
  PI.imp (pi_range2 hg hm (pa_cons ha (pa_cons hb pa_nil hs2) (hs.trans (by rw [hs2]))) hs hs2) fun σ H Q ⟨F, ρ, items, re, e1, q⟩ => by
    unfold iR2 at e1
    split at e1
    · rename_i i j h1 h2
      split at e1
      · rename_i hl
        cases e1
        refine ⟨F, ρ, _, re, h1, fun F1 H1 v g1 r1 => ⟨F1, ρ, _, re.gr g1, h2, fun F2 H2 v2 g2 r2 => ?_⟩⟩
        cases r1; cases r2
        unfold lim at hl
        refine ⟨i, j, rfl, by omega, q F2 H2 _ (g1.trans g2) itr_ok ?_⟩
        rw [rng_len]
        exact lim_le (by unfold lim; omega)
      · cases e1
    · cases e1
end
end DL

/-! D6: new objects of one's own, comprehensions. -/
namespace DL
open PySem PySem.Spec L2

/-- an expression that makes a new object which nobody else holds -/
def tDF (K : PySem.W.Frag) (cm : Nat → Addr) (f : Env → Option Sl) : TE := fun σ H Q =>
  ∃ F ρ s, RE K cm F H σ ρ ∧ f ρ = some s ∧ ∀ F' H' p o, Gr F H F' H' → H p = none → F' p = none → H' p = some o → OwnO K cm F' p s o → Q (.ref p) H'
abbrev DF (cm : Nat → Addr) (X : Cx) (e : Expr) (f : Env → Option Sl) : Prop := PE X e (tDF X.K cm f)
def ofS : Sl → Option D
  | .ol xs => some (.lst xs)
  | .oI ks => some (.dI ks)
  | .oT ks => some (.dT ks)
  | .oi _ t fs => some (.ins t fs)
  | _ => none
section
variable {K : PySem.W.Frag} {cm : Nat → Addr} {F H F' H' : Hp} {σ : L2.St} {ρ : Env}
/-- freezing: a tracked object that is not frozen yet -/
theorem Ex.frz {F H : Hp} {p : Addr} {o : HO} (le : Ex F H) (h : H p = some o) : Ex (upd F p o) H := fun a u e => by
  by_cases z : a = p
  · subst z; rw [upd_same] at e; cases e; exact h
  · rw [upd_ne z] at e; exact le a u e
theorem Gr.frz {p : Addr} {o : HO} (g : Gr F H F' H') (n : H p = none) (f : F' p = none) (h : H' p = some o) : Gr F H (upd F' p o) H' :=
  ⟨g.ex, g.fx.trans (Ex.new f), Ex.frz g.le h, fun a ha => by
    rw [upd_ne (fun z => by rw [z] at ha; exact ha n)]; exact g.old a ha⟩
theorem OwnO.rep {s : Sl} {o : HO} {d : D} {p : Addr} (h : OwnO K cm F p s o) (hd : ofS s = some d) (f : F p = none) : Rep K cm (upd F p o) (.ref p) d := by
  have e := Ex.new (o := o) f
  cases s with
  | no => cases hd
  | va d => cases hd
  | ol xs => cases hd; obtain ⟨vs, rfl, r⟩ := h; exact .lst upd_same (r.up e)
  | oI xs => cases hd; obtain ⟨vs, rfl, r⟩ := h; exact .dI upd_same (r.up e)
  | oT xs => cases hd; obtain ⟨vs, rfl, r⟩ := h; exact .dT upd_same (r.up e)
  | oi b t fs => cases hd; obtain ⟨_, dx, vf, rfl, r⟩ := h; exact .ins upd_same (r.up e)
end
def eFz (f : Env → Option Sl) : Env → Option D := fun ρ => (f ρ).bind ofS
section
variable {cm : Nat → Addr} {X : Cx} {e : Expr}
theorem frz_imp {K : PySem.W.Frag} {f : Env → Option Sl} : ∀ σ H Q, tD K cm (eFz f) σ H Q → tDF K cm f σ H Q := fun σ H Q ⟨F, ρ, d, re, e, q⟩ => by
  unfold eFz at e
  cases h : f ρ with
  | none => rw [h] at e; cases e
  | some s =>
    rw [h] at e
    exact ⟨F, ρ, s, re, h, fun F' H' p o g n f1 hp ho => q _ _ _ (g.frz n f1 hp) (ho.rep e f1)⟩
theorem de_frz {f : Env → Option Sl} (h : DF cm X e f) : DE cm X e (eFz f) := PE.imp h frz_imp
end

/-! ### a clause's tests -/
abbrev DTs (cm : Nat → Addr) (X : Cx) (ifs : List Expr) (f : Env → Option Bool) : Prop := PTs X ifs (tDT X.K cm f)
def bYes : Env → Option Bool := fun _ => some true
theorem PTs.imp {X : Cx} {e : List Expr} {t t' : TT} (h : PTs X e t) (w : ∀ σ H Q, t' σ H Q → t σ H Q) : PTs X e t' := ⟨fun pins s σ H Q I q => h.run pins s σ H Q I (w σ H Q q)⟩
theorem dts_nil {cm : Nat → Addr} {X : Cx} : DTs cm X [] bYes := PTs.imp pts_nil fun σ H Q ⟨F, ρ, b, re, e, q⟩ => by cases e; exact q F H (Gr.refl re.le)
theorem dts_one {cm : Nat → Addr} {X : Cx} {c : Expr} {f : Env → Option Bool} (h : DT cm X c f) : DTs cm X [c] f := pts_one h

/-! ### comprehensions -/
def compD (gg : D → Env → Option Env) (tt : Env → Option Bool) (fe : Env → Option D) (ρ : Env) : List D → Option (List D)
  | [] => some []
  | x :: xs => (gg x ρ).bind fun ρ1 => (tt ρ1).bind fun b => if b = true then (fe ρ1).bind fun y => (compD gg tt fe ρ xs).bind fun ys => some (y :: ys) else compD gg tt fe ρ xs
def fLc (fi : Env → Option (List D)) (vs : List Nat) (gg : D → Env → Option Env) (tt : Env → Option Bool) (fe : Env → Option D) : Env → Option Sl := fun ρ =>
  (fi ρ).bind fun items => (compD gg tt fe (wipeD ρ vs) items).map Sl.ol
def eLc (fi : Env → Option (List D)) (vs : List Nat) (gg : D → Env → Option Env) (tt : Env → Option Bool) (fe : Env → Option D) : Env → Option D := fun ρ =>
  (fi ρ).bind fun items => (compD gg tt fe (wipeD ρ vs) items).map D.lst
theorem eLc_eq (fi : Env → Option (List D)) (vs : List Nat) (gg : D → Env → Option Env) (tt : Env → Option Bool) (fe : Env → Option D) : eFz (fLc fi vs gg tt fe) = eLc fi vs gg tt fe := by
  funext ρ
  unfold eFz fLc eLc
  cases fi ρ with
  | none => rfl
  | some items =>
    show ((compD gg tt fe (wipeD ρ vs) items).map Sl.ol).bind ofS = (compD gg tt fe (wipeD ρ vs) items).map D.lst
    cases compD gg tt fe (wipeD ρ vs) items <;> rfl
theorem drop_at {α : Type} {l : List α} {i : Nat} (h : i < l.length) : l.drop i = l[i] :: l.drop (i + 1) := List.drop_eq_getElem_cons h

section
variable {K : PySem.W.Frag} {cm : Nat → Addr}
theorem lc_imp {fi : Env → Option (List D)} {vs ts : List Nat} {gg : D → Env → Option Env} {tt : Env → Option Bool} {fe : Env → Option D} (hts : ∀ i ∈ ts, i ∈ vs) :
    ∀ σ H Q, tDF K cm (fLc fi vs gg tt fe) σ H Q → tLc (tDI K cm fi) (tDG K cm ts gg) (tDT K cm tt) (tD K cm fe) vs σ H Q := fun σ H Q ⟨F, ρ, s, re, e, q⟩ => by
  unfold fLc at e
  cases h1 : fi ρ with
  | none => rw [h1] at e; cases e
  | some items =>
  rw [h1] at e
  have e' : (compD gg tt fe (wipeD ρ vs) items).map Sl.ol = some s := e
  cases h2 : compD gg tt fe (wipeD ρ vs) items with
  | none => rw [h2] at e'; cases e'
  | some total =>
  rw [h2] at e'
  cases e'
  refine ⟨F, ρ, items, re, h1, fun F1 H1 J g1 ok hz D hD => ?_⟩
  have nF1 : F1 D = none := none_of_none g1.le hD
  refine ⟨fun i m H2 => m = items.length - i ∧ i ≤ items.length ∧ ∃ F2 acc ys zs, Gr F1 H1 F2 H2 ∧ H2 D = some (.lst acc) ∧ F2 D = none ∧ Reps K cm F2 acc ys ∧ ys.length ≤ i ∧ compD gg tt fe (wipeD ρ vs) (items.drop i) = some zs ∧ ys ++ zs = total,
    ⟨items.length, by simp, Nat.zero_le _, F1, [], [], total, ⟨Ex.new hD, Ex.refl _, ?_, fun a ha => .inl rfl⟩, upd_same, nF1, .nil, Nat.le_refl _, h2, rfl⟩, ?_⟩
  · intro a u ea
    rw [upd_ne (fun z => by rw [z, nF1] at ea; cases ea)]
    exact g1.le a u ea
  rintro i m H2 ⟨rfl, hi, F2, acc, ys, zs, g2, hacc, nF2, racc, hl, hc, et⟩
  by_cases hlt : i < items.length
  · refine .inr ⟨ok.go F2 H2 i g2.fx g2.le hlt, fun H' => i + 1 ≤ items.length ∧ ∃ F3 acc ys zs, Gr F1 H1 F3 H' ∧ H' D = some (.lst acc) ∧ F3 D = none ∧ Reps K cm F3 acc ys ∧ ys.length ≤ i + 1 ∧ compD gg tt fe (wipeD ρ vs) (items.drop (i + 1)) = some zs ∧ ys ++ zs = total,
      fun H' ⟨a, b⟩ => ⟨items.length - (i + 1), by omega, rfl, a, b⟩, fun x H3 y => ?_⟩
    rw [drop_at hlt] at hc
    have hx : items[i]? = some items[i] := List.getElem?_eq_getElem hlt
    obtain ⟨F3, g3, r3⟩ := ok.yld F2 H2 i x H3 g2.fx g2.le y _ hx
    generalize items[i] = x0 at hc hx r3
    have hc' : (gg x0 (wipeD ρ vs)).bind (fun ρ1 => (tt ρ1).bind fun b => if b = true then (fe ρ1).bind fun y => (compD gg tt fe (wipeD ρ vs) (items.drop (i + 1))).bind fun ys => some (y :: ys) else compD gg tt fe (wipeD ρ vs) (items.drop (i + 1))) = some zs := hc
    cases hg : gg x0 (wipeD ρ vs) with
    | none => rw [hg] at hc'; cases hc'
    | some ρ1 =>
    rw [hg] at hc'
    have hc2 : ((tt ρ1).bind fun b => if b = true then (fe ρ1).bind fun y => (compD gg tt fe (wipeD ρ vs) (items.drop (i + 1))).bind fun ys => some (y :: ys) else compD gg tt fe (wipeD ρ vs) (items.drop (i + 1))) = some zs := hc'
    cases ht : tt ρ1 with
    | none => rw [ht] at hc2; cases hc2
    | some b =>
    rw [ht] at hc2
    have hc3 : (if b = true then (fe ρ1).bind fun y => (compD gg tt fe (wipeD ρ vs) (items.drop (i + 1))).bind fun ys => some (y :: ys) else compD gg tt fe (wipeD ρ vs) (items.drop (i + 1))) = some zs := hc2
    have rew := ((re.gr g1).gr (g2.trans g3)).wipe vs
    refine ⟨F3, wipeD ρ vs, x0, ρ1, rew, r3, hg, fun F4 H4 σ4 g4 re4 sm _ => ⟨?_, F4, ρ1, b, re4, ht, fun F5 H5 g5 => ?_⟩⟩
    · rw [same_wipe sm hts]
      have ww : ∀ σ : L2.St, L2.wipe (L2.wipe σ vs) vs = L2.wipe σ vs := fun σ => by
        refine same_wipe (ts := vs) ⟨wipe_length _ _, fun i hi => wipe_out hi⟩ fun i hi => hi
      exact ww σ
    · have nD3 : F3 D = none := by
        rcases g3.old D (by rw [hacc]; simp) with z | ⟨xs, z⟩
        · rw [z]; exact nF2
        · rw [hacc] at z; cases z
      have hD3 := g3.ex _ _ hacc
      have nD4 : F4 D = none := by
        rcases g4.old D (by rw [hD3]; simp) with z | ⟨xs, z⟩
        · rw [z]; exact nD3
        · rw [hD3] at z; cases z
      have hD4 := g4.ex _ _ hD3
      have nD5 : F5 D = none := by
        rcases g5.old D (by rw [hD4]; simp) with z | ⟨xs, z⟩
        · rw [z]; exact nD4
        · rw [hD4] at z; cases z
      have hD5 := g5.ex _ _ hD4
      have g25 := (g3.trans g4).trans g5
      cases b with
      | false =>
        refine ifF ?_
        rw [if_neg Bool.false_ne_true] at hc3
        exact ⟨hlt, F5, acc, ys, zs, g2.trans g25, hD5, nD5, racc.up g25.fx, Nat.le_succ_of_le hl, hc3, et⟩
      | true =>
        refine ifT ?_
        rw [if_pos rfl] at hc3
        cases he : fe ρ1 with
        | none => rw [he] at hc3; cases hc3
        | some y0 =>
        rw [he] at hc3
        have hc4 : ((compD gg tt fe (wipeD ρ vs) (items.drop (i + 1))).bind fun ys => some (y0 :: ys)) = some zs := hc3
        cases hr : compD gg tt fe (wipeD ρ vs) (items.drop (i + 1)) with
        | none => rw [hr] at hc4; cases hc4
        | some zs' =>
        rw [hr] at hc4
        cases hc4
        refine ⟨F5, ρ1, y0, re4.gr g5, he, fun F6 H6 v g6 r6 => ?_⟩
        have nD6 : F6 D = none := by
          rcases g6.old D (by rw [hD5]; simp) with z | ⟨xs, z⟩
          · rw [z]; exact nD5
          · rw [hD5] at z; cases z
        have hD6 := g6.ex _ _ hD5
        have g26 := g25.trans g6
        have racc6 := racc.up g26.fx
        have gt := g2.trans g26
        refine ⟨acc, hD6, ?_, hlt, F6, acc ++ [v], ys ++ [y0], zs', ⟨fun a u ea => ?_, gt.fx, fun a u ea => ?_, gt.old⟩, upd_same, nD6, racc6.append (.cons r6 .nil), ?_, rfl, ?_⟩
        · rw [racc.length]; omega
        · rw [upd_ne (fun z => by rw [z, hD] at ea; cases ea)]; exact gt.ex a u ea
        · rw [upd_ne (fun z => by rw [z, nD6] at ea; cases ea)]; exact gt.le a u ea
        · simp; exact hl
        · simpa using et
  · have ei : i = items.length := by omega
    subst ei
    rw [List.drop_length] at hc
    cases hc
    refine .inl ⟨ok.stop F2 H2 _ g2.fx g2.le (Nat.le_refl _), ?_⟩
    rw [List.append_nil] at et
    subst et
    refine q F2 H2 D (.lst acc) (g1.trans g2) ?_ nF2 hacc ⟨acc, rfl, racc⟩
    cases e : H D with
    | none => rfl
    | some o => rw [g1.ex D o e] at hD; cases hD
end
section
variable {cm : Nat → Addr} {X : Cx} {elt tg iter : Expr} {ifs : List Expr} {scope : Scope} {own : List (Str × Nat)} {pos : Pos} {fi : Env → Option (List D)} {ts : List Nat} {gg : D → Env → Option Env} {tt : Env → Option Bool} {fe : Env → Option D}
theorem df_lc (hc : X.calm = true) (hN : X.N.Nodup) (hi : DI cm X tg iter fi) (ok : BlkOk X.N X.env.scope scope own) (hts : ∀ i ∈ ts, i ∈ own.map (·.2))
    (hg : ∀ (s : Shared) (H : Hp) (C : Addr) (cl : List (Str × Addr)) (fp : List Addr), DG cm (X.blk s H scope (compEnvC scope cl C X.env) fp) tg ts gg) (ht : ∀ (s : Shared) (H : Hp) (C : Addr) (cl : List (Str × Addr)) (fp : List Addr), DTs cm (X.blk s H scope (compEnvC scope cl C X.env) fp) ifs tt)
    (he : ∀ (s : Shared) (H : Hp) (C : Addr) (cl : List (Str × Addr)) (fp : List Addr), DE cm (X.blk s H scope (compEnvC scope cl C X.env) fp) elt fe) (hs : ∀ x, foldedSetIterable iter X.env x = pure x := by intro _; rfl) :
    DF cm X (.ListComp elt [⟨tg, iter, ifs, 0⟩] scope pos) (fLc fi (own.map (·.2)) gg tt fe) := PE.imp (pe_lc hc hN hi ok hg ht he hs) (lc_imp hts)
theorem de_lc (hc : X.calm = true) (hN : X.N.Nodup) (hi : DI cm X tg iter fi) (ok : BlkOk X.N X.env.scope scope own) (hts : ∀ i ∈ ts, i ∈ own.map (·.2))
    (hg : ∀ (s : Shared) (H : Hp) (C : Addr) (cl : List (Str × Addr)) (fp : List Addr), DG cm (X.blk s H scope (compEnvC scope cl C X.env) fp) tg ts gg) (ht : ∀ (s : Shared) (H : Hp) (C : Addr) (cl : List (Str × Addr)) (fp : List Addr), DTs cm (X.blk s H scope (compEnvC scope cl C X.env) fp) ifs tt)
    (he : ∀ (s : Shared) (H : Hp) (C : Addr) (cl : List (Str × Addr)) (fp : List Addr), DE cm (X.blk s H scope (compEnvC scope cl C X.env) fp) elt fe) (hs : ∀ x, foldedSetIterable iter X.env x = pure x := by intro _; rfl) :
    DE cm X (.ListComp elt [⟨tg, iter, ifs, 0⟩] scope pos) (eLc fi (own.map (·.2)) gg tt fe) := by
  rw [← eLc_eq]
  exact de_frz (df_lc hc hN hi ok hts hg ht he hs)
end
end DL

/-! D7: statements. -/
namespace DL
open PySem PySem.Spec L2

/-- within a def: F0, H0 as they were at its entry -/
structure SE (K : PySem.W.Frag) (cm : Nat → Addr) (F0 H0 F H : Hp) (σ : L2.St) (ρ : Env) : Prop where
  re : RE K cm F H σ ρ
  g : Gr F0 H0 F H
  ow : ∀ (i : Nat) (a : Addr) (s : Sl), ρ[i]? = some s → s.own = true → σ[i]? = some (some (.ref a)) → H0 a = none
inductive Out where
  | nx (ρ : Env) | rt (d : D) | bk (ρ : Env) | ct (ρ : Env)
def PostD (K : PySem.W.Frag) (cm : Nat → Addr) (F0 H0 F : Hp) (Dn : Ends) : Out → Prop
  | .nx ρ => ∀ F' H' σ', Ex F F' → SE K cm F0 H0 F' H' σ' ρ → Dn.nx σ' H'
  | .rt d => ∀ F' H' v, Ex F F' → Gr F0 H0 F' H' → Rep K cm F' v d → Dn.rt v H'
  | .bk ρ => ∀ F' H' σ', Ex F F' → SE K cm F0 H0 F' H' σ' ρ → Dn.bk σ' H'
  | .ct ρ => ∀ F' H' σ', Ex F F' → SE K cm F0 H0 F' H' σ' ρ → Dn.ct σ' H'
def tDS (K : PySem.W.Frag) (cm : Nat → Addr) (F0 H0 : Hp) (f : Env → Option Out) : TS := fun Dn σ H =>
  ∃ F ρ o, SE K cm F0 H0 F H σ ρ ∧ f ρ = some o ∧ PostD K cm F0 H0 F Dn o
abbrev DS (cm : Nat → Addr) (F0 H0 : Hp) (X : Cx) (st : Stmt) (f : Env → Option Out) : Prop := PS X st (tDS X.K cm F0 H0 f)
abbrev DSs (cm : Nat → Addr) (F0 H0 : Hp) (X : Cx) (st : List Stmt) (f : Env → Option Out) : Prop := PSs X st (tDS X.K cm F0 H0 f)
theorem PS.imp {X : Cx} {e : Stmt} {t t' : TS} (h : PS X e t) (w : ∀ D σ H, t' D σ H → t D σ H) : PS X e t' := ⟨fun pins s σ H D I q => h.run pins s σ H D I (w D σ H q)⟩
theorem PSs.imp {X : Cx} {e : List Stmt} {t t' : TS} (h : PSs X e t) (w : ∀ D σ H, t' D σ H → t D σ H) : PSs X e t' := ⟨fun pins s σ H D I q => h.run pins s σ H D I (w D σ H q)⟩

section
variable {K : PySem.W.Frag} {cm : Nat → Addr} {F0 H0 F H F' H' : Hp} {σ : L2.St} {ρ : Env} {Dn : Ends}
theorem PostD.mono {o : Out} (p : PostD K cm F0 H0 F Dn o) (e : Ex F F') : PostD K cm F0 H0 F' Dn o := by
  cases o with
  | nx ρ => exact fun F2 H2 σ' e2 s => p F2 H2 σ' (e.trans e2) s
  | rt d => exact fun F2 H2 v e2 g r => p F2 H2 v (e.trans e2) g r
  | bk ρ => exact fun F2 H2 σ' e2 s => p F2 H2 σ' (e.trans e2) s
  | ct ρ => exact fun F2 H2 σ' e2 s => p F2 H2 σ' (e.trans e2) s
theorem SE.gr (s : SE K cm F0 H0 F H σ ρ) (g : Gr F H F' H') : SE K cm F0 H0 F' H' σ ρ := ⟨s.re.gr g, s.g.trans g, s.ow⟩
theorem SE.set (s : SE K cm F0 H0 F H σ ρ) (i : Nat) {v : V} {d : D} (h : Rep K cm F v d) : SE K cm F0 H0 F H (σ.set i (some v)) (setS ρ i (.va d)) :=
  ⟨s.re.set i h, s.g, fun j a t h1 h2 h3 => by
    obtain ⟨e1, e2⟩ := OwnSub.set ρ i d j t h1 h2
    rw [List.getElem?_set_ne (fun z => e2 (by simp [z]))] at h3
    exact s.ow j a t e1 h2 h3⟩
theorem SE.sub {σ' : L2.St} {ρ' : Env} {ts : List Nat} (s : SE K cm F0 H0 F H σ ρ) (g : Gr F H F' H') (r : RE K cm F' H' σ' ρ') (sm : Same ts σ σ') (os : OwnSub ts ρ ρ') : SE K cm F0 H0 F' H' σ' ρ' :=
  ⟨r, s.g.trans g, fun j a t h1 h2 h3 => by
    obtain ⟨e1, e2⟩ := os j t h1 h2
    rw [sm.2 j e2] at h3
    exact s.ow j a t e1 h2 h3⟩
theorem SE.setOwn (s : SE K cm F0 H0 F H σ ρ) (i : Nat) {a : Addr} {o : HO} {t : Sl} (g : Gr F H F' H') (n : H a = none) (f : F' a = none) (h : H' a = some o) (ho : OwnO K cm F' a t o) : SE K cm F0 H0 F' H' (σ.set i (some (.ref a))) (setS ρ i t) := by
  have n0 : H0 a = none := by
    cases e : H0 a with
    | none => rfl
    | some o => rw [s.g.ex a o e] at n; cases n
  refine ⟨(s.re.gr g).setOwn i h f ho fun j u h1 h2 h3 => ?_, s.g.trans g, fun j b u h1 h2 h3 => ?_⟩
  · obtain ⟨b, o, e1, e2, _⟩ := SlR.own h3 (s.re.sl j _ u h1 h2)
    cases e1
    rw [n] at e2; cases e2
  · unfold setS at h1
    by_cases hj : i = j
    · subst hj
      have hi : i < ρ.length := by
        have := (List.getElem?_eq_some_iff.mp h1).1
        simpa using this
      rw [List.getElem?_set_self (by rw [s.re.len]; exact hi)] at h3
      cases h3
      exact n0
    · rw [List.getElem?_set_ne hj] at h1 h3
      exact s.ow j b u h1 h2 h3
theorem SE.mut (s : SE K cm F0 H0 F H σ ρ) {i : Nat} {a : Addr} {t t' : Sl} {o' : HO} (hσ : σ[i]? = some (some (.ref a))) (hρ : ρ[i]? = some t) (ht : t.own = true) (ho : OwnO K cm F a t' o') : SE K cm F0 H0 F (upd H a o') σ (setS ρ i t') := by
  have n0 := s.ow i a t hρ ht hσ
  obtain ⟨b, o, e1, e2, e3, e4⟩ := SlR.own ht (s.re.sl i _ t hσ hρ)
  cases e1
  have r := s.re.mut hσ hρ ht ho
  refine ⟨r, ⟨fun b u e => ?_, s.g.fx, r.le, s.g.old⟩, fun j b u h1 h2 h3 => ?_⟩
  · rw [upd_ne (fun z => by rw [z, n0] at e; cases e)]; exact s.g.ex b u e
  · unfold setS at h1
    by_cases hj : i = j
    · subst hj
      rw [hσ] at h3; cases h3
      exact n0
    · rw [List.getElem?_set_ne hj] at h1
      exact s.ow j b u h1 h2 h3
end

section
variable {cm : Nat → Addr} {F0 H0 : Hp} {X : Cx} {st : Stmt} {rest : List Stmt} {e : Expr} {f g : Env → Option D} {fs gs : Env → Option Out} {fb : Env → Option Bool} {pos : Pos}

/-! ### blocks -/
def sNil : Env → Option Out := fun ρ => some (.nx ρ)
def sSeq (f g : Env → Option Out) : Env → Option Out := fun ρ => match f ρ with
  | some (.nx ρ') => g ρ'
  | o => o
theorem dss_nil : DSs cm F0 H0 X [] sNil := PSs.imp pss_nil fun Dn σ H ⟨F, ρ, o, se, e, p⟩ => by cases e; exact p F H σ (Ex.refl F) se
theorem dss_cons (h1 : DS cm F0 H0 X st fs) (h2 : DSs cm F0 H0 X rest gs) : DSs cm F0 H0 X (st :: rest) (sSeq fs gs) :=
  PSs.imp (pss_cons h1 h2) fun Dn σ H ⟨F, ρ, o, se, e, p⟩ => by
    unfold sSeq at e
    split at e
    · rename_i ρ' h
      exact ⟨F, ρ, _, se, h, fun F1 H1 σ1 x1 se1 => ⟨F1, ρ', o, se1, e, p.mono x1⟩⟩
    · refine ⟨F, ρ, o, se, e, ?_⟩
      cases o with
      | nx ρ' => rename_i h; exact absurd e (by rw [e] at h; exact fun _ => h ρ' rfl)
      | rt d => exact p
      | bk ρ' => exact p
      | ct ρ' => exact p
theorem dss_one (h1 : DS cm F0 H0 X st fs) : DSs cm F0 H0 X [st] fs := pss_one h1
theorem ds_pass : DS cm F0 H0 X (.Pass pos) sNil := PS.imp ps_pass fun Dn σ H ⟨F, ρ, o, se, e, p⟩ => by cases e; exact p F H σ (Ex.refl F) se
def sNever : Env → Option Out := fun _ => none
theorem ds_never : DS cm F0 H0 X st sNever := PS.imp ps_never fun Dn σ H ⟨F, ρ, o, se, e, p⟩ => by cases e
theorem dss_never : DSs cm F0 H0 X rest sNever := PSs.imp pss_never fun Dn σ H ⟨F, ρ, o, se, e, p⟩ => by cases e
def sBk : Env → Option Out := fun ρ => some (.bk ρ)
def sCt : Env → Option Out := fun ρ => some (.ct ρ)
theorem ds_break : DS cm F0 H0 X (.Break pos) sBk := PS.imp ps_break fun Dn σ H ⟨F, ρ, o, se, e, p⟩ => by cases e; exact p F H σ (Ex.refl F) se
theorem ds_continue : DS cm F0 H0 X (.Continue pos) sCt := PS.imp ps_continue fun Dn σ H ⟨F, ρ, o, se, e, p⟩ => by cases e; exact p F H σ (Ex.refl F) se

/-! ### return, if -/
def sRet (f : Env → Option D) : Env → Option Out := fun ρ => (f ρ).map Out.rt
theorem ds_ret (h : DE cm X e f) : DS cm F0 H0 X (.Return (some e) pos) (sRet f) := PS.imp (ps_ret h) fun Dn σ H ⟨F, ρ, o, se, e, p⟩ => by
  unfold sRet at e
  cases h1 : f ρ with
  | none => rw [h1] at e; cases e
  | some d =>
    rw [h1] at e
    cases e
    exact ⟨F, ρ, d, se.re, h1, fun F1 H1 v g1 r1 => p F1 H1 v g1.fx (se.g.trans g1) r1⟩
def sIf (t : Env → Option Bool) (f g : Env → Option Out) : Env → Option Out := fun ρ => match t ρ with
  | some true => f ρ
  | some false => g ρ
  | none => none
theorem ds_if {c : Expr} {a b : List Stmt} (hc : DT cm X c fb) (ha : DSs cm F0 H0 X a fs) (hb : DSs cm F0 H0 X b gs) : DS cm F0 H0 X (.If c a b pos) (sIf fb fs gs) :=
  PS.imp (ps_if hc ha hb) fun Dn σ H ⟨F, ρ, o, se, e, p⟩ => by
    unfold sIf at e
    split at e
    · rename_i h1
      exact ⟨F, ρ, true, se.re, h1, fun F1 H1 g1 => ifT ⟨F1, ρ, o, se.gr g1, e, p.mono g1.fx⟩⟩
    · rename_i h1
      exact ⟨F, ρ, false, se.re, h1, fun F1 H1 g1 => ifF ⟨F1, ρ, o, se.gr g1, e, p.mono g1.fx⟩⟩
    · cases e

/-! ### stores -/
def sSet (i : Nat) (f : Env → Option D) : Env → Option Out := fun ρ => (f ρ).map fun d => .nx (setS ρ i (.va d))
theorem set_imp {K : PySem.W.Frag} {i : Nat} : ∀ Dn σ H, tDS K cm F0 H0 (sSet i f) Dn σ H → tAsg (tD K cm f) (gName i) Dn σ H := fun Dn σ H ⟨F, ρ, o, se, e, p⟩ => by
  unfold sSet at e
  cases h1 : f ρ with
  | none => rw [h1] at e; cases e
  | some d =>
    rw [h1] at e
    cases e
    exact ⟨F, ρ, d, se.re, h1, fun F1 H1 v g1 r1 => p F1 H1 _ g1.fx ((se.gr g1).set i r1)⟩
theorem ds_set {i : Nat} {x : Str} {pos' : Pos} (hN : X.N.Nodup) (hi : X.N[i]? = some x) (hx : Loc X.env.scope x) (he : DE cm X e f) (hs : swapsWith e (some (.Name x pos')) pos.line X.env = pure false := by rfl) (hf : X.fn x = true ∨ X.env.scope.names.lookup x = some .local := by first | exact .inl rfl | exact .inr rfl | assumption) :
    DS cm F0 H0 X (.Assign [.Name x pos'] e pos) (sSet i f) := PS.imp (ps_set hN hi hx he hs hf) set_imp
def sOwn (i : Nat) (f : Env → Option Sl) : Env → Option Out := fun ρ => (f ρ).map fun s => .nx (setS ρ i s)
theorem own_imp {K : PySem.W.Frag} {f : Env → Option Sl} {i : Nat} : ∀ Dn σ H, tDS K cm F0 H0 (sOwn i f) Dn σ H → tAsg (tDF K cm f) (gName i) Dn σ H := fun Dn σ H ⟨F, ρ, o, se, e, p⟩ => by
  unfold sOwn at e
  cases h1 : f ρ with
  | none => rw [h1] at e; cases e
  | some d =>
    rw [h1] at e
    cases e
    exact ⟨F, ρ, d, se.re, h1, fun F1 H1 a o g1 n1 f1 h1 ho => p F1 H1 _ g1.fx (se.setOwn i g1 n1 f1 h1 ho)⟩
theorem ds_own {f : Env → Option Sl} {i : Nat} {x : Str} {pos' : Pos} (hN : X.N.Nodup) (hi : X.N[i]? = some x) (hx : Loc X.env.scope x) (he : DF cm X e f) (hs : swapsWith e (some (.Name x pos')) pos.line X.env = pure false := by rfl) (hf : X.fn x = true ∨ X.env.scope.names.lookup x = some .local := by first | exact .inl rfl | exact .inr rfl | assumption) :
    DS cm F0 H0 X (.Assign [.Name x pos'] e pos) (sOwn i f) := PS.imp (ps_set hN hi hx he hs hf) own_imp
section
variable {i : Nat} {y : Str} {py spos : Pos} {elt tg iter : Expr} {ifs : List Expr} {scope : Scope} {own : List (Str × Nat)} {fi : Env → Option (List D)} {ts : List Nat} {gg : D → Env → Option Env} {tt : Env → Option Bool} {fe : Env → Option D}
/-- y = [..], the list one's own -/
theorem ds_ownLc (hc : X.calm = true) (hN : X.N.Nodup) (hy : X.N[i]? = some y) (hyl : X.env.scope.names.lookup y = some .local) (hsw : swapsWith (.ListComp elt [⟨tg, iter, ifs, 0⟩] scope pos) (some (.Name y py)) spos.line X.env = pure true)
    (hi : DI cm X tg iter fi) (ok : BlkOk X.N X.env.scope scope own) (hts : ∀ i ∈ ts, i ∈ own.map (·.2))
    (hg : ∀ (s : Shared) (H : Hp) (C : Addr) (cl : List (Str × Addr)) (fp : List Addr), DG cm (X.blk s H scope (compEnvC scope cl C X.env) fp) tg ts gg) (ht : ∀ (s : Shared) (H : Hp) (C : Addr) (cl : List (Str × Addr)) (fp : List Addr), DTs cm (X.blk s H scope (compEnvC scope cl C X.env) fp) ifs tt)
    (he : ∀ (s : Shared) (H : Hp) (C : Addr) (cl : List (Str × Addr)) (fp : List Addr), DE cm (X.blk s H scope (compEnvC scope cl C X.env) fp) elt fe) (hs : ∀ x, foldedSetIterable iter X.env x = pure x := by intro _; rfl) :
    DS cm F0 H0 X (.Assign [.Name y py] (.ListComp elt [⟨tg, iter, ifs, 0⟩] scope pos) spos) (sOwn i (fLc fi (own.map (·.2)) gg tt fe)) :=
  PS.imp (ps_setLc hc hN hy hyl hsw hi ok hg ht he hs) fun Dn σ H q => lc_imp hts σ H _ (own_imp Dn σ H q)
/-- y = [..], a datum -/
theorem ds_setLc (hc : X.calm = true) (hN : X.N.Nodup) (hy : X.N[i]? = some y) (hyl : X.env.scope.names.lookup y = some .local) (hsw : swapsWith (.ListComp elt [⟨tg, iter, ifs, 0⟩] scope pos) (some (.Name y py)) spos.line X.env = pure true)
    (hi : DI cm X tg iter fi) (ok : BlkOk X.N X.env.scope scope own) (hts : ∀ i ∈ ts, i ∈ own.map (·.2))
    (hg : ∀ (s : Shared) (H : Hp) (C : Addr) (cl : List (Str × Addr)) (fp : List Addr), DG cm (X.blk s H scope (compEnvC scope cl C X.env) fp) tg ts gg) (ht : ∀ (s : Shared) (H : Hp) (C : Addr) (cl : List (Str × Addr)) (fp : List Addr), DTs cm (X.blk s H scope (compEnvC scope cl C X.env) fp) ifs tt)
    (he : ∀ (s : Shared) (H : Hp) (C : Addr) (cl : List (Str × Addr)) (fp : List Addr), DE cm (X.blk s H scope (compEnvC scope cl C X.env) fp) elt fe) (hs : ∀ x, foldedSetIterable iter X.env x = pure x := by intro _; rfl) :
    DS cm F0 H0 X (.Assign [.Name y py] (.ListComp elt [⟨tg, iter, ifs, 0⟩] scope pos) spos) (sSet i (eLc fi (own.map (·.2)) gg tt fe)) :=
  PS.imp (ps_setLc hc hN hy hyl hsw hi ok hg ht he hs) fun Dn σ H q => by
    have q1 : tAsg (tD X.K cm (eLc fi (own.map (·.2)) gg tt fe)) (gName i) Dn σ H := set_imp Dn σ H q
    rw [← eLc_eq] at q1
    exact lc_imp hts σ H _ (frz_imp σ H _ q1)
end
/-- a target of several names -/
def sAsg (g : D → Env → Option Env) (f : Env → Option D) : Env → Option Out := fun ρ => (f ρ).bind fun d => (g d ρ).map Out.nx
theorem ds_asg {tg : Expr} {ts : List Nat} {g : D → Env → Option Env} (he : DE cm X e f) (hg : DG cm X tg ts g) (hs : swapsWithSole [tg] e pos.line X.env = pure false := by rfl) (hw : swappedStores [tg] e X.env = pure none := by rfl)
    (h1 : (assignEach [tg] X.env).map (·.2) = [assign tg X.env] := by rfl) : DS cm F0 H0 X (.Assign [tg] e pos) (sAsg g f) := PS.imp (ps_asg he hg hs hw h1) fun Dn σ H ⟨F, ρ, o, se, e, p⟩ => by
  unfold sAsg at e
  cases h1 : f ρ with
  | none => rw [h1] at e; cases e
  | some d =>
    rw [h1] at e
    have e' : (g d ρ).map Out.nx = some o := e
    cases h2 : g d ρ with
    | none => rw [h2] at e'; cases e'
    | some ρ' =>
      rw [h2] at e'
      cases e'
      exact ⟨F, ρ, d, se.re, h1, fun F1 H1 v g1 r1 => ⟨F1, ρ, d, ρ', se.re.gr g1, r1, h2, fun F2 H2 σ2 g2 re2 sm os => p F2 H2 σ2 (g1.fx.trans g2.fx) ((se.gr g1).sub g2 re2 sm os)⟩⟩
/-- x.append(e), x one's own -/
def sApp (i : Nat) (f : Env → Option D) : Env → Option Out := fun ρ => match ρ[i]? with
  | some (.ol xs) => (f ρ).bind fun d => if xs.length < lim then some (.nx (setS ρ i (.ol (xs ++ [d])))) else none
  | _ => none
theorem ds_app {i : Nat} {x : Str} {px apos cpos : Pos} (hv : PE X (.Name x px) (tVar i)) (he : DE cm X e f) (hs : swapsWith (.Call (.Attribute (.Name x px) "append" apos) [e] [] cpos) none pos.line X.env = pure false := by rfl)
    (hb : attributeBase (.Name x px) "append" X.env (eval (.Name x px) X.env) = eval (.Name x px) X.env := by rfl)
    (h2 : ((backTo cpos (starEach [e] X.env)).all (fun x => !x.1) && (backToKw cpos (keywordEach [] X.env)).all (·.1.isSome) && decide (([e] : List Expr).length + ([] : List Keyword).length + (if ([] : List Keyword).isEmpty = true then 0 else 1) < 30)) = true := by rfl)
    (h3 : (apos.endLine == cpos.line) = true := by rfl) (h4 : starEach [e] X.env = (false, eval e X.env) :: starEach [] X.env := by rfl) :
    DS cm F0 H0 X (.Expr (.Call (.Attribute (.Name x px) "append" apos) [e] [] cpos) pos) (sApp i f) :=
  PS.imp (ps_expr (pe_bm PySem.F.plainAttrs_list PySem.F.slot_list_append PySem.F.type_list_append mt_append hv (pa_cons he pa_nil h4) hb h2 h3 h4 rfl) hs) fun Dn σ H ⟨F, ρ, o, se, e, p⟩ => by
    unfold sApp at e
    split at e
    · rename_i xs h1
      cases h5 : f ρ with
      | none => rw [h5] at e; cases e
      | some d =>
        rw [h5] at e
        have e' : (if xs.length < lim then some (Out.nx (setS ρ i (.ol (xs ++ [d])))) else none) = some o := e
        split at e'
        · rename_i hl
          cases e'
          obtain ⟨xo, h6, a, u, h7, h8, h9, vs, h10, r⟩ := se.re.at h1
          subst h7; subst h10
          refine ⟨.ref a, h6, .inl ⟨rfl, vs, SqL.of h8⟩, F, ρ, d, se.re, h5, fun F1 H1 v g1 r1 => ⟨a, vs, v, rfl, rfl, g1.ex _ _ h8, ?_, ?_⟩⟩
          · rw [r.length, sizeLine_eq]; unfold lim at hl; omega
          · exact p F1 _ σ g1.fx ((se.gr g1).mut h6 h1 rfl ⟨_, rfl, (r.up g1.fx).append (.cons r1 .nil)⟩)
        · cases e'
    · cases e
/-- x[k] = e, x one's own list -/
def sSetIx (i : Nat) (k : Env → Option D) (f : Env → Option D) : Env → Option Out := fun ρ => match ρ[i]? with
  | some (.ol xs) => (f ρ).bind fun d => match k ρ with
    | some (.int j) => (ixN xs.length j).map fun n => .nx (setS ρ i (.ol (xs.set n d)))
    | _ => none
  | _ => none
theorem ds_setIx {i : Nat} {x : Str} {px tpos : Pos} {ke : Expr} {k : Env → Option D} (hv : PE X (.Name x px) (tVar i)) (hk : DE cm X ke k) (he : DE cm X e f)
    (ha : ∀ v, assign (.Subscript (.Name x px) ke tpos) X.env v = (do
      let ov ← holding [v] (eval (.Name x px) X.env)
      let iv ← holding [v, ov] (eval ke X.env)
      standAt tpos
      holding [v, ov, iv] (setItem ov iv v)
      release [v, ov, iv] []) := by intro _; rfl)
    (hs : swapsWithSole [.Subscript (.Name x px) ke tpos] e pos.line X.env = pure false := by rfl) (hw : swappedStores [.Subscript (.Name x px) ke tpos] e X.env = pure none := by rfl)
    (h1 : (assignEach [.Subscript (.Name x px) ke tpos] X.env).map (·.2) = [assign (.Subscript (.Name x px) ke tpos) X.env] := by rfl) : DS cm F0 H0 X (.Assign [.Subscript (.Name x px) ke tpos] e pos) (sSetIx i k f) :=
  PS.imp (ps_asg he (pg_sub hv hk set_list ha) hs hw h1) fun Dn σ H ⟨F, ρ, o, se, e, p⟩ => by
    unfold sSetIx at e
    split at e
    · rename_i xs h1
      cases h5 : f ρ with
      | none => rw [h5] at e; cases e
      | some d =>
        rw [h5] at e
        have e' : (match k ρ with
          | some (.int j) => (ixN xs.length j).map fun n => Out.nx (setS ρ i (.ol (xs.set n d)))
          | _ => none) = some o := e
        split at e'
        · rename_i j h11
          cases h12 : ixN xs.length j with
          | none => rw [h12] at e'; cases e'
          | some n =>
            rw [h12] at e'
            cases e'
            refine ⟨F, ρ, d, se.re, h5, fun F1 H1 v g1 r1 => ?_⟩
            obtain ⟨xo, h6, a, u, h7, h8, h9, vs, h10, r⟩ := (se.re.gr g1).at h1
            subst h7; subst h10
            refine ⟨.ref a, h6, F1, ρ, _, se.re.gr g1, h11, fun F2 H2 w g2 r2 => ?_⟩
            cases r2
            refine ⟨a, vs, j, n, rfl, rfl, g2.ex _ _ h8, by rw [r.length]; exact h12, ?_⟩
            exact p F2 _ σ (g1.fx.trans g2.fx) (((se.gr g1).gr g2).mut h6 h1 rfl ⟨_, rfl, (r.up g2.fx).set n (r1.up g2.fx)⟩)
        · cases e'
    · cases e

/-! ### freezing what was one's own -/
def fzD (i : Nat) (ρ : Env) : Env := match ρ[i]? with
  | some s => match ofS s with
    | some d => setS ρ i (.va d)
    | none => ρ
  | none => ρ
theorem SE.fz {K : PySem.W.Frag} {F H : Hp} {σ : L2.St} {ρ : Env} (s : SE K cm F0 H0 F H σ ρ) (i : Nat) : ∃ F', Ex F F' ∧ SE K cm F0 H0 F' H σ (fzD i ρ) := by
  unfold fzD
  cases h : ρ[i]? with
  | none => exact ⟨F, Ex.refl F, s⟩
  | some t =>
    show ∃ F', Ex F F' ∧ SE K cm F0 H0 F' H σ (match ofS t with
      | some d => setS ρ i (.va d)
      | none => ρ)
    cases hd : ofS t with
    | none => exact ⟨F, Ex.refl F, s⟩
    | some d =>
      have ht : t.own = true := by
        cases t with
        | no => cases hd
        | va d => cases hd
        | _ => rfl
      obtain ⟨x, h1, h2⟩ := s.re.at h
      obtain ⟨a, o, e1, e2, e3, e4⟩ := SlR.own ht h2
      subst e1
      have n0 := s.ow i a t h ht h1
      have le := Ex.frz s.re.le e2
      have fx := Ex.new (o := o) e3
      refine ⟨upd F a o, fx, ⟨⟨le, by unfold setS; simp [s.re.len], fun j x u h3 h4 => ?_, fun j k b u w hjk h3 h4 h5 h6 hu hw => ?_⟩, ⟨s.g.ex, s.g.fx.trans fx, le, fun b hb => ?_⟩, fun j b u h3 h4 h5 => ?_⟩⟩
      · unfold setS at h4
        by_cases hj : i = j
        · subst hj
          have hi : i < ρ.length := (List.getElem?_eq_some_iff.mp h).1
          rw [List.getElem?_set_self hi] at h4
          rw [h1] at h3
          cases h3; cases h4
          exact ⟨_, rfl, e4.rep hd e3⟩
        · rw [List.getElem?_set_ne hj] at h4
          have q := s.re.sl j x u h3 h4
          cases hu : u.own with
          | true =>
            obtain ⟨c, w, q1, q2, q3, q4⟩ := SlR.own hu q
            refine SlR.of_own hu ⟨c, w, q1, q2, ?_, q4.up fx⟩
            rw [upd_ne (fun z => by subst z; subst q1; exact s.re.ap i j c t u hj h1 h3 h h4 ht hu)]
            exact q3
          | false =>
            cases u with
            | no => trivial
            | va d => obtain ⟨v, q1, q2⟩ := q; exact ⟨v, q1, q2.up fx⟩
            | ol xs => cases hu
            | oI xs => cases hu
            | oT xs => cases hu
            | oi b t fs => cases hu
      · obtain ⟨q1, _⟩ := OwnSub.set ρ i d j u h5 hu
        obtain ⟨q2, _⟩ := OwnSub.set ρ i d k w h6 hw
        exact s.re.ap j k b u w hjk h3 h4 q1 q2 hu hw
      · rw [upd_ne (fun z => by subst z; exact hb n0)]
        exact s.g.old b hb
      · obtain ⟨q1, _⟩ := OwnSub.set ρ i d j u h3 h4
        exact s.ow j b u q1 h4 h5
def sFz (i : Nat) (f : Env → Option Out) : Env → Option Out := fun ρ => f (fzD i ρ)
theorem fz_imp {K : PySem.W.Frag} {i : Nat} : ∀ Dn σ H, tDS K cm F0 H0 (sFz i fs) Dn σ H → tDS K cm F0 H0 fs Dn σ H := fun Dn σ H ⟨F, ρ, o, se, e, p⟩ => by
  obtain ⟨F', x, se'⟩ := se.fz i
  exact ⟨F', _, o, se', e, p.mono x⟩
theorem ds_fz (i : Nat) (h : DS cm F0 H0 X st fs) : DS cm F0 H0 X st (sFz i fs) := PS.imp h fz_imp
theorem dss_fz (i : Nat) (h : DSs cm F0 H0 X rest fs) : DSs cm F0 H0 X rest (sFz i fs) := PSs.imp h fz_imp
end
end DL

/-! D8: for, while, borrowing, dicts, calls of the text's own defs. -/
namespace DL
open PySem PySem.Spec L2

/-! ### for -/
def forD (gg : D → Env → Option Env) (body : Env → Option Out) : List D → Env → Option Out
  | [], ρ => some (.nx ρ)
  | x :: xs, ρ => (gg x ρ).bind fun ρ1 => match body ρ1 with
    | some (.nx ρ') => forD gg body xs ρ'
    | some (.ct ρ') => forD gg body xs ρ'
    | some (.bk ρ') => some (.nx ρ')
    | some (.rt d) => some (.rt d)
    | none => none
def sFor (fi : Env → Option (List D)) (gg : D → Env → Option Env) (body : Env → Option Out) : Env → Option Out := fun ρ => (fi ρ).bind fun items => forD gg body items ρ
theorem forD_cons {gg : D → Env → Option Env} {body : Env → Option Out} {x : D} {xs : List D} {ρ : Env} {o : Out} (h : forD gg body (x :: xs) ρ = some o) : ∃ ρ1, gg x ρ = some ρ1 ∧
    ((∃ ρ', body ρ1 = some (.nx ρ') ∧ forD gg body xs ρ' = some o) ∨ (∃ ρ', body ρ1 = some (.ct ρ') ∧ forD gg body xs ρ' = some o) ∨ (∃ ρ', body ρ1 = some (.bk ρ') ∧ o = .nx ρ') ∨ ∃ d, body ρ1 = some (.rt d) ∧ o = .rt d) := by
  unfold forD at h
  cases h1 : gg x ρ with
  | none => rw [h1] at h; cases h
  | some ρ1 =>
    rw [h1] at h
    have h' : (match body ρ1 with
      | some (.nx ρ') => forD gg body xs ρ'
      | some (.ct ρ') => forD gg body xs ρ'
      | some (.bk ρ') => some (.nx ρ')
      | some (.rt d) => some (.rt d)
      | none => none) = some o := h
    refine ⟨ρ1, rfl, ?_⟩
    split at h'
    · rename_i ρ' e; exact .inl ⟨ρ', e, h'⟩
    · rename_i ρ' e; exact .inr (.inl ⟨ρ', e, h'⟩)
    · rename_i ρ' e; cases h'; exact .inr (.inr (.inl ⟨ρ', e, rfl⟩))
    · rename_i d e; cases h'; exact .inr (.inr (.inr ⟨d, e, rfl⟩))
    · cases h'
section
variable {cm : Nat → Addr} {F0 H0 : Hp} {X : Cx} {st : Stmt} {body : List Stmt} {tg iter e : Expr} {fi : Env → Option (List D)} {ts : List Nat} {gg : D → Env → Option Env} {fb : Env → Option Bool} {fs : Env → Option Out} {pos : Pos}
theorem ds_for (hp : PassesOwn (model X.prog X.w) X.A X.env X.xe) (hc : X.calm = true) (hi : DI cm X tg iter fi) (hg : DG cm X tg ts gg) (hb : DSs cm F0 H0 X body fs)
    (hs : ∀ x, foldedSetIterable iter X.env x = pure x := by intro _; rfl) : DS cm F0 H0 X (.For tg iter body [] pos) (sFor fi gg fs) :=
  PS.imp (ps_for hp hc hi hg hb hs) fun Dn σ H ⟨F, ρ, o, se, e, p⟩ => by
    unfold sFor at e
    cases h1 : fi ρ with
    | none => rw [h1] at e; cases e
    | some items =>
    rw [h1] at e
    have e' : forD gg fs items ρ = some o := e
    refine ⟨F, ρ, items, se.re, h1, fun F1 H1 J g1 ok hz => ⟨fun i m σ2 H2 => m = items.length - i ∧ i ≤ items.length ∧ ∃ F2 ρ2, Ex F1 F2 ∧ SE X.K cm F0 H0 F2 H2 σ2 ρ2 ∧ forD gg fs (items.drop i) ρ2 = some o,
      ⟨items.length, by simp, Nat.zero_le _, F1, ρ, Ex.refl _, se.gr g1, e'⟩, ?_⟩⟩
    have p1 := p.mono g1.fx
    rintro i m σ2 H2 ⟨rfl, hi, F2, ρ2, x2, se2, e2⟩
    by_cases hlt : i < items.length
    · refine .inr ⟨ok.go F2 H2 i x2 se2.re.le hlt, fun σ' H' => i + 1 ≤ items.length ∧ ∃ F3 ρ3, Ex F1 F3 ∧ SE X.K cm F0 H0 F3 H' σ' ρ3 ∧ forD gg fs (items.drop (i + 1)) ρ3 = some o,
        fun σ' H' ⟨a, b⟩ => ⟨items.length - (i + 1), by omega, rfl, a, b⟩, fun x H3 y => ?_⟩
      rw [drop_at hlt] at e2
      obtain ⟨F3, g3, r3⟩ := ok.yld F2 H2 i x H3 x2 se2.re.le y _ (List.getElem?_eq_getElem hlt)
      obtain ⟨ρ4, hg4, alt⟩ := forD_cons e2
      refine ⟨F3, ρ2, _, ρ4, se2.re.gr g3, r3, hg4, fun F4 H4 σ4 g4 re4 sm os => ?_⟩
      have se4 := (se2.gr g3).sub g4 re4 sm os
      have x4 : Ex F1 F4 := (x2.trans g3.fx).trans g4.fx
      rcases alt with ⟨ρ', h5, h6⟩ | ⟨ρ', h5, h6⟩ | ⟨ρ', h5, rfl⟩ | ⟨d, h5, rfl⟩
      · exact ⟨F4, ρ4, _, se4, h5, fun F5 H5 σ5 x5 se5 => ⟨hlt, F5, ρ', x4.trans x5, se5, h6⟩⟩
      · exact ⟨F4, ρ4, _, se4, h5, fun F5 H5 σ5 x5 se5 => ⟨hlt, F5, ρ', x4.trans x5, se5, h6⟩⟩
      · exact ⟨F4, ρ4, _, se4, h5, fun F5 H5 σ5 x5 se5 => p1 F5 H5 σ5 (x4.trans x5) se5⟩
      · exact ⟨F4, ρ4, _, se4, h5, fun F5 H5 v x5 g5 r5 => p1 F5 H5 v (x4.trans x5) g5 r5⟩
    · have ei : i = items.length := by omega
      subst ei
      rw [List.drop_length] at e2
      cases e2
      exact .inl ⟨ok.stop F2 H2 _ x2 se2.re.le (Nat.le_refl _), p1 F2 H2 σ2 x2 se2⟩

/-! ### while -/
def whileN (t : Env → Option Bool) (body : Env → Option Out) : Nat → Env → Option Out
  | 0, _ => none
  | n + 1, ρ => match t ρ with
    | some false => some (.nx ρ)
    | some true => match body ρ with
      | some (.nx ρ') => whileN t body n ρ'
      | some (.ct ρ') => whileN t body n ρ'
      | some (.bk ρ') => some (.nx ρ')
      | some (.rt d) => some (.rt d)
      | none => none
    | none => none
noncomputable def sWhile (t : Env → Option Bool) (body : Env → Option Out) : Env → Option Out := by
  classical exact fun ρ => if h : ∃ n o, whileN t body n ρ = some o then some (Classical.choose (Classical.choose_spec h)) else none
theorem whileN_succ {t : Env → Option Bool} {body : Env → Option Out} : ∀ {n : Nat} {ρ : Env} {o : Out}, whileN t body n ρ = some o → whileN t body (n + 1) ρ = some o
  | 0, _, _, h => by cases h
  | n + 1, ρ, o, h => by
    unfold whileN at h ⊢
    split at h
    · rename_i h1; exact h
    · rename_i h1
      show (match body ρ with
        | some (.nx ρ') => whileN t body (n + 1) ρ'
        | some (.ct ρ') => whileN t body (n + 1) ρ'
        | some (.bk ρ') => some (.nx ρ')
        | some (.rt d) => some (.rt d)
        | none => none) = some o
      split at h
      · rename_i h2; exact whileN_succ h
      · rename_i h2; exact whileN_succ h
      · rename_i h2; exact h
      · rename_i h2; exact h
      · cases h
    · cases h
theorem whileN_le {t : Env → Option Bool} {body : Env → Option Out} {n m : Nat} {ρ : Env} {o : Out} (h : whileN t body n ρ = some o) (hm : n ≤ m) : whileN t body m ρ = some o := by
  induction hm with
  | refl => exact h
  | step _ ih => exact whileN_succ ih
theorem sWhile_of {t : Env → Option Bool} {body : Env → Option Out} {n : Nat} {ρ : Env} {o : Out} (h : whileN t body n ρ = some o) : sWhile t body ρ = some o := by
  unfold sWhile
  have hx : ∃ n o, whileN t body n ρ = some o := ⟨n, o, h⟩
  rw [dif_pos hx]
  have h2 := Classical.choose_spec (Classical.choose_spec hx)
  have h3 := whileN_le h2 (Nat.le_max_left _ n)
  have h4 := whileN_le h (Nat.le_max_right (Classical.choose hx) n)
  rw [← h3, ← h4]
theorem sWhile_dec {t : Env → Option Bool} {body : Env → Option Out} {ρ : Env} {o : Out} (h : sWhile t body ρ = some o) : ∃ n, whileN t body n ρ = some o := by
  unfold sWhile at h
  split at h
  · rename_i hx
    cases h
    exact ⟨_, Classical.choose_spec (Classical.choose_spec hx)⟩
  · cases h
/-- one turn -/
theorem sWhile_true {t : Env → Option Bool} {body : Env → Option Out} {ρ ρ' : Env} {o : Out} (h1 : t ρ = some true) (h2 : body ρ = some (.nx ρ')) (h3 : sWhile t body ρ' = some o) : sWhile t body ρ = some o := by
  obtain ⟨n, h⟩ := sWhile_dec h3
  refine sWhile_of (n := n + 1) ?_
  unfold whileN
  rw [h1]
  show (match body ρ with
    | some (.nx ρ') => whileN t body n ρ'
    | some (.ct ρ') => whileN t body n ρ'
    | some (.bk ρ') => some (.nx ρ')
    | some (.rt d) => some (.rt d)
    | none => none) = some o
  rw [h2]
  exact h
theorem sWhile_ret {t : Env → Option Bool} {body : Env → Option Out} {ρ : Env} {d : D} (h1 : t ρ = some true) (h2 : body ρ = some (.rt d)) : sWhile t body ρ = some (.rt d) := by
  refine sWhile_of (n := 1) ?_
  unfold whileN
  rw [h1]
  show (match body ρ with
    | some (.nx ρ') => whileN t body 0 ρ'
    | some (.ct ρ') => whileN t body 0 ρ'
    | some (.bk ρ') => some (.nx ρ')
    | some (.rt d) => some (.rt d)
    | none => none) = some (.rt d)
  rw [h2]
theorem sWhile_false {t : Env → Option Bool} {body : Env → Option Out} {ρ : Env} (h1 : t ρ = some false) : sWhile t body ρ = some (.nx ρ) := by
  refine sWhile_of (n := 1) ?_
  unfold whileN
  rw [h1]
theorem ds_while {c : Expr} (hp : PassesOwn (model X.prog X.w) X.A X.env X.xe) (hc : DT cm X c fb) (hb : DSs cm F0 H0 X body fs) : DS cm F0 H0 X (.While c body [] pos) (sWhile fb fs) :=
  PS.imp (ps_while hp hc hb) fun Dn σ H ⟨F, ρ, o, se, e, p⟩ => by
    obtain ⟨n, hn⟩ := sWhile_dec e
    refine ⟨fun m σ2 H2 => ∃ F2 ρ2, Ex F F2 ∧ SE X.K cm F0 H0 F2 H2 σ2 ρ2 ∧ whileN fb fs m ρ2 = some o, ⟨n, F, ρ, Ex.refl _, se, hn⟩, ?_⟩
    rintro m σ2 H2 ⟨F2, ρ2, x2, se2, e2⟩
    cases m with
    | zero => cases e2
    | succ m =>
      unfold whileN at e2
      split at e2
      · rename_i h1
        cases e2
        exact ⟨F2, ρ2, false, se2.re, h1, fun F3 H3 g3 => ifF (p F3 H3 σ2 (x2.trans g3.fx) (se2.gr g3))⟩
      · rename_i h1
        refine ⟨F2, ρ2, true, se2.re, h1, fun F3 H3 g3 => ifT ⟨fun σ' H' => ∃ F4 ρ4, Ex F F4 ∧ SE X.K cm F0 H0 F4 H' σ' ρ4 ∧ whileN fb fs m ρ4 = some o, fun σ' H' h => ⟨m, Nat.lt_succ_self _, h⟩, ?_⟩⟩
        have x3 := x2.trans g3.fx
        split at e2
        · rename_i ρ' h2
          exact ⟨F3, ρ2, _, se2.gr g3, h2, fun F5 H5 σ5 x5 se5 => ⟨F5, ρ', x3.trans x5, se5, e2⟩⟩
        · rename_i ρ' h2
          exact ⟨F3, ρ2, _, se2.gr g3, h2, fun F5 H5 σ5 x5 se5 => ⟨F5, ρ', x3.trans x5, se5, e2⟩⟩
        · rename_i ρ' h2
          cases e2
          exact ⟨F3, ρ2, _, se2.gr g3, h2, fun F5 H5 σ5 x5 se5 => p F5 H5 σ5 (x3.trans x5) se5⟩
        · rename_i d h2
          cases e2
          exact ⟨F3, ρ2, _, se2.gr g3, h2, fun F5 H5 v x5 g5 r5 => p F5 H5 v (x3.trans x5) g5 r5⟩
        · cases e2
      · cases e2
end

/-! ### borrowing: reading what is one's own for a flat answer -/
def frzA (ρ : Env) : Env := ρ.map fun s => match ofS s with
  | some d => .va d
  | none => s
def isFl : D → Bool
  | .non => true | .bl _ => true | .int _ => true | .str _ => true
  | _ => false
theorem Rep.fl {K : PySem.W.Frag} {cm : Nat → Addr} {F F' : Hp} {v : V} {d : D} (r : Rep K cm F v d) (h : isFl d = true) : Rep K cm F' v d := by
  cases r with
  | non => exact .non
  | bl b => exact .bl b
  | int i => exact .int i
  | str x => exact .str x
  | lst _ _ => cases h
  | tup _ _ => cases h
  | scr _ => cases h
  | dI _ _ => cases h
  | dT _ _ => cases h
  | ins _ _ => cases h
theorem RE.frzA {K : PySem.W.Frag} {cm : Nat → Addr} {F H : Hp} {σ : L2.St} {ρ : Env} (r : RE K cm F H σ ρ) : ∃ F', Ex F F' ∧ RE K cm F' H σ (frzA ρ) := by
  classical
  let F' : Hp := fun a => if (∃ (i : Nat) (s : Sl), ρ[i]? = some s ∧ s.own = true ∧ σ[i]? = some (some (.ref a))) then H a else F a
  have inn : ∀ (a : Addr) (i : Nat) (s : Sl), ρ[i]? = some s → s.own = true → σ[i]? = some (some (.ref a)) → F' a = H a := fun a i s h1 h2 h3 => if_pos ⟨i, s, h1, h2, h3⟩
  have fx : Ex F F' := fun a o e => by
    show (if (∃ (i : Nat) (s : Sl), ρ[i]? = some s ∧ s.own = true ∧ σ[i]? = some (some (.ref a))) then H a else F a) = some o
    split
    · exact r.le a o e
    · exact e
  have le : Ex F' H := fun a o e => by
    have e' : (if (∃ (i : Nat) (s : Sl), ρ[i]? = some s ∧ s.own = true ∧ σ[i]? = some (some (.ref a))) then H a else F a) = some o := e
    split at e'
    · exact e'
    · exact r.le a o e'
  have nown : ∀ s : Sl, (match ofS s with | some d => Sl.va d | none => s).own = false := fun s => by cases s <;> rfl
  refine ⟨F', fx, le, by unfold DL.frzA; simp [r.len], fun i x s h1 h2 => ?_, fun i j a s t hij h1 h2 h3 h4 hs ht => ?_⟩
  · unfold DL.frzA at h2
    rw [List.getElem?_map] at h2
    cases h3 : ρ[i]? with
    | none => rw [h3] at h2; cases h2
    | some t =>
      rw [h3] at h2
      have q := r.sl i x t h1 h3
      cases ht : t.own with
      | false =>
        cases t with
        | no => cases h2; trivial
        | va d => cases h2; obtain ⟨v, q1, q2⟩ := q; exact ⟨v, q1, q2.up fx⟩
        | ol xs => cases ht
        | oI xs => cases ht
        | oT xs => cases ht
        | oi b t fs => cases ht
      | true =>
        obtain ⟨a, o, e1, e2, e3, e4⟩ := SlR.own ht q
        subst e1
        have ha := inn a i t h3 ht h1
        have key : ∀ d, ofS t = some d → Rep K cm F' (.ref a) d := fun d hd => by
          have := e4.rep hd e3
          refine this.up fun b u eb => ?_
          by_cases z : b = a
          · subst z; rw [upd_same] at eb; rw [ha, e2]; exact eb
          · rw [upd_ne z] at eb; exact fx b u eb
        cases t with
        | no => cases ht
        | va d => cases ht
        | ol xs => cases h2; exact ⟨_, rfl, key _ rfl⟩
        | oI xs => cases h2; exact ⟨_, rfl, key _ rfl⟩
        | oT xs => cases h2; exact ⟨_, rfl, key _ rfl⟩
        | oi b t fs => cases h2; exact ⟨_, rfl, key _ rfl⟩
  · unfold DL.frzA at h3
    rw [List.getElem?_map] at h3
    cases h5 : ρ[i]? with
    | none => rw [h5] at h3; cases h3
    | some u =>
      rw [h5] at h3
      have h6 : (match ofS u with | some d => Sl.va d | none => u) = s := Option.some.inj h3
      rw [← h6, nown] at hs
      cases hs
def eBw (f : Env → Option D) : Env → Option D := fun ρ => match f (frzA ρ) with
  | some d => if isFl d = true then some d else none
  | none => none
def bBw (f : Env → Option Bool) : Env → Option Bool := fun ρ => f (frzA ρ)
section
variable {cm : Nat → Addr} {X : Cx} {e : Expr} {f : Env → Option D} {fb : Env → Option Bool}
theorem de_bw (h : DE cm X e f) : DE cm X e (eBw f) := PE.imp h fun σ H Q ⟨F, ρ, d, re, e, q⟩ => by
  obtain ⟨F', fx, re'⟩ := re.frzA
  unfold eBw at e
  split at e
  · rename_i d' h1
    split at e
    · rename_i hf
      cases e
      exact ⟨F', _, d, re', h1, fun F1 H1 v g1 r1 => q F H1 v ⟨g1.ex, Ex.refl _, re.le.trans g1.ex, fun a ha => .inl rfl⟩ (r1.fl hf)⟩
    · cases e
  · cases e
theorem dt_bw (h : DT cm X e fb) : DT cm X e (bBw fb) := PT.imp h fun σ H Q ⟨F, ρ, d, re, e, q⟩ => by
  obtain ⟨F', fx, re'⟩ := re.frzA
  exact ⟨F', _, d, re', e, fun F1 H1 g1 => q F H1 ⟨g1.ex, Ex.refl _, re.le.trans g1.ex, fun a ha => .inl rfl⟩⟩
/-- x[k], x one's own list -/
def eIxO (i : Nat) (k : Env → Option D) : Env → Option D := fun ρ => match ρ[i]? with
  | some (.ol xs) => (k ρ).bind fun j => ixD (.lst xs) j
  | _ => none
theorem de_ixO {i : Nat} {x : Str} {px pos : Pos} {ke : Expr} {k : Env → Option D} (hv : PE X (.Name x px) (tVar i)) (hk : DE cm X ke k) (hs : PlainIx ke) : DE cm X (.Subscript (.Name x px) ke pos) (eIxO i k) :=
  PE.imp (pe_ix ix_list hv hk hs) fun σ H Q ⟨F, ρ, d, re, e, q⟩ => by
    unfold eIxO at e
    split at e
    · rename_i xs h1
      cases h2 : k ρ with
      | none => rw [h2] at e; cases e
      | some j =>
        rw [h2] at e
        have e' : ixD (.lst xs) j = some d := e
        unfold ixD at e'
        split at e'
        · rename_i ys z h3
          cases h3
          obtain ⟨xo, h6, a, u, h7, h8, h9, vs, h10, r⟩ := re.at h1
          subst h7; subst h10
          refine ⟨.ref a, h6, F, ρ, _, re, h2, fun F1 H1 w g1 r1 => ?_⟩
          cases r1
          obtain ⟨v, h4, h5⟩ := (r.up g1.fx).atI e'
          exact ⟨a, vs, _, v, rfl, rfl, SqL.of (g1.ex _ _ h8), h4, q F1 H1 v g1 h5⟩
        · rename_i h3; cases h3
        · rename_i h3; cases h3
        · cases e'
    · cases e
end
end DL

/-! D9: defs of the text, instances, their fields and operators. -/
namespace DL
open PySem PySem.Spec L2 PyProof.Rows

/-- a def's promise upon data -/
def spD (K : PySem.W.Frag) (cm : Nat → Addr) (G : List D → Option D) : Sp := fun vs H Q _ =>
  ∃ F ds d, Ex F H ∧ Reps K cm F vs ds ∧ G ds = some d ∧ ∀ F' H' v, Gr F H F' H' → Rep K cm F' v d → Q v H'
def startD (N : List Str) (ds : List D) : Env := ds.map Sl.va ++ List.replicate (N.length - ds.length) Sl.no
section
variable {K : PySem.W.Frag} {cm : Nat → Addr} {F H : Hp}
theorem re_start {N : List Str} {vs : List V} {ds : List D} (le : Ex F H) (r : Reps K cm F vs ds) : RE K cm F H (L2.start N vs) (startD N ds) := by
  have hl := r.length
  refine ⟨le, by unfold L2.start startD; simp [hl], fun i x s h1 h2 => ?_, fun i j a s t hij h1 h2 h3 h4 hs ht => ?_⟩
  · unfold L2.start at h1
    unfold startD at h2
    by_cases hi : i < ds.length
    · rw [List.getElem?_append_left (by simpa using hi), List.getElem?_map] at h2
      rw [List.getElem?_append_left (by simpa [hl] using hi), List.getElem?_map] at h1
      cases h3 : ds[i]? with
      | none => rw [h3] at h2; cases h2
      | some d =>
        rw [h3] at h2
        cases h2
        obtain ⟨v, h4, h5⟩ := r.get h3
        rw [h4] at h1
        cases h1
        exact ⟨v, rfl, h5⟩
    · rw [List.getElem?_append_right (by simpa using hi), List.getElem?_replicate] at h2
      split at h2
      · cases h2; trivial
      · cases h2
  · unfold startD at h3
    by_cases hi : i < ds.length
    · rw [List.getElem?_append_left (by simpa using hi), List.getElem?_map] at h3
      cases h5 : ds[i]? with
      | none => rw [h5] at h3; cases h3
      | some d => rw [h5] at h3; cases h3; cases hs
    · rw [List.getElem?_append_right (by simpa using hi), List.getElem?_replicate] at h3
      split at h3
      · cases h3; cases hs
      · cases h3
theorem startD_noown {N : List Str} {ds : List D} {i : Nat} {s : Sl} (h : (startD N ds)[i]? = some s) (hs : s.own = true) : False := by
  unfold startD at h
  by_cases hi : i < ds.length
  · rw [List.getElem?_append_left (by simpa using hi), List.getElem?_map] at h
    cases h5 : ds[i]? with
    | none => rw [h5] at h; cases h
    | some d => rw [h5] at h; cases h; cases hs
  · rw [List.getElem?_append_right (by simpa using hi), List.getElem?_replicate] at h
    split at h
    · cases h; cases hs
    · cases h
end

/-- what a body gives back: a return, or its end -/
def Ends1 (b : Env → Option Out) (ρ : Env) (d : D) : Prop := b ρ = some (.rt d) ∨ (d = .non ∧ ∃ ρ', b ρ = some (.nx ρ'))
section
variable {P : Program} {w : World} {K : PySem.W.Frag} {mg : Str → Option Value} {base : Heap} {cm : Nat → Addr}
/-- THE RULE for a def upon data -/
theorem fnd {x qual : Str} {st : Stmt} {f : Addr} {fd : FuncData} {N ps : List Str} {k : Nat} {G : List D → Option D} {b : Env → Option Out} (Fn : Fun K x qual st f fd) (S : FnScope N ps (defScope st)) (hl : ∀ ds d, G ds = some d → ds.length = ps.length)
    (hG : ∀ ds d, G ds = some d → Ends1 b (startD N ds) d)
    (hb : ∀ (cdv : Value) (A : Around) (outer : List PySem.Env) (s : Shared) (H : Hp) (E : XK) (F0 : Hp), Room k (A.deeper (envOfC qual (defScope st) s.heap.objs.size f cdv)) →
      DSs cm F0 H (cxOf CX0 P w K mg base N qual (defScope st) f cdv A outer s H E).nox (defBody st) b) : FnOk P w K mg base CX0 (k + 1) f fd ps (spD K cm G) := by
  refine Fn.ok S (fun vs H Q E h => ?_) (fun cdv A outer s H vs Q E hr h => ?_)
  · obtain ⟨F, ds, d, le, r, e, _⟩ := h
    rw [r.length]; exact hl ds d e
  · obtain ⟨F, ds, d, le, r, e, q⟩ := h
    refine ⟨_, hb cdv A outer s H E F hr, ?_⟩
    have se : SE K cm F H F H (L2.start N vs) (startD N ds) := ⟨re_start le r, Gr.refl le, fun i a s h1 h2 h3 => (startD_noown h1 h2).elim⟩
    rcases hG ds d e with h1 | ⟨rfl, ρ', h1⟩
    · exact ⟨F, _, .rt d, se, h1, fun F' H' v x g rr => q F' H' v g rr⟩
    · exact ⟨F, _, .nx ρ', se, h1, fun F' H' σ' x se' => q F' H' _ se'.g .non⟩
end

section
variable {cm : Nat → Addr} {X : Cx} {e o a b : Expr} {es : List Expr} {fa : Env → Option (List D)} {f g : Env → Option D} {pos p apos : Pos} {k : Nat} {fn C : Addr} {fd : FuncData} {ps : List Str} {x : Str} {G : List D → Option D}
theorem de_call (Fn : FnOk X.prog X.w X.K X.mg X.base CX0 k fn fd ps (spD X.K cm G)) (hr : Room k X.A) (hg : Gl X x) (hm : X.mg x = some (.ref fn)) (hk : PySem.W.keepIn X.K (.ref fn) = true) (hb : Binds X.K fd ps [])
    (ha : DA cm X (e :: es) fa) (hdb : (x == ("__debug__" : Str)) = false := by decide) (he : starEach (e :: es) X.env = (false, eval e X.env) :: starEach es X.env := by rfl) (hpl : (backTo pos (starEach es X.env)).any (·.1) = false := by rfl) :
    DE cm X (.Call (.Name x p) (e :: es) [] pos) (eCall G fa) :=
  PE.imp (pe_call Fn hr hg hm hk hb .nil pass0 ha hdb he hpl) fun σ H Q ⟨F, ρ, d, re, e, q⟩ => by
    unfold eCall at e
    cases h1 : fa ρ with
    | none => rw [h1] at e; cases e
    | some ds =>
      rw [h1] at e
      refine ⟨F, ρ, ds, re, h1, fun F1 H1 vs g1 r1 => ?_⟩
      show spD X.K cm G (vs ++ []) H1 Q E0
      rw [List.append_nil]
      exact ⟨F1, ds, d, g1.le, r1, e, fun F2 H2 v g2 r2 => q F2 H2 v (g1.trans g2) r2⟩

/-! ### fields -/
def lookF (n : Nat) : List (Nat × D) → Option D
  | [] => none
  | (m, d) :: r => if n = m then some d else lookF n r
def putFD (n : Nat) (d : D) : List (Nat × D) → List (Nat × D)
  | [] => [(n, d)]
  | (m, e) :: r => if m = n then (m, d) :: r else (m, e) :: putFD n d r
theorem RepF.look {K : PySem.W.Frag} {F : Hp} {n : Nat} (hn : n < 21) : ∀ {vf : List (Str × V)} {fs : List (Nat × D)} {d : D}, RepF K cm F vf fs → lookF n fs = some d → ∃ v, vf.lookup (atr n) = some v ∧ Rep K cm F v d
  | _, _, _, .nil, h => by cases h
  | _, _, d, @RepF.cons _ _ _ m v vs d' ds hm h1 h2, h => by
    have h' : (if n = m then some d' else lookF n ds) = some d := h
    rw [List.lookup_cons, atr_inj n hn m hm]
    by_cases hnm : n = m
    · rw [if_pos hnm] at h'
      cases h'
      exact ⟨v, by rw [decide_eq_true hnm], h1⟩
    · rw [if_neg hnm] at h'
      obtain ⟨v', h3, h4⟩ := RepF.look hn h2 h'
      exact ⟨v', by rw [decide_eq_false hnm]; exact h3, h4⟩
theorem RepF.put {K : PySem.W.Frag} {F : Hp} {n : Nat} (hn : n < 21) {v : V} {d : D} (r : Rep K cm F v d) : ∀ {vf : List (Str × V)} {fs : List (Nat × D)}, RepF K cm F vf fs → RepF K cm F (putF (atr n) v vf) (putFD n d fs)
  | _, _, .nil => .cons hn r .nil
  | _, _, @RepF.cons _ _ _ m v' vs d' ds hm h1 h2 => by
    show RepF K cm F (if atr m = atr n then (atr m, v) :: vs else (atr m, v') :: putF (atr n) v vs) (if m = n then (m, d) :: ds else (m, d') :: putFD n d ds)
    have e := atr_inj m hm n hn
    by_cases hnm : m = n
    · rw [if_pos hnm, if_pos (by rw [hnm])]
      exact .cons hm r h2
    · rw [if_neg hnm, if_neg (fun z => by rw [z] at e; simp [hnm] at e)]
      exact .cons hm h1 (RepF.put hn r h2)
theorem RepF.length {K : PySem.W.Frag} {F : Hp} : ∀ {vf : List (Str × V)} {fs : List (Nat × D)}, RepF K cm F vf fs → vf.length = fs.length
  | _, _, .nil => rfl
  | _, _, .cons _ _ h => by simp [RepF.length h]
theorem RepF.none {K : PySem.W.Frag} {F : Hp} {m : Str} (hm : ∀ n, n < 21 → (m == atr n) = false) : ∀ {vf : List (Str × V)} {fs : List (Nat × D)}, RepF K cm F vf fs → vf.lookup m = Option.none
  | _, _, .nil => rfl
  | _, _, .cons h0 h1 h2 => by
    rw [List.lookup_cons, hm _ h0]
    exact RepF.none hm h2
def eFld (n : Nat) (f : Env → Option D) : Env → Option D := fun ρ => match f ρ with
  | some (.ins _ fs) => lookF n fs
  | _ => Option.none
theorem de_fld {n : Nat} (hn : n < 21) (hx : x = atr n) (hc : ∀ t, Cls X.K (cm t)) (ha : ∀ t, NoAttr X.K (cm t) (atr n)) (h : DE cm X e f) (hb : attributeBase e x X.env (eval e X.env) = eval e X.env := by rfl) : DE cm X (.Attribute e x pos) (eFld n f) :=
  PE.imp (pe_fld h hb) fun σ H Q ⟨F, ρ, d, re, e, q⟩ => by
    unfold eFld at e
    split at e
    · rename_i t fs h1
      refine ⟨F, ρ, _, re, h1, fun F1 H1 v g1 r1 => ?_⟩
      cases r1 with | @ins a dx vf _ _ h2 r2 =>
      obtain ⟨v, h3, h4⟩ := r2.look hn e
      exact ⟨a, cm t, dx, vf, v, rfl, g1.le _ _ h2, hc t, by rw [hx]; exact ha t, by rw [hx]; exact h3, q F1 H1 v g1 h4⟩
    · cases e

/-! ### an instance made: __init__ -/
def hid (H : Hp) (x : Addr) : Hp := fun a => if a = x then Option.none else H a
theorem hid_at (H : Hp) (x : Addr) : hid H x x = Option.none := by unfold hid; rw [if_pos rfl]
theorem hid_ne (H : Hp) {x a : Addr} (h : a ≠ x) : hid H x a = H a := by unfold hid; rw [if_neg h]
theorem hid_ex (H : Hp) (x : Addr) : Ex (hid H x) H := fun a o e => by
  by_cases z : a = x
  · subst z; rw [hid_at] at e; cases e
  · rw [hid_ne H z] at e; exact e
def spI (K : PySem.W.Frag) (cm : Nat → Addr) (t : Nat) (G : List D → Option (List (Nat × D))) : Sp := fun vs H Q _ =>
  ∃ F x dx ws ds fs, vs = .ref x :: ws ∧ H x = some (.ins (cm t) dx []) ∧ F x = Option.none ∧ Ex F H ∧ Reps K cm F ws ds ∧ G ds = some fs ∧
    ∀ F' H' dx' vf, Gr F (hid H x) F' H' → H' x = some (.ins (cm t) dx' vf) → F' x = Option.none → RepF K cm F' vf fs → Q .non H'
end
section
variable {P : Program} {w : World} {K : PySem.W.Frag} {mg : Str → Option Value} {base : Heap} {cm : Nat → Addr}
def startI (N : List Str) (a : Addr) (t : Nat) (ds : List D) : Env := setS (startD N (.non :: ds)) 0 (.oi a t [])
/-- THE RULE for an __init__ -/
theorem fni {x qual : Str} {st : Stmt} {f : Addr} {fd : FuncData} {N ps : List Str} {k t : Nat} {G : List D → Option (List (Nat × D))} {b : Env → Option Out} (Fn : Fun K x qual st f fd) (S : FnScope N ps (defScope st)) (hl : ∀ ds d, G ds = some d → ds.length + 1 = ps.length)
    (hG : ∀ ds fs a, G ds = some fs → ∃ ρ', b (startI N a t ds) = some (.nx ρ') ∧ ρ'[0]? = some (.oi a t fs))
    (hb : ∀ (cdv : Value) (A : Around) (outer : List PySem.Env) (s : Shared) (H H0 : Hp) (E : XK) (F0 : Hp), Room k (A.deeper (envOfC qual (defScope st) s.heap.objs.size f cdv)) →
      DSs cm F0 H0 (cxOf CX0 P w K mg base N qual (defScope st) f cdv A outer s H E).nox (defBody st) b) : FnOk P w K mg base CX0 (k + 1) f fd ps (spI K cm t G) := by
  refine Fn.ok S (fun vs H Q E h => ?_) (fun cdv A outer s H vs Q E hr h => ?_)
  · obtain ⟨F, y, dx, ws, ds, fs, rfl, _, _, _, r, e, _⟩ := h
    rw [List.length_cons, r.length]; exact hl ds fs e
  · obtain ⟨F, y, dx, ws, ds, fs, rfl, hy, fy, le, r, e, q⟩ := h
    refine ⟨_, hb cdv A outer s H (hid H y) E F hr, ?_⟩
    obtain ⟨ρ', h1, h2⟩ := hG ds fs y e
    have le0 : Ex F (hid H y) := fun c o ec => by
      rw [hid_ne H (fun z => by subst z; rw [fy] at ec; cases ec)]; exact le c o ec
    have re0 : RE K cm F H (L2.start N (.non :: ws)) (startD N (.non :: ds)) := re_start le (.cons .non r)
    have hσ : (L2.start N (.ref y :: ws)) = (L2.start N (.non :: ws)).set 0 (some (.ref y)) := by
      unfold L2.start; simp
    have re1 : RE K cm F H (L2.start N (.ref y :: ws)) (startI N y t ds) := by
      rw [hσ]
      exact re0.setOwn 0 hy fy ⟨rfl, dx, [], rfl, .nil⟩ fun j u h3 h4 h5 => (startD_noown h4 h5).elim
    have se : SE K cm F (hid H y) F H (L2.start N (.ref y :: ws)) (startI N y t ds) := by
      refine ⟨re1, ⟨hid_ex H y, Ex.refl F, le, fun c hc => .inl rfl⟩, fun i a u h3 h4 h5 => ?_⟩
      unfold startI setS at h3
      cases i with
      | zero =>
        rw [hσ] at h5
        have : 0 < (L2.start N (.non :: ws)).length := by unfold L2.start; simp
        rw [List.getElem?_set_self this] at h5
        cases h5
        exact hid_at H _
      | succ i =>
        rw [List.getElem?_set_ne (by omega)] at h3
        exact (startD_noown h3 h4).elim
    refine ⟨F, _, .nx ρ', se, h1, fun F' H' σ' ex' se' => ?_⟩
    obtain ⟨xo, h3, a, o, h4, h5, h6, rfl, dx', vf, h7, r7⟩ := se'.re.at h2
    subst h4; subst h7
    exact q F' H' dx' vf se'.g h5 h6 r7
end
end DL

/-! D10: instances made, their fields stored, own operators, static methods. -/
namespace DL
open PySem PySem.Spec L2 PyProof.Rows
section
variable {cm : Nat → Addr} {F0 H0 : Hp} {X : Cx} {e o a b : Expr} {es : List Expr} {fa : Env → Option (List D)} {f g : Env → Option D} {pos p apos : Pos} {k : Nat} {fn C : Addr} {fd : FuncData} {ps : List Str} {x : Str} {G : List D → Option D}

/-- C(..) -/
def eMake (t : Nat) (G : List D → Option (List (Nat × D))) (fa : Env → Option (List D)) : Env → Option D := fun ρ => (fa ρ).bind fun ds => (G ds).map (D.ins t)
theorem de_make {t : Nat} {G : List D → Option (List (Nat × D))} (M : Mk X.K (cm t) fn) (Fn : FnOk X.prog X.w X.K X.mg X.base CX0 k fn fd ps (spI X.K cm t G)) (hr : Room (k + 1) X.A) (hg : Gl X x) (hm : X.mg x = some (.ref (cm t))) (hb : Binds X.K fd ps [])
    (ha : DA cm X (e :: es) fa) (hdb : (x == ("__debug__" : Str)) = false := by decide) (he : starEach (e :: es) X.env = (false, eval e X.env) :: starEach es X.env := by rfl) (hpl : (backTo pos (starEach es X.env)).any (·.1) = false := by rfl) :
    DE cm X (.Call (.Name x p) (e :: es) [] pos) (eMake t G fa) :=
  PE.imp (pe_make M Fn hr hg hm hb .nil pass0 ha hdb he hpl) fun σ H Q ⟨F, ρ, d, re, e, q⟩ => by
    unfold eMake at e
    cases h1 : fa ρ with
    | none => rw [h1] at e; cases e
    | some ds =>
    rw [h1] at e
    have e' : (G ds).map (D.ins t) = some d := e
    cases h2 : G ds with
    | none => rw [h2] at e'; cases e'
    | some fs =>
    rw [h2] at e'
    cases e'
    refine ⟨F, ρ, ds, re, h1, fun F1 H1 vs g1 r1 y dx hy hdx hne => ?_⟩
    have fy := none_of_none g1.le hy
    have fdx := none_of_none g1.le hdx
    have ex2 : Ex H1 (hid (upd (upd H1 dx (.own y)) y (.ins (cm t) dx [])) y) := fun c u ec => by
      rw [hid_ne _ (ne_of_none ec hy), upd_ne (ne_of_none ec hy), upd_ne (ne_of_none ec hdx)]; exact ec
    refine ⟨F1, y, dx, vs ++ [], ds, fs, rfl, upd_same, fy, ?_, by rw [List.append_nil]; exact r1, h2, fun F2 H2 dx' vf g2 hy2 fy2 r2 => ⟨rfl, ?_⟩⟩
    · intro c u ec
      rw [upd_ne (fun z => by rw [z, fy] at ec; cases ec), upd_ne (fun z => by rw [z, fdx] at ec; cases ec)]
      exact g1.le c u ec
    · have g12 : Gr F1 H1 F2 H2 := ⟨ex2.trans g2.ex, g2.fx, g2.le, fun c hc => by
        cases ec : H1 c with
        | none => exact absurd ec hc
        | some u =>
          have ec2 := ex2 c u ec
          rcases g2.old c (by rw [ec2]; simp) with z | ⟨xs, z⟩
          · exact .inl z
          · rw [ec2] at z; cases z; exact .inr ⟨xs, rfl⟩⟩
      have gg := (g1.trans g12).frz (p := y) (o := .ins (cm t) dx' vf) (by
        cases ec : H y with
        | none => rfl
        | some u => rw [g1.ex y u ec] at hy; cases hy) fy2 hy2
      exact q _ _ _ gg (.ins upd_same (r2.up (Ex.new fy2)))

/-- self.f = e -/
def sFldSet (i n : Nat) (f : Env → Option D) : Env → Option Out := fun ρ => match ρ[i]? with
  | some (.oi a t fs) => (f ρ).bind fun d => if fs.length < 100 then some (.nx (setS ρ i (.oi a t (putFD n d fs)))) else none
  | _ => none
theorem ds_fldset {i n : Nat} {y : Str} {px pos' : Pos} (hn : n < 21) (hx : x = atr n) (hc : ∀ t, Cls X.K (cm t)) (ha : ∀ t, NoAttr X.K (cm t) (atr n)) (hv : PE X (.Name y px) (tVar i)) (he : DE cm X e f)
    (hs : swapsWith e (some (.Attribute (.Name y px) x pos')) pos.line X.env = pure false := by rfl) : DS cm F0 H0 X (.Assign [.Attribute (.Name y px) x pos'] e pos) (sFldSet i n f) :=
  PS.imp (ps_fld hv he hs) fun Dn σ H ⟨F, ρ, o, se, e, p⟩ => by
    unfold sFldSet at e
    split at e
    · rename_i a0 t fs h1
      cases h5 : f ρ with
      | none => rw [h5] at e; cases e
      | some d =>
        rw [h5] at e
        have e' : (if fs.length < 100 then some (Out.nx (setS ρ i (.oi a0 t (putFD n d fs)))) else none) = some o := e
        split at e'
        · rename_i hl
          cases e'
          refine ⟨F, ρ, d, se.re, h5, fun F1 H1 v g1 r1 => ?_⟩
          obtain ⟨xo, h6, a, u, h7, h8, h9, rfl, dx, vf, h10, r⟩ := (se.re.gr g1).at h1
          subst h7; subst h10
          refine ⟨.ref a, h6, a, cm t, dx, vf, rfl, h8, hc t, by rw [hx]; exact ha t, by rw [r.length]; omega, ?_⟩
          rw [hx]
          exact p F1 _ σ g1.fx ((se.gr g1).mut h6 h1 rfl ⟨rfl, dx, _, rfl, r.put hn r1⟩)
        · cases e'
    · cases e

/-! ### own operators -/
/-- a method by its name, called with the instance and one more -/
structure Op2 (K : PySem.W.Frag) (C f : Addr) (nm : Str) : Prop where
  at_ : PySem.W.findIn K (.ref C) nm = some (some (.ref f))
  fn : PySem.W.isFn K (.ref f) = true
theorem run_d {pins : List (Addr × Obj)} {σ : L2.St} {H : Hp} {s : Shared} {Q : VK} {us : List Value} {vs : List V} {ds : List D} {d : D} {F : Hp} (Fn : FnOk X.prog X.w X.K X.mg X.base CX0 k fn fd ps (spD X.K cm G)) (hr : Room k X.A) (hb : Binds X.K fd ps []) (I : Inv X pins σ H s) (r : Vals vs us)
    (le : Ex F H) (rs : Reps X.K cm F vs ds) (e : G ds = some d) (q : ∀ F' H' v, Gr F H F' H' → Rep X.K cm F' v d → Q v H') : wpAny (model X.prog X.w) X.A (call (.ref fn) us) (EP X pins σ Q) X.xe s :=
  run_fn Fn hr hb .nil pass0 I r (by rw [List.append_nil]; exact ⟨F, ds, d, le, rs, e, q⟩)
/-- o in r, r an instance with __contains__ -/
def inOwnD (G : List D → Option D) : D → D → Option D := fun x y => match y with
  | .ins 0 fs => match G [.ins 0 fs, x] with
    | some (.bl b) => some (.bl b)
    | _ => none
  | _ => none
def eInOwn (G : List D → Option D) (f g : Env → Option D) : Env → Option D := eOp (inOwnD G) f g
def rInOwn (K : PySem.W.Frag) (cm : Nat → Addr) (G : List D → Option D) : R2 := fun x y H Q => ∃ F dx dy d, Ex F H ∧ Rep K cm F x dx ∧ Rep K cm F y dy ∧ inOwnD G dx dy = some d ∧ ∀ F' H' v, Gr F H F' H' → Rep K cm F' v d → Q v H'
theorem od_inOwn {K : PySem.W.Frag} : OpD K cm (rInOwn K cm G) (inOwnD G) := fun F H x y dx dy d Q le lo rx ry e q => ⟨F, dx, dy, d, le, rx, ry, e, q⟩
theorem inOwnD_dec {x y d : D} (h : inOwnD G x y = some d) : ∃ fs b, y = .ins 0 fs ∧ d = .bl b ∧ G [.ins 0 fs, x] = some (.bl b) := by
  unfold inOwnD at h
  split at h
  · rename_i fs
    split at h
    · rename_i b h1
      cases h
      exact ⟨fs, b, rfl, rfl, h1⟩
    · cases h
  · cases h
theorem op_inOwn (M : Op2 X.K (cm 0) fn "__contains__") (Fn : FnOk X.prog X.w X.K X.mg X.base CX0 k fn fd ps (spD X.K cm G)) (hr : Room k X.A) (hb : Binds X.K fd ps []) : OpR X (compareOp .In) (rInOwn X.K cm G) := by
  intro pins s σ H x y v u Q I rx ry h
  obtain ⟨F, dx, dy, d, le, r1, r2, e, q⟩ := h
  obtain ⟨fs, b, rfl, rfl, e2⟩ := inOwnD_dec e
  cases r2 with | @ins a dxx vf _ _ hH rf =>
  cases ry
  obtain ⟨mA, O, rr, _, _, _⟩ := ins_get I.hok (le _ _ hH)
  obtain ⟨od, J, hl⟩ := O.look
  obtain ⟨m, Fr⟩ := I.fr
  refine PySem.W.in_K Fr I.mod.kin J M.at_ M.fn ?_
  refine thn (run_d (Q := fun z H' => ∃ b, z = .bl b ∧ Q (.bl b) H') Fn hr hb I (.cons (show RelV (.ref a) (.ref a) from rfl) (.cons rx .nil)) le (.cons (.ins hH rf) (.cons r1 .nil)) e2 fun F' H' z g1 r3 => by cases r3; exact ⟨b, rfl, q F' H' _ g1 (.bl b)⟩) fun z s1 hz => ?_
  obtain ⟨w', H', I', rw', b', rfl, q'⟩ := hz
  cases rw'
  exact wpAny_truthy_bool ⟨.bl b', H', I', rfl, q'⟩

/-- ~r -/
def invD (G : List D → Option D) : D → Option D := fun x => match x with
  | .ins 0 fs => G [.ins 0 fs]
  | _ => none
theorem ud_inv {K : PySem.W.Frag} : UnD K cm (fun x H Q => ∃ F dx d, Ex F H ∧ Rep K cm F x dx ∧ invD G dx = some d ∧ ∀ F' H' v, Gr F H F' H' → Rep K cm F' v d → Q v H') (invD G) :=
  fun F H x dx d Q le rx e q => ⟨F, dx, d, le, rx, e, q⟩
theorem un_inv (M : Op2 X.K (cm 0) fn "__invert__") (Fn : FnOk X.prog X.w X.K X.mg X.base CX0 k fn fd ps (spD X.K cm G)) (hr : Room k X.A) (hb : Binds X.K fd ps []) :
    UnR X (unaryOp .Invert) (fun x H Q => ∃ F dx d, Ex F H ∧ Rep X.K cm F x dx ∧ invD G dx = some d ∧ ∀ F' H' v, Gr F H F' H' → Rep X.K cm F' v d → Q v H') := by
  intro pins s σ H x v Q I rx h
  obtain ⟨F, dx, d, le, r1, e, q⟩ := h
  unfold invD at e
  split at e
  · rename_i fs
    cases r1 with | @ins a dxx vf _ _ hH rf =>
    cases rx
    obtain ⟨mA, O, rr, _, _, _⟩ := ins_get I.hok (le _ _ hH)
    obtain ⟨od, J, hl⟩ := O.look
    obtain ⟨m, Fr⟩ := I.fr
    exact PySem.W.ksp_inv Fr I.mod.kin J M.at_ M.fn (run_d Fn hr hb I (.cons (show RelV (.ref a) (.ref a) from rfl) .nil) le (.cons (.ins hH rf) .nil) e q)
  · cases e
/-- r & s, r | s -/
def binD (G : List D → Option D) : D → D → Option D := fun x y => match x, y with
  | .ins 0 fs, .ins 0 gs => match G [.ins 0 fs, .ins 0 gs] with
    | some (.ins t hs) => some (.ins t hs)
    | _ => none
  | _, _ => none
theorem binD_dec {x y d : D} (h : binD G x y = some d) : ∃ fs gs t hs, x = .ins 0 fs ∧ y = .ins 0 gs ∧ d = .ins t hs ∧ G [.ins 0 fs, .ins 0 gs] = some d := by
  unfold binD at h
  split at h
  · rename_i fs gs
    split at h
    · rename_i t hs h1
      cases h
      exact ⟨fs, gs, t, hs, rfl, rfl, rfl, h1⟩
    · cases h
  · cases h
def rBin (K : PySem.W.Frag) (cm : Nat → Addr) (G : List D → Option D) : R2 := fun x y H Q => ∃ F dx dy d, Ex F H ∧ Rep K cm F x dx ∧ Rep K cm F y dy ∧ binD G dx dy = some d ∧ ∀ F' H' v, Gr F H F' H' → Rep K cm F' v d → Q v H'
theorem od_bin {K : PySem.W.Frag} : OpD K cm (rBin K cm G) (binD G) := fun F H x y dx dy d Q le lo rx ry e q => ⟨F, dx, dy, d, le, rx, ry, e, q⟩
theorem op_bin {op : Operator} (M : Op2 X.K (cm 0) fn (PySem.dunder op.info.2)) (hsf : PySem.W.selfFirst X.K (cm 0) = true) (Fn : FnOk X.prog X.w X.K X.mg X.base CX0 k fn fd ps (spD X.K cm G)) (hr : Room k X.A) (hb : Binds X.K fd ps []) : OpR X (binaryOp op) (rBin X.K cm G) := by
  intro pins s σ H x y v u Q I rx ry h
  obtain ⟨F, dx, dy, d, le, r1, r2, e, q⟩ := h
  obtain ⟨fs, gs, t, hs, rfl, rfl, rfl, e2⟩ := binD_dec e
  cases r1 with | @ins a dxx vf _ _ hH rf =>
  cases r2 with | @ins c dyy vg _ _ hH2 rg =>
  cases rx; cases ry
  obtain ⟨mA, O, rr, _, _, _⟩ := ins_get I.hok (le _ _ hH)
  obtain ⟨od, J, hl⟩ := O.look
  obtain ⟨mA2, O2, rr2, _, _, _⟩ := ins_get I.hok (le _ _ hH2)
  obtain ⟨od2, J2, hl2⟩ := O2.look
  obtain ⟨m, Fr⟩ := I.fr
  refine PySem.W.binop_K Fr I.mod.kin J J2.type hsf M.at_ M.fn ?_
  refine thn (run_d (Q := fun z H' => (∃ a, z = .ref a) ∧ Q z H') Fn hr hb I (.cons (show RelV (.ref a) (.ref a) from rfl) (.cons (show RelV (.ref c) (.ref c) from rfl) .nil)) le (.cons (.ins hH rf) (.cons (.ins hH2 rg) .nil)) e2 fun F' H' z g1 r3 => ⟨by cases r3; exact ⟨_, rfl⟩, q F' H' _ g1 r3⟩) fun z s1 hz => ?_
  obtain ⟨w', H', I', rw', ⟨a', rfl⟩, q'⟩ := hz
  cases rw'
  exact ⟨.ref a', H', I', rfl, q'⟩

/-! ### a static method, called off its class -/
structure Stc (K : PySem.W.Frag) (C : Addr) (m : Str) (f : Addr) : Prop where
  ga : PySem.W.specialIn K (.ref C) "__getattribute__" = some (some (.builtin "type.__getattribute__"))
  at_ : ∃ mc p rest, PySem.W.typeIn K (.ref C) = some mc ∧ PySem.W.readsIn K C mc = true ∧ PySem.W.findCls K (.ref C) mc m = some (.get (.builtin "staticmethod.__get__") (.ref p) .none (.ref C)) ∧ PySem.W.recIn K p "staticmethod" = some (.ref f :: rest)
  kp : PySem.W.keepIn K (.ref f) = true
theorem de_static {m : Str} {pl : Sem Bool} (S : Stc X.K C m fn) (Fn : FnOk X.prog X.w X.K X.mg X.base CX0 k fn fd ps (spD X.K cm G)) (hr : Room k X.A) (hg : Gl X x) (hm : X.mg x = some (.ref C)) (hb : Binds X.K fd ps []) (ha : DA cm X (e :: es) fa)
    (hdb : (x == ("__debug__" : Str)) = false := by decide)
    (hst : starEach (e :: es) X.env = (false, eval e X.env) :: starEach es X.env := by rfl) (hpl : (backTo pos (starEach es X.env)).any (·.1) = false := by rfl)
    (ht : eval (.Call (.Attribute (.Name x p) m apos) (e :: es) [] pos) X.env = (do
      let ov ← eval (.Name x p) X.env
      standAt apos.atName
      let (f, first) ← holding [ov] (getMethod ov m pl)
      callWith pos f first (backTo pos (starEach (e :: es) X.env)) (backToKw pos (keywordEach [] X.env))) := by rfl) :
    DE cm X (.Call (.Attribute (.Name x p) m apos) (e :: es) [] pos) (eCall G fa) := by
  refine ⟨fun pins s σ H Q I h => ?_⟩
  obtain ⟨F, ρ, d, re, e0, q⟩ := h
  unfold eCall at e0
  cases h1 : fa ρ with
  | none => rw [h1] at e0; cases e0
  | some ds =>
  rw [h1] at e0
  refine PySem.W.methodCall_KW (pl := pl) (ld_glob I hg hm ?_ hdb) ht
  obtain ⟨mc, p', rest, q1, q2, q3, q4⟩ := S.at_
  obtain ⟨mm, Fr⟩ := I.fr
  refine PySem.W.method_of_cls Fr I.mod.kin S.ga (PySem.W.cls_sm Fr I.mod.kin q1 q2 q3 q4 rfl ?_)
  have I1 := I.tok (s.toks + 1)
  refine PySem.W.callWith_K (h₀ := X.base) (first := []) I.ok.mod.kin S.kp (thn (ha.run pos pins _ σ H (fun vs H1 => ∃ F1, Gr F H F1 H1 ∧ Reps X.K cm F1 vs ds) I1 ⟨F, ρ, ds, re, h1, fun F1 H1 vs g1 r1 => ⟨F1, g1, r1⟩⟩) fun us s2 ⟨vs, H1, I2, r, F1, g1, r1⟩ => ⟨I2.kIn, ?_⟩) hst hpl
  exact run_d (us := us) Fn hr hb I2 r g1.le r1 e0 fun F2 H2 v g2 r2 => q F2 H2 v (g1.trans g2) r2
end
end DL

/-! DS: sorted of tuples of ints. -/
namespace DSrt
open PySem PySem.W PyProof.Rows SrtO L2
/-- the value is a tuple of these ints -/
def TupI (h : Heap) (v : Value) (ns : List Int) : Prop := ∃ a o xs n, v = .ref a ∧ h.get? a = some o ∧ o.cls = .type "tuple" ∧ o.data = .seq xs n ∧ IntsAre xs.toList ns
theorem TupI.keeps {h h' : Heap} {v : Value} {ns : List Int} (x : TupI h v ns) (k : ∀ b o, h.get? b = some o → o.cls = .type "tuple" → h'.get? b = some o) : TupI h' v ns := by
  obtain ⟨a, o, xs, n, e, ho, hc, hd, hi⟩ := x
  exact ⟨a, o, xs, n, e, k _ _ ho hc, hc, hd, hi⟩
theorem lexI_asym : ∀ a b : List Int, HT.lexLt a b = true → HT.lexLt b a = false
  | [], [], h => by cases h
  | [], _ :: _, _ => rfl
  | _ :: _, [], h => by cases h
  | x :: a, y :: b, h => by
    rw [HT.lexLt_cons] at h ⊢
    by_cases e : x = y
    · rw [if_pos e] at h
      rw [if_pos e.symm]
      exact lexI_asym a b h
    · rw [if_neg e] at h
      rw [if_neg fun z => e z.symm]
      have := of_decide_eq_true h
      exact decide_eq_false (by omega)
theorem lexI_tr : ∀ a b c : List Int, HT.lexLt b a = false → HT.lexLt c b = false → HT.lexLt c a = false
  | [], [], c, _, h2 => h2
  | [], _ :: _, [], _, h2 => by cases h2
  | [], y :: b, z :: c, h1, h2 => by rfl
  | _ :: _, [], _, h1, _ => by cases h1
  | x :: a, y :: b, [], _, h2 => by cases h2
  | x :: a, y :: b, z :: c, h1, h2 => by
    rw [HT.lexLt_cons] at h1 h2 ⊢
    by_cases e1 : y = x
    · rw [if_pos e1] at h1
      by_cases e2 : z = y
      · rw [if_pos e2] at h2
        rw [if_pos (e2.trans e1)]
        exact lexI_tr a b c h1 h2
      · rw [if_neg e2] at h2
        rw [if_neg (by rw [← e1]; exact e2), ← e1]
        exact h2
    · rw [if_neg e1] at h1
      have q1 := of_decide_eq_false h1
      by_cases e2 : z = y
      · rw [if_neg (by rw [e2]; exact e1), e2]
        exact h1
      · rw [if_neg e2] at h2
        have q2 := of_decide_eq_false h2
        rw [if_neg (by omega)]
        exact decide_eq_false (by omega)
theorem lexI_total : ∀ a b : List Int, HT.lexLt a b = false → HT.lexLt b a = false → a = b
  | [], [], _, _ => rfl
  | [], _ :: _, h, _ => by cases h
  | _ :: _, [], _, h => by cases h
  | x :: a, y :: b, h1, h2 => by
    rw [HT.lexLt_cons] at h1 h2
    by_cases e : x = y
    · rw [if_pos e] at h1
      rw [if_pos e.symm] at h2
      rw [e, lexI_total a b h1 h2]
    · rw [if_neg e] at h1
      rw [if_neg fun z => e z.symm] at h2
      have q1 := of_decide_eq_false h1
      have q2 := of_decide_eq_false h2
      exact absurd (by omega) e
theorem swoI {α : Type} (k : α → List Int) : Swo fun x y => HT.lexLt (k x) (k y) := ⟨fun x y => lexI_asym _ _, fun x y z => lexI_tr _ _ _⟩
section
variable {prog : Program} {w : World} {A : Around} {E : Value → Shared → Prop} {s : Shared} {Q : Bool → Shared → Prop}
theorem katI {b fin : Bool} {xs ys : List Value} {ns ms : List Int} (i : Nat) (hx : IntsAre xs ns) (hy : IntsAre ys ms) (hf : fin = decide (ns.length < ms.length))
    (h : Q (HT.lexLt ns ms) s) : KatLex prog w A b fin Q (xs.zip ys) i s := by
  induction hx generalizing ys ms i with
  | nil =>
    cases hy with
    | nil => subst hf; exact kat_nil h
    | cons q u hy => subst hf; exact kat_nil (by simpa [HT.lexLt] using h)
  | @cons p t xs ns hx ih =>
    cases hy with
    | nil => subst hf; exact kat_nil (by simpa [HT.lexLt] using h)
    | @cons q u ys ms hy =>
      show KatLex prog w A b fin Q ((Value.int p t, Value.int q u) :: xs.zip ys) i s
      refine kat_cons (wpAny_eqBool_int ?_)
      rw [HT.lexLt_cons] at h
      by_cases e : p = q
      · subst e
        rw [beq_self_eq_true]
        rw [if_pos rfl] at h
        refine kat_yes ?_
        first
          | exact ih (i + 1) hy (by rw [hf]; simp) h
          | exact ih _ _ (i + 1) hy (by rw [hf]; simp) h
      · rw [show (p == q) = false from beq_eq_false_iff_ne.mpr e]
        rw [if_neg e] at h
        exact kat_no (TS.oneLt_ints _ h)
theorem ltI {b : Bool} {x y : Value} {ns ms : List Int} (hx : TupI s.heap x ns) (hy : TupI s.heap y ms) (h : Q (HT.lexLt ns ms) s) : wpAny (model prog w) A (keyLt' (tuples' b) x y) Q E s := by
  obtain ⟨a, o, xs, n, rfl, ho, hc, hd, hi⟩ := hx
  obtain ⟨c, p, ys, m, rfl, hp, hc2, hd2, hj⟩ := hy
  refine kat_lt ho hd hp hd2 (katI 0 hi hj ?_ h)
  have e1 := hi.length
  have e2 := hj.length
  rw [Array.length_toList] at e1 e2
  rw [e1, e2]
theorem firstsI {h : Heap} {k : Value → List Int} : ∀ vs : List Value, (∀ v ∈ vs, TupI h v (k v) ∧ k v ≠ []) → ∃ fs, KatTups h vs fs ∧ fs.length = vs.length ∧ ∀ f, f ∈ fs → ∃ n t, f = Value.int n t
  | [], _ => ⟨[], .nil, rfl, fun f hf => by cases hf⟩
  | v :: vs, hv => by
    obtain ⟨fs, h1, h2, h3⟩ := firstsI (k := k) vs fun x hx => hv x (List.mem_cons_of_mem _ hx)
    obtain ⟨⟨a, o, xs, n, rfl, ho, hc, hd, hi⟩, hne⟩ := hv v List.mem_cons_self
    generalize k (.ref a) = ns at hi hne
    obtain ⟨xl⟩ := xs
    have hi' : IntsAre xl ns := hi
    cases hi' with
    | nil => exact absurd rfl hne
    | @cons p t xs' ns' hi'' =>
      exact ⟨.int p t :: fs, KatTups.cons ho hc hd rfl h1, by simp [h2], fun f hf => by
        rcases List.mem_cons.mp hf with rfl | hf
        · exact ⟨p, t, rfl⟩
        · exact h3 f hf⟩
theorem sortableI {a : Addr} {vs : List Value} {k : Value → List Int} (h0 : 0 < vs.length) (hp : ∀ v ∈ vs, TupI s.heap v (k v) ∧ k v ≠ []) (ha : ∀ o, s.heap.get? a = some o → o.cls ≠ .type "tuple") : SortableO prog w A s a vs fun v u => HT.lexLt (k v) (k u) := by
  intro h' keep
  have hp' : ∀ v ∈ vs, TupI h' v (k v) ∧ k v ≠ [] := fun v hm => ⟨(hp v hm).1.keeps fun b o e c => keep b o (fun z => by subst z; exact ha o e c) e, (hp v hm).2⟩
  obtain ⟨fs, h1, h2, h3⟩ := firstsI vs hp'
  refine ⟨tuples' true, fun Q E hq => ?_, fun p q hm hm' => ltI (hp' _ hm).1 (hp' _ hm').1 ⟨rfl, rfl⟩⟩
  refine kat_kind (T := .type "int") h1 (by omega) (fun f hm => ?_) (by rfl) ?_
  · obtain ⟨x, t, rfl⟩ := h3 f hm
    exact Looks.now
  · have e : (Value.type "int" != Value.type "tuple") = true := by first | decide +kernel | rfl | decide
    rw [e]
    exact hq
theorem sortedI {l : Addr} {vs : List Value} {k : Value → List Int} {Q : Value → Shared → Prop} (hl : s.heap.IsList l vs.toArray) (hz : vs.length ≤ sizeLine) (hp : ∀ v ∈ vs, TupI s.heap v (k v) ∧ k v ≠ [])
    (h : ∀ (h' : Heap) (d : Addr) (out : List Value), Srtd (fun v u => HT.lexLt (k v) (k u)) out → out.Perm vs → (∀ b o, s.heap.get? b = some o → h'.get? b = some o) → s.heap.objs.size ≤ d → (∃ n, h'.get? d = some (seqObj "list" out.toArray n)) → Q (.ref d) { s with heap := h' }) :
    wpAny (model prog w) A (call (.builtin "sorted") [.ref l]) Q E s := by
  refine sorted_ord (swoI k) hl hz (fun h2 h₁ a ha kk => ?_) fun out hs hb => ?_
  · refine sortableI (s := { s with heap := h₁ }) (by omega) (fun v hm => ⟨(hp v hm).1.keeps fun b o e _ => (kk b o e).2, (hp v hm).2⟩) fun o e => ?_
    have e' : some o = some (seqObj "list" vs.toArray 0) := e.symm.trans ha
    cases e'
    intro c
    exact absurd (Value.type.inj c) (by decide)
  · exact h _ _ out hs hb.perm (fun b o e => sortedAll_old e) (Nat.le_succ _) (sortedAll_at s.heap vs out.toArray)
end
end DSrt
namespace DL
open PySem PySem.Spec L2 PyProof.Rows DSrt
def rSortedT (K : PySem.W.Frag) : List V → Hp → VK → Prop := fun vs H Q => ∃ (a : Addr) (xs : List V) (k : V → List Int), vs = [V.ref a] ∧ SqL K H a xs ∧ (∀ x ∈ xs, k x ≠ [] ∧ ∃ t, x = V.ref t ∧ H t = some (.tup ((k x).map V.int))) ∧
  ∀ ys p, SrtO.Srtd (fun x y => HT.lexLt (k x) (k y)) ys → ys.Perm xs → H p = none → Q (.ref p) (upd H p (.lst ys))
theorem cr_sortedT {X : Cx} : CallR X (.builtin "sorted") (rSortedT X.K) := by
  intro pins s σ H vs us Q I r h
  obtain ⟨a, xs, k, rfl, hs, hx, q⟩ := h
  obtain ⟨its, rv, hl, hz⟩ := I.list hs
  obtain ⟨u, rfl, ru⟩ := vals1 r
  obtain rfl : u = Value.ref a := ru
  obtain ⟨e1, e2⟩ := refs_back rv fun x m => by
    obtain ⟨_, t, e, _⟩ := hx x m
    exact ⟨t, e⟩
  refine sortedI (k := fun u => k (backV u)) hl.isList (by rw [← rv.length]; exact hz) (fun v hv => ?_) fun h' d out h1 h2 kp hd hn => ?_
  · obtain ⟨t, rfl⟩ := e2 v hv
    have hm : V.ref t ∈ xs := by rw [e1]; exact List.mem_map.mpr ⟨_, hv, rfl⟩
    obtain ⟨hne, t', e, ht⟩ := hx _ hm
    cases e
    obtain ⟨_, its2, r2, o, ho, hc, n, hd⟩ := I.hok _ _ ht
    exact ⟨⟨t, o, its2.toArray, n, rfl, ho, hc, hd, by have := Vals.ints r2; simpa [backV] using this⟩, hne⟩
  · have h3 : ∀ u ∈ out, ∃ a, u = Value.ref a := fun u hu => e2 u (h2.mem_iff.mp hu)
    obtain ⟨n, hn⟩ := hn
    have hb : (out.map backV).Perm xs := by
      rw [e1]
      exact h2.map backV
    refine ⟨.ref d, upd H d (.lst (out.map backV)), I.laid (t' := s.toks) kp hd ⟨?_, out, n, vals_back h3, hn⟩, rfl, q _ d (SrtO.srtd_map (f := backV) (lt := fun x y => HT.lexLt (k x) (k y)) h1) hb (I.hok.fresh hd)⟩
    rw [hb.length_eq]
    exact hz
end DL

/-! D11: what is built in, on data. -/
namespace DL
open PySem PySem.Spec L2 PyProof.Rows
section
variable {K : PySem.W.Frag} {cm : Nat → Addr}

/-! ### readings of lists of ints, of bools, of tuples of ints -/
def dInts : List D → Option (List Int)
  | [] => some []
  | .int i :: r => (dInts r).map (i :: ·)
  | _ => none
def dBls : List D → Option (List Bool)
  | [] => some []
  | .bl i :: r => (dBls r).map (i :: ·)
  | _ => none
theorem dInts_dec : ∀ {ds : List D} {ns : List Int}, dInts ds = some ns → ds = ns.map D.int
  | [], _, h => by cases h; rfl
  | .int i :: r, ns, h => by
    unfold dInts at h
    cases e : dInts r with
    | none => rw [e] at h; cases h
    | some ms => rw [e] at h; cases h; rw [dInts_dec e]; rfl
  | .non :: _, _, h => by cases h
  | .bl _ :: _, _, h => by cases h
  | .str _ :: _, _, h => by cases h
  | .lst _ :: _, _, h => by cases h
  | .tup _ :: _, _, h => by cases h
  | .scr _ :: _, _, h => by cases h
  | .dI _ :: _, _, h => by cases h
  | .dT _ :: _, _, h => by cases h
  | .ins _ _ :: _, _, h => by cases h
theorem dInts_map : ∀ ns : List Int, dInts (ns.map D.int) = some ns
  | [] => rfl
  | n :: ns => by show (dInts (ns.map D.int)).map (n :: ·) = _; rw [dInts_map ns]; rfl
theorem dBls_dec : ∀ {ds : List D} {ns : List Bool}, dBls ds = some ns → ds = ns.map D.bl
  | [], _, h => by cases h; rfl
  | .bl i :: r, ns, h => by
    unfold dBls at h
    cases e : dBls r with
    | none => rw [e] at h; cases h
    | some ms => rw [e] at h; cases h; rw [dBls_dec e]; rfl
  | .non :: _, _, h => by cases h
  | .int _ :: _, _, h => by cases h
  | .str _ :: _, _, h => by cases h
  | .lst _ :: _, _, h => by cases h
  | .tup _ :: _, _, h => by cases h
  | .scr _ :: _, _, h => by cases h
  | .dI _ :: _, _, h => by cases h
  | .dT _ :: _, _, h => by cases h
  | .ins _ _ :: _, _, h => by cases h
theorem dBls_map : ∀ ns : List Bool, dBls (ns.map D.bl) = some ns
  | [] => rfl
  | n :: ns => by show (dBls (ns.map D.bl)).map (n :: ·) = _; rw [dBls_map ns]; rfl
theorem Reps.ints {F : Hp} : ∀ {vs : List V} {ns : List Int}, Reps K cm F vs (ns.map D.int) → vs = ns.map V.int
  | _, [], h => by cases h; rfl
  | _, n :: ns, h => by cases h with | cons h1 h2 => cases h1; rw [Reps.ints h2]; rfl
theorem Reps.bls {F : Hp} : ∀ {vs : List V} {ns : List Bool}, Reps K cm F vs (ns.map D.bl) → vs = ns.map V.bl
  | _, [], h => by cases h; rfl
  | _, n :: ns, h => by cases h with | cons h1 h2 => cases h1; rw [Reps.bls h2]; rfl
theorem Reps.one {F : Hp} {vs : List V} {d : D} (h : Reps K cm F vs [d]) : ∃ v, vs = [v] ∧ Rep K cm F v d := by
  cases h with | cons h1 h2 => cases h2; exact ⟨_, rfl, h1⟩
theorem Reps.two {F : Hp} {vs : List V} {d e : D} (h : Reps K cm F vs [d, e]) : ∃ v u, vs = [v, u] ∧ Rep K cm F v d ∧ Rep K cm F u e := by
  cases h with | cons h1 h2 => cases h2 with | cons h2 h3 => cases h3; exact ⟨_, _, rfl, h1, h2⟩

/-! ### len -/
def lenG : List D → Option D
  | [.lst xs] => some (.int xs.length)
  | [.tup xs] => some (.int xs.length)
  | [.scr xs] => some (.int xs.length)
  | [.dT xs] => some (.int xs.length)
  | _ => none
def rLenA (K : PySem.W.Frag) : List V → Hp → VK → Prop := fun xs H Q => (∃ p ys, xs = [.ref p] ∧ (SqL K H p ys ∨ SqT K H p ys) ∧ Q (.int ys.length) H) ∨ rLenT xs H Q
theorem cr_len {X : Cx} : CallR X (.builtin "len") (rLenA X.K) := call_len_seq.or call_len_dT
theorem RepT.length {F : Hp} : ∀ {vf : List (List Key × V)} {fs : List (List Int × D)}, RepT K cm F vf fs → vf.length = fs.length
  | _, _, .nil => rfl
  | _, _, .cons _ h => by simp [RepT.length h]
theorem cd_len : CallD K cm (rLenA K) lenG := fun F H vs ds d Q le r e q => by
  unfold lenG at e
  split at e
  · cases e
    obtain ⟨v, rfl, r1⟩ := r.one
    cases r1 with | @lst a vs _ h1 r2 =>
    exact .inl ⟨a, vs, rfl, .inl (SqL.of (le _ _ h1)), q F H _ (Gr.refl le) (by rw [r2.length]; exact .int _)⟩
  · cases e
    obtain ⟨v, rfl, r1⟩ := r.one
    cases r1 with | @tup a vs _ h1 r2 =>
    exact .inl ⟨a, vs, rfl, .inr (SqT.of (le _ _ h1)), q F H _ (Gr.refl le) (by rw [r2.length]; exact .int _)⟩
  · cases e
    obtain ⟨v, rfl, r1⟩ := r.one
    cases r1 with | @scr a ns h1 =>
    exact .inl ⟨a, _, rfl, .inl (ex_l le h1), q F H _ (Gr.refl le) (by rw [List.length_map]; exact .int _)⟩
  · cases e
    obtain ⟨v, rfl, r1⟩ := r.one
    cases r1 with | @dT a kvs _ h1 r2 =>
    exact .inr ⟨a, kvs, rfl, le _ _ h1, q F H _ (Gr.refl le) (by rw [r2.length]; exact .int _)⟩
  · cases e

/-! ### sum, any, all, max, min, abs, int, gcd -/
def sumG : List D → Option D
  | [.lst xs] => (dInts xs).map fun ns => .int ns.sum
  | [.tup xs] => none
  | _ => none
theorem cd_sum : CallD K cm (rSum K) sumG := fun F H vs ds d Q le r e q => by
  unfold sumG at e
  split at e
  · rename_i xs
    cases h : dInts xs with
    | none => rw [h] at e; cases e
    | some ns =>
      rw [h] at e
      cases e
      rw [dInts_dec h] at r
      obtain ⟨v, rfl, r1⟩ := r.one
      cases r1 with | @lst a vs _ h1 r2 =>
      rw [r2.ints] at h1
      exact ⟨a, ns, rfl, SqL.of (le _ _ h1), q F H _ (Gr.refl le) (.int _)⟩
  · cases e
  · cases e
def anyG : List D → Option D
  | [.lst xs] => (dBls xs).map fun ns => .bl (ns.any id)
  | _ => none
def allG : List D → Option D
  | [.lst xs] => (dBls xs).map fun ns => .bl (ns.all id)
  | _ => none
theorem cd_any : CallD K cm (rAny K) anyG := fun F H vs ds d Q le r e q => by
  unfold anyG at e
  split at e
  · rename_i xs
    cases h : dBls xs with
    | none => rw [h] at e; cases e
    | some ns =>
      rw [h] at e
      cases e
      rw [dBls_dec h] at r
      obtain ⟨v, rfl, r1⟩ := r.one
      cases r1 with | @lst a vs _ h1 r2 =>
      rw [r2.bls] at h1
      exact ⟨a, ns, rfl, SqL.of (le _ _ h1), q F H _ (Gr.refl le) (.bl _)⟩
  · cases e
theorem cd_all : CallD K cm (rAll K) allG := fun F H vs ds d Q le r e q => by
  unfold allG at e
  split at e
  · rename_i xs
    cases h : dBls xs with
    | none => rw [h] at e; cases e
    | some ns =>
      rw [h] at e
      cases e
      rw [dBls_dec h] at r
      obtain ⟨v, rfl, r1⟩ := r.one
      cases r1 with | @lst a vs _ h1 r2 =>
      rw [r2.bls] at h1
      exact ⟨a, ns, rfl, SqL.of (le _ _ h1), q F H _ (Gr.refl le) (.bl _)⟩
  · cases e
def maxI : List Int → Int
  | [] => 0
  | [x] => x
  | x :: xs => if maxI xs ≤ x then x else maxI xs
def minI : List Int → Int
  | [] => 0
  | [x] => x
  | x :: xs => if x ≤ minI xs then x else minI xs
theorem maxI_spec : ∀ {ns : List Int}, ns ≠ [] → maxI ns ∈ ns ∧ ∀ y ∈ ns, y ≤ maxI ns
  | [], h => absurd rfl h
  | [x], _ => ⟨by simp [maxI], by simp [maxI]⟩
  | x :: y :: r, _ => by
    obtain ⟨h1, h2⟩ := maxI_spec (ns := y :: r) (by simp)
    show (if maxI (y :: r) ≤ x then x else maxI (y :: r)) ∈ x :: y :: r ∧ ∀ z ∈ x :: y :: r, z ≤ (if maxI (y :: r) ≤ x then x else maxI (y :: r))
    split
    · refine ⟨by simp, fun z hz => ?_⟩
      rcases List.mem_cons.mp hz with rfl | hz
      · omega
      · have := h2 z hz; omega
    · refine ⟨List.mem_cons_of_mem _ h1, fun z hz => ?_⟩
      rcases List.mem_cons.mp hz with rfl | hz
      · omega
      · exact h2 z hz
theorem minI_spec : ∀ {ns : List Int}, ns ≠ [] → minI ns ∈ ns ∧ ∀ y ∈ ns, minI ns ≤ y
  | [], h => absurd rfl h
  | [x], _ => ⟨by simp [minI], by simp [minI]⟩
  | x :: y :: r, _ => by
    obtain ⟨h1, h2⟩ := minI_spec (ns := y :: r) (by simp)
    show (if x ≤ minI (y :: r) then x else minI (y :: r)) ∈ x :: y :: r ∧ ∀ z ∈ x :: y :: r, (if x ≤ minI (y :: r) then x else minI (y :: r)) ≤ z
    split
    · refine ⟨by simp, fun z hz => ?_⟩
      rcases List.mem_cons.mp hz with rfl | hz
      · omega
      · have := h2 z hz; omega
    · refine ⟨List.mem_cons_of_mem _ h1, fun z hz => ?_⟩
      rcases List.mem_cons.mp hz with rfl | hz
      · omega
      · exact h2 z hz
def maxG : List D → Option D
  | [.lst xs] => match dInts xs with
    | some (n :: ns) => some (.int (maxI (n :: ns)))
    | _ => none
  | [.int i, .int j] => some (.int (if j > i then j else i))
  | _ => none
def minG : List D → Option D
  | [.lst xs] => match dInts xs with
    | some (n :: ns) => some (.int (minI (n :: ns)))
    | _ => none
  | [.int i, .int j] => some (.int (if j < i then j else i))
  | _ => none
def rMaxA (K : PySem.W.Frag) : List V → Hp → VK → Prop := fun xs H Q => rMax K xs H Q ∨ ∃ i j, xs = [.int i, .int j] ∧ Q (.int (if j > i then j else i)) H
def rMinA (K : PySem.W.Frag) : List V → Hp → VK → Prop := fun xs H Q => rMin K xs H Q ∨ ∃ i j, xs = [.int i, .int j] ∧ Q (.int (if j < i then j else i)) H
theorem cr_maxA {X : Cx} (hc : X.calm = true) : CallR X (.builtin "max") (rMaxA X.K) := (cr_max hc).or (call_max2 hc)
theorem cr_minA {X : Cx} (hc : X.calm = true) : CallR X (.builtin "min") (rMinA X.K) := (cr_min hc).or (call_min2 hc)
theorem cd_max : CallD K cm (rMaxA K) maxG := fun F H vs ds d Q le r e q => by
  unfold maxG at e
  split at e
  · rename_i xs
    split at e
    · rename_i n ns h
      cases e
      rw [dInts_dec h] at r
      obtain ⟨v, rfl, r1⟩ := r.one
      cases r1 with | @lst a vs _ h1 r2 =>
      rw [r2.ints] at h1
      refine .inl ⟨a, n :: ns, rfl, SqL.of (le _ _ h1), by simp, fun m hm hle => ?_⟩
      have := maxI_spec (ns := n :: ns) (by simp)
      have e1 : m = maxI (n :: ns) := by
        have q1 := hle _ this.1
        have q2 := this.2 _ hm
        omega
      rw [e1]
      exact q F H _ (Gr.refl le) (.int _)
    · cases e
  · cases e
    obtain ⟨v, u, rfl, r1, r2⟩ := r.two
    cases r1; cases r2
    exact .inr ⟨_, _, rfl, q F H _ (Gr.refl le) (.int _)⟩
  · cases e
theorem cd_min : CallD K cm (rMinA K) minG := fun F H vs ds d Q le r e q => by
  unfold minG at e
  split at e
  · rename_i xs
    split at e
    · rename_i n ns h
      cases e
      rw [dInts_dec h] at r
      obtain ⟨v, rfl, r1⟩ := r.one
      cases r1 with | @lst a vs _ h1 r2 =>
      rw [r2.ints] at h1
      refine .inl ⟨a, n :: ns, rfl, SqL.of (le _ _ h1), by simp, fun m hm hle => ?_⟩
      have := minI_spec (ns := n :: ns) (by simp)
      have e1 : m = minI (n :: ns) := by
        have q1 := hle _ this.1
        have q2 := this.2 _ hm
        omega
      rw [e1]
      exact q F H _ (Gr.refl le) (.int _)
    · cases e
  · cases e
    obtain ⟨v, u, rfl, r1, r2⟩ := r.two
    cases r1; cases r2
    exact .inr ⟨_, _, rfl, q F H _ (Gr.refl le) (.int _)⟩
  · cases e
def absG : List D → Option D
  | [.int i] => some (.int (if i < 0 then -i else i))
  | _ => none
theorem cd_abs : CallD K cm (fun xs H Q => ∃ i, xs = [.int i] ∧ Q (.int (if i < 0 then -i else i)) H) absG := fun F H vs ds d Q le r e q => by
  unfold absG at e
  split at e
  · cases e
    obtain ⟨v, rfl, r1⟩ := r.one
    cases r1
    exact ⟨_, rfl, q F H _ (Gr.refl le) (.int _)⟩
  · cases e
def intG : List D → Option D
  | [.int i] => some (.int i)
  | [.bl b] => some (.int (if b then 1 else 0))
  | _ => none
theorem cd_int : CallD K cm (fun xs H Q => (∃ i, xs = [.int i] ∧ Q (.int i) H) ∨ ∃ k, xs = [.bl k] ∧ Q (.int (if k then 1 else 0)) H) intG := fun F H vs ds d Q le r e q => by
  unfold intG at e
  split at e
  · cases e
    obtain ⟨v, rfl, r1⟩ := r.one
    cases r1
    exact .inl ⟨_, rfl, q F H _ (Gr.refl le) (.int _)⟩
  · cases e
    obtain ⟨v, rfl, r1⟩ := r.one
    cases r1
    exact .inr ⟨_, rfl, q F H _ (Gr.refl le) (.int _)⟩
  · cases e
def gcdG : List D → Option D
  | [.int i, .int j] => some (.int ((i.natAbs.gcd j.natAbs : Nat) : Int))
  | _ => none
def rGcd : List V → Hp → VK → Prop := fun xs H Q => ∃ i j, xs = [.int i, .int j] ∧ Q (.int ((i.natAbs.gcd j.natAbs : Nat) : Int)) H
theorem cr_gcd {X : Cx} : CallR X (.builtin "math.gcd") rGcd := by
  intro pins s σ H xs us Q I r h
  obtain ⟨i, j, rfl, q⟩ := h
  obtain ⟨u, w', rfl, ⟨t, rfl⟩, ⟨t', rfl⟩⟩ := vals2 r
  exact PySem.W.mg_gcdB fun _ => ⟨.int _, H, I.tok _, ⟨_, rfl⟩, q⟩
theorem cd_gcd : CallD K cm rGcd gcdG := fun F H vs ds d Q le r e q => by
  unfold gcdG at e
  split at e
  · cases e
    obtain ⟨v, u, rfl, r1, r2⟩ := r.two
    cases r1; cases r2
    exact ⟨_, _, rfl, q F H _ (Gr.refl le) (.int _)⟩
  · cases e

/-! ### tuple(..), list(..) -/
def tupG : List D → Option D
  | [.lst xs] => some (.tup xs)
  | [.tup xs] => some (.tup xs)
  | _ => none
def rTupA (K : PySem.W.Frag) : List V → Hp → VK → Prop := fun xs H Q => ∃ p ys, xs = [.ref p] ∧ ((SqL K H p ys ∧ ∀ l, H l = none → Q (.ref l) (upd H l (.tup ys))) ∨ (SqT K H p ys ∧ Q (.ref p) H))
theorem cd_tup : CallD K cm (rTupA K) tupG := fun F H vs ds d Q le r e q => by
  unfold tupG at e
  split at e
  · cases e
    obtain ⟨v, rfl, r1⟩ := r.one
    cases r1 with | @lst a vs _ h1 r2 =>
    refine ⟨a, vs, rfl, .inl ⟨SqL.of (le _ _ h1), fun l hl => ?_⟩⟩
    have g := Gr.new (o := .tup vs) le hl
    exact q _ _ _ g (.tup upd_same (r2.up g.fx))
  · cases e
    obtain ⟨v, rfl, r1⟩ := r.one
    cases r1 with | @tup a vs _ h1 r2 =>
    exact ⟨a, vs, rfl, .inr ⟨SqT.of (le _ _ h1), q F H _ (Gr.refl le) (.tup h1 r2)⟩⟩
  · cases e
def lstG : List D → Option D
  | [.lst xs] => some (.lst xs)
  | [.tup xs] => some (.lst xs)
  | _ => none
def rLstA (K : PySem.W.Frag) : List V → Hp → VK → Prop := fun xs H Q => ∃ p ys, xs = [.ref p] ∧ (SqL K H p ys ∨ SqT K H p ys) ∧ ∀ l, H l = none → Q (.ref l) (upd H l (.lst ys))
theorem cd_lst : CallD K cm (rLstA K) lstG := fun F H vs ds d Q le r e q => by
  unfold lstG at e
  split at e
  · cases e
    obtain ⟨v, rfl, r1⟩ := r.one
    cases r1 with | @lst a vs _ h1 r2 =>
    refine ⟨a, vs, rfl, .inl (SqL.of (le _ _ h1)), fun l hl => ?_⟩
    have g := Gr.new (o := .lst vs) le hl
    exact q _ _ _ g (.lst upd_same (r2.up g.fx))
  · cases e
    obtain ⟨v, rfl, r1⟩ := r.one
    cases r1 with | @tup a vs _ h1 r2 =>
    refine ⟨a, vs, rfl, .inr (SqT.of (le _ _ h1)), fun l hl => ?_⟩
    have g := Gr.new (o := .lst vs) le hl
    exact q _ _ _ g (.lst upd_same (r2.up g.fx))
  · cases e
/-- list(d), d by tuples of ints: its keys -/
def tupI (ns : List Int) : D := .tup (ns.map D.int)
def keysG : List D → Option D
  | [.dT ks] => some (.lst (ks.map fun p => tupI p.1))
  | _ => none
def rKeys : List V → Hp → VK → Prop := fun xs H Q => ∃ d kvs, xs = [V.ref d] ∧ Rd H d (.dT kvs) ∧ ∀ p bs, H p = none → IsKeys H kvs bs → Q (.ref p) (upd H p (.lst (bs.map V.ref)))
theorem kV_map (ns : List Int) : (ns.map Sum.inl : List Key).map kV = ns.map V.int := by
  rw [List.map_map]; rfl
theorem keys_reps {H : Hp} : ∀ {kvs : List (List Key × V)} {ks : List (List Int × D)} {bs : List Addr} {F : Hp}, RepT K cm F kvs ks → IsKeys H kvs bs → ∀ F' : Hp, (∀ b ∈ bs, F' b = H b) → Reps K cm F' (bs.map V.ref) (ks.map fun p => tupI p.1)
  | _, _, _, _, .nil, k, F', h => by cases k; exact .nil
  | _, _, _, _, .cons _ r, k, F', h => by
    cases k with
    | cons k1 k2 =>
      refine .cons (.tup ((h _ List.mem_cons_self).trans k1) ?_) (keys_reps r k2 F' fun b hb => h b (List.mem_cons_of_mem _ hb))
      show Reps K cm F' ((_ : List Key).map kV) _
      rw [kV_map]
      exact Reps.flat K cm F' _
theorem isKeys_tup {H : Hp} : ∀ {kvs : List (List Key × V)} {bs : List Addr}, IsKeys H kvs bs → ∀ b ∈ bs, ∃ xs, H b = some (.tup xs)
  | _, _, .nil, b, hb => by cases hb
  | _, _, .cons k1 k2, b, hb => by
    rcases List.mem_cons.mp hb with rfl | hb
    · exact ⟨_, k1⟩
    · exact isKeys_tup k2 b hb
theorem cd_keys : CallD K cm rKeys keysG := fun F H vs ds d Q le r e q => by
  classical
  unfold keysG at e
  split at e
  · cases e
    obtain ⟨v, rfl, r1⟩ := r.one
    cases r1 with | @dT a kvs _ h1 r2 =>
    refine ⟨a, kvs, rfl, .inl (le _ _ h1), fun p bs hp hk => ?_⟩
    let F1 : Hp := fun b => if b ∈ bs then H b else F b
    have le1 : Ex F1 H := fun b u eb => by
      have eb' : (if b ∈ bs then H b else F b) = some u := eb
      split at eb'
      · exact eb'
      · exact le b u eb'
    have fx1 : Ex F F1 := fun b u eb => by
      show (if b ∈ bs then H b else F b) = some u
      split
      · exact le b u eb
      · exact eb
    have g1 : Gr F H F1 H := ⟨Ex.refl H, fx1, le1, fun b hb => by
      by_cases hm : b ∈ bs
      · exact .inr (isKeys_tup hk b hm)
      · exact .inl (if_neg hm)⟩
    have g2 := Gr.new (o := .lst (bs.map V.ref)) le1 hp
    refine q _ _ _ (g1.trans g2) (.lst upd_same ((keys_reps r2 hk F1 fun b hb => if_pos hb).up g2.fx))
  · cases e

/-! ### sorted -/
def dTupI : D → Option (List Int)
  | .tup xs => dInts xs
  | _ => none
def dTups : List D → Option (List (List Int))
  | [] => some []
  | d :: r => (dTupI d).bind fun n => (dTups r).map (n :: ·)
theorem dTups_dec : ∀ {ds : List D} {ns : List (List Int)}, dTups ds = some ns → ds = ns.map tupI
  | [], _, h => by cases h; rfl
  | d :: r, ns, h => by
    unfold dTups at h
    cases e : dTupI d with
    | none => rw [e] at h; cases h
    | some m =>
      rw [e] at h
      have h' : (dTups r).map (m :: ·) = some ns := h
      cases e2 : dTups r with
      | none => rw [e2] at h'; cases h'
      | some ms =>
        rw [e2] at h'
        cases h'
        rw [dTups_dec e2]
        unfold dTupI at e
        split at e
        · rw [dInts_dec e]; rfl
        · cases e
theorem dTups_map : ∀ ns : List (List Int), dTups (ns.map tupI) = some ns
  | [] => rfl
  | n :: ns => by
    show (dTupI (tupI n)).bind (fun m => (dTups (ns.map tupI)).map (m :: ·)) = _
    rw [dTups_map ns]
    show (dInts (n.map D.int)).bind _ = _
    rw [dInts_map]
    rfl
def sortT (ns : List (List Int)) : List (List Int) := ns.mergeSort fun a b => !HT.lexLt b a
theorem lexLt_le_trans (a b c : List Int) (h1 : (!HT.lexLt b a) = true) (h2 : (!HT.lexLt c b) = true) : (!HT.lexLt c a) = true := by
  simp only [Bool.not_eq_true'] at *
  exact DSrt.lexI_tr a b c h1 h2
theorem sortT_srtd (ns : List (List Int)) : (sortT ns).Pairwise (fun x y => HT.lexLt y x = false) := by
  have := List.pairwise_mergeSort (le := fun a b => !HT.lexLt b a) lexLt_le_trans (fun a b => by
    cases h : HT.lexLt b a with
    | false => rfl
    | true => rw [DSrt.lexI_asym b a h]; rfl) ns
  exact this.imp fun h => by simpa using h
theorem sortT_perm (ns : List (List Int)) : (sortT ns).Perm ns := List.mergeSort_perm ns _
theorem srtd_uniq : ∀ {l m : List (List Int)}, l.Pairwise (fun x y => HT.lexLt y x = false) → m.Pairwise (fun x y => HT.lexLt y x = false) → l.Perm m → l = m
  | [], m, _, _, p => by rw [List.nil_perm.mp p]
  | x :: l, [], _, _, p => by have := p.length_eq; simp at this
  | x :: l, y :: m, h1, h2, p => by
    have e : x = y := by
      have hx := p.mem_iff.mp List.mem_cons_self
      have hy := p.symm.mem_iff.mp List.mem_cons_self
      rcases List.mem_cons.mp hx with z | hx
      · exact z
      · rcases List.mem_cons.mp hy with z | hy
        · exact z.symm
        · exact DSrt.lexI_total x y (List.rel_of_pairwise_cons h2 hx) (List.rel_of_pairwise_cons h1 hy)
    subst e
    rw [srtd_uniq (List.Pairwise.of_cons h1) (List.Pairwise.of_cons h2) ((List.perm_cons x).mp p)]
def sortedG : List D → Option D
  | [.lst xs] => match dTups xs with
    | some ns => if ns.all (fun n => !n.isEmpty) then some (.lst ((sortT ns).map tupI)) else none
    | none => none
  | _ => none
/-- the ints of a tuple of the heap -/
def tIs (H : Hp) : V → List Int
  | .ref a => match H a with
    | some (.tup xs) => xs.map fun v => match v with | .int i => i | _ => 0
    | _ => []
  | _ => []
theorem tIs_of {H : Hp} {a : Addr} {ns : List Int} (h : H a = some (.tup (ns.map V.int))) : tIs H (.ref a) = ns := by
  unfold tIs
  simp only [h]
  rw [List.map_map]
  conv => rhs; rw [← List.map_id ns]
  rfl
theorem reps_tups {F : Hp} : ∀ {vs : List V} {ns : List (List Int)}, Reps K cm F vs (ns.map tupI) → (∀ v ∈ vs, ∃ a, v = .ref a ∧ F a = some (.tup ((tIs F v).map V.int))) ∧ vs.map (tIs F) = ns
  | _, [], h => by cases h; exact ⟨fun v hv => (nomatch hv), rfl⟩
  | _, n :: ns, h => by
    cases h with
    | @cons v vs _ _ h1 h2 =>
      obtain ⟨i1, i2⟩ := reps_tups h2
      cases h1 with | @tup a us _ h3 r3 =>
      rw [r3.ints] at h3
      have e := tIs_of h3
      refine ⟨fun u hu => ?_, by rw [List.map_cons, e, i2]⟩
      rcases List.mem_cons.mp hu with rfl | hu
      · exact ⟨a, rfl, by rw [e]; exact h3⟩
      · exact i1 u hu
theorem tups_reps {F : Hp} : ∀ {vs : List V}, (∀ v ∈ vs, ∃ a, v = .ref a ∧ F a = some (.tup ((tIs F v).map V.int))) → Reps K cm F vs ((vs.map (tIs F)).map tupI)
  | [], _ => .nil
  | v :: vs, h => by
    obtain ⟨a, rfl, ha⟩ := h v List.mem_cons_self
    exact .cons (.tup ha (Reps.flat K cm F _)) (tups_reps fun u hu => h u (List.mem_cons_of_mem _ hu))
theorem cd_sorted : CallD K cm (rSortedT K) sortedG := fun F H vs ds d Q le r e q => by
  unfold sortedG at e
  split at e
  · rename_i xs
    split at e
    · rename_i ns h
      split at e
      · rename_i hne
        cases e
        rw [dTups_dec h] at r
        obtain ⟨v, rfl, r1⟩ := r.one
        cases r1 with | @lst a us _ h1 r2 =>
        obtain ⟨p1, p2⟩ := reps_tups r2
        refine ⟨a, us, tIs F, rfl, SqL.of (le _ _ h1), fun x hx => ⟨?_, ?_⟩, fun ys p hs hp hn => ?_⟩
        · have hm : tIs F x ∈ ns := by rw [← p2]; exact List.mem_map.mpr ⟨x, hx, rfl⟩
          have := List.all_eq_true.mp hne _ hm
          intro z
          rw [z] at this
          simp at this
        · obtain ⟨b, rfl, hb⟩ := p1 x hx
          exact ⟨b, rfl, le _ _ hb⟩
        · have g := Gr.new (o := .lst ys) le hn
          have e1 : ys.map (tIs F) = sortT ns := by
            refine srtd_uniq (List.pairwise_map.mpr hs) (sortT_srtd ns) ?_
            refine (hp.map (tIs F)).trans ?_
            rw [p2]
            exact (sortT_perm ns).symm
          have rr : Reps K cm F ys ((ys.map (tIs F)).map tupI) := tups_reps fun v hv => p1 v (hp.mem_iff.mp hv)
          rw [e1] at rr
          exact q _ _ _ g (.lst upd_same (rr.up g.fx))
      · cases e
    · cases e
  · cases e

/-! ### isinstance(x, T), T a built-in class -/
def tyN : D → Option String
  | .non => some "NoneType" | .bl _ => some "bool" | .int _ => some "int" | .str _ => some "str"
  | .lst _ => some "list" | .tup _ => some "tuple"
  | _ => none
def isiB (a b : String) : Bool := a == b || (a == "bool" && b == "int")
def tyNs : List String := ["NoneType", "bool", "int", "str", "list", "tuple"]
theorem kitB_eq : ∀ a ∈ tyNs, ∀ b ∈ tyNs.drop 1, kitB a b = some (isiB a b) := by decide +kernel
def eIsi (T : String) (f : Env → Option D) : Env → Option D := fun ρ => (f ρ).bind fun d => (tyN d).bind fun t => if T ∈ tyNs.drop 1 then some (.bl (isiB t T)) else none
theorem tyN_of {H : Hp} {v : V} {d : D} {t : String} (r : Rep K cm H v d) (h : tyN d = some t) : TyX K H v (.type t) ∧ t ∈ tyNs := by
  cases r with
  | non => cases h; exact ⟨.base .non, by decide⟩
  | bl b => cases h; exact ⟨.base (.bl b), by decide⟩
  | int i => cases h; exact ⟨.base (.int i), by decide⟩
  | str x => cases h; exact ⟨.base (.str x), by decide⟩
  | lst h1 _ => cases h; exact ⟨.base (.lst h1), by decide⟩
  | tup h1 _ => cases h; exact ⟨.base (.tup h1), by decide⟩
  | scr _ => cases h
  | dI _ _ => cases h
  | dT _ _ => cases h
  | ins _ _ => cases h
theorem TyX.up {H H' : Hp} {v : V} {u : Value} (e : Ex H H') (h : TyX K H v u) : TyX K H' v u := by
  cases h with
  | base b =>
    refine .base ?_
    cases b with
    | non => exact .non
    | bl b => exact .bl b
    | int i => exact .int i
    | str x => exact .str x
    | flt x => exact .flt x
    | lst h => exact .lst (e _ _ h)
    | frz h => exact .frz (e _ _ h)
    | tup h => exact .tup (e _ _ h)
    | dK h => exact .dK (e _ _ h)
    | dT h => exact .dT (e _ _ h)
    | ins h a b c d f => exact .ins (e _ _ h) a b c d f
  | byt b => exact .byt b
  | set h => exact .set (e _ _ h)
  | kList h k => exact .kList h k
  | kTuple h k => exact .kTuple h k
  | kDict h k => exact .kDict h k
  | fTuple h => exact .fTuple (e _ _ h)
  | fDict h => exact .fDict (e _ _ h)
theorem de_isi {X : Cx} {e : Expr} {f : Env → Option D} {T : Str} {Tn : String} {p pT pos : Pos} (hg : Gl X "isinstance") (hm : X.mg "isinstance" = none) (hg2 : Gl X T) (hm2 : X.mg T = none) (hv : bootBuiltins T = some (.type Tn)) (h : DE cm X e f)
    (hn2 : T ≠ "__name__" := by decide) (hdb2 : (T == ("__debug__" : Str)) = false := by decide)
    (he : starEach (e :: [.Name T pT]) X.env = (false, eval e X.env) :: starEach [.Name T pT] X.env := by rfl) (he2 : starEach [.Name T pT] X.env = (false, eval (.Name T pT) X.env) :: starEach [] X.env := by rfl) (hpl : (backTo pos (starEach [.Name T pT] X.env)).any (·.1) = false := by rfl) :
    DE cm X (.Call (.Name "isinstance" p) [e, .Name T pT] [] pos) (eIsi Tn f) :=
  PE.imp (pe_callB call_isi hg hm (by decide +kernel) (pa_cons h (pa_cons (pe_bltn (v := .ty Tn) hg2 hm2 hv rfl hn2 hdb2) pa_nil he2) he) (by decide) (by decide) he hpl) fun σ H Q ⟨F, ρ, d, re, e, q⟩ => by
    unfold eIsi at e
    cases h1 : f ρ with
    | none => rw [h1] at e; cases e
    | some d0 =>
    rw [h1] at e
    have e1 : ((tyN d0).bind fun t => if Tn ∈ tyNs.drop 1 then some (D.bl (isiB t Tn)) else none) = some d := e
    cases h2 : tyN d0 with
    | none => rw [h2] at e1; cases e1
    | some t =>
    rw [h2] at e1
    have e2 : (if Tn ∈ tyNs.drop 1 then some (D.bl (isiB t Tn)) else none) = some d := e1
    split at e2
    · rename_i hT
      cases e2
      refine ⟨F, ρ, d0, re, h1, fun F1 H1 v g1 r1 => ?_⟩
      obtain ⟨ty, ht⟩ := tyN_of r1 h2
      exact ⟨v, .ty Tn, .type t, .type Tn, isiB t Tn, rfl, .ty Tn, TyX.up g1.le ty, kit_ty (kitB_eq t ht Tn hT), q F1 H1 _ g1 (.bl _)⟩
    · cases e2
end
end DL

/-! D12: dicts, membership, new lists of one's own, comprehensions of two clauses. -/
namespace DL
open PySem PySem.Spec L2 PyProof.Rows
section
variable {cm : Nat → Addr} {F0 H0 : Hp} {X : Cx} {e a b : Expr} {es : List Expr} {fa : Env → Option (List D)} {f g : Env → Option D} {pos p : Pos}

/-! ### new objects of one's own -/
def fLst (fa : Env → Option (List D)) : Env → Option Sl := fun ρ => (fa ρ).bind fun xs => if xs.length ≤ lim then some (.ol xs) else none
theorem df_lst (h : DA cm X es fa) : DF cm X (.List es pos) (fLst fa) :=
  PE.imp (pe_lst h) fun σ H Q ⟨F, ρ, s, re, e, q⟩ => by
    unfold fLst at e
    cases h1 : fa ρ with
    | none => rw [h1] at e; cases e
    | some xs =>
      rw [h1] at e
      have e' : (if xs.length ≤ lim then some (Sl.ol xs) else none) = some s := e
      split at e'
      · rename_i hl
        cases e'
        refine ⟨F, ρ, xs, re, h1, fun F1 H1 vs g1 r1 => ⟨by rw [r1.length]; exact lim_le hl, fun p hp => ?_⟩⟩
        have f1 := none_of_none g1.le hp
        refine q F1 _ p (.lst vs) ⟨g1.ex.trans (Ex.new hp), g1.fx, fun b u eb => ?_, g1.old⟩ ?_ f1 upd_same ⟨vs, rfl, r1⟩
        · rw [upd_ne (fun z => by rw [z, f1] at eb; cases eb)]; exact g1.le b u eb
        · cases eh : H p with
          | none => rfl
          | some o => rw [g1.ex p o eh] at hp; cases hp
      · cases e'
def fNewT : Env → Option Sl := fun _ => some (.oT [])
def fNewI : Env → Option Sl := fun _ => some (.oI [])
theorem df_newT : DF cm X (.Dict [] [] pos) fNewT := PE.imp pe_dnewT fun σ H Q ⟨F, ρ, s, re, e, q⟩ => by
  cases e
  intro p hp
  refine q F _ p (.dT []) ⟨Ex.new hp, Ex.refl F, fun b u eb => ?_, fun _ _ => .inl rfl⟩ hp (none_of_none re.le hp) upd_same ⟨[], rfl, .nil⟩
  rw [upd_ne (fun z => by rw [z, none_of_none re.le hp] at eb; cases eb)]
  exact re.le b u eb
theorem df_newI : DF cm X (.Dict [] [] pos) fNewI := PE.imp pe_dnewK fun σ H Q ⟨F, ρ, s, re, e, q⟩ => by
  cases e
  intro p hp
  refine q F _ p (.dK []) ⟨Ex.new hp, Ex.refl F, fun b u eb => ?_, fun _ _ => .inl rfl⟩ hp (none_of_none re.le hp) upd_same ⟨[], rfl, .nil⟩
  rw [upd_ne (fun z => by rw [z, none_of_none re.le hp] at eb; cases eb)]
  exact re.le b u eb

/-! ### d[k] = v -/
def hasT (ks : List (List Int × D)) (k : List Int) : Bool := ks.any fun p => decide (p.1 = k)
def putT (ks : List (List Int × D)) (k : List Int) (d : D) : List (List Int × D) := if hasT ks k = true then ks.map (fun p => if p.1 = k then (p.1, d) else p) else ks ++ [(k, d)]
def getT (ks : List (List Int × D)) (k : List Int) : Option D := (ks.find? fun p => decide (p.1 = k)).map (·.2)
theorem inl_inj {k m : List Int} : (k.map Sum.inl : List Key) = m.map Sum.inl ↔ k = m := by
  constructor
  · intro h
    induction k generalizing m with
    | nil => cases m with
      | nil => rfl
      | cons y m => cases h
    | cons x k ih => cases m with
      | nil => cases h
      | cons y m =>
        rw [List.map_cons, List.map_cons] at h
        injection h with h1 h2
        injection h1 with h1
        rw [h1, ih h2]
  · intro h; rw [h]
theorem RepT.any {K : PySem.W.Frag} {F : Hp} (k : List Int) : ∀ {kvs : List (List Key × V)} {ks : List (List Int × D)}, RepT K cm F kvs ks → (kvs.any fun kv => decide (kv.1 = k.map Sum.inl)) = hasT ks k
  | _, _, .nil => rfl
  | _, _, @RepT.cons _ _ _ m v vs d ds h1 h2 => by
    show (decide ((m.map Sum.inl : List Key) = k.map Sum.inl) || _) = (decide (m = k) || hasT ds k)
    rw [show decide ((m.map Sum.inl : List Key) = k.map Sum.inl) = decide (m = k) from decide_eq_decide.mpr inl_inj]
    congr 1
    exact RepT.any k h2
theorem RepT.app {K : PySem.W.Frag} {F : Hp} : ∀ {kvs kws : List (List Key × V)} {ks ls : List (List Int × D)}, RepT K cm F kvs ks → RepT K cm F kws ls → RepT K cm F (kvs ++ kws) (ks ++ ls)
  | _, _, _, _, .nil, h => h
  | _, _, _, _, .cons h1 h2, h => .cons h1 (RepT.app h2 h)
theorem RepT.over {K : PySem.W.Frag} {F : Hp} (k : List Int) {v : V} {d : D} (r : Rep K cm F v d) : ∀ {kvs : List (List Key × V)} {ks : List (List Int × D)}, RepT K cm F kvs ks →
    RepT K cm F (kvs.map fun kv => if kv.1 = k.map Sum.inl then (kv.1, v) else kv) (ks.map fun p => if p.1 = k then (p.1, d) else p)
  | _, _, .nil => .nil
  | _, _, @RepT.cons _ _ _ m w vs d' ds h1 h2 => by
    rw [List.map_cons, List.map_cons]
    by_cases e : m = k
    · rw [if_pos (show (m.map Sum.inl : List Key) = k.map Sum.inl by rw [e]), if_pos (show m = k from e)]
      exact .cons r (RepT.over k r h2)
    · rw [if_neg (show ¬ (m.map Sum.inl : List Key) = k.map Sum.inl from fun z => e (inl_inj.mp z)), if_neg (show ¬ m = k from e)]
      exact .cons h1 (RepT.over k r h2)
theorem RepT.put {K : PySem.W.Frag} {F : Hp} (k : List Int) {v : V} {d : D} (r : Rep K cm F v d) {kvs : List (List Key × V)} {ks : List (List Int × D)} (h : RepT K cm F kvs ks) : RepT K cm F (putK kvs (k.map Sum.inl) v) (putT ks k d) := by
  unfold putK putT
  rw [RepT.any k h]
  split
  · exact RepT.over k r h
  · exact h.app (.cons r .nil)
theorem RepT.get {K : PySem.W.Frag} {F : Hp} (k : List Int) : ∀ {kvs : List (List Key × V)} {ks : List (List Int × D)}, RepT K cm F kvs ks →
    (getT ks k = none ∧ valV kvs (k.map Sum.inl) = none) ∨ ∃ d v, getT ks k = some d ∧ valV kvs (k.map Sum.inl) = some v ∧ Rep K cm F v d
  | _, _, .nil => .inl ⟨rfl, rfl⟩
  | _, _, @RepT.cons _ _ _ m w vs d' ds h1 h2 => by
    by_cases e : m = k
    · subst e
      exact .inr ⟨d', w, by unfold getT; simp, valV_pos rfl, h1⟩
    · rw [valV_neg (show ¬ (m.map Sum.inl : List Key) = k.map Sum.inl from fun z => e (inl_inj.mp z))]
      have : getT ((m, d') :: ds) k = getT ds k := by
        unfold getT
        rw [List.find?_cons_of_neg (by simpa using e)]
      rw [this]
      exact RepT.get k h2
def sPutT (i : Nat) (k f : Env → Option D) : Env → Option Out := fun ρ => match ρ[i]? with
  | some (.oT ks) => (f ρ).bind fun d => (k ρ).bind fun kd => (dTupI kd).bind fun n => if ks.length < lim then some (.nx (setS ρ i (.oT (putT ks n d)))) else none
  | _ => none
theorem dTupI_dec {d : D} {n : List Int} (h : dTupI d = some n) : d = tupI n := by
  unfold dTupI at h
  split at h
  · rw [dInts_dec h]; rfl
  · cases h
theorem ds_putT {i : Nat} {x : Str} {px pos' : Pos} {ke : Expr} {k : Env → Option D} (hu : X.A.units + 1 < cLine) (hv : PE X (.Name x px) (tVar i)) (hk : DE cm X ke k) (he : DE cm X e f)
    (hs : swapsWith e (some (.Subscript (.Name x px) ke pos')) pos.line X.env = pure false := by rfl) : DS cm F0 H0 X (.Assign [.Subscript (.Name x px) ke pos'] e pos) (sPutT i k f) :=
  PS.imp (ps_dput hu hv hk he hs) fun Dn σ H ⟨F, ρ, o, se, e, p⟩ => by
    unfold sPutT at e
    split at e
    · rename_i ks h1
      cases h2 : f ρ with
      | none => rw [h2] at e; cases e
      | some d =>
      rw [h2] at e
      have e1 : ((k ρ).bind fun kd => (dTupI kd).bind fun n => if ks.length < lim then some (Out.nx (setS ρ i (.oT (putT ks n d)))) else none) = some o := e
      cases h3 : k ρ with
      | none => rw [h3] at e1; cases e1
      | some kd =>
      rw [h3] at e1
      have e2 : ((dTupI kd).bind fun n => if ks.length < lim then some (Out.nx (setS ρ i (.oT (putT ks n d)))) else none) = some o := e1
      cases h4 : dTupI kd with
      | none => rw [h4] at e2; cases e2
      | some n =>
      rw [h4] at e2
      have e3 : (if ks.length < lim then some (Out.nx (setS ρ i (.oT (putT ks n d)))) else none) = some o := e2
      split at e3
      · rename_i hl
        cases e3
        rw [dTupI_dec h4] at h3
        refine ⟨F, ρ, d, se.re, h2, fun F1 H1 v g1 r1 => ?_⟩
        obtain ⟨xo, h6, a, u, h7, h8, h9, kvs, h10, r⟩ := (se.re.gr g1).at h1
        subst h7; subst h10
        refine ⟨.ref a, h6, F1, ρ, _, se.re.gr g1, h3, fun F2 H2 y g2 r2 => ?_⟩
        cases r2 with | @tup b us _ h11 r3 =>
        rw [r3.ints] at h11
        refine ⟨a, _, rfl, .inr ⟨kvs, n.map Sum.inl, b, g2.ex _ _ h8, rfl, ?_, ?_, rfl⟩, ?_⟩
        · rw [kV_map]; exact g2.le _ _ h11
        · rw [r.length, sizeLine_eq]; unfold lim at hl; omega
        · exact p F2 _ σ (g1.fx.trans g2.fx) (((se.gr g1).gr g2).mut h6 h1 rfl ⟨_, rfl, (r.up g2.fx).put n (r1.up g2.fx)⟩)
      · cases e3
    · cases e

/-! ### two clauses -/
def compD2 (gg : D → Env → Option Env) (tt : Env → Option Bool) (fi1 : Env → Option (List D)) (vs1 : List Nat) (gg1 : D → Env → Option Env) (tt1 : Env → Option Bool) (fe : Env → Option D) (ρ : Env) : List D → Option (List D)
  | [] => some []
  | x :: xs => (gg x ρ).bind fun ρ1 => (tt ρ1).bind fun b => if b = true then ((fi1 ρ1).bind fun it1 => compD gg1 tt1 fe (wipeD ρ1 vs1) it1).bind fun ys => (compD2 gg tt fi1 vs1 gg1 tt1 fe ρ xs).bind fun zs => some (ys ++ zs)
    else compD2 gg tt fi1 vs1 gg1 tt1 fe ρ xs
end
end DL

/-! D13: short words for generated terms. -/
namespace DL
open PySem PySem.Spec L2 PyProof.Rows
section
variable {cm : Nat → Addr} {X : Cx} {tg e : Expr} {es : List Expr} {f : Env → Option D} {fa : Env → Option (List D)} {pos : Pos}
theorem dv (i : Nat) {x : Str} (hN : X.N[i]? = some x := by rfl) (hv : Vis X.env.scope x := by first | exact Or.inl rfl | exact Or.inr (Or.inl rfl) | exact Or.inr (Or.inr rfl)) (hd : (x == ("__debug__" : Str)) = false := by decide)
    (hcd : (x == ("__classdict__" : Str)) = false := by decide) : DE cm X (.Name x pos) (eVar i) := de_var hN hv hd hcd
/-- whatever may be walked -/
def iA (f : Env → Option D) : Env → Option (List D) := fun ρ => match f ρ with
  | some (.lst xs) => some xs
  | some (.tup xs) => some xs
  | some (.scr ns) => if ns.length ≤ lim then some (ns.map D.int) else none
  | _ => none
theorem di_any (h : DE cm X e f) : DI cm X tg e (iA f) := ⟨fun pins s σ H Q I ⟨F, ρ, items, re, e1, q⟩ => by
  unfold iA at e1
  split at e1
  · rename_i xs h1
    exact (di_list h).run pins s σ H Q I ⟨F, ρ, items, re, by unfold iL; rw [h1]; exact e1, q⟩
  · rename_i xs h1
    exact (di_tup h).run pins s σ H Q I ⟨F, ρ, items, re, by unfold iT; rw [h1]; exact e1, q⟩
  · rename_i xs h1
    exact (di_scr h).run pins s σ H Q I ⟨F, ρ, items, re, by unfold iS; rw [h1]; exact e1, q⟩
  · cases e1⟩
/-- (a, b, ..) = a tuple or a list -/
def gA (n : Nat) (gs : List D → Env → Option Env) : D → Env → Option Env := fun d ρ => match d with
  | .tup xs => if xs.length = n then gs xs ρ else none
  | .lst xs => if xs.length = n then gs xs ρ else none
  | _ => none
theorem dg_any {ts : List Nat} {gs : List D → Env → Option Env} {k n : Nat} (hc : X.calm = true) (h : DGs cm X es ts gs) (hn : (assignEach es X.env).length = n := by rfl) (hst : (assignEach es X.env).findIdx? (·.1) = none := by rfl) : DG cm X (.Tuple es k pos) ts (gA n gs) :=
  ⟨fun pins s σ H v u Q I r ⟨F, ρ, d, ρ', re, rd, eg, q⟩ => by
    unfold gA at eg
    split at eg
    · exact (dg_tup hc h hn hst).run pins s σ H v u Q I r ⟨F, ρ, _, ρ', re, rd, eg, q⟩
    · exact (dg_lst hc h hn hst).run pins s σ H v u Q I r ⟨F, ρ, _, ρ', re, rd, eg, q⟩
    · cases eg⟩
end

/-! ### defs by names -/
structure Std (K : PySem.W.Frag) (mg : Str → Option Value) (x : Str) (st : Stmt) (ps : List Str) : Prop where
  ex : ∃ f fd, FunD K x x (defArgs st) (defBody st) (defScope st) [] [] f fd ∧ mg x = some (.ref f) ∧ Binds K fd ps []
structure OkF (P : Program) (w : World) (K : PySem.W.Frag) (mg : Str → Option Value) (base : Heap) (cm : Nat → Addr) (x : Str) (ps : List Str) (k : Nat) (G : List D → Option D) : Prop where
  ex : ∃ f fd, FnOk P w K mg base CX0 k f fd ps (spD K cm G) ∧ mg x = some (.ref f) ∧ PySem.W.keepIn K (.ref f) = true ∧ Binds K fd ps []
def gRun (n : Nat) (N : List Str) (b : Env → Option Out) : List D → Option D := fun ds => if ds.length = n then (match b (startD N ds) with
  | some (.rt d) => some d
  | some (.nx _) => some .non
  | _ => none) else none
section
variable {P : Program} {w : World} {K : PySem.W.Frag} {mg : Str → Option Value} {base : Heap} {cm : Nat → Addr}
theorem okf0 {x : Str} {st : Stmt} {f : Addr} {fd : FuncData} {N ps : List Str} {k : Nat} {b : Env → Option Out} (Fn : FunD K x x (defArgs st) (defBody st) (defScope st) [] [] f fd) (Sc : FnScope N ps (defScope st))
    (hb : ∀ (f : Addr) (cdv : Value) (A : Around) (outer : List PySem.Env) (s : Shared) (H : Hp) (E : XK) (F0 : Hp), Room k (A.deeper (envOfC x (defScope st) s.heap.objs.size f cdv)) →
      DSs cm F0 H (cxOf CX0 P w K mg base N x (defScope st) f cdv A outer s H E).nox (defBody st) b) : FnOk P w K mg base CX0 (k + 1) f fd ps (spD K cm (gRun ps.length N b)) := by
  refine Fn.ok Sc (fun vs H Q E h => ?_) (fun cdv A outer s H vs Q E hr h => ?_)
  · obtain ⟨F, ds, d, le, r, e, _⟩ := h
    unfold gRun at e
    split at e
    · rename_i hl; rw [r.length]; exact hl
    · cases e
  · obtain ⟨F, ds, d, le, r, e, q⟩ := h
    refine ⟨_, PSs.nox (hb f cdv A outer s H E F hr), ?_⟩
    have se : SE K cm F H F H (L2.start N vs) (startD N ds) := ⟨re_start le r, Gr.refl le, fun i a s h1 h2 h3 => (startD_noown h1 h2).elim⟩
    unfold gRun at e
    split at e
    · split at e
      · rename_i h1
        cases e
        exact ⟨F, _, .rt d, se, h1, fun F' H' v x g rr => q F' H' v g rr⟩
      · rename_i h1
        cases e
        exact ⟨F, _, .nx _, se, h1, fun F' H' σ' x se' => q F' H' _ se'.g .non⟩
      · cases e
    · cases e
theorem okf {x : Str} {st : Stmt} {N ps : List Str} {k : Nat} {b : Env → Option Out} (S : Std K mg x st ps) (Sc : FnScope N ps (defScope st))
    (hb : ∀ (f : Addr) (cdv : Value) (A : Around) (outer : List PySem.Env) (s : Shared) (H : Hp) (E : XK) (F0 : Hp), Room k (A.deeper (envOfC x (defScope st) s.heap.objs.size f cdv)) →
      DSs cm F0 H (cxOf CX0 P w K mg base N x (defScope st) f cdv A outer s H E).nox (defBody st) b) : OkF P w K mg base cm x ps (k + 1) (gRun ps.length N b) := by
  obtain ⟨f, fd, Fn, hm, hB⟩ := S.ex
  exact ⟨f, fd, okf0 Fn Sc hb, hm, Fn.kp, hB⟩
theorem de_callO {X : Cx} {e : Expr} {es : List Expr} {fa : Env → Option (List D)} {pos p : Pos} {k k' : Nat} {ps : List Str} {x : Str} {G : List D → Option D} (O : OkF X.prog X.w X.K X.mg X.base cm x ps k G) (hr : Room k' X.A) (hk : k ≤ k') (hg : Gl X x)
    (ha : DA cm X (e :: es) fa) (hdb : (x == ("__debug__" : Str)) = false := by decide) (he : starEach (e :: es) X.env = (false, eval e X.env) :: starEach es X.env := by rfl) (hpl : (backTo pos (starEach es X.env)).any (·.1) = false := by rfl) :
    DE cm X (.Call (.Name x p) (e :: es) [] pos) (eCall G fa) := by
  obtain ⟨f, fd, Fn, hm, hkp, hB⟩ := O.ex
  exact de_call Fn (hr.mono hk) hg hm hkp hB ha hdb he hpl
end
/-! ### what is built in, by names -/
theorem bb_len : bootBuiltins "len" = some (.builtin "len") := by decide +kernel
theorem bb_sum : bootBuiltins "sum" = some (.builtin "sum") := by decide +kernel
theorem bb_any : bootBuiltins "any" = some (.builtin "any") := by decide +kernel
theorem bb_all : bootBuiltins "all" = some (.builtin "all") := by decide +kernel
theorem bb_max : bootBuiltins "max" = some (.builtin "max") := by decide +kernel
theorem bb_min : bootBuiltins "min" = some (.builtin "min") := by decide +kernel
theorem bb_abs : bootBuiltins "abs" = some (.builtin "abs") := by decide +kernel
theorem bb_sorted : bootBuiltins "sorted" = some (.builtin "sorted") := by decide +kernel
theorem bb_int : bootBuiltins "int" = some (.type "int") := by decide +kernel
theorem bb_bool : bootBuiltins "bool" = some (.type "bool") := by decide +kernel
theorem bb_tuple : bootBuiltins "tuple" = some (.type "tuple") := by decide +kernel
theorem bb_list : bootBuiltins "list" = some (.type "list") := by decide +kernel
/-- what is free in the module -/
structure Bl (mg : Str → Option Value) : Prop where
  len : mg "len" = none
  sum : mg "sum" = none
  any : mg "any" = none
  all : mg "all" = none
  max : mg "max" = none
  min : mg "min" = none
  abs : mg "abs" = none
  sorted : mg "sorted" = none
  int : mg "int" = none
  bool : mg "bool" = none
  tuple : mg "tuple" = none
  list : mg "list" = none
  range : mg "range" = none
  zip : mg "zip" = none
  isinstance : mg "isinstance" = none
/-! list(..): of a walkable, of a dict's keys -/
def lstA (ds : List D) : Option D := match ds with
  | [.dT ks] => keysG [.dT ks]
  | ds => lstG ds
end DL
namespace DL
open PySem PySem.Spec L2 PyProof.Rows
def orG (G G' : List D → Option D) : List D → Option D := fun ds => match G ds with
  | some d => some d
  | none => G' ds
theorem cd_or {K : PySem.W.Frag} {cm : Nat → Addr} {r r' : List V → Hp → VK → Prop} {G G' : List D → Option D} (h : CallD K cm r G) (h' : CallD K cm r' G') : CallD K cm (fun xs H Q => r xs H Q ∨ r' xs H Q) (orG G G') :=
  fun F H vs ds d Q le rr e q => by
    unfold orG at e
    split at e
    · rename_i d' h1
      cases e
      exact .inl (h F H vs ds _ Q le rr h1 q)
    · exact .inr (h' F H vs ds d Q le rr e q)
noncomputable abbrev lsG := orG keysG lstG
abbrev cd_ls {K : PySem.W.Frag} {cm : Nat → Addr} := cd_or (K := K) (cm := cm) cd_keys cd_lst
end DL

/-! D14: comprehensions of two clauses. -/
namespace DL
open PySem PySem.Spec L2 PyProof.Rows
section
variable {K : PySem.W.Frag} {cm : Nat → Addr} {F H F' H' : Hp} {σ : L2.St} {ρ : Env}
theorem RE.hid {p : Addr} (r : RE K cm F H σ ρ) (fp : F p = none) (no : ∀ (i : Nat) (s : Sl), ρ[i]? = some s → s.own = true → σ[i]? = some (some (.ref p)) → False) : RE K cm F (DL.hid H p) σ ρ := by
  refine ⟨fun a o e => ?_, r.len, fun i x s h1 h2 => ?_, r.ap⟩
  · rw [hid_ne H (fun z => by subst z; rw [fp] at e; cases e)]; exact r.le a o e
  · have q := r.sl i x s h1 h2
    cases hs : s.own with
    | true =>
      obtain ⟨a, o, e1, e2, e3, e4⟩ := SlR.own hs q
      subst e1
      exact SlR.of_own hs ⟨a, o, rfl, by rw [hid_ne H (fun z => by subst z; exact no i s h2 hs h1)]; exact e2, e3, e4⟩
    | false =>
      cases s with
      | no => trivial
      | va d => exact q
      | ol xs => cases hs
      | oI xs => cases hs
      | oT xs => cases hs
      | oi b t fs => cases hs
theorem Gr.hid {p : Addr} (g : Gr F H F' H') (n : H p = none) (f : F' p = none) : Gr F H F' (DL.hid H' p) :=
  ⟨fun a o e => by rw [hid_ne H' (fun z => by subst z; rw [n] at e; cases e)]; exact g.ex a o e, g.fx, fun a o e => by rw [hid_ne H' (fun z => by subst z; rw [f] at e; cases e)]; exact g.le a o e, g.old⟩
theorem Gr.updN {p : Addr} {o : HO} (g : Gr F H F' H') (n : H p = none) (f : F' p = none) : Gr F H F' (upd H' p o) :=
  ⟨fun a u e => by rw [upd_ne (fun z => by rw [z, n] at e; cases e)]; exact g.ex a u e, g.fx, fun a u e => by rw [upd_ne (fun z => by rw [z, f] at e; cases e)]; exact g.le a u e, g.old⟩
theorem Gr.keepN {p : Addr} {xs : List V} (g : Gr F H F' H') (h : H p = some (.lst xs)) (f : F p = none) : F' p = none := by
  rcases g.old p (by rw [h]; simp) with z | ⟨ys, z⟩
  · rw [z]; exact f
  · rw [h] at z; cases z
end
def fLc2 (fi : Env → Option (List D)) (vs : List Nat) (gg : D → Env → Option Env) (tt : Env → Option Bool) (fi1 : Env → Option (List D)) (vs1 : List Nat) (gg1 : D → Env → Option Env) (tt1 : Env → Option Bool) (fe : Env → Option D) : Env → Option Sl := fun ρ =>
  (fi ρ).bind fun items => (compD2 gg tt fi1 vs1 gg1 tt1 fe (wipeD ρ vs) items).bind fun ys => if ys.length ≤ lim then some (.ol ys) else none
def eLc2 (fi : Env → Option (List D)) (vs : List Nat) (gg : D → Env → Option Env) (tt : Env → Option Bool) (fi1 : Env → Option (List D)) (vs1 : List Nat) (gg1 : D → Env → Option Env) (tt1 : Env → Option Bool) (fe : Env → Option D) : Env → Option D := eFz (fLc2 fi vs gg tt fi1 vs1 gg1 tt1 fe)
theorem ww_wipe (σ : L2.St) (vs : List Nat) : L2.wipe (L2.wipe σ vs) vs = L2.wipe σ vs :=
  same_wipe (ts := vs) ⟨wipe_length _ _, fun i hi => wipe_out hi⟩ fun i hi => hi
theorem compD_cons {gg : D → Env → Option Env} {tt : Env → Option Bool} {fe : Env → Option D} {ρ : Env} {x : D} {xs zs : List D} (h : compD gg tt fe ρ (x :: xs) = some zs) :
    ∃ ρ1 b, gg x ρ = some ρ1 ∧ tt ρ1 = some b ∧ ((b = false ∧ compD gg tt fe ρ xs = some zs) ∨ (b = true ∧ ∃ y ys, fe ρ1 = some y ∧ compD gg tt fe ρ xs = some ys ∧ zs = y :: ys)) := by
  have h1 : (gg x ρ).bind (fun ρ1 => (tt ρ1).bind fun b => if b = true then (fe ρ1).bind fun y => (compD gg tt fe ρ xs).bind fun ys => some (y :: ys) else compD gg tt fe ρ xs) = some zs := h
  obtain ⟨ρ1, e1, h2⟩ := Option.bind_eq_some_iff.mp h1
  obtain ⟨b, e2, h3⟩ := Option.bind_eq_some_iff.mp h2
  refine ⟨ρ1, b, e1, e2, ?_⟩
  cases b with
  | false => rw [if_neg Bool.false_ne_true] at h3; exact .inl ⟨rfl, h3⟩
  | true =>
    rw [if_pos rfl] at h3
    obtain ⟨y, e3, h4⟩ := Option.bind_eq_some_iff.mp h3
    obtain ⟨ys, e4, h5⟩ := Option.bind_eq_some_iff.mp h4
    cases h5
    exact .inr ⟨rfl, y, ys, e3, e4, rfl⟩
theorem compD2_cons {gg : D → Env → Option Env} {tt : Env → Option Bool} {fi1 : Env → Option (List D)} {vs1 : List Nat} {gg1 : D → Env → Option Env} {tt1 : Env → Option Bool} {fe : Env → Option D} {ρ : Env} {x : D} {xs zs : List D} (h : compD2 gg tt fi1 vs1 gg1 tt1 fe ρ (x :: xs) = some zs) :
    ∃ ρ1 b, gg x ρ = some ρ1 ∧ tt ρ1 = some b ∧ ((b = false ∧ compD2 gg tt fi1 vs1 gg1 tt1 fe ρ xs = some zs) ∨ (b = true ∧ ∃ it1 ys ws, fi1 ρ1 = some it1 ∧ compD gg1 tt1 fe (wipeD ρ1 vs1) it1 = some ys ∧ compD2 gg tt fi1 vs1 gg1 tt1 fe ρ xs = some ws ∧ zs = ys ++ ws)) := by
  have h1 : (gg x ρ).bind (fun ρ1 => (tt ρ1).bind fun b => if b = true then ((fi1 ρ1).bind fun it1 => compD gg1 tt1 fe (wipeD ρ1 vs1) it1).bind fun ys => (compD2 gg tt fi1 vs1 gg1 tt1 fe ρ xs).bind fun zs => some (ys ++ zs) else compD2 gg tt fi1 vs1 gg1 tt1 fe ρ xs) = some zs := h
  obtain ⟨ρ1, e1, h2⟩ := Option.bind_eq_some_iff.mp h1
  obtain ⟨b, e2, h3⟩ := Option.bind_eq_some_iff.mp h2
  refine ⟨ρ1, b, e1, e2, ?_⟩
  cases b with
  | false => rw [if_neg Bool.false_ne_true] at h3; exact .inl ⟨rfl, h3⟩
  | true =>
    rw [if_pos rfl] at h3
    obtain ⟨ys, e3, h4⟩ := Option.bind_eq_some_iff.mp h3
    obtain ⟨it1, e5, e6⟩ := Option.bind_eq_some_iff.mp e3
    obtain ⟨ws, e4, h5⟩ := Option.bind_eq_some_iff.mp h4
    cases h5
    exact .inr ⟨rfl, it1, ys, ws, e5, e6, e4, rfl⟩
section
variable {K : PySem.W.Frag} {cm : Nat → Addr}
theorem lc2_imp {fi fi1 : Env → Option (List D)} {vs ts vs1 ts1 : List Nat} {gg gg1 : D → Env → Option Env} {tt tt1 : Env → Option Bool} {fe : Env → Option D} (hts : ∀ i ∈ ts, i ∈ vs) (hts1 : ∀ i ∈ ts1, i ∈ vs1) :
    ∀ σ H Q, tDF K cm (fLc2 fi vs gg tt fi1 vs1 gg1 tt1 fe) σ H Q → tLc2 (tDI K cm fi) (tDG K cm ts gg) (tDT K cm tt) (tDI K cm fi1) (tDG K cm ts1 gg1) (tDT K cm tt1) (tD K cm fe) vs vs1 σ H Q := fun σ H Q ⟨F, ρ, s, re, e, q⟩ => by
  obtain ⟨items, h1, e1⟩ := Option.bind_eq_some_iff.mp (show (fi ρ).bind _ = some s from e)
  obtain ⟨total, h2, e2⟩ := Option.bind_eq_some_iff.mp e1
  split at e2
  case isFalse => cases e2
  rename_i hlim
  cases e2
  refine ⟨F, ρ, items, re, h1, fun F1 H1 J g1 ok hz D hD => ?_⟩
  have nF1 : F1 D = none := none_of_none g1.le hD
  have re1 := (re.gr g1).wipe vs
  refine ⟨fun i m H2 => m = items.length - i ∧ i ≤ items.length ∧ ∃ F2 acc ys zs, Gr F1 H1 F2 H2 ∧ H2 D = some (.lst acc) ∧ F2 D = none ∧ Reps K cm F2 acc ys ∧ compD2 gg tt fi1 vs1 gg1 tt1 fe (wipeD ρ vs) (items.drop i) = some zs ∧ ys ++ zs = total,
    ⟨items.length, by simp, Nat.zero_le _, F1, [], [], total, (Gr.refl g1.le).updN hD nF1, upd_same, nF1, .nil, h2, rfl⟩, ?_⟩
  rintro i m H2 ⟨rfl, hi, F2, acc, ys, zs, g2, hacc, nF2, racc, hc, et⟩
  by_cases hlt : i < items.length
  · refine .inr ⟨ok.go F2 H2 i g2.fx g2.le hlt, fun H' => i + 1 ≤ items.length ∧ ∃ F3 acc ys zs, Gr F1 H1 F3 H' ∧ H' D = some (.lst acc) ∧ F3 D = none ∧ Reps K cm F3 acc ys ∧ compD2 gg tt fi1 vs1 gg1 tt1 fe (wipeD ρ vs) (items.drop (i + 1)) = some zs ∧ ys ++ zs = total,
      fun H' ⟨a, b⟩ => ⟨items.length - (i + 1), by omega, rfl, a, b⟩, fun x H3 y => ?_⟩
    rw [drop_at hlt] at hc
    have hx : items[i]? = some items[i] := List.getElem?_eq_getElem hlt
    obtain ⟨F3, g3, r3⟩ := ok.yld F2 H2 i x H3 g2.fx g2.le y _ hx
    generalize items[i] = x0 at hc hx r3
    obtain ⟨ρ1, b, hg, ht, alt⟩ := compD2_cons hc
    refine ⟨F3, wipeD ρ vs, x0, ρ1, re1.gr (g2.trans g3), r3, hg, fun F4 H4 σ4 g4 re4 sm os => ⟨?_, F4, ρ1, b, re4, ht, fun F5 H5 g5 => ?_⟩⟩
    · rw [same_wipe sm hts]; exact ww_wipe σ vs
    · have nD3 := g3.keepN hacc nF2
      have hD3 := g3.ex _ _ hacc
      have nD4 := g4.keepN hD3 nD3
      have hD4 := g4.ex _ _ hD3
      have nD5 := g5.keepN hD4 nD4
      have hD5 := g5.ex _ _ hD4
      have g25 := (g3.trans g4).trans g5
      have noD : ∀ (i : Nat) (s : Sl), ρ1[i]? = some s → s.own = true → σ4[i]? = some (some (.ref D)) → False := fun i s a1 a2 a3 => by
        obtain ⟨b1, b2⟩ := os i s a1 a2
        rw [sm.2 i b2] at a3
        obtain ⟨a, o, e1, e2, _⟩ := SlR.own a2 (re1.sl i _ s a3 b1)
        cases e1
        rw [hD] at e2; cases e2
      rcases alt with ⟨rfl, hc2⟩ | ⟨rfl, it1, ys1, ws, hi1, hc1, hc2, rfl⟩
      · exact ifF ⟨hlt, F5, acc, ys, zs, g2.trans g25, hD5, nD5, racc.up g25.fx, hc2, et⟩
      · refine ifT ⟨F5, ρ1, it1, re4.gr g5, hi1, fun F6 H6 J1 g6 ok1 hz1 => ?_⟩
        have nD6 := g6.keepN hD5 nD5
        have hD6 := g6.ex _ _ hD5
        have re6 := ((re4.gr g5).gr g6).hid nD6 noD
        have g16 := (g2.trans (g25.trans g6)).hid hD nD6
        have re6w := re6.wipe vs1
        have hle6 : Ex F6 (hid H6 D) := re6.le
        refine ⟨fun j k H7 => k = it1.length - j ∧ j ≤ it1.length ∧ ∃ F7 acc1 us vs', Gr F6 (hid H6 D) F7 H7 ∧ H7 D = some (.lst acc1) ∧ F7 D = none ∧ Reps K cm F7 acc1 (ys ++ us) ∧ compD gg1 tt1 fe (wipeD ρ1 vs1) (it1.drop j) = some vs' ∧ us ++ vs' = ys1,
          ⟨it1.length, by simp, Nat.zero_le _, F6, acc, [], ys1, ⟨hid_ex H6 D, Ex.refl _, g6.le, fun a ha => .inl rfl⟩, hD6, nD6, by rw [List.append_nil]; exact racc.up (g25.trans g6).fx, hc1, rfl⟩, ?_⟩
        rintro j k H7 ⟨rfl, hj, F7, acc1, us, vs', g7, hacc1, nF7, racc1, hcj, etj⟩
        by_cases hjt : j < it1.length
        · refine .inr ⟨ok1.go F7 H7 j g7.fx g7.le hjt, fun H' => j + 1 ≤ it1.length ∧ ∃ F7 acc1 us vs', Gr F6 (hid H6 D) F7 H' ∧ H' D = some (.lst acc1) ∧ F7 D = none ∧ Reps K cm F7 acc1 (ys ++ us) ∧ compD gg1 tt1 fe (wipeD ρ1 vs1) (it1.drop (j + 1)) = some vs' ∧ us ++ vs' = ys1,
            fun H' ⟨a, b⟩ => ⟨it1.length - (j + 1), by omega, rfl, a, b⟩, fun x8 H8 y8 => ?_⟩
          rw [drop_at hjt] at hcj
          have hx8 : it1[j]? = some it1[j] := List.getElem?_eq_getElem hjt
          obtain ⟨F8, g8, r8⟩ := ok1.yld F7 H7 j x8 H8 g7.fx g7.le y8 _ hx8
          generalize it1[j] = x1 at hcj hx8 r8
          obtain ⟨ρ2, b2, hg2, ht2, alt2⟩ := compD_cons hcj
          refine ⟨F8, wipeD ρ1 vs1, x1, ρ2, (re6w.gr (g7.trans g8)), r8, hg2, fun F9 H9 σ9 g9 re9 sm9 os9 => ⟨?_, F9, ρ2, b2, re9, ht2, fun F10 H10 g10 => ?_⟩⟩
          · rw [same_wipe sm9 hts1]; exact ww_wipe σ4 vs1
          · have nD8 := g8.keepN hacc1 nF7
            have hD8 := g8.ex _ _ hacc1
            have nD9 := g9.keepN hD8 nD8
            have hD9 := g9.ex _ _ hD8
            have nD10 := g10.keepN hD9 nD9
            have hD10 := g10.ex _ _ hD9
            have g710 := (g8.trans g9).trans g10
            rcases alt2 with ⟨rfl, hr⟩ | ⟨rfl, y0, ws', he, hr, rfl⟩
            · exact ifF ⟨hjt, F10, acc1, us, vs', g7.trans g710, hD10, nD10, racc1.up g710.fx, hr, etj⟩
            · refine ifT ⟨F10, ρ2, y0, re9.gr g10, he, fun F11 H11 v g11 r11 => ?_⟩
              have nD11 := g11.keepN hD10 nD10
              have hD11 := g11.ex _ _ hD10
              have g711 := g710.trans g11
              have racc11 := racc1.up g711.fx
              refine ⟨acc1, hD11, ?_, hjt, F11, acc1 ++ [v], us ++ [y0], ws', (g7.trans g711).updN (hid_at H6 D) nD11, upd_same, nD11, ?_, hr, by rw [List.append_assoc]; exact etj⟩
              · have := racc1.length
                have h9 : total.length ≤ lim := hlim
                rw [← et, ← etj] at h9
                rw [this, sizeLine_eq]
                unfold lim at h9
                simp only [List.length_append, List.length_cons] at h9 ⊢
                omega
              · rw [← List.append_assoc]
                exact racc11.append (.cons r11 .nil)
        · have ej : j = it1.length := by omega
          subst ej
          rw [List.drop_length] at hcj
          cases hcj
          rw [List.append_nil] at etj
          subst etj
          refine .inl ⟨ok1.stop F7 H7 _ g7.fx g7.le (Nat.le_refl _), hlt, F7, acc1, ys ++ us, ws, g16.trans g7, hacc1, nF7, racc1, hc2, by rw [List.append_assoc]; exact et⟩
  · have ei : i = items.length := by omega
    subst ei
    rw [List.drop_length] at hc
    cases hc
    refine .inl ⟨ok.stop F2 H2 _ g2.fx g2.le (Nat.le_refl _), ?_⟩
    rw [List.append_nil] at et
    subst et
    refine q F2 H2 D (.lst acc) (g1.trans g2) ?_ nF2 hacc ⟨acc, rfl, racc⟩
    cases e : H D with
    | none => rfl
    | some o => rw [g1.ex D o e] at hD; cases hD
end
section
variable {cm : Nat → Addr} {X : Cx} {elt tg iter tg1 iter1 : Expr} {ifs ifs1 : List Expr} {scope : Scope} {own : List (Str × Nat)} {pos : Pos} {fi fi1 : Env → Option (List D)} {ts ts1 vs1 : List Nat} {gg gg1 : D → Env → Option Env} {tt tt1 : Env → Option Bool} {fe : Env → Option D}
theorem df_lc2 (hc : X.calm = true) (hN : X.N.Nodup) (hi : DI cm X tg iter fi) (ok : BlkOk X.N X.env.scope scope own) (hts : ∀ i ∈ ts, i ∈ own.map (·.2)) (hts1 : ∀ i ∈ ts1, i ∈ vs1) (hv : ∀ i ∈ vs1, i ∈ own.map (·.2))
    (hg : ∀ (s : Shared) (H : Hp) (C : Addr) (cl : List (Str × Addr)) (fp : List Addr), DG cm (X.blk s H scope (compEnvC scope cl C X.env) fp) tg ts gg) (ht : ∀ (s : Shared) (H : Hp) (C : Addr) (cl : List (Str × Addr)) (fp : List Addr), DTs cm (X.blk s H scope (compEnvC scope cl C X.env) fp) ifs tt)
    (hi1 : ∀ (s : Shared) (H : Hp) (C : Addr) (cl : List (Str × Addr)) (fp : List Addr), DI cm (X.blk s H scope (compEnvC scope cl C X.env) fp) tg1 iter1 fi1)
    (hg1 : ∀ (s : Shared) (H : Hp) (C : Addr) (cl : List (Str × Addr)) (fp : List Addr), DG cm (X.blk s H scope (compEnvC scope cl C X.env) fp) tg1 ts1 gg1) (ht1 : ∀ (s : Shared) (H : Hp) (C : Addr) (cl : List (Str × Addr)) (fp : List Addr), DTs cm (X.blk s H scope (compEnvC scope cl C X.env) fp) ifs1 tt1)
    (he : ∀ (s : Shared) (H : Hp) (C : Addr) (cl : List (Str × Addr)) (fp : List Addr), DE cm (X.blk s H scope (compEnvC scope cl C X.env) fp) elt fe) (hs : ∀ x, foldedSetIterable iter X.env x = pure x := by intro _; rfl) (hs1 : ∀ env x, foldedSetIterable iter1 env x = pure x := by intro _ _; rfl) :
    DF cm X (.ListComp elt [⟨tg, iter, ifs, 0⟩, ⟨tg1, iter1, ifs1, 0⟩] scope pos) (fLc2 fi (own.map (·.2)) gg tt fi1 vs1 gg1 tt1 fe) := PE.imp (pe_lc2 hc hN hi ok hv hg ht hi1 hg1 ht1 he hs hs1) (lc2_imp hts hts1)
theorem de_lc2 (hc : X.calm = true) (hN : X.N.Nodup) (hi : DI cm X tg iter fi) (ok : BlkOk X.N X.env.scope scope own) (hts : ∀ i ∈ ts, i ∈ own.map (·.2)) (hts1 : ∀ i ∈ ts1, i ∈ vs1) (hv : ∀ i ∈ vs1, i ∈ own.map (·.2))
    (hg : ∀ (s : Shared) (H : Hp) (C : Addr) (cl : List (Str × Addr)) (fp : List Addr), DG cm (X.blk s H scope (compEnvC scope cl C X.env) fp) tg ts gg) (ht : ∀ (s : Shared) (H : Hp) (C : Addr) (cl : List (Str × Addr)) (fp : List Addr), DTs cm (X.blk s H scope (compEnvC scope cl C X.env) fp) ifs tt)
    (hi1 : ∀ (s : Shared) (H : Hp) (C : Addr) (cl : List (Str × Addr)) (fp : List Addr), DI cm (X.blk s H scope (compEnvC scope cl C X.env) fp) tg1 iter1 fi1)
    (hg1 : ∀ (s : Shared) (H : Hp) (C : Addr) (cl : List (Str × Addr)) (fp : List Addr), DG cm (X.blk s H scope (compEnvC scope cl C X.env) fp) tg1 ts1 gg1) (ht1 : ∀ (s : Shared) (H : Hp) (C : Addr) (cl : List (Str × Addr)) (fp : List Addr), DTs cm (X.blk s H scope (compEnvC scope cl C X.env) fp) ifs1 tt1)
    (he : ∀ (s : Shared) (H : Hp) (C : Addr) (cl : List (Str × Addr)) (fp : List Addr), DE cm (X.blk s H scope (compEnvC scope cl C X.env) fp) elt fe) (hs : ∀ x, foldedSetIterable iter X.env x = pure x := by intro _; rfl) (hs1 : ∀ env x, foldedSetIterable iter1 env x = pure x := by intro _ _; rfl) :
    DE cm X (.ListComp elt [⟨tg, iter, ifs, 0⟩, ⟨tg1, iter1, ifs1, 0⟩] scope pos) (eLc2 fi (own.map (·.2)) gg tt fi1 vs1 gg1 tt1 fe) := de_frz (df_lc2 hc hN hi ok hts hts1 hv hg ht hi1 hg1 ht1 he hs hs1)
end
end DL

/-! D15: sum, max, min of a tuple of ints. -/
namespace DL
open PySem PySem.Spec L2 PyProof.Rows
section
variable {prog : Program} {w : World} {A : Around} {E : Value → Shared → Prop} {s : Shared} {l : Addr} {xs : Array (Int × Tok)}
theorem iter_intTup {Q : Value → Shared → Prop} (hl : s.heap.IsTuple l (intItems xs))
    (h : ∀ s₂ : Shared, s₂ = { s with heap := s.heap.push { cls := .type "tuple_iterator", data := .fields #[.ref l, .int 0 0] } } →
      (s₂.heap.IsTupleIter s.heap.objs.size l 0 ∧ s₂.heap.IsTuple l (intItems xs)) → (∀ b ∈ [s.heap.objs.size, l], b < s₂.heap.objs.size) → l ≠ s.heap.objs.size → Q (.ref s.heap.objs.size) s₂) :
    wpAny (model prog w) A (pyIter (.ref l)) Q E s := by
  have hlt : l < s.heap.objs.size := by obtain ⟨_, e, _⟩ := hl; exact Heap.lt_size e
  refine wpAny_pyIter_tuple hl (h _ rfl ⟨⟨_, Heap.get?_push_size _ rfl, rfl, rfl⟩, hl.push _⟩ (fun b hb => ?_) (Nat.ne_of_lt hlt))
  show b < (s.heap.push _).objs.size
  rw [Heap.size_push]
  rcases List.mem_cons.mp hb with rfl | hb
  · exact Nat.lt_succ_self _
  · rcases List.mem_cons.mp hb with rfl | hb
    · exact Nat.lt_succ_of_lt hlt
    · cases hb
theorem old_keptT {h' : Heap} (hk : ∀ b o, b ∉ [s.heap.objs.size] → (s.heap.push { cls := .type "tuple_iterator", data := .fields #[.ref l, .int 0 0] }).get? b = some o → h'.get? b = some o) :
    ∀ b o, s.heap.get? b = some o → h'.get? b = some o := fun b o e => by
  refine hk b o (fun hm => ?_) (Heap.get?_push_of_some _ e)
  rcases List.mem_cons.mp hm with e1 | hm
  · exact absurd (e1 ▸ Heap.lt_size e) (Nat.lt_irrefl _)
  · cases hm
theorem sum_intTup {Q : Value → Shared → Prop} (hh : A.handled = none) (hl : s.heap.IsTuple l (intItems xs))
    (h : ∀ h' tk t', (∀ b o, s.heap.get? b = some o → h'.get? b = some o) → Q (.int (preSum (numAt xs) xs.size) t') { s with heap := h', toks := tk }) :
    wpAny (model prog w) A (call (.builtin "sum") [.ref l]) Q E s := by
  refine call_sum_walkG (iter_intTup hl fun s₂ e st hfp hlI => ?_)
  subst e
  refine ⟨_, _, _, _, _, _, numAt xs, rfl, Walks.tuple (A := A.in1) hh _ l hlI (intItems xs), st, hfp, (fun _ _ => intItems_at), fun h' tk t' hk => ?_⟩
  have := h h' tk t' (old_keptT hk)
  simpa [intItems] using this
theorem sumT_raw {its : List Value} {ns : List Int} {Q : Value → Shared → Prop} (hh : A.handled = none) (hl : s.heap.IsTuple l its.toArray) (hi : IntsAre its ns)
    (h : ∀ h' tk t', (∀ b o, s.heap.get? b = some o → h'.get? b = some o) → Q (.int ns.sum t') { s with heap := h', toks := tk }) : wpAny (model prog w) A (call (.builtin "sum") [.ref l]) Q E s := by
  obtain ⟨xs, e⟩ := hi.allInts.items
  have hn : numsOf (intItems xs).toList = ns := by rw [← e]; exact hi.numsOf
  rw [nums_intItems] at hn
  rw [e] at hl
  refine sum_intTup hh hl fun h' tk t' hk => ?_
  have := h h' tk t' hk
  rw [preSum_eq, List.take_of_length_le (by simp), hn]; exact this
end
def rSumT (K : PySem.W.Frag) : List V → Hp → VK → Prop := fun vs H Q => ∃ (a : Addr) (ns : List Int), vs = [V.ref a] ∧ SqT K H a (ns.map V.int) ∧ Q (.int ns.sum) H
theorem cr_sumT {X : Cx} (hc : X.calm = true) : CallR X (.builtin "sum") (rSumT X.K) := by
  intro pins s σ H vs us Q I r h
  obtain ⟨a, ns, rfl, hs, q⟩ := h
  obtain ⟨its, rv, hl, _⟩ := I.tuple hs
  rw [Vals.ref1 r]
  exact sumT_raw (I.ok.hd hc) hl rv.ints fun h' tk t' hk => ⟨.int _, H, I.kept hk, ⟨_, rfl⟩, q⟩
def sumTG : List D → Option D
  | [.tup xs] => (dInts xs).map fun ns => .int ns.sum
  | _ => none
theorem cd_sumT {K : PySem.W.Frag} {cm : Nat → Addr} : CallD K cm (rSumT K) sumTG := fun F H vs ds d Q le r e q => by
  unfold sumTG at e
  split at e
  · rename_i xs
    cases h : dInts xs with
    | none => rw [h] at e; cases e
    | some ns =>
      rw [h] at e
      cases e
      rw [dInts_dec h] at r
      obtain ⟨v, rfl, r1⟩ := r.one
      cases r1 with | @tup a vs _ h1 r2 =>
      rw [r2.ints] at h1
      exact ⟨a, ns, rfl, SqT.of (le _ _ h1), q F H _ (Gr.refl le) (.int _)⟩
  · cases e
noncomputable abbrev suG := orG sumG sumTG
abbrev cd_su {K : PySem.W.Frag} {cm : Nat → Addr} := cd_or (K := K) (cm := cm) cd_sum cd_sumT
end DL

namespace W
open PySem PySem.Spec PyProof.Rows L2 DL
def top (i : Nat) : Stmt := PySem.Challenge.pw_calmspot_k44_depth.main.body.getD i (.Pass ⟨0, 0, 0, 0⟩)
section
variable {P : Program} {w : World} {K : PySem.W.Frag} {mg : Str → Option Value} {base : Heap} {cm : Nat → Addr}
/-! dot -/
abbrev st_dot : Stmt := top 2
def N_dot : List Str := ["one", "two", "k"]
theorem sc_dot : FnScope N_dot ["one", "two"] (defScope st_dot) := ⟨rfl, rfl, rfl, by decide +kernel, rfl, by decide +kernel, by decide +kernel⟩
noncomputable def b_dot : DL.Env → Option Out := (sRet (eCall suG (aCons (eLc (iR1 (eCall lenG (aCons (eVar 0) aNil))) [2] (gN 2) bYes (eOp mulD (eOp ixD (eVar 0) (eVar 2)) (eOp ixD (eVar 1) (eVar 2)))) aNil)))
noncomputable def G_dot : List D → Option D := gRun 2 N_dot b_dot
theorem ok_dot (B : Bl mg) (S : Std K mg "dot" st_dot ["one", "two"]) : OkF P w K mg base cm "dot" ["one", "two"] 1 G_dot := okf S sc_dot fun f cdv A outer s H E F0 hr => (dss_one (ds_ret (de_callB cd_su (CallR.or (cr_sum rfl) (cr_sumT rfl)) rfl B.sum bb_sum (da_cons (de_lc (own := [("k", 2)]) rfl sc_dot.nd (di_range1 rfl B.range (de_callB cd_len cr_len rfl B.len bb_len (da_cons (dv 0) da_nil))) (blkOk_by (by kernel_rfl)) (by decide) (fun _ _ _ _ _ => (dg_name (i := 2) sc_dot.nd rfl (by first | exact Or.inl rfl | exact Or.inr rfl))) (fun _ _ _ _ _ => dts_nil) (fun _ _ _ _ _ => (de_op od_mul op_mulD (de_ix (dv 0) (dv 2) (fun _ _ => rfl)) (de_ix (dv 1) (dv 2) (fun _ _ => rfl))))) da_nil))))
/-! plain -/
abbrev st_plain : Stmt := top 3
def N_plain : List Str := ["arrow", "common", "number"]
theorem sc_plain : FnScope N_plain ["arrow"] (defScope st_plain) := ⟨rfl, rfl, rfl, by decide +kernel, rfl, by decide +kernel, by decide +kernel⟩
noncomputable def b_plain_1 : DL.Env → Option Out := (sSet 1 (eCall gcdG (aCons (eVar 1) (aCons (eVar 2) aNil))))
noncomputable def b_plain : DL.Env → Option Out := (sSeq (sSet 1 (eC (.int 0))) (sSeq (sFor (iA (eVar 0)) (gN 2) b_plain_1) (sRet (eCall tupG (aCons (eLc (iA (eVar 0)) [2] (gN 2) bYes (eOp fdivD (eVar 2) (eVar 1))) aNil)))))
noncomputable def G_plain : List D → Option D := gRun 1 N_plain b_plain
theorem ok_plain (B : Bl mg) (Bgcd : mg "gcd" = some (.builtin "math.gcd")) (S : Std K mg "plain" st_plain ["arrow"]) : OkF P w K mg base cm "plain" ["arrow"] 1 G_plain := okf S sc_plain fun f cdv A outer s H E F0 hr => (dss_cons (ds_set (i := 1) sc_plain.nd rfl (by first | exact Or.inl rfl | exact Or.inr rfl) de_int) (dss_cons (ds_for PassesOwn.never rfl (di_any (dv 0)) (dg_name (i := 2) sc_plain.nd rfl (by first | exact Or.inl rfl | exact Or.inr rfl)) (dss_one (ds_set (i := 1) sc_plain.nd rfl (by first | exact Or.inl rfl | exact Or.inr rfl) (de_callM cd_gcd cr_gcd rfl Bgcd (da_cons (dv 1) (da_cons (dv 2) da_nil)))))) (dss_one (ds_ret (de_callTy cd_tup call_tuple_of rfl B.tuple bb_tuple (da_cons (de_lc (own := [("number", 2)]) rfl sc_plain.nd (di_any (dv 0)) (blkOk_by (by kernel_rfl)) (by decide) (fun _ _ _ _ _ => (dg_name (i := 2) sc_plain.nd rfl (by first | exact Or.inl rfl | exact Or.inr rfl))) (fun _ _ _ _ _ => dts_nil) (fun _ _ _ _ _ => (de_op od_fdiv op_fdivW (dv 2) (dv 1)))) da_nil))))))
/-! opposite -/
abbrev st_opposite : Stmt := top 4
def N_opposite : List Str := ["arrow", "number"]
theorem sc_opposite : FnScope N_opposite ["arrow"] (defScope st_opposite) := ⟨rfl, rfl, rfl, by decide +kernel, rfl, by decide +kernel, by decide +kernel⟩
noncomputable def b_opposite : DL.Env → Option Out := (sRet (eCall tupG (aCons (eLc (iA (eVar 0)) [1] (gN 1) bYes (eU negD (eVar 1))) aNil)))
noncomputable def G_opposite : List D → Option D := gRun 1 N_opposite b_opposite
theorem ok_opposite (B : Bl mg) (S : Std K mg "opposite" st_opposite ["arrow"]) : OkF P w K mg base cm "opposite" ["arrow"] 1 G_opposite := okf S sc_opposite fun f cdv A outer s H E F0 hr => (dss_one (ds_ret (de_callTy cd_tup call_tuple_of rfl B.tuple bb_tuple (da_cons (de_lc (own := [("number", 1)]) rfl sc_opposite.nd (di_any (dv 0)) (blkOk_by (by kernel_rfl)) (by decide) (fun _ _ _ _ _ => (dg_name (i := 1) sc_opposite.nd rfl (by first | exact Or.inl rfl | exact Or.inr rfl))) (fun _ _ _ _ _ => dts_nil) (fun _ _ _ _ _ => (de_un ud_neg un_neg (dv 1)))) da_nil))))
/-! quarter -/
abbrev st_quarter : Stmt := top 5
def N_quarter : List Str := ["arrow"]
theorem sc_quarter : FnScope N_quarter ["arrow"] (defScope st_quarter) := ⟨rfl, rfl, rfl, by decide +kernel, rfl, by decide +kernel, by decide +kernel⟩
noncomputable def b_quarter : DL.Env → Option Out := (sRet (eTup (aCons (eU negD (eOp ixD (eVar 0) (eC (.int 1)))) (aCons (eOp ixD (eVar 0) (eC (.int 0))) aNil))))
noncomputable def G_quarter : List D → Option D := gRun 1 N_quarter b_quarter
theorem ok_quarter (B : Bl mg) (S : Std K mg "quarter" st_quarter ["arrow"]) : OkF P w K mg base cm "quarter" ["arrow"] 1 G_quarter := okf S sc_quarter fun f cdv A outer s H E F0 hr => (dss_one (ds_ret (de_tup (da_cons (de_un ud_neg un_neg (de_ix (dv 0) de_int (fun _ _ => rfl))) (da_cons (de_ix (dv 0) de_int (fun _ _ => rfl)) da_nil)))))
/-! cross -/
abbrev st_cross : Stmt := top 6
def N_cross : List Str := ["one", "two"]
theorem sc_cross : FnScope N_cross ["one", "two"] (defScope st_cross) := ⟨rfl, rfl, rfl, by decide +kernel, rfl, by decide +kernel, by decide +kernel⟩
noncomputable def b_cross : DL.Env → Option Out := (sRet (eTup (aCons (eOp subD (eOp mulD (eOp ixD (eVar 0) (eC (.int 1))) (eOp ixD (eVar 1) (eC (.int 2)))) (eOp mulD (eOp ixD (eVar 0) (eC (.int 2))) (eOp ixD (eVar 1) (eC (.int 1))))) (aCons (eOp subD (eOp mulD (eOp ixD (eVar 0) (eC (.int 2))) (eOp ixD (eVar 1) (eC (.int 0)))) (eOp mulD (eOp ixD (eVar 0) (eC (.int 0))) (eOp ixD (eVar 1) (eC (.int 2))))) (aCons (eOp subD (eOp mulD (eOp ixD (eVar 0) (eC (.int 0))) (eOp ixD (eVar 1) (eC (.int 1)))) (eOp mulD (eOp ixD (eVar 0) (eC (.int 1))) (eOp ixD (eVar 1) (eC (.int 0))))) aNil)))))
noncomputable def G_cross : List D → Option D := gRun 2 N_cross b_cross
theorem ok_cross (B : Bl mg) (S : Std K mg "cross" st_cross ["one", "two"]) : OkF P w K mg base cm "cross" ["one", "two"] 1 G_cross := okf S sc_cross fun f cdv A outer s H E F0 hr => (dss_one (ds_ret (de_tup (da_cons (de_op od_sub op_sub (de_op od_mul op_mulD (de_ix (dv 0) de_int (fun _ _ => rfl)) (de_ix (dv 1) de_int (fun _ _ => rfl))) (de_op od_mul op_mulD (de_ix (dv 0) de_int (fun _ _ => rfl)) (de_ix (dv 1) de_int (fun _ _ => rfl)))) (da_cons (de_op od_sub op_sub (de_op od_mul op_mulD (de_ix (dv 0) de_int (fun _ _ => rfl)) (de_ix (dv 1) de_int (fun _ _ => rfl))) (de_op od_mul op_mulD (de_ix (dv 0) de_int (fun _ _ => rfl)) (de_ix (dv 1) de_int (fun _ _ => rfl)))) (da_cons (de_op od_sub op_sub (de_op od_mul op_mulD (de_ix (dv 0) de_int (fun _ _ => rfl)) (de_ix (dv 1) de_int (fun _ _ => rfl))) (de_op od_mul op_mulD (de_ix (dv 0) de_int (fun _ _ => rfl)) (de_ix (dv 1) de_int (fun _ _ => rfl)))) da_nil))))))
/-! is_zero -/
abbrev st_is_zero : Stmt := top 7
def N_is_zero : List Str := ["arrow", "number"]
theorem sc_is_zero : FnScope N_is_zero ["arrow"] (defScope st_is_zero) := ⟨rfl, rfl, rfl, by decide +kernel, rfl, by decide +kernel, by decide +kernel⟩
noncomputable def b_is_zero_1 : DL.Env → Option Out := (sIf (eT (eOp neD (eVar 1) (eC (.int 0)))) (sRet (eC (.bl false))) sNil)
noncomputable def b_is_zero : DL.Env → Option Out := (sSeq (sFor (iA (eVar 0)) (gN 1) b_is_zero_1) (sRet (eC (.bl true))))
noncomputable def G_is_zero : List D → Option D := gRun 1 N_is_zero b_is_zero
theorem ok_is_zero (B : Bl mg) (S : Std K mg "is_zero" st_is_zero ["arrow"]) : OkF P w K mg base cm "is_zero" ["arrow"] 1 G_is_zero := okf S sc_is_zero fun f cdv A outer s H E F0 hr => (dss_cons (ds_for PassesOwn.never rfl (di_any (dv 0)) (dg_name (i := 1) sc_is_zero.nd rfl (by first | exact Or.inl rfl | exact Or.inr rfl)) (dss_one (ds_if (dt_cmp od_ne (op_neA hr.units) (dv 1) de_int (nomark _)) (dss_one (ds_ret de_bl)) dss_nil))) (dss_one (ds_ret de_bl)))
/-! added -/
abbrev st_added : Stmt := top 8
def N_added : List Str := ["one", "two", "k"]
theorem sc_added : FnScope N_added ["one", "two"] (defScope st_added) := ⟨rfl, rfl, rfl, by decide +kernel, rfl, by decide +kernel, by decide +kernel⟩
noncomputable def b_added : DL.Env → Option Out := (sRet (eCall tupG (aCons (eLc (iR1 (eCall lenG (aCons (eVar 0) aNil))) [2] (gN 2) bYes (eOp addD (eOp ixD (eVar 0) (eVar 2)) (eOp ixD (eVar 1) (eVar 2)))) aNil)))
noncomputable def G_added : List D → Option D := gRun 2 N_added b_added
theorem ok_added (B : Bl mg) (S : Std K mg "added" st_added ["one", "two"]) : OkF P w K mg base cm "added" ["one", "two"] 1 G_added := okf S sc_added fun f cdv A outer s H E F0 hr => (dss_one (ds_ret (de_callTy cd_tup call_tuple_of rfl B.tuple bb_tuple (da_cons (de_lc (own := [("k", 2)]) rfl sc_added.nd (di_range1 rfl B.range (de_callB cd_len cr_len rfl B.len bb_len (da_cons (dv 0) da_nil))) (blkOk_by (by kernel_rfl)) (by decide) (fun _ _ _ _ _ => (dg_name (i := 2) sc_added.nd rfl (by first | exact Or.inl rfl | exact Or.inr rfl))) (fun _ _ _ _ _ => dts_nil) (fun _ _ _ _ _ => (de_op od_add op_addD (de_ix (dv 0) (dv 2) (fun _ _ => rfl)) (de_ix (dv 1) (dv 2) (fun _ _ => rfl))))) da_nil))))
/-! scaled -/
abbrev st_scaled : Stmt := top 9
def N_scaled : List Str := ["arrow", "factor", "number"]
theorem sc_scaled : FnScope N_scaled ["arrow", "factor"] (defScope st_scaled) := ⟨rfl, rfl, rfl, by decide +kernel, rfl, by decide +kernel, by decide +kernel⟩
noncomputable def b_scaled : DL.Env → Option Out := (sRet (eCall tupG (aCons (eLc (iA (eVar 0)) [2] (gN 2) bYes (eOp mulD (eVar 2) (eVar 1))) aNil)))
noncomputable def G_scaled : List D → Option D := gRun 2 N_scaled b_scaled
theorem ok_scaled (B : Bl mg) (S : Std K mg "scaled" st_scaled ["arrow", "factor"]) : OkF P w K mg base cm "scaled" ["arrow", "factor"] 1 G_scaled := okf S sc_scaled fun f cdv A outer s H E F0 hr => (dss_one (ds_ret (de_callTy cd_tup call_tuple_of rfl B.tuple bb_tuple (da_cons (de_lc (own := [("number", 2)]) rfl sc_scaled.nd (di_any (dv 0)) (blkOk_by (by kernel_rfl)) (by decide) (fun _ _ _ _ _ => (dg_name (i := 2) sc_scaled.nd rfl (by first | exact Or.inl rfl | exact Or.inr rfl))) (fun _ _ _ _ _ => dts_nil) (fun _ _ _ _ _ => (de_op od_mul op_mulD (dv 2) (dv 1)))) da_nil))))
/-! axis -/
abbrev st_axis : Stmt := top 10
def N_axis : List Str := ["dimension", "index", "k"]
theorem sc_axis : FnScope N_axis ["dimension", "index"] (defScope st_axis) := ⟨rfl, rfl, rfl, by decide +kernel, rfl, by decide +kernel, by decide +kernel⟩
noncomputable def b_axis : DL.Env → Option Out := (sRet (eCall tupG (aCons (eLc (iR1 (eVar 0)) [2] (gN 2) bYes (eCall intG (aCons (eOp eqD (eVar 2) (eVar 1)) aNil))) aNil)))
noncomputable def G_axis : List D → Option D := gRun 2 N_axis b_axis
theorem ok_axis (B : Bl mg) (S : Std K mg "axis" st_axis ["dimension", "index"]) : OkF P w K mg base cm "axis" ["dimension", "index"] 1 G_axis := okf S sc_axis fun f cdv A outer s H E F0 hr => (dss_one (ds_ret (de_callTy cd_tup call_tuple_of rfl B.tuple bb_tuple (da_cons (de_lc (own := [("k", 2)]) rfl sc_axis.nd (di_range1 rfl B.range (dv 0)) (blkOk_by (by kernel_rfl)) (by decide) (fun _ _ _ _ _ => (dg_name (i := 2) sc_axis.nd rfl (by first | exact Or.inl rfl | exact Or.inr rfl))) (fun _ _ _ _ _ => dts_nil) (fun _ _ _ _ _ => (de_callTy cd_int call_int1 rfl B.int bb_int (da_cons (de_cmp od_eq (op_eqA hr.units) (dv 2) (dv 1) (nomark _)) da_nil)))) da_nil))))
/-! upright -/
abbrev st_upright : Stmt := top 11
def N_upright : List Str := ["arrow", "told", "number"]
theorem sc_upright : FnScope N_upright ["arrow"] (defScope st_upright) := ⟨rfl, rfl, rfl, by decide +kernel, rfl, by decide +kernel, by decide +kernel⟩
noncomputable def b_upright_1 : DL.Env → Option Out := (sSeq (sIf (eT (eOp gtD (eVar 2) (eC (.int 0)))) (sRet (eVar 1)) sNil) (sIf (eT (eOp ltD (eVar 2) (eC (.int 0)))) (sRet (eCall G_opposite (aCons (eVar 1) aNil))) sNil))
noncomputable def b_upright : DL.Env → Option Out := (sSeq (sSet 1 (eCall G_plain (aCons (eVar 0) aNil))) (sSeq (sFor (iA (eVar 1)) (gN 2) b_upright_1) (sRet (eVar 1))))
noncomputable def G_upright : List D → Option D := gRun 1 N_upright b_upright
theorem ok_upright (B : Bl mg) (S : Std K mg "upright" st_upright ["arrow"]) (O_plain : OkF P w K mg base cm "plain" ["arrow"] 1 G_plain) (O_opposite : OkF P w K mg base cm "opposite" ["arrow"] 1 G_opposite) : OkF P w K mg base cm "upright" ["arrow"] 2 G_upright := okf S sc_upright fun f cdv A outer s H E F0 hr => (dss_cons (ds_set (i := 1) sc_upright.nd rfl (by first | exact Or.inl rfl | exact Or.inr rfl) (de_callO O_plain hr (by decide) rfl (da_cons (dv 0) da_nil))) (dss_cons (ds_for PassesOwn.never rfl (di_any (dv 1)) (dg_name (i := 2) sc_upright.nd rfl (by first | exact Or.inl rfl | exact Or.inr rfl)) (dss_cons (ds_if (dt_cmp od_gt op_gt (dv 2) de_int (nomark _)) (dss_one (ds_ret (dv 1))) dss_nil) (dss_one (ds_if (dt_cmp od_lt op_lt (dv 2) de_int (nomark _)) (dss_one (ds_ret (de_callO O_opposite hr (by decide) rfl (da_cons (dv 1) da_nil)))) dss_nil)))) (dss_one (ds_ret (dv 1)))))
/-! offset -/
abbrev st_offset : Stmt := top 13
def N_offset : List Str := ["place", "home", "k"]
theorem sc_offset : FnScope N_offset ["place", "home"] (defScope st_offset) := ⟨rfl, rfl, rfl, by decide +kernel, rfl, by decide +kernel, by decide +kernel⟩
noncomputable def b_offset : DL.Env → Option Out := (sRet (eCall tupG (aCons (eLc (iR1 (eCall lenG (aCons (eVar 1) aNil))) [2] (gN 2) bYes (eOp subD (eOp mulD (eOp ixD (eVar 1) (eVar 2)) (eOp ixD (eVar 0) (eU negD (eC (.int 1))))) (eOp ixD (eVar 0) (eVar 2)))) aNil)))
noncomputable def G_offset : List D → Option D := gRun 2 N_offset b_offset
theorem ok_offset (B : Bl mg) (S : Std K mg "offset" st_offset ["place", "home"]) : OkF P w K mg base cm "offset" ["place", "home"] 1 G_offset := okf S sc_offset fun f cdv A outer s H E F0 hr => (dss_one (ds_ret (de_callTy cd_tup call_tuple_of rfl B.tuple bb_tuple (da_cons (de_lc (own := [("k", 2)]) rfl sc_offset.nd (di_range1 rfl B.range (de_callB cd_len cr_len rfl B.len bb_len (da_cons (dv 1) da_nil))) (blkOk_by (by kernel_rfl)) (by decide) (fun _ _ _ _ _ => (dg_name (i := 2) sc_offset.nd rfl (by first | exact Or.inl rfl | exact Or.inr rfl))) (fun _ _ _ _ _ => dts_nil) (fun _ _ _ _ _ => (de_op od_sub op_sub (de_op od_mul op_mulD (de_ix (dv 1) (dv 2) (fun _ _ => rfl)) (de_ix (dv 0) (de_un ud_neg un_neg de_int) (fun _ _ => rfl))) (de_ix (dv 0) (dv 2) (fun _ _ => rfl))))) da_nil))))
/-! lines_of -/
abbrev st_lines_of : Stmt := top 15
def N_lines_of : List Str := ["vectors", "told", "vector"]
theorem sc_lines_of : FnScope N_lines_of ["vectors"] (defScope st_lines_of) := ⟨rfl, rfl, rfl, by decide +kernel, rfl, by decide +kernel, by decide +kernel⟩
noncomputable def b_lines_of_1 : DL.Env → Option Out := (sIf (bNot (eT (eCall G_is_zero (aCons (eVar 2) aNil)))) (sPutT 1 (eCall G_upright (aCons (eVar 2) aNil)) (eC (.bl true))) sNil)
noncomputable def b_lines_of : DL.Env → Option Out := (sSeq (sOwn 1 fNewT) (sSeq (sFor (iA (eVar 0)) (gN 2) b_lines_of_1) (sFz 1 (sRet (eCall sortedG (aCons (eCall lsG (aCons (eVar 1) aNil)) aNil))))))
noncomputable def G_lines_of : List D → Option D := gRun 1 N_lines_of b_lines_of
theorem ok_lines_of (B : Bl mg) (S : Std K mg "lines_of" st_lines_of ["vectors"]) (O_is_zero : OkF P w K mg base cm "is_zero" ["arrow"] 1 G_is_zero) (O_upright : OkF P w K mg base cm "upright" ["arrow"] 2 G_upright) : OkF P w K mg base cm "lines_of" ["vectors"] 3 G_lines_of := okf S sc_lines_of fun f cdv A outer s H E F0 hr => (dss_cons (ds_own (i := 1) sc_lines_of.nd rfl (by first | exact Or.inl rfl | exact Or.inr rfl) df_newT) (dss_cons (ds_for PassesOwn.never rfl (di_any (dv 0)) (dg_name (i := 2) sc_lines_of.nd rfl (by first | exact Or.inl rfl | exact Or.inr rfl)) (dss_one (ds_if (dt_not (dt_val (de_callO O_is_zero hr (by decide) rfl (da_cons (dv 2) da_nil)))) (dss_one (ds_putT (hu_of hr) (pv 1) (de_callO O_upright hr (by decide) rfl (da_cons (dv 2) da_nil)) de_bl)) dss_nil))) (dss_one (ds_fz 1 (ds_ret (de_callB cd_sorted cr_sortedT rfl B.sorted bb_sorted (da_cons (de_callTy cd_ls (CallR.or (call_list_dT rfl) call_list_of) rfl B.list bb_list (da_cons (dv 1) da_nil)) da_nil)))))))
/-! bound_of -/
abbrev st_bound_of : Stmt := top 16
def N_bound_of : List Str := ["arrow", "vectors", "vector"]
theorem sc_bound_of : FnScope N_bound_of ["arrow", "vectors"] (defScope st_bound_of) := ⟨rfl, rfl, rfl, by decide +kernel, rfl, by decide +kernel, by decide +kernel⟩
noncomputable def b_bound_of : DL.Env → Option Out := (sRet (eOp addD (eC (.int 1)) (eCall maxG (aCons (eLc (iA (eVar 1)) [2] (gN 2) bYes (eCall absG (aCons (eCall G_dot (aCons (eVar 0) (aCons (eVar 2) aNil))) aNil))) aNil))))
noncomputable def G_bound_of : List D → Option D := gRun 2 N_bound_of b_bound_of
theorem ok_bound_of (B : Bl mg) (S : Std K mg "bound_of" st_bound_of ["arrow", "vectors"]) (O_dot : OkF P w K mg base cm "dot" ["one", "two"] 1 G_dot) : OkF P w K mg base cm "bound_of" ["arrow", "vectors"] 2 G_bound_of := okf S sc_bound_of fun f cdv A outer s H E F0 hr => (dss_one (ds_ret (de_op od_add op_addD de_int (de_callB cd_max (cr_maxA rfl) rfl B.max bb_max (da_cons (de_lc (own := [("vector", 2)]) rfl sc_bound_of.nd (di_any (dv 1)) (blkOk_by (by kernel_rfl)) (by decide) (fun _ _ _ _ _ => (dg_name (i := 2) sc_bound_of.nd rfl (by first | exact Or.inl rfl | exact Or.inr rfl))) (fun _ _ _ _ _ => dts_nil) (fun _ _ _ _ _ => (de_callB cd_abs call_abs rfl B.abs bb_abs (da_cons (de_callO O_dot hr (by decide) rfl (da_cons (dv 0) (da_cons (dv 2) da_nil))) da_nil)))) da_nil)))))
/-! first_by -/
abbrev st_first_by : Stmt := top 17
def N_first_by : List Str := ["base", "tie", "vectors"]
theorem sc_first_by : FnScope N_first_by ["base", "tie", "vectors"] (defScope st_first_by) := ⟨rfl, rfl, rfl, by decide +kernel, rfl, by decide +kernel, by decide +kernel⟩
noncomputable def b_first_by : DL.Env → Option Out := (sRet (eCall G_added (aCons (eCall G_scaled (aCons (eVar 0) (aCons (eCall G_bound_of (aCons (eVar 1) (aCons (eVar 2) aNil))) aNil))) (aCons (eVar 1) aNil))))
noncomputable def G_first_by : List D → Option D := gRun 3 N_first_by b_first_by
theorem ok_first_by (B : Bl mg) (S : Std K mg "first_by" st_first_by ["base", "tie", "vectors"]) (O_bound_of : OkF P w K mg base cm "bound_of" ["arrow", "vectors"] 2 G_bound_of) (O_scaled : OkF P w K mg base cm "scaled" ["arrow", "factor"] 1 G_scaled) (O_added : OkF P w K mg base cm "added" ["one", "two"] 1 G_added) : OkF P w K mg base cm "first_by" ["base", "tie", "vectors"] 3 G_first_by := okf S sc_first_by fun f cdv A outer s H E F0 hr => (dss_one (ds_ret (de_callO O_added hr (by decide) rfl (da_cons (de_callO O_scaled hr (by decide) rfl (da_cons (dv 0) (da_cons (de_callO O_bound_of hr (by decide) rfl (da_cons (dv 1) (da_cons (dv 2) da_nil))) da_nil))) (da_cons (dv 1) da_nil)))))
/-! both_ways -/
abbrev st_both_ways : Stmt := top 18
def N_both_ways : List Str := ["arrow"]
theorem sc_both_ways : FnScope N_both_ways ["arrow"] (defScope st_both_ways) := ⟨rfl, rfl, rfl, by decide +kernel, rfl, by decide +kernel, by decide +kernel⟩
noncomputable def b_both_ways : DL.Env → Option Out := (sRet (eTup (aCons (eVar 0) (aCons (eCall G_opposite (aCons (eVar 0) aNil)) aNil))))
noncomputable def G_both_ways : List D → Option D := gRun 1 N_both_ways b_both_ways
theorem ok_both_ways (B : Bl mg) (S : Std K mg "both_ways" st_both_ways ["arrow"]) (O_opposite : OkF P w K mg base cm "opposite" ["arrow"] 1 G_opposite) : OkF P w K mg base cm "both_ways" ["arrow"] 2 G_both_ways := okf S sc_both_ways fun f cdv A outer s H E F0 hr => (dss_one (ds_ret (de_tup (da_cons (dv 0) (da_cons (de_callO O_opposite hr (by decide) rfl (da_cons (dv 0) da_nil)) da_nil)))))
/-! plane_arrows -/
abbrev st_plane_arrows : Stmt := top 19
def N_plane_arrows : List Str := ["vectors", "told", "line", "base", "tie"]
theorem sc_plane_arrows : FnScope N_plane_arrows ["vectors"] (defScope st_plane_arrows) := ⟨rfl, rfl, rfl, by decide +kernel, rfl, by decide +kernel, by decide +kernel⟩
noncomputable def b_plane_arrows_1 : DL.Env → Option Out := (sApp 1 (eCall G_first_by (aCons (eVar 3) (aCons (eVar 4) (aCons (eVar 0) aNil)))))
noncomputable def b_plane_arrows_2 : DL.Env → Option Out := (sFor (iA (eCall G_both_ways (aCons (eVar 2) aNil))) (gN 4) b_plane_arrows_1)
noncomputable def b_plane_arrows_3 : DL.Env → Option Out := (sFor (iA (eCall G_both_ways (aCons (eCall G_quarter (aCons (eVar 2) aNil)) aNil))) (gN 3) b_plane_arrows_2)
noncomputable def b_plane_arrows : DL.Env → Option Out := (sSeq (sOwn 1 (fLst aNil)) (sSeq (sFor (iA (eCall G_lines_of (aCons (eVar 0) aNil))) (gN 2) b_plane_arrows_3) (sFz 1 (sRet (eVar 1)))))
noncomputable def G_plane_arrows : List D → Option D := gRun 1 N_plane_arrows b_plane_arrows
theorem ok_plane_arrows (B : Bl mg) (S : Std K mg "plane_arrows" st_plane_arrows ["vectors"]) (O_lines_of : OkF P w K mg base cm "lines_of" ["vectors"] 3 G_lines_of) (O_quarter : OkF P w K mg base cm "quarter" ["arrow"] 1 G_quarter) (O_both_ways : OkF P w K mg base cm "both_ways" ["arrow"] 2 G_both_ways) (O_first_by : OkF P w K mg base cm "first_by" ["base", "tie", "vectors"] 3 G_first_by) : OkF P w K mg base cm "plane_arrows" ["vectors"] 4 G_plane_arrows := okf S sc_plane_arrows fun f cdv A outer s H E F0 hr => (dss_cons (ds_own (i := 1) sc_plane_arrows.nd rfl (by first | exact Or.inl rfl | exact Or.inr rfl) (df_lst da_nil)) (dss_cons (ds_for PassesOwn.never rfl (di_any (de_callO O_lines_of hr (by decide) rfl (da_cons (dv 0) da_nil))) (dg_name (i := 2) sc_plane_arrows.nd rfl (by first | exact Or.inl rfl | exact Or.inr rfl)) (dss_one (ds_for PassesOwn.never rfl (di_any (de_callO O_both_ways hr (by decide) rfl (da_cons (de_callO O_quarter hr (by decide) rfl (da_cons (dv 2) da_nil)) da_nil))) (dg_name (i := 3) sc_plane_arrows.nd rfl (by first | exact Or.inl rfl | exact Or.inr rfl)) (dss_one (ds_for PassesOwn.never rfl (di_any (de_callO O_both_ways hr (by decide) rfl (da_cons (dv 2) da_nil))) (dg_name (i := 4) sc_plane_arrows.nd rfl (by first | exact Or.inl rfl | exact Or.inr rfl)) (dss_one (ds_app (pv 1) (de_callO O_first_by hr (by decide) rfl (da_cons (dv 3) (da_cons (dv 4) (da_cons (dv 0) da_nil))))))))))) (dss_one (ds_fz 1 (ds_ret (dv 1))))))
/-! flat_arrows -/
abbrev st_flat_arrows : Stmt := top 20
def N_flat_arrows : List Str := ["normal", "vectors", "told", "line", "base", "tie", "vector"]
theorem sc_flat_arrows : FnScope N_flat_arrows ["normal", "vectors"] (defScope st_flat_arrows) := ⟨rfl, rfl, rfl, by decide +kernel, rfl, by decide +kernel, by decide +kernel⟩
noncomputable def b_flat_arrows_1 : DL.Env → Option Out := (sApp 2 (eCall G_first_by (aCons (eVar 4) (aCons (eVar 5) (aCons (eVar 1) aNil)))))
noncomputable def b_flat_arrows_2 : DL.Env → Option Out := (sFor (iA (eCall G_both_ways (aCons (eVar 3) aNil))) (gN 5) b_flat_arrows_1)
noncomputable def b_flat_arrows_3 : DL.Env → Option Out := (sFor (iA (eCall G_both_ways (aCons (eCall G_cross (aCons (eVar 0) (aCons (eVar 3) aNil))) aNil))) (gN 4) b_flat_arrows_2)
noncomputable def b_flat_arrows : DL.Env → Option Out := (sSeq (sOwn 2 (fLst aNil)) (sSeq (sFor (iA (eCall G_lines_of (aCons (eLc (iA (eVar 1)) [6] (gN 6) (eT (eOp eqD (eCall G_dot (aCons (eVar 0) (aCons (eVar 6) aNil))) (eC (.int 0)))) (eVar 6)) aNil))) (gN 3) b_flat_arrows_3) (sFz 2 (sRet (eVar 2)))))
noncomputable def G_flat_arrows : List D → Option D := gRun 2 N_flat_arrows b_flat_arrows
theorem ok_flat_arrows (B : Bl mg) (S : Std K mg "flat_arrows" st_flat_arrows ["normal", "vectors"]) (O_dot : OkF P w K mg base cm "dot" ["one", "two"] 1 G_dot) (O_lines_of : OkF P w K mg base cm "lines_of" ["vectors"] 3 G_lines_of) (O_cross : OkF P w K mg base cm "cross" ["one", "two"] 1 G_cross) (O_both_ways : OkF P w K mg base cm "both_ways" ["arrow"] 2 G_both_ways) (O_first_by : OkF P w K mg base cm "first_by" ["base", "tie", "vectors"] 3 G_first_by) : OkF P w K mg base cm "flat_arrows" ["normal", "vectors"] 4 G_flat_arrows := okf S sc_flat_arrows fun f cdv A outer s H E F0 hr => (dss_cons (ds_own (i := 2) sc_flat_arrows.nd rfl (by first | exact Or.inl rfl | exact Or.inr rfl) (df_lst da_nil)) (dss_cons (ds_for PassesOwn.never rfl (di_any (de_callO O_lines_of hr (by decide) rfl (da_cons (de_lc (own := [("vector", 6)]) rfl sc_flat_arrows.nd (di_any (dv 1)) (blkOk_by (by kernel_rfl)) (by decide) (fun _ _ _ _ _ => (dg_name (i := 6) sc_flat_arrows.nd rfl (by first | exact Or.inl rfl | exact Or.inr rfl))) (fun _ _ _ _ _ => (dts_one (dt_cmp od_eq (op_eqA hr.units) (de_callO O_dot hr (by decide) rfl (da_cons (dv 0) (da_cons (dv 6) da_nil))) de_int (nomark _)))) (fun _ _ _ _ _ => (dv 6))) da_nil))) (dg_name (i := 3) sc_flat_arrows.nd rfl (by first | exact Or.inl rfl | exact Or.inr rfl)) (dss_one (ds_for PassesOwn.never rfl (di_any (de_callO O_both_ways hr (by decide) rfl (da_cons (de_callO O_cross hr (by decide) rfl (da_cons (dv 0) (da_cons (dv 3) da_nil))) da_nil))) (dg_name (i := 4) sc_flat_arrows.nd rfl (by first | exact Or.inl rfl | exact Or.inr rfl)) (dss_one (ds_for PassesOwn.never rfl (di_any (de_callO O_both_ways hr (by decide) rfl (da_cons (dv 3) da_nil))) (dg_name (i := 5) sc_flat_arrows.nd rfl (by first | exact Or.inl rfl | exact Or.inr rfl)) (dss_one (ds_app (pv 2) (de_callO O_first_by hr (by decide) rfl (da_cons (dv 4) (da_cons (dv 5) (da_cons (dv 1) da_nil))))))))))) (dss_one (ds_fz 2 (ds_ret (dv 2))))))
/-! space_arrows -/
abbrev st_space_arrows : Stmt := top 21
def N_space_arrows : List Str := ["vectors", "lines", "normals", "k", "j", "told", "normal", "tie", "base", "line", "arrow"]
theorem sc_space_arrows : FnScope N_space_arrows ["vectors"] (defScope st_space_arrows) := ⟨rfl, rfl, rfl, by decide +kernel, rfl, by decide +kernel, by decide +kernel⟩
noncomputable def b_space_arrows_1 : DL.Env → Option Out := (sPutT 2 (eCall G_upright (aCons (eCall G_cross (aCons (eOp ixD (eVar 1) (eVar 3)) (aCons (eOp ixD (eVar 1) (eVar 4)) aNil))) aNil)) (eC (.bl true)))
noncomputable def b_space_arrows_2 : DL.Env → Option Out := (sFor (iR1 (eVar 3)) (gN 4) b_space_arrows_1)
noncomputable def b_space_arrows_3 : DL.Env → Option Out := (sApp 5 (eCall G_first_by (aCons (eVar 8) (aCons (eVar 7) (aCons (eVar 0) aNil)))))
noncomputable def b_space_arrows_4 : DL.Env → Option Out := (sFor (iA (eCall G_both_ways (aCons (eVar 6) aNil))) (gN 8) b_space_arrows_3)
noncomputable def b_space_arrows_5 : DL.Env → Option Out := (sFor (iA (eCall G_flat_arrows (aCons (eVar 6) (aCons (eVar 0) aNil)))) (gN 7) b_space_arrows_4)
noncomputable def b_space_arrows : DL.Env → Option Out := (sSeq (sSet 1 (eCall G_lines_of (aCons (eVar 0) aNil))) (sSeq (sOwn 2 fNewT) (sSeq (sFor (iR1 (eCall lenG (aCons (eVar 1) aNil))) (gN 3) b_space_arrows_2) (sSeq (sFz 2 (sIf (eT (eOp eqD (eCall lenG (aCons (eVar 2) aNil)) (eC (.int 0)))) (sRet (eLc2 (iA (eVar 1)) [9, 10] (gN 9) bYes (iA (eCall G_both_ways (aCons (eVar 9) aNil))) [10] (gN 10) bYes (eVar 10))) sNil)) (sSeq (sOwn 5 (fLst aNil)) (sSeq (sFz 2 (sFor (iA (eCall sortedG (aCons (eCall lsG (aCons (eVar 2) aNil)) aNil))) (gN 6) b_space_arrows_5)) (sFz 5 (sRet (eVar 5)))))))))
noncomputable def G_space_arrows : List D → Option D := gRun 1 N_space_arrows b_space_arrows
theorem ok_space_arrows (B : Bl mg) (S : Std K mg "space_arrows" st_space_arrows ["vectors"]) (O_lines_of : OkF P w K mg base cm "lines_of" ["vectors"] 3 G_lines_of) (O_cross : OkF P w K mg base cm "cross" ["one", "two"] 1 G_cross) (O_upright : OkF P w K mg base cm "upright" ["arrow"] 2 G_upright) (O_both_ways : OkF P w K mg base cm "both_ways" ["arrow"] 2 G_both_ways) (O_flat_arrows : OkF P w K mg base cm "flat_arrows" ["normal", "vectors"] 4 G_flat_arrows) (O_first_by : OkF P w K mg base cm "first_by" ["base", "tie", "vectors"] 3 G_first_by) : OkF P w K mg base cm "space_arrows" ["vectors"] 5 G_space_arrows := okf S sc_space_arrows fun f cdv A outer s H E F0 hr => (dss_cons (ds_set (i := 1) sc_space_arrows.nd rfl (by first | exact Or.inl rfl | exact Or.inr rfl) (de_callO O_lines_of hr (by decide) rfl (da_cons (dv 0) da_nil))) (dss_cons (ds_own (i := 2) sc_space_arrows.nd rfl (by first | exact Or.inl rfl | exact Or.inr rfl) df_newT) (dss_cons (ds_for PassesOwn.never rfl (di_range1 rfl B.range (de_callB cd_len cr_len rfl B.len bb_len (da_cons (dv 1) da_nil))) (dg_name (i := 3) sc_space_arrows.nd rfl (by first | exact Or.inl rfl | exact Or.inr rfl)) (dss_one (ds_for PassesOwn.never rfl (di_range1 rfl B.range (dv 3)) (dg_name (i := 4) sc_space_arrows.nd rfl (by first | exact Or.inl rfl | exact Or.inr rfl)) (dss_one (ds_putT (hu_of hr) (pv 2) (de_callO O_upright hr (by decide) rfl (da_cons (de_callO O_cross hr (by decide) rfl (da_cons (de_ix (dv 1) (dv 3) (fun _ _ => rfl)) (da_cons (de_ix (dv 1) (dv 4) (fun _ _ => rfl)) da_nil))) da_nil)) de_bl))))) (dss_cons (ds_fz 2 (ds_if (dt_cmp od_eq (op_eqA hr.units) (de_callB cd_len cr_len rfl B.len bb_len (da_cons (dv 2) da_nil)) de_int (nomark _)) (dss_one (ds_ret (de_lc2 (own := [("line", 9), ("arrow", 10)]) (vs1 := [10]) rfl sc_space_arrows.nd (di_any (dv 1)) (blkOk_by (by kernel_rfl)) (by decide) (by decide) (by decide) (fun _ _ _ _ _ => (dg_name (i := 9) sc_space_arrows.nd rfl (by first | exact Or.inl rfl | exact Or.inr rfl))) (fun _ _ _ _ _ => dts_nil) (fun _ _ _ _ _ => (di_any (de_callO O_both_ways hr (by decide) rfl (da_cons (dv 9) da_nil)))) (fun _ _ _ _ _ => (dg_name (i := 10) sc_space_arrows.nd rfl (by first | exact Or.inl rfl | exact Or.inr rfl))) (fun _ _ _ _ _ => dts_nil) (fun _ _ _ _ _ => (dv 10))))) dss_nil)) (dss_cons (ds_own (i := 5) sc_space_arrows.nd rfl (by first | exact Or.inl rfl | exact Or.inr rfl) (df_lst da_nil)) (dss_cons (ds_fz 2 (ds_for PassesOwn.never rfl (di_any (de_callB cd_sorted cr_sortedT rfl B.sorted bb_sorted (da_cons (de_callTy cd_ls (CallR.or (call_list_dT rfl) call_list_of) rfl B.list bb_list (da_cons (dv 2) da_nil)) da_nil))) (dg_name (i := 6) sc_space_arrows.nd rfl (by first | exact Or.inl rfl | exact Or.inr rfl)) (dss_one (ds_for PassesOwn.never rfl (di_any (de_callO O_flat_arrows hr (by decide) rfl (da_cons (dv 6) (da_cons (dv 0) da_nil)))) (dg_name (i := 7) sc_space_arrows.nd rfl (by first | exact Or.inl rfl | exact Or.inr rfl)) (dss_one (ds_for PassesOwn.never rfl (di_any (de_callO O_both_ways hr (by decide) rfl (da_cons (dv 6) da_nil))) (dg_name (i := 8) sc_space_arrows.nd rfl (by first | exact Or.inl rfl | exact Or.inr rfl)) (dss_one (ds_app (pv 5) (de_callO O_first_by hr (by decide) rfl (da_cons (dv 8) (da_cons (dv 7) (da_cons (dv 0) da_nil)))))))))))) (dss_one (ds_fz 5 (ds_ret (dv 5))))))))))
/-! cutting_arrows -/
abbrev st_cutting_arrows : Stmt := top 22
def N_cutting_arrows : List Str := ["vectors", "size"]
theorem sc_cutting_arrows : FnScope N_cutting_arrows ["vectors"] (defScope st_cutting_arrows) := ⟨rfl, rfl, rfl, by decide +kernel, rfl, by decide +kernel, by decide +kernel⟩
noncomputable def b_cutting_arrows : DL.Env → Option Out := (sSeq (sSet 1 (eCall lenG (aCons (eOp ixD (eVar 0) (eC (.int 0))) aNil))) (sSeq (sIf (eT (eOp eqD (eVar 1) (eC (.int 1)))) (sRet (eLst (aCons (eTup (aCons (eC (.int 1)) aNil)) (aCons (eTup (aCons (eU negD (eC (.int 1))) aNil)) aNil)))) sNil) (sSeq (sIf (eT (eOp eqD (eVar 1) (eC (.int 2)))) (sRet (eCall G_plane_arrows (aCons (eVar 0) aNil))) sNil) (sRet (eCall G_space_arrows (aCons (eVar 0) aNil))))))
noncomputable def G_cutting_arrows : List D → Option D := gRun 1 N_cutting_arrows b_cutting_arrows
theorem ok_cutting_arrows (B : Bl mg) (S : Std K mg "cutting_arrows" st_cutting_arrows ["vectors"]) (O_plane_arrows : OkF P w K mg base cm "plane_arrows" ["vectors"] 4 G_plane_arrows) (O_space_arrows : OkF P w K mg base cm "space_arrows" ["vectors"] 5 G_space_arrows) : OkF P w K mg base cm "cutting_arrows" ["vectors"] 6 G_cutting_arrows := okf S sc_cutting_arrows fun f cdv A outer s H E F0 hr => (dss_cons (ds_set (i := 1) sc_cutting_arrows.nd rfl (by first | exact Or.inl rfl | exact Or.inr rfl) (de_callB cd_len cr_len rfl B.len bb_len (da_cons (de_ix (dv 0) de_int (fun _ _ => rfl)) da_nil))) (dss_cons (ds_if (dt_cmp od_eq (op_eqA hr.units) (dv 1) de_int (nomark _)) (dss_one (ds_ret (de_lst (da_cons (de_tup (da_cons de_int da_nil)) (da_cons (de_tup (da_cons (de_un ud_neg un_neg de_int) da_nil)) da_nil))))) dss_nil) (dss_cons (ds_if (dt_cmp od_eq (op_eqA hr.units) (dv 1) de_int (nomark _)) (dss_one (ds_ret (de_callO O_plane_arrows hr (by decide) rfl (da_cons (dv 0) da_nil)))) dss_nil) (dss_one (ds_ret (de_callO O_space_arrows hr (by decide) rfl (da_cons (dv 0) da_nil)))))))
/-! weight_of -/
abbrev st_weight_of : Stmt := top 24
def N_weight_of : List Str := ["lot", "weights", "voter"]
theorem sc_weight_of : FnScope N_weight_of ["lot", "weights"] (defScope st_weight_of) := ⟨rfl, rfl, rfl, by decide +kernel, rfl, by decide +kernel, by decide +kernel⟩
noncomputable def b_weight_of : DL.Env → Option Out := (sRet (eCall suG (aCons (eLc (iA (eVar 0)) [2] (gN 2) bYes (eOp ixD (eVar 1) (eVar 2))) aNil)))
noncomputable def G_weight_of : List D → Option D := gRun 2 N_weight_of b_weight_of
theorem ok_weight_of (B : Bl mg) (S : Std K mg "weight_of" st_weight_of ["lot", "weights"]) : OkF P w K mg base cm "weight_of" ["lot", "weights"] 1 G_weight_of := okf S sc_weight_of fun f cdv A outer s H E F0 hr => (dss_one (ds_ret (de_callB cd_su (CallR.or (cr_sum rfl) (cr_sumT rfl)) rfl B.sum bb_sum (da_cons (de_lc (own := [("voter", 2)]) rfl sc_weight_of.nd (di_any (dv 0)) (blkOk_by (by kernel_rfl)) (by decide) (fun _ _ _ _ _ => (dg_name (i := 2) sc_weight_of.nd rfl (by first | exact Or.inl rfl | exact Or.inr rfl))) (fun _ _ _ _ _ => dts_nil) (fun _ _ _ _ _ => (de_ix (dv 1) (dv 2) (fun _ _ => rfl)))) da_nil))))
/-! not_beyond -/
abbrev st_not_beyond : Stmt := top 25
def N_not_beyond : List Str := ["arrow", "vectors", "k"]
theorem sc_not_beyond : FnScope N_not_beyond ["arrow", "vectors"] (defScope st_not_beyond) := ⟨rfl, rfl, rfl, by decide +kernel, rfl, by decide +kernel, by decide +kernel⟩
noncomputable def b_not_beyond : DL.Env → Option Out := (sRet (eCall tupG (aCons (eLc (iR1 (eCall lenG (aCons (eVar 1) aNil))) [2] (gN 2) (eT (eOp leD (eCall G_dot (aCons (eVar 0) (aCons (eOp ixD (eVar 1) (eVar 2)) aNil))) (eC (.int 0)))) (eVar 2)) aNil)))
noncomputable def G_not_beyond : List D → Option D := gRun 2 N_not_beyond b_not_beyond
theorem ok_not_beyond (B : Bl mg) (S : Std K mg "not_beyond" st_not_beyond ["arrow", "vectors"]) (O_dot : OkF P w K mg base cm "dot" ["one", "two"] 1 G_dot) : OkF P w K mg base cm "not_beyond" ["arrow", "vectors"] 2 G_not_beyond := okf S sc_not_beyond fun f cdv A outer s H E F0 hr => (dss_one (ds_ret (de_callTy cd_tup call_tuple_of rfl B.tuple bb_tuple (da_cons (de_lc (own := [("k", 2)]) rfl sc_not_beyond.nd (di_range1 rfl B.range (de_callB cd_len cr_len rfl B.len bb_len (da_cons (dv 1) da_nil))) (blkOk_by (by kernel_rfl)) (by decide) (fun _ _ _ _ _ => (dg_name (i := 2) sc_not_beyond.nd rfl (by first | exact Or.inl rfl | exact Or.inr rfl))) (fun _ _ _ _ _ => (dts_one (dt_cmp od_le op_le (de_callO O_dot hr (by decide) rfl (da_cons (dv 0) (da_cons (de_ix (dv 1) (dv 2) (fun _ _ => rfl)) da_nil))) de_int (nomark _)))) (fun _ _ _ _ _ => (dv 2))) da_nil))))
/-! lightest -/
abbrev st_lightest : Stmt := top 26
def N_lightest : List Str := ["homes", "weights", "place", "vectors", "best", "arrow", "mine", "home"]
theorem sc_lightest : FnScope N_lightest ["homes", "weights", "place"] (defScope st_lightest) := ⟨rfl, rfl, rfl, by decide +kernel, rfl, by decide +kernel, by decide +kernel⟩
noncomputable def b_lightest_1 : DL.Env → Option Out := (sSeq (sSet 6 (eCall G_weight_of (aCons (eCall G_not_beyond (aCons (eVar 5) (aCons (eVar 3) aNil))) (aCons (eVar 1) aNil)))) (sIf (eT (eOp ltD (eVar 6) (eOp ixD (eVar 4) (eC (.int 0))))) (sSet 4 (eTup (aCons (eVar 6) (aCons (eCall G_plain (aCons (eVar 5) aNil)) aNil)))) sNil))
noncomputable def b_lightest : DL.Env → Option Out := (sSeq (sSet 3 (eLc (iA (eVar 0)) [7] (gN 7) bYes (eCall G_offset (aCons (eVar 2) (aCons (eVar 7) aNil))))) (sSeq (sSet 4 (eTup (aCons (eCall suG (aCons (eVar 1) aNil)) (aCons (eCall G_axis (aCons (eCall lenG (aCons (eOp ixD (eVar 0) (eC (.int 0))) aNil)) (aCons (eC (.int 0)) aNil))) aNil)))) (sSeq (sFor (iA (eCall G_cutting_arrows (aCons (eVar 3) aNil))) (gN 5) b_lightest_1) (sRet (eVar 4)))))
noncomputable def G_lightest : List D → Option D := gRun 3 N_lightest b_lightest
theorem ok_lightest (B : Bl mg) (S : Std K mg "lightest" st_lightest ["homes", "weights", "place"]) (O_offset : OkF P w K mg base cm "offset" ["place", "home"] 1 G_offset) (O_axis : OkF P w K mg base cm "axis" ["dimension", "index"] 1 G_axis) (O_cutting_arrows : OkF P w K mg base cm "cutting_arrows" ["vectors"] 6 G_cutting_arrows) (O_not_beyond : OkF P w K mg base cm "not_beyond" ["arrow", "vectors"] 2 G_not_beyond) (O_weight_of : OkF P w K mg base cm "weight_of" ["lot", "weights"] 1 G_weight_of) (O_plain : OkF P w K mg base cm "plain" ["arrow"] 1 G_plain) : OkF P w K mg base cm "lightest" ["homes", "weights", "place"] 7 G_lightest := okf S sc_lightest fun f cdv A outer s H E F0 hr => (dss_cons (ds_setLc (i := 3) (own := [("home", 7)]) rfl sc_lightest.nd rfl rfl (sw_true rfl rfl rfl (by kernel_rfl)) (di_any (dv 0)) (blkOk_by (by kernel_rfl)) (by decide) (fun _ _ _ _ _ => (dg_name (i := 7) sc_lightest.nd rfl (by first | exact Or.inl rfl | exact Or.inr rfl))) (fun _ _ _ _ _ => dts_nil) (fun _ _ _ _ _ => (de_callO O_offset hr (by decide) rfl (da_cons (dv 2) (da_cons (dv 7) da_nil))))) (dss_cons (ds_set (i := 4) sc_lightest.nd rfl (by first | exact Or.inl rfl | exact Or.inr rfl) (de_tup (da_cons (de_callB cd_su (CallR.or (cr_sum rfl) (cr_sumT rfl)) rfl B.sum bb_sum (da_cons (dv 1) da_nil)) (da_cons (de_callO O_axis hr (by decide) rfl (da_cons (de_callB cd_len cr_len rfl B.len bb_len (da_cons (de_ix (dv 0) de_int (fun _ _ => rfl)) da_nil)) (da_cons de_int da_nil))) da_nil)))) (dss_cons (ds_for PassesOwn.never rfl (di_any (de_callO O_cutting_arrows hr (by decide) rfl (da_cons (dv 3) da_nil))) (dg_name (i := 5) sc_lightest.nd rfl (by first | exact Or.inl rfl | exact Or.inr rfl)) (dss_cons (ds_set (i := 6) sc_lightest.nd rfl (by first | exact Or.inl rfl | exact Or.inr rfl) (de_callO O_weight_of hr (by decide) rfl (da_cons (de_callO O_not_beyond hr (by decide) rfl (da_cons (dv 5) (da_cons (dv 3) da_nil))) (da_cons (dv 1) da_nil)))) (dss_one (ds_if (dt_cmp od_lt op_lt (dv 6) (de_ix (dv 4) de_int (fun _ _ => rfl)) (nomark _)) (dss_one (ds_set (i := 4) sc_lightest.nd rfl (by first | exact Or.inl rfl | exact Or.inr rfl) (de_tup (da_cons (dv 6) (da_cons (de_callO O_plain hr (by decide) rfl (da_cons (dv 5) da_nil)) da_nil))))) dss_nil)))) (dss_one (ds_ret (dv 4))))))
/-! _law_whole -/
abbrev st__law_whole : Stmt := top 28
def N__law_whole : List Str := ["value"]
theorem sc__law_whole : FnScope N__law_whole ["value"] (defScope st__law_whole) := ⟨rfl, rfl, rfl, by decide +kernel, rfl, by decide +kernel, by decide +kernel⟩
noncomputable def b__law_whole : DL.Env → Option Out := (sRet (eAnd (eIsi "int" (eVar 0)) (eU notD (eIsi "bool" (eVar 0)))))
noncomputable def G__law_whole : List D → Option D := gRun 1 N__law_whole b__law_whole
theorem ok__law_whole (B : Bl mg) (S : Std K mg "_law_whole" st__law_whole ["value"]) : OkF P w K mg base cm "_law_whole" ["value"] 1 G__law_whole := okf S sc__law_whole fun f cdv A outer s H E F0 hr => (dss_one (ds_ret (de_and (de_isi rfl B.isinstance rfl B.int bb_int (dv 0)) (de_one (de_not (de_isi rfl B.isinstance rfl B.bool bb_bool (dv 0)))))))
/-! _law_cell -/
abbrev st__law_cell : Stmt := top 29
def N__law_cell : List Str := ["script", "k", "seed", "cell"]
theorem sc__law_cell : FnScope N__law_cell ["script", "k"] (defScope st__law_cell) := ⟨rfl, rfl, rfl, by decide +kernel, rfl, by decide +kernel, by decide +kernel⟩
noncomputable def b__law_cell_1 : DL.Env → Option Out := (sSet 2 (eOp modD (eCall intG (aCons (eOp addD (eOp mulD (eVar 2) (eC (.int 31))) (eOp modD (eCall intG (aCons (eVar 3) aNil)) (eC (.int 1000003)))) aNil)) (eC (.int 1000003))))
noncomputable def b__law_cell : DL.Env → Option Out := (sSeq (sIf (eT (eOp ltD (eVar 1) (eCall lenG (aCons (eVar 0) aNil)))) (sRet (eOp ixD (eVar 0) (eVar 1))) sNil) (sSeq (sSet 2 (eC (.int 17))) (sSeq (sFor (iA (eVar 0)) (gN 3) b__law_cell_1) (sRet (eOp modD (eCall intG (aCons (eOp mulD (eOp mulD (eOp addD (eVar 2) (eC (.int 7))) (eOp addD (eVar 1) (eC (.int 3)))) (eC (.int 69621))) aNil)) (eC (.int 2147483647)))))))
noncomputable def G__law_cell : List D → Option D := gRun 2 N__law_cell b__law_cell
theorem ok__law_cell (B : Bl mg) (S : Std K mg "_law_cell" st__law_cell ["script", "k"]) : OkF P w K mg base cm "_law_cell" ["script", "k"] 1 G__law_cell := okf S sc__law_cell fun f cdv A outer s H E F0 hr => (dss_cons (ds_if (dt_cmp od_lt op_lt (dv 1) (de_callB cd_len cr_len rfl B.len bb_len (da_cons (dv 0) da_nil)) (nomark _)) (dss_one (ds_ret (de_ix (dv 0) (dv 1) (fun _ _ => rfl)))) dss_nil) (dss_cons (ds_set (i := 2) sc__law_cell.nd rfl (by first | exact Or.inl rfl | exact Or.inr rfl) de_int) (dss_cons (ds_for PassesOwn.never rfl (di_any (dv 0)) (dg_name (i := 3) sc__law_cell.nd rfl (by first | exact Or.inl rfl | exact Or.inr rfl)) (dss_one (ds_set (i := 2) sc__law_cell.nd rfl (by first | exact Or.inl rfl | exact Or.inr rfl) (de_op od_mod op_mod (de_callTy cd_int call_int1 rfl B.int bb_int (da_cons (de_op od_add op_addD (de_op od_mul op_mulD (dv 2) de_int) (de_op od_mod op_mod (de_callTy cd_int call_int1 rfl B.int bb_int (da_cons (dv 3) da_nil)) de_int)) da_nil)) de_int)))) (dss_one (ds_ret (de_op od_mod op_mod (de_callTy cd_int call_int1 rfl B.int bb_int (da_cons (de_op od_mul op_mulD (de_op od_mul op_mulD (de_op od_add op_addD (dv 2) de_int) (de_op od_add op_addD (dv 1) de_int)) de_int) da_nil)) de_int))))))
/-! _law_digits -/
abbrev st__law_digits : Stmt := top 30
def N__law_digits : List Str := ["cell", "sizes", "row", "rest", "size", "seed", "k", "twice"]
theorem sc__law_digits : FnScope N__law_digits ["cell", "sizes"] (defScope st__law_digits) := ⟨rfl, rfl, rfl, by decide +kernel, rfl, by decide +kernel, by decide +kernel⟩
noncomputable def b__law_digits_1 : DL.Env → Option Out := (sSeq (sApp 2 (eOp modD (eCall intG (aCons (eVar 3) aNil)) (eVar 4))) (sSet 3 (eOp fdivD (eCall intG (aCons (eVar 3) aNil)) (eVar 4))))
noncomputable def b__law_digits_2 : DL.Env → Option Out := (sSeq (sSet 5 (eOp modD (eCall intG (aCons (eOp addD (eOp addD (eOp mulD (eVar 5) (eC (.int 48271))) (eOp mulD (eC (.int 974711)) (eVar 6))) (eC (.int 12345))) aNil)) (eC (.int 2147483647)))) (sSeq (sSet 7 (eOp modD (eCall intG (aCons (eOp mulD (eVar 5) (eOp addD (eOp fdivD (eVar 5) (eC (.int 65537))) (eC (.int 3)))) aNil)) (eC (.int 2147483629)))) (sApp 2 (eOp modD (eOp fdivD (eVar 7) (eC (.int 19))) (eOp ixD (eVar 1) (eVar 6))))))
noncomputable def b__law_digits : DL.Env → Option Out := (sSeq (sOwn 2 (fLst aNil)) (sSeq (sSet 3 (eCall intG (aCons (eVar 0) aNil))) (sSeq (sIf (eT (eOp geD (eVar 3) (eOp powD (eC (.int 10)) (eC (.int 18))))) (sSeq (sSet 3 (eOp subD (eVar 3) (eOp powD (eC (.int 10)) (eC (.int 18))))) (sSeq (sFor (iA (eVar 1)) (gN 4) b__law_digits_1) (sFz 2 (sRet (eVar 2))))) sNil) (sSeq (sSet 5 (eOp modD (eCall intG (aCons (eVar 3) aNil)) (eC (.int 2147483629)))) (sSeq (sFor (iR1 (eCall lenG (aCons (eVar 1) aNil))) (gN 6) b__law_digits_2) (sFz 2 (sRet (eVar 2))))))))
noncomputable def G__law_digits : List D → Option D := gRun 2 N__law_digits b__law_digits
theorem ok__law_digits (B : Bl mg) (S : Std K mg "_law_digits" st__law_digits ["cell", "sizes"]) : OkF P w K mg base cm "_law_digits" ["cell", "sizes"] 1 G__law_digits := okf S sc__law_digits fun f cdv A outer s H E F0 hr => (dss_cons (ds_own (i := 2) sc__law_digits.nd rfl (by first | exact Or.inl rfl | exact Or.inr rfl) (df_lst da_nil)) (dss_cons (ds_set (i := 3) sc__law_digits.nd rfl (by first | exact Or.inl rfl | exact Or.inr rfl) (de_callTy cd_int call_int1 rfl B.int bb_int (da_cons (dv 0) da_nil))) (dss_cons (ds_if (dt_cmp od_ge op_ge (dv 3) (de_op od_pow op_pow de_int de_int) (nomark _)) (dss_cons (ds_set (i := 3) sc__law_digits.nd rfl (by first | exact Or.inl rfl | exact Or.inr rfl) (de_op od_sub op_sub (dv 3) (de_op od_pow op_pow de_int de_int))) (dss_cons (ds_for PassesOwn.never rfl (di_any (dv 1)) (dg_name (i := 4) sc__law_digits.nd rfl (by first | exact Or.inl rfl | exact Or.inr rfl)) (dss_cons (ds_app (pv 2) (de_op od_mod op_mod (de_callTy cd_int call_int1 rfl B.int bb_int (da_cons (dv 3) da_nil)) (dv 4))) (dss_one (ds_set (i := 3) sc__law_digits.nd rfl (by first | exact Or.inl rfl | exact Or.inr rfl) (de_op od_fdiv op_fdivW (de_callTy cd_int call_int1 rfl B.int bb_int (da_cons (dv 3) da_nil)) (dv 4)))))) (dss_one (ds_fz 2 (ds_ret (dv 2)))))) dss_nil) (dss_cons (ds_set (i := 5) sc__law_digits.nd rfl (by first | exact Or.inl rfl | exact Or.inr rfl) (de_op od_mod op_mod (de_callTy cd_int call_int1 rfl B.int bb_int (da_cons (dv 3) da_nil)) de_int)) (dss_cons (ds_for PassesOwn.never rfl (di_range1 rfl B.range (de_callB cd_len cr_len rfl B.len bb_len (da_cons (dv 1) da_nil))) (dg_name (i := 6) sc__law_digits.nd rfl (by first | exact Or.inl rfl | exact Or.inr rfl)) (dss_cons (ds_set (i := 5) sc__law_digits.nd rfl (by first | exact Or.inl rfl | exact Or.inr rfl) (de_op od_mod op_mod (de_callTy cd_int call_int1 rfl B.int bb_int (da_cons (de_op od_add op_addD (de_op od_add op_addD (de_op od_mul op_mulD (dv 5) de_int) (de_op od_mul op_mulD de_int (dv 6))) de_int) da_nil)) de_int)) (dss_cons (ds_set (i := 7) sc__law_digits.nd rfl (by first | exact Or.inl rfl | exact Or.inr rfl) (de_op od_mod op_mod (de_callTy cd_int call_int1 rfl B.int bb_int (da_cons (de_op od_mul op_mulD (dv 5) (de_op od_add op_addD (de_op od_fdiv op_fdivW (dv 5) de_int) de_int)) da_nil)) de_int)) (dss_one (ds_app (pv 2) (de_op od_mod op_mod (de_op od_fdiv op_fdivW (dv 7) de_int) (de_ix (dv 1) (dv 6) (fun _ _ => rfl)))))))) (dss_one (ds_fz 2 (ds_ret (dv 2)))))))))
/-! _law_gcd -/
abbrev st__law_gcd : Stmt := top 31
def N__law_gcd : List Str := ["one", "other", "rest"]
theorem sc__law_gcd : FnScope N__law_gcd ["one", "other"] (defScope st__law_gcd) := ⟨rfl, rfl, rfl, by decide +kernel, rfl, by decide +kernel, by decide +kernel⟩
noncomputable def b__law_gcd_1 : DL.Env → Option Out := (sSeq (sSet 2 (eOp modD (eCall intG (aCons (eVar 0) aNil)) (eVar 1))) (sSeq (sSet 0 (eVar 1)) (sSet 1 (eVar 2))))
noncomputable def b__law_gcd : DL.Env → Option Out := (sSeq (sSet 0 (eCall absG (aCons (eVar 0) aNil))) (sSeq (sSet 1 (eCall absG (aCons (eVar 1) aNil))) (sSeq (sWhile (eT (eOp neD (eVar 1) (eC (.int 0)))) b__law_gcd_1) (sRet (eVar 0)))))
noncomputable def G__law_gcd : List D → Option D := gRun 2 N__law_gcd b__law_gcd
theorem ok__law_gcd (B : Bl mg) (S : Std K mg "_law_gcd" st__law_gcd ["one", "other"]) : OkF P w K mg base cm "_law_gcd" ["one", "other"] 1 G__law_gcd := okf S sc__law_gcd fun f cdv A outer s H E F0 hr => (dss_cons (ds_set (i := 0) sc__law_gcd.nd rfl (by first | exact Or.inl rfl | exact Or.inr rfl) (de_callB cd_abs call_abs rfl B.abs bb_abs (da_cons (dv 0) da_nil))) (dss_cons (ds_set (i := 1) sc__law_gcd.nd rfl (by first | exact Or.inl rfl | exact Or.inr rfl) (de_callB cd_abs call_abs rfl B.abs bb_abs (da_cons (dv 1) da_nil))) (dss_cons (ds_while PassesOwn.never (dt_cmp od_ne (op_neA hr.units) (dv 1) de_int (nomark _)) (dss_cons (ds_set (i := 2) sc__law_gcd.nd rfl (by first | exact Or.inl rfl | exact Or.inr rfl) (de_op od_mod op_mod (de_callTy cd_int call_int1 rfl B.int bb_int (da_cons (dv 0) da_nil)) (dv 1))) (dss_cons (ds_set (i := 0) sc__law_gcd.nd rfl (by first | exact Or.inl rfl | exact Or.inr rfl) (dv 1)) (dss_one (ds_set (i := 1) sc__law_gcd.nd rfl (by first | exact Or.inl rfl | exact Or.inr rfl) (dv 2)))))) (dss_one (ds_ret (dv 0))))))
/-! _law_reduced -/
abbrev st__law_reduced : Stmt := top 32
def N__law_reduced : List Str := ["numbers", "bottom", "common", "number"]
theorem sc__law_reduced : FnScope N__law_reduced ["numbers", "bottom"] (defScope st__law_reduced) := ⟨rfl, rfl, rfl, by decide +kernel, rfl, by decide +kernel, by decide +kernel⟩
noncomputable def b__law_reduced_1 : DL.Env → Option Out := (sSet 2 (eCall G__law_gcd (aCons (eVar 2) (aCons (eVar 3) aNil))))
noncomputable def b__law_reduced : DL.Env → Option Out := (sSeq (sSet 2 (eVar 1)) (sSeq (sFor (iA (eVar 0)) (gN 3) b__law_reduced_1) (sRet (eOp addD (eCall tupG (aCons (eLc (iA (eVar 0)) [3] (gN 3) bYes (eOp fdivD (eVar 3) (eVar 2))) aNil)) (eTup (aCons (eOp fdivD (eVar 1) (eVar 2)) aNil))))))
noncomputable def G__law_reduced : List D → Option D := gRun 2 N__law_reduced b__law_reduced
theorem ok__law_reduced (B : Bl mg) (S : Std K mg "_law_reduced" st__law_reduced ["numbers", "bottom"]) (O__law_gcd : OkF P w K mg base cm "_law_gcd" ["one", "other"] 1 G__law_gcd) : OkF P w K mg base cm "_law_reduced" ["numbers", "bottom"] 2 G__law_reduced := okf S sc__law_reduced fun f cdv A outer s H E F0 hr => (dss_cons (ds_set (i := 2) sc__law_reduced.nd rfl (by first | exact Or.inl rfl | exact Or.inr rfl) (dv 1)) (dss_cons (ds_for PassesOwn.never rfl (di_any (dv 0)) (dg_name (i := 3) sc__law_reduced.nd rfl (by first | exact Or.inl rfl | exact Or.inr rfl)) (dss_one (ds_set (i := 2) sc__law_reduced.nd rfl (by first | exact Or.inl rfl | exact Or.inr rfl) (de_callO O__law_gcd hr (by decide) rfl (da_cons (dv 2) (da_cons (dv 3) da_nil)))))) (dss_one (ds_ret (de_op od_add op_addD (de_callTy cd_tup call_tuple_of rfl B.tuple bb_tuple (da_cons (de_lc (own := [("number", 3)]) rfl sc__law_reduced.nd (di_any (dv 0)) (blkOk_by (by kernel_rfl)) (by decide) (fun _ _ _ _ _ => (dg_name (i := 3) sc__law_reduced.nd rfl (by first | exact Or.inl rfl | exact Or.inr rfl))) (fun _ _ _ _ _ => dts_nil) (fun _ _ _ _ _ => (de_op od_fdiv op_fdivW (dv 3) (dv 2)))) da_nil)) (de_tup (da_cons (de_op od_fdiv op_fdivW (dv 1) (dv 2)) da_nil)))))))
/-! _law_dot -/
abbrev st__law_dot : Stmt := top 33
def N__law_dot : List Str := ["one", "other", "k"]
theorem sc__law_dot : FnScope N__law_dot ["one", "other"] (defScope st__law_dot) := ⟨rfl, rfl, rfl, by decide +kernel, rfl, by decide +kernel, by decide +kernel⟩
noncomputable def b__law_dot : DL.Env → Option Out := (sRet (eCall suG (aCons (eLc (iR1 (eCall lenG (aCons (eVar 0) aNil))) [2] (gN 2) bYes (eOp mulD (eOp ixD (eVar 0) (eVar 2)) (eOp ixD (eVar 1) (eVar 2)))) aNil)))
noncomputable def G__law_dot : List D → Option D := gRun 2 N__law_dot b__law_dot
theorem ok__law_dot (B : Bl mg) (S : Std K mg "_law_dot" st__law_dot ["one", "other"]) : OkF P w K mg base cm "_law_dot" ["one", "other"] 1 G__law_dot := okf S sc__law_dot fun f cdv A outer s H E F0 hr => (dss_one (ds_ret (de_callB cd_su (CallR.or (cr_sum rfl) (cr_sumT rfl)) rfl B.sum bb_sum (da_cons (de_lc (own := [("k", 2)]) rfl sc__law_dot.nd (di_range1 rfl B.range (de_callB cd_len cr_len rfl B.len bb_len (da_cons (dv 0) da_nil))) (blkOk_by (by kernel_rfl)) (by decide) (fun _ _ _ _ _ => (dg_name (i := 2) sc__law_dot.nd rfl (by first | exact Or.inl rfl | exact Or.inr rfl))) (fun _ _ _ _ _ => dts_nil) (fun _ _ _ _ _ => (de_op od_mul op_mulD (de_ix (dv 0) (dv 2) (fun _ _ => rfl)) (de_ix (dv 1) (dv 2) (fun _ _ => rfl))))) da_nil))))
/-! _law_homes -/
abbrev st__law_homes : Stmt := top 34
def N__law_homes : List Str := ["row", "many", "size", "span", "wide", "free", "plan", "step", "told", "k", "pair", "factor", "j", "number"]
theorem sc__law_homes : FnScope N__law_homes ["row", "many", "size", "span"] (defScope st__law_homes) := ⟨rfl, rfl, rfl, by decide +kernel, rfl, by decide +kernel, by decide +kernel⟩
noncomputable def b__law_homes_1 : DL.Env → Option Out := (sSeq (sSet 10 (eOp ixD (eVar 5) (eOp fdivD (eOp addD (eVar 9) (eC (.int 1))) (eC (.int 2))))) (sSeq (sSet 11 (eOp mulD (eOp ixD (eLst (aCons (eC (.int 1)) (aCons (eU negD (eC (.int 1))) aNil))) (eOp modD (eCall intG (aCons (eVar 9) aNil)) (eC (.int 2)))) (eOp addD (eC (.int 1)) (eOp modD (eCall intG (aCons (eOp ixD (eVar 0) (eOp addD (eC (.int 1)) (eOp mulD (eVar 2) (eVar 9)))) aNil)) (eC (.int 2)))))) (sApp 8 (eCall tupG (aCons (eLc (iR1 (eVar 2)) [12] (gN 12) bYes (eOp addD (eOp ixD (eIxO 8 (eC (.int 0))) (eVar 12)) (eOp mulD (eVar 11) (eOp fdivD (eOp ixD (eVar 10) (eVar 12)) (eC (.int 4)))))) aNil)))))
noncomputable def b__law_homes : DL.Env → Option Out := (sSeq (sSet 4 (eOp addD (eOp mulD (eC (.int 2)) (eVar 3)) (eC (.int 1)))) (sSeq (sSet 5 (eLc (iR1 (eVar 1)) [9] (gN 9) bYes (eCall tupG (aCons (eLc (iR1 (eVar 2)) [12] (gN 12) bYes (eOp subD (eOp modD (eCall intG (aCons (eOp ixD (eVar 0) (eOp addD (eOp addD (eC (.int 1)) (eOp mulD (eVar 2) (eVar 9))) (eVar 12))) aNil)) (eVar 4)) (eVar 3))) aNil)))) (sSeq (sSet 6 (eOp ixD (eVar 0) (eC (.int 0)))) (sSeq (sIf (eT (eOp eqD (eVar 6) (eC (.int 5)))) (sRet (eCall tupG (aCons (eLc (iR1 (eVar 1)) [9] (gN 9) bYes (eOp ixD (eVar 5) (eOp fdivD (eCall intG (aCons (eOp mulD (eVar 9) (eC (.int 2))) aNil)) (eC (.int 3))))) aNil))) sNil) (sSeq (sIf (bAnd (eT (eOp eqD (eVar 6) (eC (.int 6)))) (eT (eOp gtD (eVar 2) (eC (.int 1))))) (sSeq (sSet 7 (eCall tupG (aCons (eLc (iR1 (eVar 2)) [12] (gN 12) bYes (eOp fdivD (eOp ixD (eOp ixD (eVar 5) (eC (.int 0))) (eVar 12)) (eC (.int 6)))) aNil))) (sRet (eCall tupG (aCons (eLc (iR1 (eVar 1)) [9] (gN 9) bYes (eCall tupG (aCons (eLc (iR1 (eVar 2)) [12] (gN 12) bYes (eOp mulD (eOp ixD (eVar 7) (eVar 12)) (eOp subD (eOp modD (eCall intG (aCons (eOp ixD (eVar 0) (eOp addD (eC (.int 1)) (eOp mulD (eVar 2) (eVar 9)))) aNil)) (eC (.int 9))) (eC (.int 4))))) aNil))) aNil)))) sNil) (sSeq (sIf (bOr (eT (eOp eqD (eVar 6) (eC (.int 4)))) (eT (eOp eqD (eVar 6) (eC (.int 7))))) (sSeq (sOwn 8 (fLst (aCons (eCall tupG (aCons (eLc (iA (eOp ixD (eVar 5) (eC (.int 0)))) [13] (gN 13) bYes (eOp fdivD (eVar 13) (eC (.int 4)))) aNil)) aNil))) (sSeq (sFor (iR2 (eC (.int 1)) (eVar 1)) (gN 9) b__law_homes_1) (sSeq (sIf (eT (eOp eqD (eVar 6) (eC (.int 7)))) (sSetIx 8 (eOp subD (eVar 1) (eC (.int 1))) (eOp addD (eCall tupG (aCons (eLst (aCons (eOp addD (eOp ixD (eIxO 8 (eOp subD (eVar 1) (eC (.int 1)))) (eC (.int 0))) (eC (.int 1))) aNil)) aNil)) (eSl (eIxO 8 (eOp subD (eVar 1) (eC (.int 1)))) (oI (eC (.int 1))) oNo))) sNil) (sFz 8 (sRet (eCall tupG (aCons (eVar 8) aNil))))))) sNil) (sRet (eCall tupG (aCons (eVar 5) aNil)))))))))
noncomputable def G__law_homes : List D → Option D := gRun 4 N__law_homes b__law_homes
theorem ok__law_homes (B : Bl mg) (S : Std K mg "_law_homes" st__law_homes ["row", "many", "size", "span"]) : OkF P w K mg base cm "_law_homes" ["row", "many", "size", "span"] 1 G__law_homes := okf S sc__law_homes fun f cdv A outer s H E F0 hr => (dss_cons (ds_set (i := 4) sc__law_homes.nd rfl (by first | exact Or.inl rfl | exact Or.inr rfl) (de_op od_add op_addD (de_op od_mul op_mulD de_int (dv 3)) de_int)) (dss_cons (ds_set (i := 5) sc__law_homes.nd rfl (by first | exact Or.inl rfl | exact Or.inr rfl) (de_lc (own := [("k", 9)]) rfl sc__law_homes.nd (di_range1 rfl B.range (dv 1)) (blkOk_by (by kernel_rfl)) (by decide) (fun _ _ _ _ _ => (dg_name (i := 9) sc__law_homes.nd rfl (by first | exact Or.inl rfl | exact Or.inr rfl))) (fun _ _ _ _ _ => dts_nil) (fun _ _ _ _ _ => (de_callTy cd_tup call_tuple_of rfl B.tuple bb_tuple (da_cons (de_lc (own := [("j", 12)]) rfl sc__law_homes.nd (di_range1 rfl B.range (dv 2)) (blkOk_by (by kernel_rfl)) (by decide) (fun _ _ _ _ _ => (dg_name (i := 12) sc__law_homes.nd rfl (by first | exact Or.inl rfl | exact Or.inr rfl))) (fun _ _ _ _ _ => dts_nil) (fun _ _ _ _ _ => (de_op od_sub op_sub (de_op od_mod op_mod (de_callTy cd_int call_int1 rfl B.int bb_int (da_cons (de_ix (dv 0) (de_op od_add op_addD (de_op od_add op_addD de_int (de_op od_mul op_mulD (dv 2) (dv 9))) (dv 12)) (fun _ _ => rfl)) da_nil)) (dv 4)) (dv 3)))) da_nil))))) (dss_cons (ds_set (i := 6) sc__law_homes.nd rfl (by first | exact Or.inl rfl | exact Or.inr rfl) (de_ix (dv 0) de_int (fun _ _ => rfl))) (dss_cons (ds_if (dt_cmp od_eq (op_eqA hr.units) (dv 6) de_int (nomark _)) (dss_one (ds_ret (de_callTy cd_tup call_tuple_of rfl B.tuple bb_tuple (da_cons (de_lc (own := [("k", 9)]) rfl sc__law_homes.nd (di_range1 rfl B.range (dv 1)) (blkOk_by (by kernel_rfl)) (by decide) (fun _ _ _ _ _ => (dg_name (i := 9) sc__law_homes.nd rfl (by first | exact Or.inl rfl | exact Or.inr rfl))) (fun _ _ _ _ _ => dts_nil) (fun _ _ _ _ _ => (de_ix (dv 5) (de_op od_fdiv op_fdivW (de_callTy cd_int call_int1 rfl B.int bb_int (da_cons (de_op od_mul op_mulD (dv 9) de_int) da_nil)) de_int) (fun _ _ => rfl)))) da_nil)))) dss_nil) (dss_cons (ds_if (dw_dt (dw_and (dt_cmp od_eq (op_eqA hr.units) (dv 6) de_int (nomark _)) (dw_and1 (dt_cmp od_gt op_gt (dv 2) de_int (nomark _))))) (dss_cons (ds_set (i := 7) sc__law_homes.nd rfl (by first | exact Or.inl rfl | exact Or.inr rfl) (de_callTy cd_tup call_tuple_of rfl B.tuple bb_tuple (da_cons (de_lc (own := [("j", 12)]) rfl sc__law_homes.nd (di_range1 rfl B.range (dv 2)) (blkOk_by (by kernel_rfl)) (by decide) (fun _ _ _ _ _ => (dg_name (i := 12) sc__law_homes.nd rfl (by first | exact Or.inl rfl | exact Or.inr rfl))) (fun _ _ _ _ _ => dts_nil) (fun _ _ _ _ _ => (de_op od_fdiv op_fdivW (de_ix (de_ix (dv 5) de_int (fun _ _ => rfl)) (dv 12) (fun _ _ => rfl)) de_int))) da_nil))) (dss_one (ds_ret (de_callTy cd_tup call_tuple_of rfl B.tuple bb_tuple (da_cons (de_lc (own := [("k", 9)]) rfl sc__law_homes.nd (di_range1 rfl B.range (dv 1)) (blkOk_by (by kernel_rfl)) (by decide) (fun _ _ _ _ _ => (dg_name (i := 9) sc__law_homes.nd rfl (by first | exact Or.inl rfl | exact Or.inr rfl))) (fun _ _ _ _ _ => dts_nil) (fun _ _ _ _ _ => (de_callTy cd_tup call_tuple_of rfl B.tuple bb_tuple (da_cons (de_lc (own := [("j", 12)]) rfl sc__law_homes.nd (di_range1 rfl B.range (dv 2)) (blkOk_by (by kernel_rfl)) (by decide) (fun _ _ _ _ _ => (dg_name (i := 12) sc__law_homes.nd rfl (by first | exact Or.inl rfl | exact Or.inr rfl))) (fun _ _ _ _ _ => dts_nil) (fun _ _ _ _ _ => (de_op od_mul op_mulD (de_ix (dv 7) (dv 12) (fun _ _ => rfl)) (de_op od_sub op_sub (de_op od_mod op_mod (de_callTy cd_int call_int1 rfl B.int bb_int (da_cons (de_ix (dv 0) (de_op od_add op_addD de_int (de_op od_mul op_mulD (dv 2) (dv 9))) (fun _ _ => rfl)) da_nil)) de_int) de_int)))) da_nil)))) da_nil))))) dss_nil) (dss_cons (ds_if (dw_dt (dw_or (dt_cmp od_eq (op_eqA hr.units) (dv 6) de_int (nomark _)) (dw_or1 (dt_cmp od_eq (op_eqA hr.units) (dv 6) de_int (nomark _))))) (dss_cons (ds_own (i := 8) sc__law_homes.nd rfl (by first | exact Or.inl rfl | exact Or.inr rfl) (df_lst (da_cons (de_callTy cd_tup call_tuple_of rfl B.tuple bb_tuple (da_cons (de_lc (own := [("number", 13)]) rfl sc__law_homes.nd (di_any (de_ix (dv 5) de_int (fun _ _ => rfl))) (blkOk_by (by kernel_rfl)) (by decide) (fun _ _ _ _ _ => (dg_name (i := 13) sc__law_homes.nd rfl (by first | exact Or.inl rfl | exact Or.inr rfl))) (fun _ _ _ _ _ => dts_nil) (fun _ _ _ _ _ => (de_op od_fdiv op_fdivW (dv 13) de_int))) da_nil)) da_nil))) (dss_cons (ds_for PassesOwn.never rfl (di_range2 rfl B.range de_int (dv 1)) (dg_name (i := 9) sc__law_homes.nd rfl (by first | exact Or.inl rfl | exact Or.inr rfl)) (dss_cons (ds_set (i := 10) sc__law_homes.nd rfl (by first | exact Or.inl rfl | exact Or.inr rfl) (de_ix (dv 5) (de_op od_fdiv op_fdivW (de_op od_add op_addD (dv 9) de_int) de_int) (fun _ _ => rfl))) (dss_cons (ds_set (i := 11) sc__law_homes.nd rfl (by first | exact Or.inl rfl | exact Or.inr rfl) (de_op od_mul op_mulD (de_ix (de_lst (da_cons de_int (da_cons (de_un ud_neg un_neg de_int) da_nil))) (de_op od_mod op_mod (de_callTy cd_int call_int1 rfl B.int bb_int (da_cons (dv 9) da_nil)) de_int) (fun _ _ => rfl)) (de_op od_add op_addD de_int (de_op od_mod op_mod (de_callTy cd_int call_int1 rfl B.int bb_int (da_cons (de_ix (dv 0) (de_op od_add op_addD de_int (de_op od_mul op_mulD (dv 2) (dv 9))) (fun _ _ => rfl)) da_nil)) de_int)))) (dss_one (ds_app (pv 8) (de_callTy cd_tup call_tuple_of rfl B.tuple bb_tuple (da_cons (de_lc (own := [("j", 12)]) rfl sc__law_homes.nd (di_range1 rfl B.range (dv 2)) (blkOk_by (by kernel_rfl)) (by decide) (fun _ _ _ _ _ => (dg_name (i := 12) sc__law_homes.nd rfl (by first | exact Or.inl rfl | exact Or.inr rfl))) (fun _ _ _ _ _ => dts_nil) (fun _ _ _ _ _ => (de_op od_add op_addD (de_ix (de_ixO (pv 8) de_int (fun _ _ => rfl)) (dv 12) (fun _ _ => rfl)) (de_op od_mul op_mulD (dv 11) (de_op od_fdiv op_fdivW (de_ix (dv 10) (dv 12) (fun _ _ => rfl)) de_int))))) da_nil))))))) (dss_cons (ds_if (dt_cmp od_eq (op_eqA hr.units) (dv 6) de_int (nomark _)) (dss_one (ds_setIx (pv 8) (de_op od_sub op_sub (dv 1) de_int) (de_op od_add op_addD (de_callTy cd_tup call_tuple_of rfl B.tuple bb_tuple (da_cons (de_lst (da_cons (de_op od_add op_addD (de_ix (de_ixO (pv 8) (de_op od_sub op_sub (dv 1) de_int) (fun _ _ => rfl)) de_int (fun _ _ => rfl)) de_int) da_nil)) da_nil)) (de_sl (de_ixO (pv 8) (de_op od_sub op_sub (dv 1) de_int) (fun _ _ => rfl)) (do_some de_int) do_none)))) dss_nil) (dss_one (ds_fz 8 (ds_ret (de_callTy cd_tup call_tuple_of rfl B.tuple bb_tuple (da_cons (dv 8) da_nil)))))))) dss_nil) (dss_one (ds_ret (de_callTy cd_tup call_tuple_of rfl B.tuple bb_tuple (da_cons (dv 5) da_nil))))))))))
/-! _law_flip -/
abbrev st__law_flip : Stmt := top 35
def N__law_flip : List Str := ["arrow", "number"]
theorem sc__law_flip : FnScope N__law_flip ["arrow"] (defScope st__law_flip) := ⟨rfl, rfl, rfl, by decide +kernel, rfl, by decide +kernel, by decide +kernel⟩
noncomputable def b__law_flip : DL.Env → Option Out := (sRet (eCall tupG (aCons (eLc (iA (eVar 0)) [1] (gN 1) bYes (eU negD (eVar 1))) aNil)))
noncomputable def G__law_flip : List D → Option D := gRun 1 N__law_flip b__law_flip
theorem ok__law_flip (B : Bl mg) (S : Std K mg "_law_flip" st__law_flip ["arrow"]) : OkF P w K mg base cm "_law_flip" ["arrow"] 1 G__law_flip := okf S sc__law_flip fun f cdv A outer s H E F0 hr => (dss_one (ds_ret (de_callTy cd_tup call_tuple_of rfl B.tuple bb_tuple (da_cons (de_lc (own := [("number", 1)]) rfl sc__law_flip.nd (di_any (dv 0)) (blkOk_by (by kernel_rfl)) (by decide) (fun _ _ _ _ _ => (dg_name (i := 1) sc__law_flip.nd rfl (by first | exact Or.inl rfl | exact Or.inr rfl))) (fun _ _ _ _ _ => dts_nil) (fun _ _ _ _ _ => (de_un ud_neg un_neg (dv 1)))) da_nil))))
/-! _law_is_arrow -/
abbrev st__law_is_arrow : Stmt := top 36
def N__law_is_arrow : List Str := ["arrow", "size", "number"]
theorem sc__law_is_arrow : FnScope N__law_is_arrow ["arrow", "size"] (defScope st__law_is_arrow) := ⟨rfl, rfl, rfl, by decide +kernel, rfl, by decide +kernel, by decide +kernel⟩
noncomputable def b__law_is_arrow : DL.Env → Option Out := (sSeq (sIf (bOr (bNot (eT (eIsi "tuple" (eVar 0)))) (eT (eOp neD (eCall lenG (aCons (eVar 0) aNil)) (eVar 1)))) (sRet (eC (.bl false))) sNil) (sRet (eAnd (eCall allG (aCons (eLc (iA (eVar 0)) [2] (gN 2) bYes (eCall G__law_whole (aCons (eVar 2) aNil))) aNil)) (eCall anyG (aCons (eLc (iA (eVar 0)) [2] (gN 2) bYes (eOp neD (eVar 2) (eC (.int 0)))) aNil)))))
noncomputable def G__law_is_arrow : List D → Option D := gRun 2 N__law_is_arrow b__law_is_arrow
theorem ok__law_is_arrow (B : Bl mg) (S : Std K mg "_law_is_arrow" st__law_is_arrow ["arrow", "size"]) (O__law_whole : OkF P w K mg base cm "_law_whole" ["value"] 1 G__law_whole) : OkF P w K mg base cm "_law_is_arrow" ["arrow", "size"] 2 G__law_is_arrow := okf S sc__law_is_arrow fun f cdv A outer s H E F0 hr => (dss_cons (ds_if (dw_dt (dw_or (dt_not (dt_val (de_isi rfl B.isinstance rfl B.tuple bb_tuple (dv 0)))) (dw_or1 (dt_cmp od_ne (op_neA hr.units) (de_callB cd_len cr_len rfl B.len bb_len (da_cons (dv 0) da_nil)) (dv 1) (nomark _))))) (dss_one (ds_ret de_bl)) dss_nil) (dss_one (ds_ret (de_and (de_callB cd_all (cr_all rfl) rfl B.all bb_all (da_cons (de_lc (own := [("number", 2)]) rfl sc__law_is_arrow.nd (di_any (dv 0)) (blkOk_by (by kernel_rfl)) (by decide) (fun _ _ _ _ _ => (dg_name (i := 2) sc__law_is_arrow.nd rfl (by first | exact Or.inl rfl | exact Or.inr rfl))) (fun _ _ _ _ _ => dts_nil) (fun _ _ _ _ _ => (de_callO O__law_whole hr (by decide) rfl (da_cons (dv 2) da_nil)))) da_nil)) (de_one (de_callB cd_any (cr_any rfl) rfl B.any bb_any (da_cons (de_lc (own := [("number", 2)]) rfl sc__law_is_arrow.nd (di_any (dv 0)) (blkOk_by (by kernel_rfl)) (by decide) (fun _ _ _ _ _ => (dg_name (i := 2) sc__law_is_arrow.nd rfl (by first | exact Or.inl rfl | exact Or.inr rfl))) (fun _ _ _ _ _ => dts_nil) (fun _ _ _ _ _ => (de_cmp od_ne (op_neA hr.units) (dv 2) de_int (nomark _)))) da_nil)))))))
/-! _law_turned -/
abbrev st__law_turned : Stmt := top 37
def N__law_turned : List Str := ["one", "other"]
theorem sc__law_turned : FnScope N__law_turned ["one", "other"] (defScope st__law_turned) := ⟨rfl, rfl, rfl, by decide +kernel, rfl, by decide +kernel, by decide +kernel⟩
noncomputable def b__law_turned : DL.Env → Option Out := (sRet (eTup (aCons (eOp subD (eOp mulD (eOp ixD (eVar 0) (eC (.int 1))) (eOp ixD (eVar 1) (eC (.int 2)))) (eOp mulD (eOp ixD (eVar 0) (eC (.int 2))) (eOp ixD (eVar 1) (eC (.int 1))))) (aCons (eOp subD (eOp mulD (eOp ixD (eVar 0) (eC (.int 2))) (eOp ixD (eVar 1) (eC (.int 0)))) (eOp mulD (eOp ixD (eVar 0) (eC (.int 0))) (eOp ixD (eVar 1) (eC (.int 2))))) (aCons (eOp subD (eOp mulD (eOp ixD (eVar 0) (eC (.int 0))) (eOp ixD (eVar 1) (eC (.int 1)))) (eOp mulD (eOp ixD (eVar 0) (eC (.int 1))) (eOp ixD (eVar 1) (eC (.int 0))))) aNil)))))
noncomputable def G__law_turned : List D → Option D := gRun 2 N__law_turned b__law_turned
theorem ok__law_turned (B : Bl mg) (S : Std K mg "_law_turned" st__law_turned ["one", "other"]) : OkF P w K mg base cm "_law_turned" ["one", "other"] 1 G__law_turned := okf S sc__law_turned fun f cdv A outer s H E F0 hr => (dss_one (ds_ret (de_tup (da_cons (de_op od_sub op_sub (de_op od_mul op_mulD (de_ix (dv 0) de_int (fun _ _ => rfl)) (de_ix (dv 1) de_int (fun _ _ => rfl))) (de_op od_mul op_mulD (de_ix (dv 0) de_int (fun _ _ => rfl)) (de_ix (dv 1) de_int (fun _ _ => rfl)))) (da_cons (de_op od_sub op_sub (de_op od_mul op_mulD (de_ix (dv 0) de_int (fun _ _ => rfl)) (de_ix (dv 1) de_int (fun _ _ => rfl))) (de_op od_mul op_mulD (de_ix (dv 0) de_int (fun _ _ => rfl)) (de_ix (dv 1) de_int (fun _ _ => rfl)))) (da_cons (de_op od_sub op_sub (de_op od_mul op_mulD (de_ix (dv 0) de_int (fun _ _ => rfl)) (de_ix (dv 1) de_int (fun _ _ => rfl))) (de_op od_mul op_mulD (de_ix (dv 0) de_int (fun _ _ => rfl)) (de_ix (dv 1) de_int (fun _ _ => rfl)))) da_nil))))))
/-! _law_ways -/
abbrev st__law_ways : Stmt := top 38
def N__law_ways : List Str := ["homes", "place", "size", "home", "j"]
theorem sc__law_ways : FnScope N__law_ways ["homes", "place"] (defScope st__law_ways) := ⟨rfl, rfl, rfl, by decide +kernel, rfl, by decide +kernel, by decide +kernel⟩
noncomputable def b__law_ways : DL.Env → Option Out := (sSeq (sSet 2 (eOp subD (eCall lenG (aCons (eVar 1) aNil)) (eC (.int 1)))) (sRet (eLc (iA (eVar 0)) [3] (gN 3) bYes (eCall tupG (aCons (eLc (iR1 (eVar 2)) [4] (gN 4) bYes (eOp subD (eOp mulD (eOp ixD (eVar 3) (eVar 4)) (eOp ixD (eVar 1) (eVar 2))) (eOp ixD (eVar 1) (eVar 4)))) aNil)))))
noncomputable def G__law_ways : List D → Option D := gRun 2 N__law_ways b__law_ways
theorem ok__law_ways (B : Bl mg) (S : Std K mg "_law_ways" st__law_ways ["homes", "place"]) : OkF P w K mg base cm "_law_ways" ["homes", "place"] 1 G__law_ways := okf S sc__law_ways fun f cdv A outer s H E F0 hr => (dss_cons (ds_set (i := 2) sc__law_ways.nd rfl (by first | exact Or.inl rfl | exact Or.inr rfl) (de_op od_sub op_sub (de_callB cd_len cr_len rfl B.len bb_len (da_cons (dv 1) da_nil)) de_int)) (dss_one (ds_ret (de_lc (own := [("home", 3)]) rfl sc__law_ways.nd (di_any (dv 0)) (blkOk_by (by kernel_rfl)) (by decide) (fun _ _ _ _ _ => (dg_name (i := 3) sc__law_ways.nd rfl (by first | exact Or.inl rfl | exact Or.inr rfl))) (fun _ _ _ _ _ => dts_nil) (fun _ _ _ _ _ => (de_callTy cd_tup call_tuple_of rfl B.tuple bb_tuple (da_cons (de_lc (own := [("j", 4)]) rfl sc__law_ways.nd (di_range1 rfl B.range (dv 2)) (blkOk_by (by kernel_rfl)) (by decide) (fun _ _ _ _ _ => (dg_name (i := 4) sc__law_ways.nd rfl (by first | exact Or.inl rfl | exact Or.inr rfl))) (fun _ _ _ _ _ => dts_nil) (fun _ _ _ _ _ => (de_op od_sub op_sub (de_op od_mul op_mulD (de_ix (dv 3) (dv 4) (fun _ _ => rfl)) (de_ix (dv 1) (dv 2) (fun _ _ => rfl))) (de_ix (dv 1) (dv 4) (fun _ _ => rfl))))) da_nil)))))))
/-! _law_tied -/
abbrev st__law_tied : Stmt := top 39
def N__law_tied : List Str := ["arrow", "ties", "ways", "told", "tie", "far", "factor", "way", "j"]
theorem sc__law_tied : FnScope N__law_tied ["arrow", "ties", "ways"] (defScope st__law_tied) := ⟨rfl, rfl, rfl, by decide +kernel, rfl, by decide +kernel, by decide +kernel⟩
noncomputable def b__law_tied_1 : DL.Env → Option Out := (sApp 3 (eCall tupG (aCons (eLc (iR1 (eCall lenG (aCons (eVar 4) aNil))) [8] (gN 8) bYes (eOp addD (eOp mulD (eVar 6) (eOp ixD (eVar 0) (eVar 8))) (eOp ixD (eVar 4) (eVar 8)))) aNil)))
noncomputable def b__law_tied_2 : DL.Env → Option Out := (sSeq (sSet 5 (eOp addD (eC (.int 1)) (eCall maxG (aCons (eLc (iA (eVar 2)) [7] (gN 7) bYes (eCall absG (aCons (eCall G__law_dot (aCons (eVar 4) (aCons (eVar 7) aNil))) aNil))) aNil)))) (sFor (iA (eLst (aCons (eVar 5) (aCons (eU negD (eVar 5)) aNil)))) (gN 6) b__law_tied_1))
noncomputable def b__law_tied : DL.Env → Option Out := (sSeq (sOwn 3 (fLst aNil)) (sSeq (sFor (iA (eVar 1)) (gN 4) b__law_tied_2) (sFz 3 (sRet (eVar 3)))))
noncomputable def G__law_tied : List D → Option D := gRun 3 N__law_tied b__law_tied
theorem ok__law_tied (B : Bl mg) (S : Std K mg "_law_tied" st__law_tied ["arrow", "ties", "ways"]) (O__law_dot : OkF P w K mg base cm "_law_dot" ["one", "other"] 1 G__law_dot) : OkF P w K mg base cm "_law_tied" ["arrow", "ties", "ways"] 2 G__law_tied := okf S sc__law_tied fun f cdv A outer s H E F0 hr => (dss_cons (ds_own (i := 3) sc__law_tied.nd rfl (by first | exact Or.inl rfl | exact Or.inr rfl) (df_lst da_nil)) (dss_cons (ds_for PassesOwn.never rfl (di_any (dv 1)) (dg_name (i := 4) sc__law_tied.nd rfl (by first | exact Or.inl rfl | exact Or.inr rfl)) (dss_cons (ds_set (i := 5) sc__law_tied.nd rfl (by first | exact Or.inl rfl | exact Or.inr rfl) (de_op od_add op_addD de_int (de_callB cd_max (cr_maxA rfl) rfl B.max bb_max (da_cons (de_lc (own := [("way", 7)]) rfl sc__law_tied.nd (di_any (dv 2)) (blkOk_by (by kernel_rfl)) (by decide) (fun _ _ _ _ _ => (dg_name (i := 7) sc__law_tied.nd rfl (by first | exact Or.inl rfl | exact Or.inr rfl))) (fun _ _ _ _ _ => dts_nil) (fun _ _ _ _ _ => (de_callB cd_abs call_abs rfl B.abs bb_abs (da_cons (de_callO O__law_dot hr (by decide) rfl (da_cons (dv 4) (da_cons (dv 7) da_nil))) da_nil)))) da_nil)))) (dss_one (ds_for PassesOwn.never rfl (di_any (de_lst (da_cons (dv 5) (da_cons (de_un ud_neg un_neg (dv 5)) da_nil)))) (dg_name (i := 6) sc__law_tied.nd rfl (by first | exact Or.inl rfl | exact Or.inr rfl)) (dss_one (ds_app (pv 3) (de_callTy cd_tup call_tuple_of rfl B.tuple bb_tuple (da_cons (de_lc (own := [("j", 8)]) rfl sc__law_tied.nd (di_range1 rfl B.range (de_callB cd_len cr_len rfl B.len bb_len (da_cons (dv 4) da_nil))) (blkOk_by (by kernel_rfl)) (by decide) (fun _ _ _ _ _ => (dg_name (i := 8) sc__law_tied.nd rfl (by first | exact Or.inl rfl | exact Or.inr rfl))) (fun _ _ _ _ _ => dts_nil) (fun _ _ _ _ _ => (de_op od_add op_addD (de_op od_mul op_mulD (dv 6) (de_ix (dv 0) (dv 8) (fun _ _ => rfl))) (de_ix (dv 4) (dv 8) (fun _ _ => rfl))))) da_nil)))))))) (dss_one (ds_fz 3 (ds_ret (dv 3))))))
/-! _law_arrows -/
abbrev st__law_arrows : Stmt := top 40
def N__law_arrows : List Str := ["ways", "told", "k", "both", "j", "normal", "ties", "arrow", "number"]
theorem sc__law_arrows : FnScope N__law_arrows ["ways"] (defScope st__law_arrows) := ⟨rfl, rfl, rfl, by decide +kernel, rfl, by decide +kernel, by decide +kernel⟩
noncomputable def b__law_arrows_1 : DL.Env → Option Out := (sIf (bAnd (eT (eOp eqD (eCall lenG (aCons (eOp ixD (eVar 0) (eVar 2)) aNil)) (eC (.int 3)))) (eT (eOp neD (eCall G__law_turned (aCons (eOp ixD (eVar 0) (eVar 2)) (aCons (eOp ixD (eVar 0) (eVar 4)) aNil))) (eTup (aCons (eC (.int 0)) (aCons (eC (.int 0)) (aCons (eC (.int 0)) aNil))))))) (sSeq (sSet 5 (eCall G__law_turned (aCons (eOp ixD (eVar 0) (eVar 2)) (aCons (eOp ixD (eVar 0) (eVar 4)) aNil)))) (sSeq (sSet 6 (eCall G__law_tied (aCons (eCall G__law_turned (aCons (eVar 5) (aCons (eOp ixD (eVar 0) (eVar 2)) aNil))) (aCons (eVar 3) (aCons (eVar 0) aNil))))) (sSeq (sSet 6 (eOp addD (eVar 6) (eCall G__law_tied (aCons (eCall G__law_turned (aCons (eVar 5) (aCons (eOp ixD (eVar 0) (eVar 4)) aNil))) (aCons (eLst (aCons (eOp ixD (eVar 0) (eVar 4)) (aCons (eCall G__law_flip (aCons (eOp ixD (eVar 0) (eVar 4)) aNil)) aNil))) (aCons (eVar 0) aNil)))))) (sSet 1 (eOp addD (eVar 1) (eCall G__law_tied (aCons (eVar 5) (aCons (eVar 6) (aCons (eVar 0) aNil))))))))) sNil)
noncomputable def b__law_arrows_2 : DL.Env → Option Out := (sSeq (sSet 3 (eLst (aCons (eOp ixD (eVar 0) (eVar 2)) (aCons (eCall G__law_flip (aCons (eOp ixD (eVar 0) (eVar 2)) aNil)) aNil)))) (sSeq (sSet 1 (eOp addD (eVar 1) (eVar 3))) (sSeq (sIf (eT (eOp eqD (eCall lenG (aCons (eOp ixD (eVar 0) (eVar 2)) aNil)) (eC (.int 2)))) (sSet 1 (eOp addD (eVar 1) (eCall G__law_tied (aCons (eTup (aCons (eU negD (eOp ixD (eOp ixD (eVar 0) (eVar 2)) (eC (.int 1)))) (aCons (eOp ixD (eOp ixD (eVar 0) (eVar 2)) (eC (.int 0))) aNil))) (aCons (eVar 3) (aCons (eVar 0) aNil)))))) sNil) (sFor (iR1 (eVar 2)) (gN 4) b__law_arrows_1))))
noncomputable def b__law_arrows : DL.Env → Option Out := (sSeq (sSet 1 (eLst aNil)) (sSeq (sFor (iR1 (eCall lenG (aCons (eVar 0) aNil))) (gN 2) b__law_arrows_2) (sRet (eLc (iA (eVar 1)) [7] (gN 7) (eT (eCall anyG (aCons (eLc (iA (eVar 7)) [8] (gN 8) bYes (eOp neD (eVar 8) (eC (.int 0)))) aNil))) (eVar 7)))))
noncomputable def G__law_arrows : List D → Option D := gRun 1 N__law_arrows b__law_arrows
theorem ok__law_arrows (B : Bl mg) (S : Std K mg "_law_arrows" st__law_arrows ["ways"]) (O__law_flip : OkF P w K mg base cm "_law_flip" ["arrow"] 1 G__law_flip) (O__law_tied : OkF P w K mg base cm "_law_tied" ["arrow", "ties", "ways"] 2 G__law_tied) (O__law_turned : OkF P w K mg base cm "_law_turned" ["one", "other"] 1 G__law_turned) : OkF P w K mg base cm "_law_arrows" ["ways"] 3 G__law_arrows := okf S sc__law_arrows fun f cdv A outer s H E F0 hr => (dss_cons (ds_set (i := 1) sc__law_arrows.nd rfl (by first | exact Or.inl rfl | exact Or.inr rfl) (de_lst da_nil)) (dss_cons (ds_for PassesOwn.never rfl (di_range1 rfl B.range (de_callB cd_len cr_len rfl B.len bb_len (da_cons (dv 0) da_nil))) (dg_name (i := 2) sc__law_arrows.nd rfl (by first | exact Or.inl rfl | exact Or.inr rfl)) (dss_cons (ds_set (i := 3) sc__law_arrows.nd rfl (by first | exact Or.inl rfl | exact Or.inr rfl) (de_lst (da_cons (de_ix (dv 0) (dv 2) (fun _ _ => rfl)) (da_cons (de_callO O__law_flip hr (by decide) rfl (da_cons (de_ix (dv 0) (dv 2) (fun _ _ => rfl)) da_nil)) da_nil)))) (dss_cons (ds_set (i := 1) sc__law_arrows.nd rfl (by first | exact Or.inl rfl | exact Or.inr rfl) (de_op od_add op_addD (dv 1) (dv 3))) (dss_cons (ds_if (dt_cmp od_eq (op_eqA hr.units) (de_callB cd_len cr_len rfl B.len bb_len (da_cons (de_ix (dv 0) (dv 2) (fun _ _ => rfl)) da_nil)) de_int (nomark _)) (dss_one (ds_set (i := 1) sc__law_arrows.nd rfl (by first | exact Or.inl rfl | exact Or.inr rfl) (de_op od_add op_addD (dv 1) (de_callO O__law_tied hr (by decide) rfl (da_cons (de_tup (da_cons (de_un ud_neg un_neg (de_ix (de_ix (dv 0) (dv 2) (fun _ _ => rfl)) de_int (fun _ _ => rfl))) (da_cons (de_ix (de_ix (dv 0) (dv 2) (fun _ _ => rfl)) de_int (fun _ _ => rfl)) da_nil))) (da_cons (dv 3) (da_cons (dv 0) da_nil))))))) dss_nil) (dss_one (ds_for PassesOwn.never rfl (di_range1 rfl B.range (dv 2)) (dg_name (i := 4) sc__law_arrows.nd rfl (by first | exact Or.inl rfl | exact Or.inr rfl)) (dss_one (ds_if (dw_dt (dw_and (dt_cmp od_eq (op_eqA hr.units) (de_callB cd_len cr_len rfl B.len bb_len (da_cons (de_ix (dv 0) (dv 2) (fun _ _ => rfl)) da_nil)) de_int (nomark _)) (dw_and1 (dt_cmp od_ne (op_neA hr.units) (de_callO O__law_turned hr (by decide) rfl (da_cons (de_ix (dv 0) (dv 2) (fun _ _ => rfl)) (da_cons (de_ix (dv 0) (dv 4) (fun _ _ => rfl)) da_nil))) (de_tup (da_cons de_int (da_cons de_int (da_cons de_int da_nil)))) (nomark _))))) (dss_cons (ds_set (i := 5) sc__law_arrows.nd rfl (by first | exact Or.inl rfl | exact Or.inr rfl) (de_callO O__law_turned hr (by decide) rfl (da_cons (de_ix (dv 0) (dv 2) (fun _ _ => rfl)) (da_cons (de_ix (dv 0) (dv 4) (fun _ _ => rfl)) da_nil)))) (dss_cons (ds_set (i := 6) sc__law_arrows.nd rfl (by first | exact Or.inl rfl | exact Or.inr rfl) (de_callO O__law_tied hr (by decide) rfl (da_cons (de_callO O__law_turned hr (by decide) rfl (da_cons (dv 5) (da_cons (de_ix (dv 0) (dv 2) (fun _ _ => rfl)) da_nil))) (da_cons (dv 3) (da_cons (dv 0) da_nil))))) (dss_cons (ds_set (i := 6) sc__law_arrows.nd rfl (by first | exact Or.inl rfl | exact Or.inr rfl) (de_op od_add op_addD (dv 6) (de_callO O__law_tied hr (by decide) rfl (da_cons (de_callO O__law_turned hr (by decide) rfl (da_cons (dv 5) (da_cons (de_ix (dv 0) (dv 4) (fun _ _ => rfl)) da_nil))) (da_cons (de_lst (da_cons (de_ix (dv 0) (dv 4) (fun _ _ => rfl)) (da_cons (de_callO O__law_flip hr (by decide) rfl (da_cons (de_ix (dv 0) (dv 4) (fun _ _ => rfl)) da_nil)) da_nil))) (da_cons (dv 0) da_nil)))))) (dss_one (ds_set (i := 1) sc__law_arrows.nd rfl (by first | exact Or.inl rfl | exact Or.inr rfl) (de_op od_add op_addD (dv 1) (de_callO O__law_tied hr (by decide) rfl (da_cons (dv 5) (da_cons (dv 6) (da_cons (dv 0) da_nil)))))))))) dss_nil)))))))) (dss_one (ds_ret (de_lc (own := [("arrow", 7)]) rfl sc__law_arrows.nd (di_any (dv 1)) (blkOk_by (by kernel_rfl)) (by decide) (fun _ _ _ _ _ => (dg_name (i := 7) sc__law_arrows.nd rfl (by first | exact Or.inl rfl | exact Or.inr rfl))) (fun _ _ _ _ _ => (dts_one (dt_val (de_callB cd_any (cr_any rfl) rfl B.any bb_any (da_cons (de_lc (own := [("number", 8)]) rfl sc__law_arrows.nd (di_any (dv 7)) (blkOk_by (by kernel_rfl)) (by decide) (fun _ _ _ _ _ => (dg_name (i := 8) sc__law_arrows.nd rfl (by first | exact Or.inl rfl | exact Or.inr rfl))) (fun _ _ _ _ _ => dts_nil) (fun _ _ _ _ _ => (de_cmp od_ne (op_neA hr.units) (dv 8) de_int (nomark _)))) da_nil))))) (fun _ _ _ _ _ => (dv 7)))))))
/-! _law_weighed -/
abbrev st__law_weighed : Stmt := top 41
def N__law_weighed : List Str := ["ways", "weights", "arrow", "k"]
theorem sc__law_weighed : FnScope N__law_weighed ["ways", "weights", "arrow"] (defScope st__law_weighed) := ⟨rfl, rfl, rfl, by decide +kernel, rfl, by decide +kernel, by decide +kernel⟩
noncomputable def b__law_weighed : DL.Env → Option Out := (sRet (eCall suG (aCons (eLc (iR1 (eCall lenG (aCons (eVar 0) aNil))) [3] (gN 3) (eT (eOp leD (eCall G__law_dot (aCons (eVar 2) (aCons (eOp ixD (eVar 0) (eVar 3)) aNil))) (eC (.int 0)))) (eOp ixD (eVar 1) (eVar 3))) aNil)))
noncomputable def G__law_weighed : List D → Option D := gRun 3 N__law_weighed b__law_weighed
theorem ok__law_weighed (B : Bl mg) (S : Std K mg "_law_weighed" st__law_weighed ["ways", "weights", "arrow"]) (O__law_dot : OkF P w K mg base cm "_law_dot" ["one", "other"] 1 G__law_dot) : OkF P w K mg base cm "_law_weighed" ["ways", "weights", "arrow"] 2 G__law_weighed := okf S sc__law_weighed fun f cdv A outer s H E F0 hr => (dss_one (ds_ret (de_callB cd_su (CallR.or (cr_sum rfl) (cr_sumT rfl)) rfl B.sum bb_sum (da_cons (de_lc (own := [("k", 3)]) rfl sc__law_weighed.nd (di_range1 rfl B.range (de_callB cd_len cr_len rfl B.len bb_len (da_cons (dv 0) da_nil))) (blkOk_by (by kernel_rfl)) (by decide) (fun _ _ _ _ _ => (dg_name (i := 3) sc__law_weighed.nd rfl (by first | exact Or.inl rfl | exact Or.inr rfl))) (fun _ _ _ _ _ => (dts_one (dt_cmp od_le op_le (de_callO O__law_dot hr (by decide) rfl (da_cons (dv 2) (da_cons (de_ix (dv 0) (dv 3) (fun _ _ => rfl)) da_nil))) de_int (nomark _)))) (fun _ _ _ _ _ => (de_ix (dv 1) (dv 3) (fun _ _ => rfl)))) da_nil))))
/-! _law_is_shown -/
abbrev st__law_is_shown : Stmt := top 42
def N__law_is_shown : List Str := ["told", "homes", "weights", "place"]
theorem sc__law_is_shown : FnScope N__law_is_shown ["told", "homes", "weights", "place"] (defScope st__law_is_shown) := ⟨rfl, rfl, rfl, by decide +kernel, rfl, by decide +kernel, by decide +kernel⟩
noncomputable def b__law_is_shown : DL.Env → Option Out := (sSeq (sIf (bOr (bNot (eT (eIsi "tuple" (eVar 0)))) (bOr (eT (eOp neD (eCall lenG (aCons (eVar 0) aNil)) (eC (.int 2)))) (bNot (eT (eCall G__law_whole (aCons (eOp ixD (eVar 0) (eC (.int 0))) aNil)))))) (sRet (eC (.bl false))) sNil) (sSeq (sIf (bNot (eT (eCall G__law_is_arrow (aCons (eOp ixD (eVar 0) (eC (.int 1))) (aCons (eCall lenG (aCons (eOp ixD (eVar 1) (eC (.int 0))) aNil)) aNil))))) (sRet (eC (.bl false))) sNil) (sRet (eOp eqD (eCall G__law_weighed (aCons (eCall G__law_ways (aCons (eVar 1) (aCons (eVar 3) aNil))) (aCons (eVar 2) (aCons (eOp ixD (eVar 0) (eC (.int 1))) aNil)))) (eOp ixD (eVar 0) (eC (.int 0)))))))
noncomputable def G__law_is_shown : List D → Option D := gRun 4 N__law_is_shown b__law_is_shown
theorem ok__law_is_shown (B : Bl mg) (S : Std K mg "_law_is_shown" st__law_is_shown ["told", "homes", "weights", "place"]) (O__law_whole : OkF P w K mg base cm "_law_whole" ["value"] 1 G__law_whole) (O__law_is_arrow : OkF P w K mg base cm "_law_is_arrow" ["arrow", "size"] 2 G__law_is_arrow) (O__law_ways : OkF P w K mg base cm "_law_ways" ["homes", "place"] 1 G__law_ways) (O__law_weighed : OkF P w K mg base cm "_law_weighed" ["ways", "weights", "arrow"] 2 G__law_weighed) : OkF P w K mg base cm "_law_is_shown" ["told", "homes", "weights", "place"] 3 G__law_is_shown := okf S sc__law_is_shown fun f cdv A outer s H E F0 hr => (dss_cons (ds_if (dw_dt (dw_or (dt_not (dt_val (de_isi rfl B.isinstance rfl B.tuple bb_tuple (dv 0)))) (dw_or (dt_cmp od_ne (op_neA hr.units) (de_callB cd_len cr_len rfl B.len bb_len (da_cons (dv 0) da_nil)) de_int (nomark _)) (dw_or1 (dt_not (dt_val (de_callO O__law_whole hr (by decide) rfl (da_cons (de_ix (dv 0) de_int (fun _ _ => rfl)) da_nil)))))))) (dss_one (ds_ret de_bl)) dss_nil) (dss_cons (ds_if (dt_not (dt_val (de_callO O__law_is_arrow hr (by decide) rfl (da_cons (de_ix (dv 0) de_int (fun _ _ => rfl)) (da_cons (de_callB cd_len cr_len rfl B.len bb_len (da_cons (de_ix (dv 1) de_int (fun _ _ => rfl)) da_nil)) da_nil))))) (dss_one (ds_ret de_bl)) dss_nil) (dss_one (ds_ret (de_cmp od_eq (op_eqA hr.units) (de_callO O__law_weighed hr (by decide) rfl (da_cons (de_callO O__law_ways hr (by decide) rfl (da_cons (dv 1) (da_cons (dv 3) da_nil))) (da_cons (dv 2) (da_cons (de_ix (dv 0) de_int (fun _ _ => rfl)) da_nil)))) (de_ix (dv 0) de_int (fun _ _ => rfl)) (nomark _))))))
/-! _law_is_deep -/
abbrev st__law_is_deep : Stmt := top 43
def N__law_is_deep : List Str := ["homes", "weights", "place", "depth", "ways", "arrow"]
theorem sc__law_is_deep : FnScope N__law_is_deep ["homes", "weights", "place", "depth"] (defScope st__law_is_deep) := ⟨rfl, rfl, rfl, by decide +kernel, rfl, by decide +kernel, by decide +kernel⟩
noncomputable def b__law_is_deep : DL.Env → Option Out := (sSeq (sSet 4 (eCall G__law_ways (aCons (eVar 0) (aCons (eVar 2) aNil)))) (sRet (eCall allG (aCons (eLc (iA (eCall G__law_arrows (aCons (eVar 4) aNil))) [5] (gN 5) bYes (eOp geD (eCall G__law_weighed (aCons (eVar 4) (aCons (eVar 1) (aCons (eVar 5) aNil)))) (eVar 3))) aNil))))
noncomputable def G__law_is_deep : List D → Option D := gRun 4 N__law_is_deep b__law_is_deep
theorem ok__law_is_deep (B : Bl mg) (S : Std K mg "_law_is_deep" st__law_is_deep ["homes", "weights", "place", "depth"]) (O__law_ways : OkF P w K mg base cm "_law_ways" ["homes", "place"] 1 G__law_ways) (O__law_arrows : OkF P w K mg base cm "_law_arrows" ["ways"] 3 G__law_arrows) (O__law_weighed : OkF P w K mg base cm "_law_weighed" ["ways", "weights", "arrow"] 2 G__law_weighed) : OkF P w K mg base cm "_law_is_deep" ["homes", "weights", "place", "depth"] 4 G__law_is_deep := okf S sc__law_is_deep fun f cdv A outer s H E F0 hr => (dss_cons (ds_set (i := 4) sc__law_is_deep.nd rfl (by first | exact Or.inl rfl | exact Or.inr rfl) (de_callO O__law_ways hr (by decide) rfl (da_cons (dv 0) (da_cons (dv 2) da_nil)))) (dss_one (ds_ret (de_callB cd_all (cr_all rfl) rfl B.all bb_all (da_cons (de_lc (own := [("arrow", 5)]) rfl sc__law_is_deep.nd (di_any (de_callO O__law_arrows hr (by decide) rfl (da_cons (dv 4) da_nil))) (blkOk_by (by kernel_rfl)) (by decide) (fun _ _ _ _ _ => (dg_name (i := 5) sc__law_is_deep.nd rfl (by first | exact Or.inl rfl | exact Or.inr rfl))) (fun _ _ _ _ _ => dts_nil) (fun _ _ _ _ _ => (de_cmp od_ge op_ge (de_callO O__law_weighed hr (by decide) rfl (da_cons (dv 4) (da_cons (dv 1) (da_cons (dv 5) da_nil)))) (dv 3) (nomark _)))) da_nil)))))
/-! _law_spot -/
abbrev st__law_spot : Stmt := top 44
def N__law_spot : List Str := ["row", "homes", "span", "size", "plan", "bottom", "wide", "numbers", "shares", "trio", "spot", "tiny", "j", "k"]
theorem sc__law_spot : FnScope N__law_spot ["row", "homes", "span"] (defScope st__law_spot) := ⟨rfl, rfl, rfl, by decide +kernel, rfl, by decide +kernel, by decide +kernel⟩
noncomputable def b__law_spot : DL.Env → Option Out := (sSeq (sSet 3 (eCall lenG (aCons (eOp ixD (eVar 1) (eC (.int 0))) aNil))) (sSeq (sSet 4 (eOp modD (eCall intG (aCons (eOp ixD (eVar 0) (eC (.int 0))) aNil)) (eC (.int 5)))) (sSeq (sIf (eT (eOp eqD (eVar 4) (eC (.int 4)))) (sSeq (sSet 5 (eOp ixD (eLst (aCons (eC (.int 1)) (aCons (eC (.int 2)) (aCons (eC (.int 3)) (aCons (eC (.int 1)) (aCons (eC (.int 4)) (aCons (eC (.int 5)) (aCons (eC (.int 6)) (aCons (eC (.int 2)) (aCons (eC (.int 7)) (aCons (eC (.int 8)) (aCons (eC (.int 10)) (aCons (eC (.int 12)) aNil))))))))))))) (eOp ixD (eVar 0) (eC (.int 7))))) (sSeq (sIf (eT (eOp eqD (eOp ixD (eVar 0) (eC (.int 0))) (eC (.int 9)))) (sSet 5 (eOp addD (eOp ixD (eLst (aCons (eC (.int 1)) (aCons (eOp powD (eC (.int 10)) (eC (.int 40))) aNil))) (eOp modD (eCall intG (aCons (eOp ixD (eVar 0) (eC (.int 7))) aNil)) (eC (.int 2)))) (eCall intG (aCons (eOp ixD (eVar 0) (eC (.int 14))) aNil)))) sNil) (sSeq (sSet 6 (eOp addD (eOp mulD (eC (.int 2)) (eVar 2)) (eC (.int 5)))) (sSeq (sSet 7 (eLc (iR1 (eVar 3)) [12] (gN 12) bYes (eOp addD (eOp mulD (eOp subD (eOp subD (eOp modD (eCall intG (aCons (eOp ixD (eVar 0) (eOp addD (eC (.int 8)) (eVar 12))) aNil)) (eVar 6)) (eVar 2)) (eC (.int 2))) (eVar 5)) (eOp modD (eCall intG (aCons (eOp ixD (eVar 0) (eOp addD (eC (.int 15)) (eVar 12))) aNil)) (eVar 5))))) (sRet (eCall G__law_reduced (aCons (eVar 7) (aCons (eVar 5) aNil)))))))) sNil) (sSeq (sSet 8 (eOp ixD (eLst (aCons (eTup (aCons (eC (.int 1)) (aCons (eC (.int 0)) (aCons (eC (.int 0)) aNil)))) (aCons (eTup (aCons (eC (.int 1)) (aCons (eC (.int 1)) (aCons (eC (.int 0)) aNil)))) (aCons (eTup (aCons (eOp subD (eCall intG (aCons (eOp ixD (eVar 0) (eC (.int 4))) aNil)) (eC (.int 5))) (aCons (eC (.int 6)) (aCons (eC (.int 0)) aNil)))) (aCons (eTup (aCons (eOp addD (eC (.int 1)) (eCall intG (aCons (eOp ixD (eVar 0) (eC (.int 5))) aNil))) (aCons (eOp addD (eC (.int 1)) (eCall intG (aCons (eOp ixD (eVar 0) (eC (.int 6))) aNil))) (aCons (eOp modD (eCall intG (aCons (eOp ixD (eVar 0) (eC (.int 4))) aNil)) (eC (.int 4))) aNil)))) aNil))))) (eVar 4))) (sSeq (sSet 9 (eLc (iR1 (eC (.int 3))) [13] (gN 13) bYes (eOp ixD (eVar 1) (eOp modD (eCall intG (aCons (eOp ixD (eVar 0) (eOp addD (eC (.int 1)) (eVar 13))) aNil)) (eCall lenG (aCons (eVar 1) aNil)))))) (sSeq (sSet 10 (eCall G__law_reduced (aCons (eLc (iR1 (eVar 3)) [12] (gN 12) bYes (eCall suG (aCons (eLc (iR1 (eC (.int 3))) [13] (gN 13) bYes (eOp mulD (eOp ixD (eVar 8) (eVar 13)) (eOp ixD (eOp ixD (eVar 9) (eVar 13)) (eVar 12)))) aNil))) (aCons (eCall suG (aCons (eVar 8) aNil)) aNil)))) (sSeq (sIf (eT (eOp ltD (eOp ixD (eVar 0) (eC (.int 0))) (eC (.int 5)))) (sRet (eVar 10)) sNil) (sSeq (sSet 11 (eOp powD (eC (.int 10)) (eC (.int 40)))) (sRet (eCall G__law_reduced (aCons (eLc (iR1 (eVar 3)) [12] (gN 12) bYes (eOp addD (eOp mulD (eOp ixD (eVar 10) (eVar 12)) (eVar 11)) (eOp mulD (eOp subD (eCall intG (aCons (eOp ixD (eVar 0) (eOp addD (eC (.int 11)) (eVar 12))) aNil)) (eC (.int 1))) (eOp ixD (eVar 10) (eVar 3))))) (aCons (eOp mulD (eOp ixD (eVar 10) (eVar 3)) (eVar 11)) aNil))))))))))))
noncomputable def G__law_spot : List D → Option D := gRun 3 N__law_spot b__law_spot
theorem ok__law_spot (B : Bl mg) (S : Std K mg "_law_spot" st__law_spot ["row", "homes", "span"]) (O__law_reduced : OkF P w K mg base cm "_law_reduced" ["numbers", "bottom"] 2 G__law_reduced) : OkF P w K mg base cm "_law_spot" ["row", "homes", "span"] 3 G__law_spot := okf S sc__law_spot fun f cdv A outer s H E F0 hr => (dss_cons (ds_set (i := 3) sc__law_spot.nd rfl (by first | exact Or.inl rfl | exact Or.inr rfl) (de_callB cd_len cr_len rfl B.len bb_len (da_cons (de_ix (dv 1) de_int (fun _ _ => rfl)) da_nil))) (dss_cons (ds_set (i := 4) sc__law_spot.nd rfl (by first | exact Or.inl rfl | exact Or.inr rfl) (de_op od_mod op_mod (de_callTy cd_int call_int1 rfl B.int bb_int (da_cons (de_ix (dv 0) de_int (fun _ _ => rfl)) da_nil)) de_int)) (dss_cons (ds_if (dt_cmp od_eq (op_eqA hr.units) (dv 4) de_int (nomark _)) (dss_cons (ds_set (i := 5) sc__law_spot.nd rfl (by first | exact Or.inl rfl | exact Or.inr rfl) (de_ix (de_lst (da_cons de_int (da_cons de_int (da_cons de_int (da_cons de_int (da_cons de_int (da_cons de_int (da_cons de_int (da_cons de_int (da_cons de_int (da_cons de_int (da_cons de_int (da_cons de_int da_nil))))))))))))) (de_ix (dv 0) de_int (fun _ _ => rfl)) (fun _ _ => rfl))) (dss_cons (ds_if (dt_cmp od_eq (op_eqA hr.units) (de_ix (dv 0) de_int (fun _ _ => rfl)) de_int (nomark _)) (dss_one (ds_set (i := 5) sc__law_spot.nd rfl (by first | exact Or.inl rfl | exact Or.inr rfl) (de_op od_add op_addD (de_ix (de_lst (da_cons de_int (da_cons (de_op od_pow op_pow de_int de_int) da_nil))) (de_op od_mod op_mod (de_callTy cd_int call_int1 rfl B.int bb_int (da_cons (de_ix (dv 0) de_int (fun _ _ => rfl)) da_nil)) de_int) (fun _ _ => rfl)) (de_callTy cd_int call_int1 rfl B.int bb_int (da_cons (de_ix (dv 0) de_int (fun _ _ => rfl)) da_nil))))) dss_nil) (dss_cons (ds_set (i := 6) sc__law_spot.nd rfl (by first | exact Or.inl rfl | exact Or.inr rfl) (de_op od_add op_addD (de_op od_mul op_mulD de_int (dv 2)) de_int)) (dss_cons (ds_setLc (i := 7) (own := [("j", 12)]) rfl sc__law_spot.nd rfl rfl (sw_true rfl rfl rfl (by kernel_rfl)) (di_range1 rfl B.range (dv 3)) (blkOk_by (by kernel_rfl)) (by decide) (fun _ _ _ _ _ => (dg_name (i := 12) sc__law_spot.nd rfl (by first | exact Or.inl rfl | exact Or.inr rfl))) (fun _ _ _ _ _ => dts_nil) (fun _ _ _ _ _ => (de_op od_add op_addD (de_op od_mul op_mulD (de_op od_sub op_sub (de_op od_sub op_sub (de_op od_mod op_mod (de_callTy cd_int call_int1 rfl B.int bb_int (da_cons (de_ix (dv 0) (de_op od_add op_addD de_int (dv 12)) (fun _ _ => rfl)) da_nil)) (dv 6)) (dv 2)) de_int) (dv 5)) (de_op od_mod op_mod (de_callTy cd_int call_int1 rfl B.int bb_int (da_cons (de_ix (dv 0) (de_op od_add op_addD de_int (dv 12)) (fun _ _ => rfl)) da_nil)) (dv 5))))) (dss_one (ds_ret (de_callO O__law_reduced hr (by decide) rfl (da_cons (dv 7) (da_cons (dv 5) da_nil))))))))) dss_nil) (dss_cons (ds_set (i := 8) sc__law_spot.nd rfl (by first | exact Or.inl rfl | exact Or.inr rfl) (de_ix (de_lst (da_cons (de_tup (da_cons de_int (da_cons de_int (da_cons de_int da_nil)))) (da_cons (de_tup (da_cons de_int (da_cons de_int (da_cons de_int da_nil)))) (da_cons (de_tup (da_cons (de_op od_sub op_sub (de_callTy cd_int call_int1 rfl B.int bb_int (da_cons (de_ix (dv 0) de_int (fun _ _ => rfl)) da_nil)) de_int) (da_cons de_int (da_cons de_int da_nil)))) (da_cons (de_tup (da_cons (de_op od_add op_addD de_int (de_callTy cd_int call_int1 rfl B.int bb_int (da_cons (de_ix (dv 0) de_int (fun _ _ => rfl)) da_nil))) (da_cons (de_op od_add op_addD de_int (de_callTy cd_int call_int1 rfl B.int bb_int (da_cons (de_ix (dv 0) de_int (fun _ _ => rfl)) da_nil))) (da_cons (de_op od_mod op_mod (de_callTy cd_int call_int1 rfl B.int bb_int (da_cons (de_ix (dv 0) de_int (fun _ _ => rfl)) da_nil)) de_int) da_nil)))) da_nil))))) (dv 4) (fun _ _ => rfl))) (dss_cons (ds_set (i := 9) sc__law_spot.nd rfl (by first | exact Or.inl rfl | exact Or.inr rfl) (de_lc (own := [("k", 13)]) rfl sc__law_spot.nd (di_range1 rfl B.range de_int) (blkOk_by (by kernel_rfl)) (by decide) (fun _ _ _ _ _ => (dg_name (i := 13) sc__law_spot.nd rfl (by first | exact Or.inl rfl | exact Or.inr rfl))) (fun _ _ _ _ _ => dts_nil) (fun _ _ _ _ _ => (de_ix (dv 1) (de_op od_mod op_mod (de_callTy cd_int call_int1 rfl B.int bb_int (da_cons (de_ix (dv 0) (de_op od_add op_addD de_int (dv 13)) (fun _ _ => rfl)) da_nil)) (de_callB cd_len cr_len rfl B.len bb_len (da_cons (dv 1) da_nil))) (fun _ _ => rfl))))) (dss_cons (ds_set (i := 10) sc__law_spot.nd rfl (by first | exact Or.inl rfl | exact Or.inr rfl) (de_callO O__law_reduced hr (by decide) rfl (da_cons (de_lc (own := [("j", 12)]) rfl sc__law_spot.nd (di_range1 rfl B.range (dv 3)) (blkOk_by (by kernel_rfl)) (by decide) (fun _ _ _ _ _ => (dg_name (i := 12) sc__law_spot.nd rfl (by first | exact Or.inl rfl | exact Or.inr rfl))) (fun _ _ _ _ _ => dts_nil) (fun _ _ _ _ _ => (de_callB cd_su (CallR.or (cr_sum rfl) (cr_sumT rfl)) rfl B.sum bb_sum (da_cons (de_lc (own := [("k", 13)]) rfl sc__law_spot.nd (di_range1 rfl B.range de_int) (blkOk_by (by kernel_rfl)) (by decide) (fun _ _ _ _ _ => (dg_name (i := 13) sc__law_spot.nd rfl (by first | exact Or.inl rfl | exact Or.inr rfl))) (fun _ _ _ _ _ => dts_nil) (fun _ _ _ _ _ => (de_op od_mul op_mulD (de_ix (dv 8) (dv 13) (fun _ _ => rfl)) (de_ix (de_ix (dv 9) (dv 13) (fun _ _ => rfl)) (dv 12) (fun _ _ => rfl))))) da_nil)))) (da_cons (de_callB cd_su (CallR.or (cr_sum rfl) (cr_sumT rfl)) rfl B.sum bb_sum (da_cons (dv 8) da_nil)) da_nil)))) (dss_cons (ds_if (dt_cmp od_lt op_lt (de_ix (dv 0) de_int (fun _ _ => rfl)) de_int (nomark _)) (dss_one (ds_ret (dv 10))) dss_nil) (dss_cons (ds_set (i := 11) sc__law_spot.nd rfl (by first | exact Or.inl rfl | exact Or.inr rfl) (de_op od_pow op_pow de_int de_int)) (dss_one (ds_ret (de_callO O__law_reduced hr (by decide) rfl (da_cons (de_lc (own := [("j", 12)]) rfl sc__law_spot.nd (di_range1 rfl B.range (dv 3)) (blkOk_by (by kernel_rfl)) (by decide) (fun _ _ _ _ _ => (dg_name (i := 12) sc__law_spot.nd rfl (by first | exact Or.inl rfl | exact Or.inr rfl))) (fun _ _ _ _ _ => dts_nil) (fun _ _ _ _ _ => (de_op od_add op_addD (de_op od_mul op_mulD (de_ix (dv 10) (dv 12) (fun _ _ => rfl)) (dv 11)) (de_op od_mul op_mulD (de_op od_sub op_sub (de_callTy cd_int call_int1 rfl B.int bb_int (da_cons (de_ix (dv 0) (de_op od_add op_addD de_int (dv 12)) (fun _ _ => rfl)) da_nil)) de_int) (de_ix (dv 10) (dv 3) (fun _ _ => rfl)))))) (da_cons (de_op od_mul op_mulD (de_ix (dv 10) (dv 3) (fun _ _ => rfl)) (dv 11)) da_nil)))))))))))))
/-! _law_weights -/
abbrev st__law_weights : Stmt := top 45
def N__law_weights : List Str := ["row", "many", "limit", "weights", "k"]
theorem sc__law_weights : FnScope N__law_weights ["row", "many", "limit"] (defScope st__law_weights) := ⟨rfl, rfl, rfl, by decide +kernel, rfl, by decide +kernel, by decide +kernel⟩
noncomputable def b__law_weights : DL.Env → Option Out := (sSeq (sSet 3 (eCall tupG (aCons (eLc (iR1 (eVar 1)) [4] (gN 4) bYes (eOp modD (eCall intG (aCons (eOp ixD (eVar 0) (eVar 4)) aNil)) (eVar 2))) aNil))) (sSeq (sIf (eT (eOp eqD (eCall suG (aCons (eVar 3) aNil)) (eC (.int 0)))) (sRet (eCall tupG (aCons (eLc (iR1 (eVar 1)) [4] (gN 4) bYes (eC (.int 1))) aNil))) sNil) (sRet (eVar 3))))
noncomputable def G__law_weights : List D → Option D := gRun 3 N__law_weights b__law_weights
theorem ok__law_weights (B : Bl mg) (S : Std K mg "_law_weights" st__law_weights ["row", "many", "limit"]) : OkF P w K mg base cm "_law_weights" ["row", "many", "limit"] 1 G__law_weights := okf S sc__law_weights fun f cdv A outer s H E F0 hr => (dss_cons (ds_set (i := 3) sc__law_weights.nd rfl (by first | exact Or.inl rfl | exact Or.inr rfl) (de_callTy cd_tup call_tuple_of rfl B.tuple bb_tuple (da_cons (de_lc (own := [("k", 4)]) rfl sc__law_weights.nd (di_range1 rfl B.range (dv 1)) (blkOk_by (by kernel_rfl)) (by decide) (fun _ _ _ _ _ => (dg_name (i := 4) sc__law_weights.nd rfl (by first | exact Or.inl rfl | exact Or.inr rfl))) (fun _ _ _ _ _ => dts_nil) (fun _ _ _ _ _ => (de_op od_mod op_mod (de_callTy cd_int call_int1 rfl B.int bb_int (da_cons (de_ix (dv 0) (dv 4) (fun _ _ => rfl)) da_nil)) (dv 2)))) da_nil))) (dss_cons (ds_if (dt_cmp od_eq (op_eqA hr.units) (de_callB cd_su (CallR.or (cr_sum rfl) (cr_sumT rfl)) rfl B.sum bb_sum (da_cons (dv 3) da_nil)) de_int (nomark _)) (dss_one (ds_ret (de_callTy cd_tup call_tuple_of rfl B.tuple bb_tuple (da_cons (de_lc (own := [("k", 4)]) rfl sc__law_weights.nd (di_range1 rfl B.range (dv 1)) (blkOk_by (by kernel_rfl)) (by decide) (fun _ _ _ _ _ => (dg_name (i := 4) sc__law_weights.nd rfl (by first | exact Or.inl rfl | exact Or.inr rfl))) (fun _ _ _ _ _ => dts_nil) (fun _ _ _ _ _ => de_int)) da_nil)))) dss_nil) (dss_one (ds_ret (dv 3)))))
/-! _law_many -/
abbrev st__law_many : Stmt := top 46
def N__law_many : List Str := ["number", "size", "menu"]
theorem sc__law_many : FnScope N__law_many ["number", "size"] (defScope st__law_many) := ⟨rfl, rfl, rfl, by decide +kernel, rfl, by decide +kernel, by decide +kernel⟩
noncomputable def b__law_many : DL.Env → Option Out := (sSeq (sSet 2 (eLst (aCons (eC (.int 4)) (aCons (eC (.int 3)) (aCons (eC (.int 5)) (aCons (eC (.int 2)) (aCons (eC (.int 6)) (aCons (eC (.int 3)) (aCons (eC (.int 4)) (aCons (eC (.int 5)) (aCons (eC (.int 1)) (aCons (eC (.int 4)) (aCons (eC (.int 3)) (aCons (eC (.int 5)) (aCons (eC (.int 7)) (aCons (eC (.int 4)) (aCons (eC (.int 6)) (aCons (eC (.int 3)) (aCons (eC (.int 5)) (aCons (eC (.int 4)) (aCons (eC (.int 2)) (aCons (eC (.int 3)) (aCons (eC (.int 4)) (aCons (eC (.int 5)) (aCons (eC (.int 6)) (aCons (eC (.int 8)) (aCons (eC (.int 3)) (aCons (eC (.int 7)) (aCons (eC (.int 5)) (aCons (eC (.int 8)) (aCons (eC (.int 4)) (aCons (eC (.int 9)) (aCons (eC (.int 5)) (aCons (eC (.int 9)) aNil)))))))))))))))))))))))))))))))))) (sSeq (sIf (eT (eOp eqD (eVar 1) (eC (.int 3)))) (sSet 2 (eLst (aCons (eC (.int 4)) (aCons (eC (.int 3)) (aCons (eC (.int 5)) (aCons (eC (.int 2)) (aCons (eC (.int 4)) (aCons (eC (.int 5)) (aCons (eC (.int 3)) (aCons (eC (.int 6)) (aCons (eC (.int 4)) (aCons (eC (.int 5)) (aCons (eC (.int 3)) (aCons (eC (.int 4)) (aCons (eC (.int 1)) (aCons (eC (.int 5)) (aCons (eC (.int 4)) (aCons (eC (.int 3)) (aCons (eC (.int 6)) (aCons (eC (.int 5)) (aCons (eC (.int 4)) (aCons (eC (.int 2)) (aCons (eC (.int 3)) (aCons (eC (.int 4)) (aCons (eC (.int 5)) (aCons (eC (.int 7)) (aCons (eC (.int 4)) (aCons (eC (.int 3)) (aCons (eC (.int 5)) (aCons (eC (.int 4)) (aCons (eC (.int 8)) (aCons (eC (.int 3)) (aCons (eC (.int 4)) (aCons (eC (.int 9)) aNil)))))))))))))))))))))))))))))))))) sNil) (sRet (eOp ixD (eVar 2) (eVar 0)))))
noncomputable def G__law_many : List D → Option D := gRun 2 N__law_many b__law_many
theorem ok__law_many (B : Bl mg) (S : Std K mg "_law_many" st__law_many ["number", "size"]) : OkF P w K mg base cm "_law_many" ["number", "size"] 1 G__law_many := okf S sc__law_many fun f cdv A outer s H E F0 hr => (dss_cons (ds_set (i := 2) sc__law_many.nd rfl (by first | exact Or.inl rfl | exact Or.inr rfl) (de_lst (da_cons de_int (da_cons de_int (da_cons de_int (da_cons de_int (da_cons de_int (da_cons de_int (da_cons de_int (da_cons de_int (da_cons de_int (da_cons de_int (da_cons de_int (da_cons de_int (da_cons de_int (da_cons de_int (da_cons de_int (da_cons de_int (da_cons de_int (da_cons de_int (da_cons de_int (da_cons de_int (da_cons de_int (da_cons de_int (da_cons de_int (da_cons de_int (da_cons de_int (da_cons de_int (da_cons de_int (da_cons de_int (da_cons de_int (da_cons de_int (da_cons de_int (da_cons de_int da_nil)))))))))))))))))))))))))))))))))) (dss_cons (ds_if (dt_cmp od_eq (op_eqA hr.units) (dv 1) de_int (nomark _)) (dss_one (ds_set (i := 2) sc__law_many.nd rfl (by first | exact Or.inl rfl | exact Or.inr rfl) (de_lst (da_cons de_int (da_cons de_int (da_cons de_int (da_cons de_int (da_cons de_int (da_cons de_int (da_cons de_int (da_cons de_int (da_cons de_int (da_cons de_int (da_cons de_int (da_cons de_int (da_cons de_int (da_cons de_int (da_cons de_int (da_cons de_int (da_cons de_int (da_cons de_int (da_cons de_int (da_cons de_int (da_cons de_int (da_cons de_int (da_cons de_int (da_cons de_int (da_cons de_int (da_cons de_int (da_cons de_int (da_cons de_int (da_cons de_int (da_cons de_int (da_cons de_int (da_cons de_int da_nil))))))))))))))))))))))))))))))))))) dss_nil) (dss_one (ds_ret (de_ix (dv 2) (dv 0) (fun _ _ => rfl))))))
/-! _law_world -/
abbrev st__law_world : Stmt := top 47
def N__law_world : List Str := ["script", "k", "row", "size", "many", "span", "homes", "voter"]
theorem sc__law_world : FnScope N__law_world ["script", "k"] (defScope st__law_world) := ⟨rfl, rfl, rfl, by decide +kernel, rfl, by decide +kernel, by decide +kernel⟩
noncomputable def b__law_world : DL.Env → Option Out := (sSeq (sSet 2 (eCall G__law_digits (aCons (eCall G__law_cell (aCons (eVar 0) (aCons (eOp mulD (eC (.int 2)) (eVar 1)) aNil))) (aCons (eOp addD (eLst (aCons (eC (.int 12)) (aCons (eC (.int 32)) (aCons (eC (.int 6)) (aCons (eC (.int 6)) (aCons (eC (.int 4)) aNil)))))) (eOp mulD (eLst (aCons (eC (.int 31)) aNil)) (eC (.int 9)))) aNil)))) (sSeq (sSet 3 (eOp ixD (eLst (aCons (eC (.int 2)) (aCons (eC (.int 2)) (aCons (eC (.int 1)) (aCons (eC (.int 2)) (aCons (eC (.int 3)) (aCons (eC (.int 2)) (aCons (eC (.int 2)) (aCons (eC (.int 1)) (aCons (eC (.int 2)) (aCons (eC (.int 3)) (aCons (eC (.int 2)) (aCons (eC (.int 2)) aNil))))))))))))) (eOp ixD (eVar 2) (eC (.int 0))))) (sSeq (sSet 4 (eCall G__law_many (aCons (eOp ixD (eVar 2) (eC (.int 1))) (aCons (eVar 3) aNil)))) (sSeq (sSet 5 (eOp ixD (eLst (aCons (eC (.int 12)) (aCons (eC (.int 12)) (aCons (eC (.int 4)) (aCons (eC (.int 60)) (aCons (eC (.int 12)) (aCons (eC (.int 12)) aNil))))))) (eOp ixD (eVar 2) (eC (.int 2))))) (sSeq (sSet 6 (eCall G__law_homes (aCons (eCall G__law_digits (aCons (eCall G__law_cell (aCons (eVar 0) (aCons (eOp addD (eOp mulD (eC (.int 2)) (eVar 1)) (eC (.int 1))) aNil))) (aCons (eOp addD (eLst (aCons (eC (.int 8)) aNil)) (eOp mulD (eLst (aCons (eC (.int 121)) aNil)) (eOp mulD (eVar 4) (eVar 3)))) aNil))) (aCons (eVar 4) (aCons (eVar 3) (aCons (eVar 5) aNil)))))) (sSeq (sIf (bAnd (eT (eOp eqD (eVar 1) (eC (.int 2)))) (eT (eOp eqD (eOp ixD (eVar 2) (eC (.int 4))) (eC (.int 3))))) (sSet 6 (eCall tupG (aCons (eLc (iR1 (eVar 4)) [7] (gN 7) bYes (eOp ixD (eVar 6) (eC (.int 0)))) aNil))) sNil) (sRet (eTup (aCons (eVar 6) (aCons (eCall G__law_weights (aCons (eSl (eVar 2) (oI (eC (.int 5))) oNo) (aCons (eVar 4) (aCons (eOp ixD (eLst (aCons (eC (.int 31)) (aCons (eC (.int 4)) (aCons (eC (.int 2)) (aCons (eC (.int 31)) (aCons (eC (.int 6)) (aCons (eC (.int 1)) aNil))))))) (eOp ixD (eVar 2) (eC (.int 3)))) aNil)))) (aCons (eVar 5) aNil)))))))))))
noncomputable def G__law_world : List D → Option D := gRun 2 N__law_world b__law_world
theorem ok__law_world (B : Bl mg) (S : Std K mg "_law_world" st__law_world ["script", "k"]) (O__law_cell : OkF P w K mg base cm "_law_cell" ["script", "k"] 1 G__law_cell) (O__law_digits : OkF P w K mg base cm "_law_digits" ["cell", "sizes"] 1 G__law_digits) (O__law_many : OkF P w K mg base cm "_law_many" ["number", "size"] 1 G__law_many) (O__law_homes : OkF P w K mg base cm "_law_homes" ["row", "many", "size", "span"] 1 G__law_homes) (O__law_weights : OkF P w K mg base cm "_law_weights" ["row", "many", "limit"] 1 G__law_weights) : OkF P w K mg base cm "_law_world" ["script", "k"] 2 G__law_world := okf S sc__law_world fun f cdv A outer s H E F0 hr => (dss_cons (ds_set (i := 2) sc__law_world.nd rfl (by first | exact Or.inl rfl | exact Or.inr rfl) (de_callO O__law_digits hr (by decide) rfl (da_cons (de_callO O__law_cell hr (by decide) rfl (da_cons (dv 0) (da_cons (de_op od_mul op_mulD de_int (dv 1)) da_nil))) (da_cons (de_op od_add op_addD (de_lst (da_cons de_int (da_cons de_int (da_cons de_int (da_cons de_int (da_cons de_int da_nil)))))) (de_op od_mul op_mulD (de_lst (da_cons de_int da_nil)) de_int)) da_nil)))) (dss_cons (ds_set (i := 3) sc__law_world.nd rfl (by first | exact Or.inl rfl | exact Or.inr rfl) (de_ix (de_lst (da_cons de_int (da_cons de_int (da_cons de_int (da_cons de_int (da_cons de_int (da_cons de_int (da_cons de_int (da_cons de_int (da_cons de_int (da_cons de_int (da_cons de_int (da_cons de_int da_nil))))))))))))) (de_ix (dv 2) de_int (fun _ _ => rfl)) (fun _ _ => rfl))) (dss_cons (ds_set (i := 4) sc__law_world.nd rfl (by first | exact Or.inl rfl | exact Or.inr rfl) (de_callO O__law_many hr (by decide) rfl (da_cons (de_ix (dv 2) de_int (fun _ _ => rfl)) (da_cons (dv 3) da_nil)))) (dss_cons (ds_set (i := 5) sc__law_world.nd rfl (by first | exact Or.inl rfl | exact Or.inr rfl) (de_ix (de_lst (da_cons de_int (da_cons de_int (da_cons de_int (da_cons de_int (da_cons de_int (da_cons de_int da_nil))))))) (de_ix (dv 2) de_int (fun _ _ => rfl)) (fun _ _ => rfl))) (dss_cons (ds_set (i := 6) sc__law_world.nd rfl (by first | exact Or.inl rfl | exact Or.inr rfl) (de_callO O__law_homes hr (by decide) rfl (da_cons (de_callO O__law_digits hr (by decide) rfl (da_cons (de_callO O__law_cell hr (by decide) rfl (da_cons (dv 0) (da_cons (de_op od_add op_addD (de_op od_mul op_mulD de_int (dv 1)) de_int) da_nil))) (da_cons (de_op od_add op_addD (de_lst (da_cons de_int da_nil)) (de_op od_mul op_mulD (de_lst (da_cons de_int da_nil)) (de_op od_mul op_mulD (dv 4) (dv 3)))) da_nil))) (da_cons (dv 4) (da_cons (dv 3) (da_cons (dv 5) da_nil)))))) (dss_cons (ds_if (dw_dt (dw_and (dt_cmp od_eq (op_eqA hr.units) (dv 1) de_int (nomark _)) (dw_and1 (dt_cmp od_eq (op_eqA hr.units) (de_ix (dv 2) de_int (fun _ _ => rfl)) de_int (nomark _))))) (dss_one (ds_set (i := 6) sc__law_world.nd rfl (by first | exact Or.inl rfl | exact Or.inr rfl) (de_callTy cd_tup call_tuple_of rfl B.tuple bb_tuple (da_cons (de_lc (own := [("voter", 7)]) rfl sc__law_world.nd (di_range1 rfl B.range (dv 4)) (blkOk_by (by kernel_rfl)) (by decide) (fun _ _ _ _ _ => (dg_name (i := 7) sc__law_world.nd rfl (by first | exact Or.inl rfl | exact Or.inr rfl))) (fun _ _ _ _ _ => dts_nil) (fun _ _ _ _ _ => (de_ix (dv 6) de_int (fun _ _ => rfl)))) da_nil)))) dss_nil) (dss_one (ds_ret (de_tup (da_cons (dv 6) (da_cons (de_callO O__law_weights hr (by decide) rfl (da_cons (de_sl (dv 2) (do_some de_int) do_none) (da_cons (dv 4) (da_cons (de_ix (de_lst (da_cons de_int (da_cons de_int (da_cons de_int (da_cons de_int (da_cons de_int (da_cons de_int da_nil))))))) (de_ix (dv 2) de_int (fun _ _ => rfl)) (fun _ _ => rfl)) da_nil)))) (da_cons (dv 5) da_nil))))))))))))
/-! law -/
abbrev st_law : Stmt := top 48
def N_law : List Str := ["script", "worlds", "asked", "k", "homes", "weights", "span", "j", "sizes", "row", "place", "told", "i", "arrow", "more", "axle", "number", "home", "weight"]
theorem sc_law : FnScope N_law ["script"] (defScope st_law) := ⟨rfl, rfl, rfl, by decide +kernel, rfl, by decide +kernel, by decide +kernel⟩
noncomputable def b_law_1 : DL.Env → Option Out := (sSeq (sSet 13 (eCall tupG (aCons (eLc (iR1 (eCall lenG (aCons (eOp ixD (eVar 4) (eC (.int 0))) aNil))) [15] (gN 15) bYes (eOp subD (eCall intG (aCons (eOp ixD (eVar 9) (eOp addD (eOp addD (eC (.int 18)) (eOp mulD (eC (.int 3)) (eVar 12))) (eVar 15))) aNil)) (eC (.int 100)))) aNil))) (sIf (eT (eCall anyG (aCons (eLc (iA (eVar 13)) [16] (gN 16) bYes (eOp neD (eVar 16) (eC (.int 0)))) aNil))) (sIf (eT (eOp ltD (eCall G__law_weighed (aCons (eCall G__law_ways (aCons (eVar 4) (aCons (eVar 10) aNil))) (aCons (eVar 5) (aCons (eVar 13) aNil)))) (eOp ixD (eVar 11) (eC (.int 0))))) (sRet (eC (.bl false))) sNil) sNil))
noncomputable def b_law_2 : DL.Env → Option Out := (sSeq (sSet 8 (eOp addD (eOp addD (eOp addD (eOp addD (eLst (aCons (eC (.int 10)) (aCons (eC (.int 9)) (aCons (eC (.int 9)) (aCons (eC (.int 9)) (aCons (eC (.int 12)) (aCons (eC (.int 4)) (aCons (eC (.int 4)) (aCons (eC (.int 12)) aNil))))))))) (eOp mulD (eLst (aCons (eC (.int 125)) aNil)) (eC (.int 3)))) (eOp mulD (eLst (aCons (eC (.int 3)) aNil)) (eC (.int 3)))) (eOp mulD (eLst (aCons (eOp powD (eC (.int 10)) (eC (.int 25))) aNil)) (eC (.int 4)))) (eOp mulD (eLst (aCons (eC (.int 201)) aNil)) (eC (.int 6))))) (sSeq (sSet 9 (eCall G__law_digits (aCons (eCall G__law_cell (aCons (eVar 0) (aCons (eOp addD (eOp addD (eC (.int 6)) (eOp mulD (eC (.int 3)) (eVar 3))) (eVar 7)) aNil))) (aCons (eVar 8) aNil)))) (sSeq (sSet 10 (eCall G__law_spot (aCons (eVar 9) (aCons (eVar 4) (aCons (eVar 6) aNil))))) (sSeq (sSet 11 (eCall G_lightest (aCons (eVar 4) (aCons (eVar 5) (aCons (eVar 10) aNil))))) (sSeq (sIf (bOr (bNot (eT (eCall G__law_is_shown (aCons (eVar 11) (aCons (eVar 4) (aCons (eVar 5) (aCons (eVar 10) aNil))))))) (bNot (eT (eCall G__law_is_deep (aCons (eVar 4) (aCons (eVar 5) (aCons (eVar 10) (aCons (eOp ixD (eVar 11) (eC (.int 0))) aNil)))))))) (sRet (eC (.bl false))) sNil) (sSeq (sFor (iR1 (eC (.int 2))) (gN 12) b_law_1) (sApp 2 (eTup (aCons (eVar 11) (aCons (eVar 3) (aCons (eVar 10) aNil)))))))))))
noncomputable def b_law_3 : DL.Env → Option Out := (sSeq (sAsg (gA 3 (gsCons (gN 4) (gsCons (gN 5) (gsCons (gN 6) gsNil)))) (eOp ixD (eVar 1) (eVar 3))) (sFor (iR1 (eC (.int 3))) (gN 7) b_law_2))
noncomputable def b_law_4 : DL.Env → Option Out := (sSeq (sSet 4 (eCall tupG (aCons (eLc (iA (eOp ixD (eOp ixD (eVar 1) (eVar 3)) (eC (.int 0)))) [17] (gN 17) bYes (eCall tupG (aCons (eLc (iA (eVar 17)) [16] (gN 16) bYes (eVar 16)) aNil))) aNil))) (sSeq (sSet 5 (eCall tupG (aCons (eLc (iA (eOp ixD (eOp ixD (eVar 1) (eVar 3)) (eC (.int 1)))) [18] (gN 18) bYes (eVar 18)) aNil))) (sSeq (sSet 14 (eCall G_lightest (aCons (eVar 4) (aCons (eVar 5) (aCons (eCall tupG (aCons (eLc (iA (eVar 10)) [16] (gN 16) bYes (eVar 16)) aNil)) aNil))))) (sIf (bOr (bNot (eT (eCall G__law_is_shown (aCons (eVar 14) (aCons (eVar 4) (aCons (eVar 5) (aCons (eVar 10) aNil))))))) (eT (eOp neD (eVar 14) (eVar 11)))) (sRet (eC (.bl false))) sNil))))
noncomputable def b_law : DL.Env → Option Out := (sSeq (sSet 1 (eLc (iR1 (eC (.int 3))) [3] (gN 3) bYes (eCall G__law_world (aCons (eVar 0) (aCons (eVar 3) aNil))))) (sSeq (sOwn 2 (fLst aNil)) (sSeq (sFor (iR1 (eC (.int 3))) (gN 3) b_law_3) (sSeq (sFz 2 (sFor (iA (eVar 2)) (gA 3 (gsCons (gN 11) (gsCons (gN 3) (gsCons (gN 10) gsNil)))) b_law_4)) (sRet (eC (.bl true)))))))
noncomputable def G_law : List D → Option D := gRun 1 N_law b_law
theorem ok_law (B : Bl mg) (S : Std K mg "law" st_law ["script"]) (O__law_world : OkF P w K mg base cm "_law_world" ["script", "k"] 2 G__law_world) (O__law_cell : OkF P w K mg base cm "_law_cell" ["script", "k"] 1 G__law_cell) (O__law_digits : OkF P w K mg base cm "_law_digits" ["cell", "sizes"] 1 G__law_digits) (O__law_spot : OkF P w K mg base cm "_law_spot" ["row", "homes", "span"] 3 G__law_spot) (O_lightest : OkF P w K mg base cm "lightest" ["homes", "weights", "place"] 7 G_lightest) (O__law_is_shown : OkF P w K mg base cm "_law_is_shown" ["told", "homes", "weights", "place"] 3 G__law_is_shown) (O__law_is_deep : OkF P w K mg base cm "_law_is_deep" ["homes", "weights", "place", "depth"] 4 G__law_is_deep) (O__law_ways : OkF P w K mg base cm "_law_ways" ["homes", "place"] 1 G__law_ways) (O__law_weighed : OkF P w K mg base cm "_law_weighed" ["ways", "weights", "arrow"] 2 G__law_weighed) : OkF P w K mg base cm "law" ["script"] 8 G_law := okf S sc_law fun f cdv A outer s H E F0 hr => (dss_cons (ds_setLc (i := 1) (own := [("k", 3)]) rfl sc_law.nd rfl rfl (sw_true rfl rfl rfl (by kernel_rfl)) (di_range1 rfl B.range de_int) (blkOk_by (by kernel_rfl)) (by decide) (fun _ _ _ _ _ => (dg_name (i := 3) sc_law.nd rfl (by first | exact Or.inl rfl | exact Or.inr rfl))) (fun _ _ _ _ _ => dts_nil) (fun _ _ _ _ _ => (de_callO O__law_world hr (by decide) rfl (da_cons (dv 0) (da_cons (dv 3) da_nil))))) (dss_cons (ds_own (i := 2) sc_law.nd rfl (by first | exact Or.inl rfl | exact Or.inr rfl) (df_lst da_nil)) (dss_cons (ds_for PassesOwn.never rfl (di_range1 rfl B.range de_int) (dg_name (i := 3) sc_law.nd rfl (by first | exact Or.inl rfl | exact Or.inr rfl)) (dss_cons (ds_asg (de_ix (dv 1) (dv 3) (fun _ _ => rfl)) (dg_any rfl (dgs_cons (dg_name (i := 4) sc_law.nd rfl (by first | exact Or.inl rfl | exact Or.inr rfl)) (dgs_cons (dg_name (i := 5) sc_law.nd rfl (by first | exact Or.inl rfl | exact Or.inr rfl)) (dgs_cons (dg_name (i := 6) sc_law.nd rfl (by first | exact Or.inl rfl | exact Or.inr rfl)) dgs_nil))))) (dss_one (ds_for PassesOwn.never rfl (di_range1 rfl B.range de_int) (dg_name (i := 7) sc_law.nd rfl (by first | exact Or.inl rfl | exact Or.inr rfl)) (dss_cons (ds_set (i := 8) sc_law.nd rfl (by first | exact Or.inl rfl | exact Or.inr rfl) (de_op od_add op_addD (de_op od_add op_addD (de_op od_add op_addD (de_op od_add op_addD (de_lst (da_cons de_int (da_cons de_int (da_cons de_int (da_cons de_int (da_cons de_int (da_cons de_int (da_cons de_int (da_cons de_int da_nil))))))))) (de_op od_mul op_mulD (de_lst (da_cons de_int da_nil)) de_int)) (de_op od_mul op_mulD (de_lst (da_cons de_int da_nil)) de_int)) (de_op od_mul op_mulD (de_lst (da_cons (de_op od_pow op_pow de_int de_int) da_nil)) de_int)) (de_op od_mul op_mulD (de_lst (da_cons de_int da_nil)) de_int))) (dss_cons (ds_set (i := 9) sc_law.nd rfl (by first | exact Or.inl rfl | exact Or.inr rfl) (de_callO O__law_digits hr (by decide) rfl (da_cons (de_callO O__law_cell hr (by decide) rfl (da_cons (dv 0) (da_cons (de_op od_add op_addD (de_op od_add op_addD de_int (de_op od_mul op_mulD de_int (dv 3))) (dv 7)) da_nil))) (da_cons (dv 8) da_nil)))) (dss_cons (ds_set (i := 10) sc_law.nd rfl (by first | exact Or.inl rfl | exact Or.inr rfl) (de_callO O__law_spot hr (by decide) rfl (da_cons (dv 9) (da_cons (dv 4) (da_cons (dv 6) da_nil))))) (dss_cons (ds_set (i := 11) sc_law.nd rfl (by first | exact Or.inl rfl | exact Or.inr rfl) (de_callO O_lightest hr (by decide) rfl (da_cons (dv 4) (da_cons (dv 5) (da_cons (dv 10) da_nil))))) (dss_cons (ds_if (dw_dt (dw_or (dt_not (dt_val (de_callO O__law_is_shown hr (by decide) rfl (da_cons (dv 11) (da_cons (dv 4) (da_cons (dv 5) (da_cons (dv 10) da_nil))))))) (dw_or1 (dt_not (dt_val (de_callO O__law_is_deep hr (by decide) rfl (da_cons (dv 4) (da_cons (dv 5) (da_cons (dv 10) (da_cons (de_ix (dv 11) de_int (fun _ _ => rfl)) da_nil)))))))))) (dss_one (ds_ret de_bl)) dss_nil) (dss_cons (ds_for PassesOwn.never rfl (di_range1 rfl B.range de_int) (dg_name (i := 12) sc_law.nd rfl (by first | exact Or.inl rfl | exact Or.inr rfl)) (dss_cons (ds_set (i := 13) sc_law.nd rfl (by first | exact Or.inl rfl | exact Or.inr rfl) (de_callTy cd_tup call_tuple_of rfl B.tuple bb_tuple (da_cons (de_lc (own := [("axle", 15)]) rfl sc_law.nd (di_range1 rfl B.range (de_callB cd_len cr_len rfl B.len bb_len (da_cons (de_ix (dv 4) de_int (fun _ _ => rfl)) da_nil))) (blkOk_by (by kernel_rfl)) (by decide) (fun _ _ _ _ _ => (dg_name (i := 15) sc_law.nd rfl (by first | exact Or.inl rfl | exact Or.inr rfl))) (fun _ _ _ _ _ => dts_nil) (fun _ _ _ _ _ => (de_op od_sub op_sub (de_callTy cd_int call_int1 rfl B.int bb_int (da_cons (de_ix (dv 9) (de_op od_add op_addD (de_op od_add op_addD de_int (de_op od_mul op_mulD de_int (dv 12))) (dv 15)) (fun _ _ => rfl)) da_nil)) de_int))) da_nil))) (dss_one (ds_if (dt_val (de_callB cd_any (cr_any rfl) rfl B.any bb_any (da_cons (de_lc (own := [("number", 16)]) rfl sc_law.nd (di_any (dv 13)) (blkOk_by (by kernel_rfl)) (by decide) (fun _ _ _ _ _ => (dg_name (i := 16) sc_law.nd rfl (by first | exact Or.inl rfl | exact Or.inr rfl))) (fun _ _ _ _ _ => dts_nil) (fun _ _ _ _ _ => (de_cmp od_ne (op_neA hr.units) (dv 16) de_int (nomark _)))) da_nil))) (dss_one (ds_if (dt_cmp od_lt op_lt (de_callO O__law_weighed hr (by decide) rfl (da_cons (de_callO O__law_ways hr (by decide) rfl (da_cons (dv 4) (da_cons (dv 10) da_nil))) (da_cons (dv 5) (da_cons (dv 13) da_nil)))) (de_ix (dv 11) de_int (fun _ _ => rfl)) (nomark _)) (dss_one (ds_ret de_bl)) dss_nil)) dss_nil)))) (dss_one (ds_app (pv 2) (de_tup (da_cons (dv 11) (da_cons (dv 3) (da_cons (dv 10) da_nil)))))))))))))))) (dss_cons (ds_fz 2 (ds_for PassesOwn.never rfl (di_any (dv 2)) (dg_any rfl (dgs_cons (dg_name (i := 11) sc_law.nd rfl (by first | exact Or.inl rfl | exact Or.inr rfl)) (dgs_cons (dg_name (i := 3) sc_law.nd rfl (by first | exact Or.inl rfl | exact Or.inr rfl)) (dgs_cons (dg_name (i := 10) sc_law.nd rfl (by first | exact Or.inl rfl | exact Or.inr rfl)) dgs_nil)))) (dss_cons (ds_set (i := 4) sc_law.nd rfl (by first | exact Or.inl rfl | exact Or.inr rfl) (de_callTy cd_tup call_tuple_of rfl B.tuple bb_tuple (da_cons (de_lc (own := [("home", 17)]) rfl sc_law.nd (di_any (de_ix (de_ix (dv 1) (dv 3) (fun _ _ => rfl)) de_int (fun _ _ => rfl))) (blkOk_by (by kernel_rfl)) (by decide) (fun _ _ _ _ _ => (dg_name (i := 17) sc_law.nd rfl (by first | exact Or.inl rfl | exact Or.inr rfl))) (fun _ _ _ _ _ => dts_nil) (fun _ _ _ _ _ => (de_callTy cd_tup call_tuple_of rfl B.tuple bb_tuple (da_cons (de_lc (own := [("number", 16)]) rfl sc_law.nd (di_any (dv 17)) (blkOk_by (by kernel_rfl)) (by decide) (fun _ _ _ _ _ => (dg_name (i := 16) sc_law.nd rfl (by first | exact Or.inl rfl | exact Or.inr rfl))) (fun _ _ _ _ _ => dts_nil) (fun _ _ _ _ _ => (dv 16))) da_nil)))) da_nil))) (dss_cons (ds_set (i := 5) sc_law.nd rfl (by first | exact Or.inl rfl | exact Or.inr rfl) (de_callTy cd_tup call_tuple_of rfl B.tuple bb_tuple (da_cons (de_lc (own := [("weight", 18)]) rfl sc_law.nd (di_any (de_ix (de_ix (dv 1) (dv 3) (fun _ _ => rfl)) de_int (fun _ _ => rfl))) (blkOk_by (by kernel_rfl)) (by decide) (fun _ _ _ _ _ => (dg_name (i := 18) sc_law.nd rfl (by first | exact Or.inl rfl | exact Or.inr rfl))) (fun _ _ _ _ _ => dts_nil) (fun _ _ _ _ _ => (dv 18))) da_nil))) (dss_cons (ds_set (i := 14) sc_law.nd rfl (by first | exact Or.inl rfl | exact Or.inr rfl) (de_callO O_lightest hr (by decide) rfl (da_cons (dv 4) (da_cons (dv 5) (da_cons (de_callTy cd_tup call_tuple_of rfl B.tuple bb_tuple (da_cons (de_lc (own := [("number", 16)]) rfl sc_law.nd (di_any (dv 10)) (blkOk_by (by kernel_rfl)) (by decide) (fun _ _ _ _ _ => (dg_name (i := 16) sc_law.nd rfl (by first | exact Or.inl rfl | exact Or.inr rfl))) (fun _ _ _ _ _ => dts_nil) (fun _ _ _ _ _ => (dv 16))) da_nil)) da_nil))))) (dss_one (ds_if (dw_dt (dw_or (dt_not (dt_val (de_callO O__law_is_shown hr (by decide) rfl (da_cons (dv 14) (da_cons (dv 4) (da_cons (dv 5) (da_cons (dv 10) da_nil))))))) (dw_or1 (dt_cmp od_ne (op_neA hr.units) (dv 14) (dv 11) (nomark _))))) (dss_one (ds_ret de_bl)) dss_nil))))))) (dss_one (ds_ret de_bl))))))
theorem fn_law {f : Addr} {fd : FuncData} (B : Bl mg) (Fn : FunD K "law" "law" (defArgs st_law) (defBody st_law) (defScope st_law) [] [] f fd) (O__law_world : OkF P w K mg base cm "_law_world" ["script", "k"] 2 G__law_world) (O__law_cell : OkF P w K mg base cm "_law_cell" ["script", "k"] 1 G__law_cell) (O__law_digits : OkF P w K mg base cm "_law_digits" ["cell", "sizes"] 1 G__law_digits) (O__law_spot : OkF P w K mg base cm "_law_spot" ["row", "homes", "span"] 3 G__law_spot) (O_lightest : OkF P w K mg base cm "lightest" ["homes", "weights", "place"] 7 G_lightest) (O__law_is_shown : OkF P w K mg base cm "_law_is_shown" ["told", "homes", "weights", "place"] 3 G__law_is_shown) (O__law_is_deep : OkF P w K mg base cm "_law_is_deep" ["homes", "weights", "place", "depth"] 4 G__law_is_deep) (O__law_ways : OkF P w K mg base cm "_law_ways" ["homes", "place"] 1 G__law_ways) (O__law_weighed : OkF P w K mg base cm "_law_weighed" ["ways", "weights", "arrow"] 2 G__law_weighed) : FnOk P w K mg base CX0 8 f fd ["script"] (spD K cm G_law) := okf0 Fn sc_law fun f cdv A outer s H E F0 hr => (dss_cons (ds_setLc (i := 1) (own := [("k", 3)]) rfl sc_law.nd rfl rfl (sw_true rfl rfl rfl (by kernel_rfl)) (di_range1 rfl B.range de_int) (blkOk_by (by kernel_rfl)) (by decide) (fun _ _ _ _ _ => (dg_name (i := 3) sc_law.nd rfl (by first | exact Or.inl rfl | exact Or.inr rfl))) (fun _ _ _ _ _ => dts_nil) (fun _ _ _ _ _ => (de_callO O__law_world hr (by decide) rfl (da_cons (dv 0) (da_cons (dv 3) da_nil))))) (dss_cons (ds_own (i := 2) sc_law.nd rfl (by first | exact Or.inl rfl | exact Or.inr rfl) (df_lst da_nil)) (dss_cons (ds_for PassesOwn.never rfl (di_range1 rfl B.range de_int) (dg_name (i := 3) sc_law.nd rfl (by first | exact Or.inl rfl | exact Or.inr rfl)) (dss_cons (ds_asg (de_ix (dv 1) (dv 3) (fun _ _ => rfl)) (dg_any rfl (dgs_cons (dg_name (i := 4) sc_law.nd rfl (by first | exact Or.inl rfl | exact Or.inr rfl)) (dgs_cons (dg_name (i := 5) sc_law.nd rfl (by first | exact Or.inl rfl | exact Or.inr rfl)) (dgs_cons (dg_name (i := 6) sc_law.nd rfl (by first | exact Or.inl rfl | exact Or.inr rfl)) dgs_nil))))) (dss_one (ds_for PassesOwn.never rfl (di_range1 rfl B.range de_int) (dg_name (i := 7) sc_law.nd rfl (by first | exact Or.inl rfl | exact Or.inr rfl)) (dss_cons (ds_set (i := 8) sc_law.nd rfl (by first | exact Or.inl rfl | exact Or.inr rfl) (de_op od_add op_addD (de_op od_add op_addD (de_op od_add op_addD (de_op od_add op_addD (de_lst (da_cons de_int (da_cons de_int (da_cons de_int (da_cons de_int (da_cons de_int (da_cons de_int (da_cons de_int (da_cons de_int da_nil))))))))) (de_op od_mul op_mulD (de_lst (da_cons de_int da_nil)) de_int)) (de_op od_mul op_mulD (de_lst (da_cons de_int da_nil)) de_int)) (de_op od_mul op_mulD (de_lst (da_cons (de_op od_pow op_pow de_int de_int) da_nil)) de_int)) (de_op od_mul op_mulD (de_lst (da_cons de_int da_nil)) de_int))) (dss_cons (ds_set (i := 9) sc_law.nd rfl (by first | exact Or.inl rfl | exact Or.inr rfl) (de_callO O__law_digits hr (by decide) rfl (da_cons (de_callO O__law_cell hr (by decide) rfl (da_cons (dv 0) (da_cons (de_op od_add op_addD (de_op od_add op_addD de_int (de_op od_mul op_mulD de_int (dv 3))) (dv 7)) da_nil))) (da_cons (dv 8) da_nil)))) (dss_cons (ds_set (i := 10) sc_law.nd rfl (by first | exact Or.inl rfl | exact Or.inr rfl) (de_callO O__law_spot hr (by decide) rfl (da_cons (dv 9) (da_cons (dv 4) (da_cons (dv 6) da_nil))))) (dss_cons (ds_set (i := 11) sc_law.nd rfl (by first | exact Or.inl rfl | exact Or.inr rfl) (de_callO O_lightest hr (by decide) rfl (da_cons (dv 4) (da_cons (dv 5) (da_cons (dv 10) da_nil))))) (dss_cons (ds_if (dw_dt (dw_or (dt_not (dt_val (de_callO O__law_is_shown hr (by decide) rfl (da_cons (dv 11) (da_cons (dv 4) (da_cons (dv 5) (da_cons (dv 10) da_nil))))))) (dw_or1 (dt_not (dt_val (de_callO O__law_is_deep hr (by decide) rfl (da_cons (dv 4) (da_cons (dv 5) (da_cons (dv 10) (da_cons (de_ix (dv 11) de_int (fun _ _ => rfl)) da_nil)))))))))) (dss_one (ds_ret de_bl)) dss_nil) (dss_cons (ds_for PassesOwn.never rfl (di_range1 rfl B.range de_int) (dg_name (i := 12) sc_law.nd rfl (by first | exact Or.inl rfl | exact Or.inr rfl)) (dss_cons (ds_set (i := 13) sc_law.nd rfl (by first | exact Or.inl rfl | exact Or.inr rfl) (de_callTy cd_tup call_tuple_of rfl B.tuple bb_tuple (da_cons (de_lc (own := [("axle", 15)]) rfl sc_law.nd (di_range1 rfl B.range (de_callB cd_len cr_len rfl B.len bb_len (da_cons (de_ix (dv 4) de_int (fun _ _ => rfl)) da_nil))) (blkOk_by (by kernel_rfl)) (by decide) (fun _ _ _ _ _ => (dg_name (i := 15) sc_law.nd rfl (by first | exact Or.inl rfl | exact Or.inr rfl))) (fun _ _ _ _ _ => dts_nil) (fun _ _ _ _ _ => (de_op od_sub op_sub (de_callTy cd_int call_int1 rfl B.int bb_int (da_cons (de_ix (dv 9) (de_op od_add op_addD (de_op od_add op_addD de_int (de_op od_mul op_mulD de_int (dv 12))) (dv 15)) (fun _ _ => rfl)) da_nil)) de_int))) da_nil))) (dss_one (ds_if (dt_val (de_callB cd_any (cr_any rfl) rfl B.any bb_any (da_cons (de_lc (own := [("number", 16)]) rfl sc_law.nd (di_any (dv 13)) (blkOk_by (by kernel_rfl)) (by decide) (fun _ _ _ _ _ => (dg_name (i := 16) sc_law.nd rfl (by first | exact Or.inl rfl | exact Or.inr rfl))) (fun _ _ _ _ _ => dts_nil) (fun _ _ _ _ _ => (de_cmp od_ne (op_neA hr.units) (dv 16) de_int (nomark _)))) da_nil))) (dss_one (ds_if (dt_cmp od_lt op_lt (de_callO O__law_weighed hr (by decide) rfl (da_cons (de_callO O__law_ways hr (by decide) rfl (da_cons (dv 4) (da_cons (dv 10) da_nil))) (da_cons (dv 5) (da_cons (dv 13) da_nil)))) (de_ix (dv 11) de_int (fun _ _ => rfl)) (nomark _)) (dss_one (ds_ret de_bl)) dss_nil)) dss_nil)))) (dss_one (ds_app (pv 2) (de_tup (da_cons (dv 11) (da_cons (dv 3) (da_cons (dv 10) da_nil)))))))))))))))) (dss_cons (ds_fz 2 (ds_for PassesOwn.never rfl (di_any (dv 2)) (dg_any rfl (dgs_cons (dg_name (i := 11) sc_law.nd rfl (by first | exact Or.inl rfl | exact Or.inr rfl)) (dgs_cons (dg_name (i := 3) sc_law.nd rfl (by first | exact Or.inl rfl | exact Or.inr rfl)) (dgs_cons (dg_name (i := 10) sc_law.nd rfl (by first | exact Or.inl rfl | exact Or.inr rfl)) dgs_nil)))) (dss_cons (ds_set (i := 4) sc_law.nd rfl (by first | exact Or.inl rfl | exact Or.inr rfl) (de_callTy cd_tup call_tuple_of rfl B.tuple bb_tuple (da_cons (de_lc (own := [("home", 17)]) rfl sc_law.nd (di_any (de_ix (de_ix (dv 1) (dv 3) (fun _ _ => rfl)) de_int (fun _ _ => rfl))) (blkOk_by (by kernel_rfl)) (by decide) (fun _ _ _ _ _ => (dg_name (i := 17) sc_law.nd rfl (by first | exact Or.inl rfl | exact Or.inr rfl))) (fun _ _ _ _ _ => dts_nil) (fun _ _ _ _ _ => (de_callTy cd_tup call_tuple_of rfl B.tuple bb_tuple (da_cons (de_lc (own := [("number", 16)]) rfl sc_law.nd (di_any (dv 17)) (blkOk_by (by kernel_rfl)) (by decide) (fun _ _ _ _ _ => (dg_name (i := 16) sc_law.nd rfl (by first | exact Or.inl rfl | exact Or.inr rfl))) (fun _ _ _ _ _ => dts_nil) (fun _ _ _ _ _ => (dv 16))) da_nil)))) da_nil))) (dss_cons (ds_set (i := 5) sc_law.nd rfl (by first | exact Or.inl rfl | exact Or.inr rfl) (de_callTy cd_tup call_tuple_of rfl B.tuple bb_tuple (da_cons (de_lc (own := [("weight", 18)]) rfl sc_law.nd (di_any (de_ix (de_ix (dv 1) (dv 3) (fun _ _ => rfl)) de_int (fun _ _ => rfl))) (blkOk_by (by kernel_rfl)) (by decide) (fun _ _ _ _ _ => (dg_name (i := 18) sc_law.nd rfl (by first | exact Or.inl rfl | exact Or.inr rfl))) (fun _ _ _ _ _ => dts_nil) (fun _ _ _ _ _ => (dv 18))) da_nil))) (dss_cons (ds_set (i := 14) sc_law.nd rfl (by first | exact Or.inl rfl | exact Or.inr rfl) (de_callO O_lightest hr (by decide) rfl (da_cons (dv 4) (da_cons (dv 5) (da_cons (de_callTy cd_tup call_tuple_of rfl B.tuple bb_tuple (da_cons (de_lc (own := [("number", 16)]) rfl sc_law.nd (di_any (dv 10)) (blkOk_by (by kernel_rfl)) (by decide) (fun _ _ _ _ _ => (dg_name (i := 16) sc_law.nd rfl (by first | exact Or.inl rfl | exact Or.inr rfl))) (fun _ _ _ _ _ => dts_nil) (fun _ _ _ _ _ => (dv 16))) da_nil)) da_nil))))) (dss_one (ds_if (dw_dt (dw_or (dt_not (dt_val (de_callO O__law_is_shown hr (by decide) rfl (da_cons (dv 14) (da_cons (dv 4) (da_cons (dv 5) (da_cons (dv 10) da_nil))))))) (dw_or1 (dt_cmp od_ne (op_neA hr.units) (dv 14) (dv 11) (nomark _))))) (dss_one (ds_ret de_bl)) dss_nil))))))) (dss_one (ds_ret de_bl))))))
end
end W

/-! M0: reading denotations, backwards. -/
namespace M
open PySem L2 DL
section
variable {ρ ρ' : DL.Env} {o : Out} {d d' x y : D} {f g : DL.Env → Option D} {fs gs : DL.Env → Option Out} {fb gb : DL.Env → Option Bool} {fa : DL.Env → Option (List D)} {ds : List D} {b c : Bool} {i n : Nat}
theorem run_of {N : List Str} {bd : DL.Env → Option Out} (h : bd (startD N ds) = some (.rt d)) (hl : ds.length = n := by rfl) : gRun n N bd ds = some d := by
  unfold gRun; rw [if_pos hl, h]
theorem sSeq_nx (h : fs ρ = some (.nx ρ')) (h2 : gs ρ' = some o) : sSeq fs gs ρ = some o := by unfold sSeq; rw [h]; exact h2
theorem sSeq_rt (h : fs ρ = some (.rt d)) : sSeq fs gs ρ = some (.rt d) := by unfold sSeq; rw [h]
theorem sSet_of (h : f ρ = some d) : sSet i f ρ = some (.nx (setS ρ i (.va d))) := by unfold sSet; rw [h]; rfl
theorem sRet_of (h : f ρ = some d) : sRet f ρ = some (.rt d) := by unfold sRet; rw [h]; rfl
theorem sIf_t (h : fb ρ = some true) (h2 : fs ρ = some o) : sIf fb fs gs ρ = some o := by unfold sIf; rw [h]; exact h2
theorem sIf_f (h : fb ρ = some false) (h2 : gs ρ = some o) : sIf fb fs gs ρ = some o := by unfold sIf; rw [h]; exact h2
theorem sOwn_of {fo : DL.Env → Option Sl} {s : Sl} (h : fo ρ = some s) : sOwn i fo ρ = some (.nx (setS ρ i s)) := by unfold sOwn; rw [h]; rfl
theorem sFz_of (h : fs (fzD i ρ) = some o) : sFz i fs ρ = some o := h
theorem sApp_of {xs : List D} (h0 : ρ[i]? = some (.ol xs)) (h : f ρ = some d) (hl : xs.length < lim) : sApp i f ρ = some (.nx (setS ρ i (.ol (xs ++ [d])))) := by
  unfold sApp; rw [h0]
  show (f ρ).bind _ = _
  rw [h]
  show (if xs.length < lim then _ else _) = _
  rw [if_pos hl]
theorem sAsg_of {gg : D → DL.Env → Option DL.Env} (h : f ρ = some d) (h2 : gg d ρ = some ρ') : sAsg gg f ρ = some (.nx ρ') := by
  unfold sAsg; rw [h]; show (gg d ρ).map Out.nx = _; rw [h2]; rfl
theorem sFor_of {fi : DL.Env → Option (List D)} {gg : D → DL.Env → Option DL.Env} {items : List D} (h : fi ρ = some items) (h2 : forD gg fs items ρ = some o) : sFor fi gg fs ρ = some o := by
  unfold sFor; rw [h]; exact h2
theorem eOp_of {G : D → D → Option D} (h1 : f ρ = some x) (h2 : g ρ = some y) (h3 : G x y = some d) : eOp G f g ρ = some d := by
  unfold eOp; rw [h1]; show (g ρ).bind _ = _; rw [h2]; exact h3
theorem eU_of {G : D → Option D} (h1 : f ρ = some x) (h3 : G x = some d) : eU G f ρ = some d := by unfold eU; rw [h1]; exact h3
theorem eCall_of {G : List D → Option D} (h1 : fa ρ = some ds) (h3 : G ds = some d) : eCall G fa ρ = some d := by unfold eCall; rw [h1]; exact h3
theorem aCons_of (h1 : f ρ = some d) (h2 : fa ρ = some ds) : aCons f fa ρ = some (d :: ds) := by unfold aCons; rw [h1]; show (fa ρ).bind _ = _; rw [h2]; rfl
theorem eTup_of (h1 : fa ρ = some ds) (hl : ds.length ≤ lim := by decide) : eTup fa ρ = some (.tup ds) := by unfold eTup; rw [h1]; exact if_pos hl
theorem eLst_of (h1 : fa ρ = some ds) (hl : ds.length ≤ lim := by decide) : eLst fa ρ = some (.lst ds) := by unfold eLst; rw [h1]; exact if_pos hl
theorem fLst_of (h1 : fa ρ = some ds) (hl : ds.length ≤ lim := by decide) : fLst fa ρ = some (.ol ds) := by unfold fLst; rw [h1]; exact if_pos hl
theorem eT_of (h1 : f ρ = some (.bl b)) : eT f ρ = some b := by unfold eT; rw [h1]
theorem bNot_of (h1 : fb ρ = some b) : bNot fb ρ = some (!b) := by unfold bNot; rw [h1]; rfl
theorem bAnd_of (h1 : fb ρ = some b) (h2 : b = true → gb ρ = some c) : bAnd fb gb ρ = some (b && c) := by
  unfold bAnd; rw [h1]; cases b with
  | false => rfl
  | true => rw [h2 rfl]; rfl
theorem bOr_of (h1 : fb ρ = some b) (h2 : b = false → gb ρ = some c) : bOr fb gb ρ = some (b || c) := by
  unfold bOr; rw [h1]; cases b with
  | true => rfl
  | false => rw [h2 rfl]; rfl
theorem eAnd_of (h1 : f ρ = some (.bl b)) (h2 : b = true → g ρ = some (.bl c)) : eAnd f g ρ = some (.bl (b && c)) := by
  unfold eAnd; rw [h1]; cases b with
  | false => rfl
  | true => exact h2 rfl
theorem eOr_of (h1 : f ρ = some (.bl b)) (h2 : b = false → g ρ = some (.bl c)) : eOr f g ρ = some (.bl (b || c)) := by
  unfold eOr; rw [h1]; cases b with
  | true => rfl
  | false => exact h2 rfl
theorem eSl_of {lo hi : DL.Env → Option (Option Int)} {l u : Option Int} (h1 : f ρ = some x) (h2 : lo ρ = some l) (h3 : hi ρ = some u) (h4 : slD x l u = some d) : eSl f lo hi ρ = some d := by
  unfold eSl; rw [h1]; show (lo ρ).bind _ = _; rw [h2]; show (hi ρ).bind _ = _; rw [h3]; exact h4
theorem oI_of {k : Int} (h1 : f ρ = some (.int k)) : oI f ρ = some (some k) := by unfold oI; rw [h1]
theorem iA_lst {xs : List D} (h : f ρ = some (.lst xs)) : iA f ρ = some xs := by unfold iA; rw [h]
theorem iA_tup {xs : List D} (h : f ρ = some (.tup xs)) : iA f ρ = some xs := by unfold iA; rw [h]
theorem iA_scr {xs : List Int} (h : f ρ = some (.scr xs)) (hl : xs.length ≤ lim) : iA f ρ = some (xs.map D.int) := by unfold iA; rw [h]; exact if_pos hl
def upto (n : Nat) : List Nat := List.range n
theorem iR1_of (h : f ρ = some (.int (n : Int))) (hl : n ≤ lim) : iR1 f ρ = some ((upto n).map fun k : Nat => D.int (k : Int)) := by
  unfold iR1; rw [h]
  show (if -(lim : Int) ≤ (n : Int) ∧ (n : Int) ≤ lim then some (rng 0 (n : Int).toNat) else none) = _
  rw [if_pos (by unfold lim at *; omega), Int.toNat_natCast]
  unfold rng upto
  simp
theorem eIsi_of {T t : String} (h : f ρ = some d) (h2 : tyN d = some t) (h3 : T ∈ tyNs.drop 1 := by decide) : eIsi T f ρ = some (.bl (isiB t T)) := by
  unfold eIsi; rw [h]; show (tyN d).bind _ = _; rw [h2]; exact if_pos h3
/-! ### comprehensions -/
theorem compD_of {α : Type} {gg : D → DL.Env → Option DL.Env} {tt : DL.Env → Option Bool} {fe : DL.Env → Option D} {ρ : DL.Env} (c : α → D) (p : α → Bool) (g : α → D) (l : List α)
    (h : ∀ x ∈ l, ∃ ρ1, gg (c x) ρ = some ρ1 ∧ tt ρ1 = some (p x) ∧ (p x = true → fe ρ1 = some (g x))) : compD gg tt fe ρ (l.map c) = some ((l.filter p).map g) := by
  induction l with
  | nil => rfl
  | cons x l ih =>
    obtain ⟨ρ1, h1, h2, h3⟩ := h x List.mem_cons_self
    have ih' := ih fun y hy => h y (List.mem_cons_of_mem _ hy)
    rw [List.map_cons]
    unfold compD
    rw [h1, Option.bind_some, h2, Option.bind_some]
    cases hp : p x with
    | false =>
      rw [if_neg Bool.false_ne_true, ih', List.filter_cons_of_neg (by rw [hp]; exact Bool.false_ne_true)]
    | true =>
      rw [if_pos rfl, h3 hp, List.filter_cons_of_pos hp, Option.bind_some, ih']
      rfl
theorem eLc_all {α : Type} {fi : DL.Env → Option (List D)} {vs : List Nat} {fe : DL.Env → Option D} {c g : α → D} {l : List α} {j : Nat} (hi : fi ρ = some (l.map c))
    (h : ∀ x ∈ l, fe (setS (wipeD ρ vs) j (.va (c x))) = some (g x)) : eLc fi vs (gN j) bYes fe ρ = some (.lst (l.map g)) := by
  unfold eLc
  rw [hi, Option.bind_some, compD_of c (fun _ => true) g l fun x hx => ⟨_, rfl, rfl, fun _ => h x hx⟩]
  rw [List.filter_eq_self.mpr fun _ _ => rfl]
  rfl
theorem eLc_fil {α : Type} {fi : DL.Env → Option (List D)} {vs : List Nat} {tt : DL.Env → Option Bool} {fe : DL.Env → Option D} {c g : α → D} {p : α → Bool} {l : List α} {j : Nat} (hi : fi ρ = some (l.map c))
    (ht : ∀ x ∈ l, tt (setS (wipeD ρ vs) j (.va (c x))) = some (p x)) (h : ∀ x ∈ l, p x = true → fe (setS (wipeD ρ vs) j (.va (c x))) = some (g x)) : eLc fi vs (gN j) tt fe ρ = some (.lst ((l.filter p).map g)) := by
  unfold eLc
  rw [hi, Option.bind_some, compD_of c p g l fun x hx => ⟨_, rfl, ht x hx, h x hx⟩]
  rfl
theorem compD2_all {α β : Type} {fi1 : DL.Env → Option (List D)} {vs1 : List Nat} {fe : DL.Env → Option D} {c : α → D} {c1 : α → β → D} {g : α → β → D} {l : List α} {l1 : α → List β} {j j1 : Nat}
    (hi1 : ∀ x ∈ l, fi1 (setS ρ j (.va (c x))) = some ((l1 x).map (c1 x))) (h : ∀ x ∈ l, ∀ y ∈ l1 x, fe (setS (wipeD (setS ρ j (.va (c x))) vs1) j1 (.va (c1 x y))) = some (g x y)) :
    compD2 (gN j) bYes fi1 vs1 (gN j1) bYes fe ρ (l.map c) = some (l.flatMap fun x => (l1 x).map (g x)) := by
  induction l with
  | nil => rfl
  | cons x l ih =>
    have ih' := ih (fun y hy => hi1 y (List.mem_cons_of_mem _ hy)) (fun y hy => h y (List.mem_cons_of_mem _ hy))
    rw [List.map_cons]
    unfold compD2
    show (((fi1 (setS ρ j (.va (c x)))).bind fun it1 => compD (gN j1) bYes fe (wipeD (setS ρ j (.va (c x))) vs1) it1).bind _) = _
    rw [hi1 x List.mem_cons_self, Option.bind_some, compD_of (c1 x) (fun _ => true) (g x) (l1 x) fun y hy => ⟨_, rfl, rfl, fun _ => h x List.mem_cons_self y hy⟩, Option.bind_some, ih', Option.bind_some, List.filter_eq_self.mpr fun _ _ => rfl, List.flatMap_cons]
theorem eLc2_all {α β : Type} {fi fi1 : DL.Env → Option (List D)} {vs vs1 : List Nat} {fe : DL.Env → Option D} {c : α → D} {c1 : α → β → D} {g : α → β → D} {l : List α} {l1 : α → List β} {j j1 : Nat} (hi : fi ρ = some (l.map c))
    (hi1 : ∀ x ∈ l, fi1 (setS (wipeD ρ vs) j (.va (c x))) = some ((l1 x).map (c1 x))) (h : ∀ x ∈ l, ∀ y ∈ l1 x, fe (setS (wipeD (setS (wipeD ρ vs) j (.va (c x))) vs1) j1 (.va (c1 x y))) = some (g x y))
    (hl : (l.flatMap fun x => (l1 x).map (g x)).length ≤ lim) :
    eLc2 fi vs (gN j) bYes fi1 vs1 (gN j1) bYes fe ρ = some (.lst (l.flatMap fun x => (l1 x).map (g x))) := by
  unfold eLc2 eFz fLc2
  rw [hi, Option.bind_some, compD2_all hi1 h, Option.bind_some, if_pos hl]
  rfl
/-! ### loops -/
theorem forD_nx {gg : D → DL.Env → Option DL.Env} {xs : List D} {ρ1 : DL.Env} (h1 : gg x ρ = some ρ1) (h2 : fs ρ1 = some (.nx ρ')) (h3 : forD gg fs xs ρ' = some o) : forD gg fs (x :: xs) ρ = some o := by
  unfold forD; rw [h1, Option.bind_some, h2]; exact h3
theorem forD_rt {gg : D → DL.Env → Option DL.Env} {xs : List D} {ρ1 : DL.Env} (h1 : gg x ρ = some ρ1) (h2 : fs ρ1 = some (.rt d)) : forD gg fs (x :: xs) ρ = some (.rt d) := by
  unfold forD; rw [h1, Option.bind_some, h2]
/-- a loop that runs to its end -/
theorem forD_inv {α : Type} {gg : D → DL.Env → Option DL.Env} (c : α → D) (I : List α → DL.Env → Prop) : ∀ (l pre : List α) (ρ : DL.Env), I pre ρ →
    (∀ (pre : List α) (x : α) (ρ : DL.Env), x ∈ l → I pre ρ → ∃ ρ1 ρ', gg (c x) ρ = some ρ1 ∧ fs ρ1 = some (.nx ρ') ∧ I (pre ++ [x]) ρ') → ∃ ρ', forD gg fs (l.map c) ρ = some (.nx ρ') ∧ I (pre ++ l) ρ'
  | [], pre, ρ, h0, _ => ⟨ρ, rfl, by rw [List.append_nil]; exact h0⟩
  | x :: l, pre, ρ, h0, hs => by
    obtain ⟨ρ1, ρ2, e1, e2, h1⟩ := hs pre x ρ List.mem_cons_self h0
    obtain ⟨ρ3, e3, h3⟩ := forD_inv c I l (pre ++ [x]) ρ2 h1 fun p y r hy => hs p y r (List.mem_cons_of_mem _ hy)
    refine ⟨ρ3, by rw [List.map_cons]; exact forD_nx e1 e2 e3, by rw [List.append_assoc] at h3; exact h3⟩
end
/-! ### operators on shapes -/
def tupV (vs : List (List Int)) : D := .tup (vs.map tupI)
def lstV (vs : List (List Int)) : D := .lst (vs.map tupI)
def lstI (ns : List Int) : D := .lst (ns.map D.int)
def bw (k : Nat) (i : Int) : Prop := i.natAbs < 2 ^ k
theorem bw.wide {k : Nat} {i : Int} (h : bw k i) (hk : k ≤ 400000) : wide i := Nat.lt_of_lt_of_le h (Nat.pow_le_pow_right (by decide) hk)
theorem bw.mono {k m : Nat} {i : Int} (h : bw k i) (hk : k ≤ m) : bw m i := Nat.lt_of_lt_of_le h (Nat.pow_le_pow_right (by decide) hk)
theorem bw.mul {k m : Nat} {i j : Int} (h : bw k i) (h2 : bw m j) : bw (k + m) (i * j) := by
  unfold bw at *; rw [Int.natAbs_mul, Nat.pow_add]
  exact Nat.mul_lt_mul'' h h2
theorem bw.add {k : Nat} {i j : Int} (h : bw k i) (h2 : bw k j) : bw (k + 1) (i + j) := by
  unfold bw at *; rw [Nat.pow_succ]; omega
theorem bw.sub {k : Nat} {i j : Int} (h : bw k i) (h2 : bw k j) : bw (k + 1) (i - j) := by
  unfold bw at *; rw [Nat.pow_succ]; omega
theorem bw.neg {k : Nat} {i : Int} (h : bw k i) : bw k (-i) := by unfold bw at *; omega
theorem mulD_of {i j : Int} (hi : wide i) (hj : wide j) : mulD (.int i) (.int j) = some (.int (i * j)) := mulD_int hi hj
theorem subD_of {i j : Int} : subD (.int i) (.int j) = some (.int (i - j)) := iD_int trivial
theorem ltD_of {i j : Int} : ltD (.int i) (.int j) = some (.bl (decide (i < j))) := iD_int trivial
theorem leD_of {i j : Int} : leD (.int i) (.int j) = some (.bl (decide (i ≤ j))) := iD_int trivial
theorem gtD_of {i j : Int} : gtD (.int i) (.int j) = some (.bl (decide (j < i))) := iD_int trivial
theorem geD_of {i j : Int} : geD (.int i) (.int j) = some (.bl (decide (j ≤ i))) := iD_int trivial
theorem modD_of {i j : Int} (h : 0 < j) : modD (.int i) (.int j) = some (.int (i % j)) := iD_int h
theorem fdivD_of {i j : Int} (h : slim j) : fdivD (.int i) (.int j) = some (.int (i / j)) := iD_int h
theorem eqD_int {i j : Int} : eqD (.int i) (.int j) = some (.bl (decide (i = j))) := by
  show (if okPy 40 (D.int i) && okPy 40 (D.int j) then some (D.bl (PyData.eqv (toPy (.int i)) (toPy (.int j)))) else none) = _
  rw [if_pos (by rfl)]
  show some (D.bl (PyData.eqv (.int i) (.int j))) = _
  rfl
theorem neD_int {i j : Int} : neD (.int i) (.int j) = some (.bl (!decide (i = j))) := by
  show (if okPy 40 (D.int i) && okPy 40 (D.int j) then some (D.bl (!PyData.eqv (toPy (.int i)) (toPy (.int j)))) else none) = _
  rw [if_pos (by rfl)]
  show some (D.bl (!PyData.eqv (.int i) (.int j))) = _
  rfl
end M

/-! M1: items, builtins, the tactic. -/
namespace M
open PySem L2 DL
def gt (v : List Int) (i : Int) : Int := v.getD i.toNat 0
theorem atI_in {α : Type} {xs : List α} {i : Int} (h0 : 0 ≤ i) (h1 : i < xs.length) : atI xs i = xs[i.toNat]? := by
  obtain ⟨k, rfl⟩ := Int.eq_ofNat_of_zero_le h0
  have hk : k < xs.length := by exact_mod_cast h1
  rw [Int.toNat_natCast, List.getElem?_eq_getElem hk]
  exact L2.atI_nat (List.getElem?_eq_getElem hk)
theorem atI_last' {α : Type} {xs : List α} (h : xs ≠ []) : atI xs (-1) = xs.getLast? := by
  have hl : 0 < xs.length := List.length_pos_iff.mpr h
  unfold atI ixN
  rw [if_neg (by decide), if_pos (by omega)]
  show xs[((xs.length : Int) + -1).toNat]? = _
  rw [List.getLast?_eq_getElem?]
  congr 1
  omega
theorem gt_get {v : List Int} {i : Int} (h0 : 0 ≤ i) (h1 : i < v.length) : v[i.toNat]? = some (gt v i) := by
  unfold gt
  rw [List.getD_eq_getElem?_getD, List.getElem?_eq_getElem (by omega)]
  rfl
theorem gt_mem {v : List Int} {i : Int} (h0 : 0 ≤ i) (h1 : i < v.length) : gt v i ∈ v := List.mem_of_getElem? (gt_get h0 h1)
theorem ixD_tupI {v : List Int} {i : Int} (h0 : 0 ≤ i) (h1 : i < v.length) : ixD (tupI v) (.int i) = some (.int (gt v i)) := by
  show atI (v.map D.int) i = _
  rw [atI_map, atI_in h0 h1, gt_get h0 h1]
  rfl
theorem ixD_lstI {v : List Int} {i : Int} (h0 : 0 ≤ i) (h1 : i < v.length) : ixD (lstI v) (.int i) = some (.int (gt v i)) := by
  show atI (v.map D.int) i = _
  rw [atI_map, atI_in h0 h1, gt_get h0 h1]
  rfl
theorem ixD_scr {v : List Int} {i : Int} (h0 : 0 ≤ i) (h1 : i < v.length) : ixD (.scr v) (.int i) = some (.int (gt v i)) := by
  show (atI v i).map D.int = _
  rw [atI_in h0 h1, gt_get h0 h1]
  rfl
def gv (vs : List (List Int)) (i : Int) : List Int := vs.getD i.toNat []
theorem gv_get {v : List (List Int)} {i : Int} (h0 : 0 ≤ i) (h1 : i < v.length) : v[i.toNat]? = some (gv v i) := by
  unfold gv
  rw [List.getD_eq_getElem?_getD, List.getElem?_eq_getElem (by omega)]
  rfl
theorem gv_mem {v : List (List Int)} {i : Int} (h0 : 0 ≤ i) (h1 : i < v.length) : gv v i ∈ v := List.mem_of_getElem? (gv_get h0 h1)
theorem ixD_lstV {vs : List (List Int)} {i : Int} (h0 : 0 ≤ i) (h1 : i < vs.length) : ixD (lstV vs) (.int i) = some (tupI (gv vs i)) := by
  show atI (vs.map tupI) i = _
  rw [atI_map, atI_in h0 h1, gv_get h0 h1]
  rfl
theorem ixD_tupV {vs : List (List Int)} {i : Int} (h0 : 0 ≤ i) (h1 : i < vs.length) : ixD (tupV vs) (.int i) = some (tupI (gv vs i)) := by
  show atI (vs.map tupI) i = _
  rw [atI_map, atI_in h0 h1, gv_get h0 h1]
  rfl
theorem lenG_tupI (v : List Int) : lenG [tupI v] = some (.int v.length) := by show some (D.int (v.map D.int).length) = _; rw [List.length_map]
theorem lenG_lstI (v : List Int) : lenG [lstI v] = some (.int v.length) := by show some (D.int (v.map D.int).length) = _; rw [List.length_map]
theorem lenG_tupV (v : List (List Int)) : lenG [tupV v] = some (.int v.length) := by show some (D.int (v.map tupI).length) = _; rw [List.length_map]
theorem lenG_lstV (v : List (List Int)) : lenG [lstV v] = some (.int v.length) := by show some (D.int (v.map tupI).length) = _; rw [List.length_map]
theorem sumG_map {α : Type} (h : α → Int) (l : List α) : sumG [.lst (l.map fun x => D.int (h x))] = some (.int ((l.map h).sum)) := by
  have e : (l.map fun x => D.int (h x)) = (l.map h).map D.int := by rw [List.map_map]; rfl
  rw [e]
  show (dInts ((l.map h).map D.int)).map _ = _
  rw [dInts_map]
  rfl
theorem tupG_map {α : Type} (h : α → Int) (l : List α) : tupG [.lst (l.map fun x => D.int (h x))] = some (tupI (l.map h)) := by
  show some (D.tup _) = some (D.tup ((l.map h).map D.int))
  rw [List.map_map]; rfl
theorem tupG_mapV {α : Type} (h : α → List Int) (l : List α) : tupG [.lst (l.map fun x => tupI (h x))] = some (tupV (l.map h)) := by
  show some (D.tup _) = some (D.tup ((l.map h).map tupI))
  rw [List.map_map]; rfl
theorem lst_map {α : Type} (h : α → Int) (l : List α) : D.lst (l.map fun x => D.int (h x)) = lstI (l.map h) := by
  show D.lst _ = D.lst ((l.map h).map D.int)
  rw [List.map_map]; rfl
theorem lst_mapV {α : Type} (h : α → List Int) (l : List α) : D.lst (l.map fun x => tupI (h x)) = lstV (l.map h) := by
  show D.lst _ = D.lst ((l.map h).map tupI)
  rw [List.map_map]; rfl
theorem suG_map {α : Type} (h : α → Int) (l : List α) : suG [.lst (l.map fun x => D.int (h x))] = some (.int ((l.map h).sum)) := by
  unfold suG orG; rw [sumG_map]
theorem suG_tupI (v : List Int) : suG [tupI v] = some (.int v.sum) := by
  show (match (none : Option D) with | some d => some d | none => (dInts (v.map D.int)).map fun (ns : List Int) => D.int ns.sum) = _
  rw [dInts_map]; rfl
theorem maxG_map {α : Type} (h : α → Int) (l : List α) (hl : l ≠ []) : maxG [.lst (l.map fun x => D.int (h x))] = some (.int (maxI (l.map h))) := by
  have e : (l.map fun x => D.int (h x)) = (l.map h).map D.int := by rw [List.map_map]; rfl
  rw [e]
  show (match dInts ((l.map h).map D.int) with | some (n :: ns) => some (D.int (maxI (n :: ns))) | _ => none) = _
  rw [dInts_map]
  cases l with
  | nil => exact absurd rfl hl
  | cons x l => rfl
theorem allG_map {α : Type} (h : α → Bool) (l : List α) : allG [.lst (l.map fun x => D.bl (h x))] = some (.bl (l.all h)) := by
  have e : (l.map fun x => D.bl (h x)) = (l.map h).map D.bl := by rw [List.map_map]; rfl
  rw [e]
  show (dBls ((l.map h).map D.bl)).map _ = _
  rw [dBls_map]
  simp [List.all_map]
theorem anyG_map {α : Type} (h : α → Bool) (l : List α) : anyG [.lst (l.map fun x => D.bl (h x))] = some (.bl (l.any h)) := by
  have e : (l.map fun x => D.bl (h x)) = (l.map h).map D.bl := by rw [List.map_map]; rfl
  rw [e]
  show (dBls ((l.map h).map D.bl)).map _ = _
  rw [dBls_map]
  simp [List.any_map]
theorem iA_tupI {f : DL.Env → Option D} {ρ : DL.Env} {v : List Int} (h : f ρ = some (tupI v)) : iA f ρ = some (v.map D.int) := iA_tup h
theorem iA_lstI {f : DL.Env → Option D} {ρ : DL.Env} {v : List Int} (h : f ρ = some (lstI v)) : iA f ρ = some (v.map D.int) := iA_lst h
theorem iA_tupV {f : DL.Env → Option D} {ρ : DL.Env} {v : List (List Int)} (h : f ρ = some (tupV v)) : iA f ρ = some (v.map tupI) := iA_tup h
theorem iA_lstV {f : DL.Env → Option D} {ρ : DL.Env} {v : List (List Int)} (h : f ρ = some (lstV v)) : iA f ρ = some (v.map tupI) := iA_lst h
/-! ### the tactic: one step at the main goal -/
theorem eVar_of {ρ : DL.Env} {i : Nat} {d : D} (h : ρ[i]? = some (.va d)) : eVar i ρ = some d := by unfold eVar; rw [h]
theorem eC_of {ρ : DL.Env} {d : D} : eC d ρ = some d := rfl
theorem aNil_of {ρ : DL.Env} : aNil ρ = some [] := rfl
theorem bYes_of {ρ : DL.Env} : bYes ρ = some true := rfl
theorem addD_int {i j : Int} : addD (.int i) (.int j) = some (.int (i + j)) := rfl
theorem negD_int {i : Int} : negD (.int i) = some (.int (-i)) := rfl
theorem notD_bl {i : Bool} : notD (.bl i) = some (.bl (!i)) := rfl
theorem intG_int {i : Int} : intG [.int i] = some (.int i) := rfl
theorem intG_bl {i : Bool} : intG [.bl i] = some (.int (if i then 1 else 0)) := rfl
theorem absG_int {i : Int} : absG [.int i] = some (.int (if i < 0 then -i else i)) := rfl
theorem gcdG_int {i j : Int} : gcdG [.int i, .int j] = some (.int ((i.natAbs.gcd j.natAbs : Nat) : Int)) := rfl
theorem sPutT_of {ρ : DL.Env} {i : Nat} {k f : DL.Env → Option D} {ks : List (List Int × D)} {d : D} {n : List Int} (h : ρ[i]? = some (.oT ks)) (h1 : f ρ = some d) (h2 : k ρ = some (tupI n)) (hl : ks.length < lim) : sPutT i k f ρ = some (.nx (setS ρ i (.oT (putT ks n d)))) := by
  unfold sPutT
  rw [h]
  show ((f ρ).bind fun d => (k ρ).bind fun kd => (dTupI kd).bind fun n => if ks.length < lim then some (Out.nx (setS ρ i (.oT (putT ks n d)))) else none) = _
  rw [h1, Option.bind_some, h2, Option.bind_some, show dTupI (tupI n) = some n from dInts_map _, Option.bind_some, if_pos hl]
theorem gN_of {i : Nat} {d : D} {ρ : DL.Env} : gN i d ρ = some (setS ρ i (.va d)) := rfl
section
variable {ρ ρ' : DL.Env} {o : Out} {d : D} {f : DL.Env → Option D} {gs : DL.Env → Option Out} {fa : DL.Env → Option (List D)} {ds : List D} {i : Nat}
theorem sSeq_set (h : f ρ = some d) (h2 : gs (setS ρ i (.va d)) = some o) : sSeq (sSet i f) gs ρ = some o := sSeq_nx (sSet_of h) h2
theorem sSeq_own {fo : DL.Env → Option Sl} {s : Sl} (h : fo ρ = some s) (h2 : gs (setS ρ i s) = some o) : sSeq (sOwn i fo) gs ρ = some o := sSeq_nx (sOwn_of h) h2
theorem sSeq_asg {gg : D → DL.Env → Option DL.Env} (h : f ρ = some d) (h1 : gg d ρ = some ρ') (h2 : gs ρ' = some o) : sSeq (sAsg gg f) gs ρ = some o := sSeq_nx (sAsg_of h h1) h2
theorem eTup_of2 (h1 : fa ρ = some ds) (hl : (decide (ds.length ≤ 100)) = true) : eTup fa ρ = some (.tup ds) := eTup_of h1 (Nat.le_trans (of_decide_eq_true hl) (by decide))
theorem eLst_of2 (h1 : fa ρ = some ds) (hl : (decide (ds.length ≤ 100)) = true) : eLst fa ρ = some (.lst ds) := eLst_of h1 (Nat.le_trans (of_decide_eq_true hl) (by decide))
theorem fLst_of2 (h1 : fa ρ = some ds) (hl : (decide (ds.length ≤ 100)) = true) : fLst fa ρ = some (.ol ds) := fLst_of h1 (Nat.le_trans (of_decide_eq_true hl) (by decide))
theorem eIsi_of2 {T t : String} (h : f ρ = some d) (h2 : tyN d = some t) (h3 : decide (T ∈ tyNs.drop 1) = true) : eIsi T f ρ = some (.bl (isiB t T)) := eIsi_of h h2 (of_decide_eq_true h3)
end
end M

namespace M
open PySem L2 DL W
local macro_rules | `(tactic| and_intros) => `(tactic| (repeat (first | first
      | (with_reducible first
      | apply (sSeq_set)
      | apply sSeq_own
      | apply sSeq_asg
      | apply sSet_of
      | apply sRet_of
      | apply sFz_of
      | apply sAsg_of
      | apply eOp_of
      | apply eU_of
      | apply eCall_of
      | apply aCons_of
      | exact aNil_of
      | exact bYes_of
      | exact eC_of
      | exact gN_of
      | apply eTup_of2
      | apply eLst_of2
      | apply fLst_of2
      | apply eT_of
      | apply bNot_of
      | apply eIsi_of2
      | exact subD_of
      | exact addD_int
      | exact negD_int
      | exact notD_bl
      | exact intG_int
      | exact intG_bl
      | exact absG_int
      | exact gcdG_int
      | exact ltD_of
      | exact leD_of
      | exact gtD_of
      | exact geD_of
      | exact eqD_int
      | exact neD_int
      | exact lenG_tupI _
      | exact lenG_lstI _
      | exact lenG_tupV _
      | exact lenG_lstV _)
      | exact ixD_tupI (by omega) (by omega)
      | exact ixD_lstI (by omega) (by omega)
      | exact ixD_tupV (by omega) (by omega)
      | exact ixD_lstV (by omega) (by omega)
      | exact eVar_of rfl
      | apply eTup_of2
      | apply aCons_of
      | (with_unfolding_all exact subD_of)
      | exact Eq.refl true
      | simp only [setS, wipeD, startD, fzD, ofS, List.foldr_cons, List.foldr_nil, List.map_cons, List.map_nil, List.length_cons, List.length_nil, List.replicate_succ, List.replicate_zero, List.cons_append, List.nil_append, Nat.reduceAdd, Nat.reduceSub, List.getElem?_cons_zero, List.getElem?_cons_succ, List.set_cons_zero, List.set_cons_succ])))
def dotI (a b : List Int) : Int := ((upto a.length).map fun (k : Nat) => gt a k * gt b k).sum
def bv (k : Nat) (v : List Int) : Prop := ∀ x ∈ v, bw k x
theorem bv.gt {k : Nat} {v : List Int} {i : Int} (h : bv k v) (h0 : 0 ≤ i) (h1 : i < v.length) : bw k (gt v i) := h _ (gt_mem h0 h1)
theorem mem_upto {k n : Nat} : k ∈ upto n ↔ k < n := List.mem_range
theorem bv.mono {k m : Nat} {v : List Int} (h : bv k v) (hk : k ≤ m) : bv m v := fun x hx => (h x hx).mono hk
theorem bv.map {α : Type} {k : Nat} {l : List α} {h : α → Int} (hb : ∀ x ∈ l, bw k (h x)) : bv k (l.map h) := fun y hy => by
  obtain ⟨x, hx, rfl⟩ := List.mem_map.mp hy
  exact hb x hx
theorem bw.sum {k : Nat} : ∀ (l : List Int), (∀ x ∈ l, bw k x) → l.length ≤ 2 ^ 10 → bw (k + 10) l.sum := by
  have key : ∀ (l : List Int), (∀ x ∈ l, bw k x) → l.sum.natAbs + l.length ≤ l.length * 2 ^ k := by
    intro l
    induction l with
    | nil => intro _; simp
    | cons x l ih =>
      intro h
      have h1 := ih fun y hy => h y (List.mem_cons_of_mem _ hy)
      have h2 := h x List.mem_cons_self
      unfold bw at h2
      rw [List.sum_cons, List.length_cons, Nat.succ_mul]
      omega
  intro l h hl
  have := key l h
  unfold bw
  rw [Nat.pow_add, Nat.mul_comm]
  have h2 := Nat.mul_le_mul_right (2 ^ k) hl
  cases l with
  | nil => simp; exact Nat.pow_pos (by omega)
  | cons x l => rw [List.length_cons] at *; omega
/-! ### dot, opposite, quarter, cross, added, scaled, axis -/
theorem G_dot_eq {a b : List Int} {k m : Nat} (hl : a.length = b.length) (ha : a.length ≤ 1000) (wa : bv k a) (wb : bv m b) (hk : k ≤ 400000) (hm : m ≤ 400000) : G_dot [tupI a, tupI b] = some (.int (dotI a b)) := by
  unfold G_dot b_dot N_dot
  refine run_of ?_
  and_intros
  apply eLc_all
  · apply iR1_of
    · and_intros
    · unfold lim; omega
  · intro k hk
    have := mem_upto.mp hk
    and_intros
    exact mulD_of ((wa.gt (by omega) (by omega)).wide (by omega)) ((wb.gt (by omega) (by omega)).wide (by omega))
  and_intros
  exact suG_map _ _
theorem dotI_bw {a b : List Int} {k m : Nat} (hl : a.length = b.length) (ha : a.length ≤ 1000) (wa : bv k a) (wb : bv m b) : bw (k + m + 10) (dotI a b) := by
  refine bw.sum _ (fun x hx => ?_) (by rw [List.length_map]; unfold upto; rw [List.length_range]; omega)
  obtain ⟨i, hi, rfl⟩ := List.mem_map.mp hx
  have := mem_upto.mp hi
  exact (wa.gt (by omega) (by omega)).mul (wb.gt (by omega) (by omega))
def oppI (v : List Int) : List Int := v.map fun x => -x
theorem G_opposite_eq (v : List Int) : G_opposite [tupI v] = some (tupI (oppI v)) := by
  unfold G_opposite b_opposite N_opposite
  refine run_of ?_
  and_intros
  apply eLc_all
  · apply iA_tupI
    and_intros
  · intro k hk
    and_intros
  and_intros
  exact tupG_map _ _
def qrtI (v : List Int) : List Int := [-gt v 1, gt v 0]
theorem G_quarter_eq (v : List Int) (hv : v.length = 2) : G_quarter [tupI v] = some (tupI (qrtI v)) := by
  unfold G_quarter b_quarter N_quarter
  refine run_of ?_
  show _ = some (Out.rt (D.tup [.int _, .int _]))
  and_intros
def crossI (a b : List Int) : List Int := [gt a 1 * gt b 2 - gt a 2 * gt b 1, gt a 2 * gt b 0 - gt a 0 * gt b 2, gt a 0 * gt b 1 - gt a 1 * gt b 0]
theorem G_cross_eq (a b : List Int) {k m : Nat} (ha : a.length = 3) (hb : b.length = 3) (wa : bv k a) (wb : bv m b) (hk : k ≤ 400000) (hm : m ≤ 400000) : G_cross [tupI a, tupI b] = some (tupI (crossI a b)) := by
  have A0 := (wa.gt (i := 0) (by omega) (by omega)).wide hk
  have A1 := (wa.gt (i := 1) (by omega) (by omega)).wide hk
  have A2 := (wa.gt (i := 2) (by omega) (by omega)).wide hk
  have B0 := (wb.gt (i := 0) (by omega) (by omega)).wide hm
  have B1 := (wb.gt (i := 1) (by omega) (by omega)).wide hm
  have B2 := (wb.gt (i := 2) (by omega) (by omega)).wide hm
  unfold G_cross b_cross N_cross
  refine run_of ?_
  show _ = some (Out.rt (D.tup [.int _, .int _, .int _]))
  repeat (first | exact mulD_of (by assumption) (by assumption) | and_intros; exact mulD_of (by assumption) (by assumption))
  and_intros
def addI (a b : List Int) : List Int := (upto a.length).map fun (k : Nat) => gt a k + gt b k
theorem G_added_eq {a b : List Int} (hl : a.length = b.length) (ha : a.length ≤ 1000) : G_added [tupI a, tupI b] = some (tupI (addI a b)) := by
  unfold G_added b_added N_added
  refine run_of ?_
  and_intros
  apply eLc_all
  · apply iR1_of
    · and_intros
    · unfold lim; omega
  · intro k hk
    have := mem_upto.mp hk
    and_intros
  and_intros
  exact tupG_map _ _
def sclI (v : List Int) (f : Int) : List Int := v.map fun x => x * f
theorem G_scaled_eq {v : List Int} {f : Int} {k : Nat} (hv : bv k v) (hk : k ≤ 400000) (hf : wide f) : G_scaled [tupI v, .int f] = some (tupI (sclI v f)) := by
  unfold G_scaled b_scaled N_scaled
  refine run_of ?_
  and_intros
  apply eLc_all
  · apply iA_tupI
    and_intros
  · intro x hx
    and_intros
    exact mulD_of ((hv x hx).wide hk) hf
  and_intros
  exact tupG_map _ _
def axI (n : Nat) (i : Int) : List Int := (upto n).map fun (k : Nat) => if decide ((k : Int) = i) then 1 else 0
theorem G_axis_eq {n : Nat} {i : Int} (hn : n ≤ 1000) : G_axis [.int n, .int i] = some (tupI (axI n i)) := by
  unfold G_axis b_axis N_axis
  refine run_of ?_
  and_intros
  apply eLc_all
  · apply iR1_of
    · and_intros
    · unfold lim; omega
  · intro x hx
    and_intros
  and_intros
  exact tupG_map _ _
end M

namespace M
open PySem L2 DL W
local macro_rules | `(tactic| and_intros) => `(tactic| (repeat (first | first
      | (with_reducible first
      | apply (sSeq_set)
      | apply sSeq_own
      | apply sSeq_asg
      | apply sSet_of
      | apply sRet_of
      | apply sFz_of
      | apply sAsg_of
      | apply eOp_of
      | apply eU_of
      | apply eCall_of
      | apply aCons_of
      | exact aNil_of
      | exact bYes_of
      | exact eC_of
      | exact gN_of
      | apply eTup_of2
      | apply eLst_of2
      | apply fLst_of2
      | apply eT_of
      | apply bNot_of
      | apply eIsi_of2
      | exact subD_of
      | exact addD_int
      | exact negD_int
      | exact notD_bl
      | exact intG_int
      | exact intG_bl
      | exact absG_int
      | exact gcdG_int
      | exact ltD_of
      | exact leD_of
      | exact gtD_of
      | exact geD_of
      | exact eqD_int
      | exact neD_int
      | exact lenG_tupI _
      | exact lenG_lstI _
      | exact lenG_tupV _
      | exact lenG_lstV _)
      | exact ixD_tupI (by omega) (by omega)
      | exact ixD_lstI (by omega) (by omega)
      | exact ixD_tupV (by omega) (by omega)
      | exact ixD_lstV (by omega) (by omega)
      | exact eVar_of rfl
      | apply eTup_of2
      | apply aCons_of
      | (with_unfolding_all exact subD_of)
      | exact Eq.refl true
      | simp only [setS, wipeD, startD, fzD, ofS, List.foldr_cons, List.foldr_nil, List.map_cons, List.map_nil, List.length_cons, List.length_nil, List.replicate_succ, List.replicate_zero, List.cons_append, List.nil_append, Nat.reduceAdd, Nat.reduceSub, List.getElem?_cons_zero, List.getElem?_cons_succ, List.set_cons_zero, List.set_cons_succ])))
/-! ### gcd, plain -/
def gcdL (l : List Int) (c : Int) : Int := l.foldl (fun c n => ((c.natAbs.gcd n.natAbs : Nat) : Int)) c
theorem gcdL_dvd : ∀ (l : List Int) (c : Int), gcdL l c ∣ c ∧ ∀ x ∈ l, gcdL l c ∣ x
  | [], c => ⟨Int.dvd_refl c, fun x hx => nomatch hx⟩
  | y :: l, c => by
    obtain ⟨h1, h2⟩ := gcdL_dvd l ((c.natAbs.gcd y.natAbs : Nat) : Int)
    have e : gcdL (y :: l) c = gcdL l ((c.natAbs.gcd y.natAbs : Nat) : Int) := rfl
    rw [e]
    have d1 : ((c.natAbs.gcd y.natAbs : Nat) : Int) ∣ c := Int.natAbs_dvd_natAbs.mp (by rw [Int.natAbs_natCast]; exact Nat.gcd_dvd_left _ _)
    have d2 : ((c.natAbs.gcd y.natAbs : Nat) : Int) ∣ y := Int.natAbs_dvd_natAbs.mp (by rw [Int.natAbs_natCast]; exact Nat.gcd_dvd_right _ _)
    refine ⟨Int.dvd_trans h1 d1, fun x hx => ?_⟩
    rcases List.mem_cons.mp hx with rfl | hx
    · exact Int.dvd_trans h1 d2
    · exact h2 x hx
theorem gcdL_nonneg : ∀ (l : List Int) (c : Int), 0 ≤ c → 0 ≤ gcdL l c
  | [], c, h => h
  | y :: l, c, h => gcdL_nonneg l _ (Int.natCast_nonneg _)
theorem gcdL_mul : ∀ (l : List Int) (c d m : Int), d ∣ c * m → (∀ x ∈ l, d ∣ x * m) → d ∣ gcdL l c * m
  | [], c, d, m, h, _ => h
  | y :: l, c, d, m, h, hl => by
    refine gcdL_mul l _ d m ?_ fun x hx => hl x (List.mem_cons_of_mem _ hx)
    have h2 := hl y List.mem_cons_self
    have h3 : d.natAbs ∣ (c * m).natAbs := Int.natAbs_dvd_natAbs.mpr h
    have h4 : d.natAbs ∣ (y * m).natAbs := Int.natAbs_dvd_natAbs.mpr h2
    rw [Int.natAbs_mul] at h3 h4
    have h5 := Nat.dvd_gcd h3 h4
    rw [Nat.gcd_mul_right] at h5
    apply Int.natAbs_dvd_natAbs.mp
    rw [Int.natAbs_mul, Int.natAbs_natCast]
    exact h5
theorem forD_plain {t : D} : ∀ (l : List Int) (c : Int) (j : Sl), ∃ j', forD (gN 2) b_plain_1 (l.map D.int) [.va t, .va (.int c), j] = some (.nx [.va t, .va (.int (gcdL l c)), j'])
  | [], c, j => ⟨j, rfl⟩
  | y :: l, c, j => by
    obtain ⟨j', ih⟩ := forD_plain (t := t) l ((c.natAbs.gcd y.natAbs : Nat) : Int) (.va (.int y))
    refine ⟨j', ?_⟩
    rw [List.map_cons]
    exact forD_nx gN_of (sSet_of (eCall_of (aCons_of (eVar_of rfl) (aCons_of (eVar_of rfl) aNil_of)) gcdG_int)) ih
def plI (v : List Int) : List Int := v.map fun x => x / gcdL v 0
theorem slim_of {k : Nat} {i : Int} (h : bw k i) (hk : k ≤ 8000) (h0 : 0 < i) : slim i := ⟨h0, Nat.lt_of_lt_of_le h (Nat.pow_le_pow_right (by decide) hk)⟩
theorem G_plain_eq {v : List Int} (h : slim (gcdL v 0)) : G_plain [tupI v] = some (tupI (plI v)) := by
  unfold G_plain b_plain N_plain
  refine run_of ?_
  and_intros
  obtain ⟨j, hj⟩ := forD_plain (t := tupI v) v 0 .no
  refine sSeq_nx (sFor_of (iA_tupI (eVar_of rfl)) hj) ?_
  and_intros
  apply eLc_all
  · apply iA_tupI
    and_intros
  · intro x hx
    and_intros
    exact fdivD_of h
  and_intros
  exact tupG_map _ _
/-! ### uprightness -/
def posL : List Int → Prop
  | [] => False
  | x :: l => 0 < x ∨ (x = 0 ∧ posL l)
def nzL (v : List Int) : Prop := ∃ x ∈ v, x ≠ 0
theorem posL_or : ∀ (v : List Int), nzL v → posL v ∨ posL (oppI v)
  | [], ⟨x, hx, _⟩ => nomatch hx
  | y :: l, ⟨x, hx, h0⟩ => by
    by_cases hy : y = 0
    · subst hy
      have : nzL l := by
        rcases List.mem_cons.mp hx with rfl | hx
        · exact absurd rfl h0
        · exact ⟨x, hx, h0⟩
      rcases posL_or l this with z | z
      · exact .inl (.inr ⟨rfl, z⟩)
      · exact .inr (.inr ⟨rfl, z⟩)
    · by_cases h1 : 0 < y
      · exact .inl (.inl h1)
      · exact .inr (.inl (by show 0 < -y; omega))
theorem forD_up1 {a : D} {t : List Int} : ∀ (l : List Int) (j : Sl), posL l → forD (gN 2) b_upright_1 (l.map D.int) [.va a, .va (tupI t), j] = some (.rt (tupI t))
  | y :: l, j, h => by
    rw [List.map_cons]
    by_cases hy : 0 < y
    · refine forD_rt gN_of ?_
      unfold b_upright_1
      refine sSeq_rt (sIf_t ?_ ?_)
      · refine eT_of (eOp_of (eVar_of rfl) eC_of (gtD_of.trans ?_))
        rw [decide_eq_true hy]
      · and_intros
    · have h0 : y = 0 ∧ posL l := h.resolve_left hy
      obtain ⟨rfl, h0⟩ := h0
      refine forD_nx gN_of ?_ (forD_up1 (a := a) l (.va (.int 0)) h0)
      unfold b_upright_1
      exact sSeq_nx (sIf_f (eT_of (eOp_of (eVar_of rfl) eC_of gtD_of)) rfl) (sIf_f (eT_of (eOp_of (eVar_of rfl) eC_of ltD_of)) rfl)
theorem forD_up2 {a : D} {t : List Int} : ∀ (l : List Int) (j : Sl), posL (oppI l) → forD (gN 2) b_upright_1 (l.map D.int) [.va a, .va (tupI t), j] = some (.rt (tupI (oppI t)))
  | y :: l, j, h => by
    rw [List.map_cons]
    have h : 0 < -y ∨ (-y = 0 ∧ posL (oppI l)) := h
    by_cases hy : 0 < -y
    · refine forD_rt gN_of ?_
      unfold b_upright_1
      refine sSeq_nx (sIf_f (eT_of (eOp_of (eVar_of rfl) eC_of (gtD_of.trans ?_))) rfl) (sIf_t (eT_of (eOp_of (eVar_of rfl) eC_of (ltD_of.trans ?_))) ?_)
      · rw [decide_eq_false (by omega)]
      · rw [decide_eq_true (by omega)]
      · and_intros
        exact G_opposite_eq t
    · have h0 : -y = 0 ∧ posL (oppI l) := h.resolve_left hy
      obtain ⟨h1, h0⟩ := h0
      have : y = 0 := by omega
      subst this
      refine forD_nx gN_of ?_ (forD_up2 (a := a) l (.va (.int 0)) h0)
      unfold b_upright_1
      exact sSeq_nx (sIf_f (eT_of (eOp_of (eVar_of rfl) eC_of gtD_of)) rfl) (sIf_f (eT_of (eOp_of (eVar_of rfl) eC_of ltD_of)) rfl)
open Classical in
noncomputable def upI (v : List Int) : List Int := if posL (plI v) then plI v else oppI (plI v)
def smul (c : Int) (u : List Int) : List Int := u.map fun x => c * x
def prim (u : List Int) : Prop := ∀ d m : Int, (∀ x ∈ u, d ∣ x * m) → d ∣ m
theorem gcdL_pos {v : List Int} (h : nzL v) : 0 < gcdL v 0 := by
  obtain ⟨x, hx, h0⟩ := h
  have h1 := gcdL_nonneg v 0 (by omega)
  have h2 := (gcdL_dvd v 0).2 x hx
  rcases Int.lt_or_eq_of_le h1 with z | z
  · exact z
  · rw [← z] at h2
    exact absurd (Int.zero_dvd.mp h2) h0
theorem gcdL_bw {v : List Int} {k : Nat} (h : nzL v) (hv : bv k v) : bw k (gcdL v 0) := by
  have hp := gcdL_pos h
  obtain ⟨x, hx, h0⟩ := h
  have h2 := (gcdL_dvd v 0).2 x hx
  have h3 := Int.natAbs_dvd_natAbs.mpr h2
  have h4 := Nat.le_of_dvd (by omega) h3
  exact Nat.lt_of_le_of_lt h4 (hv x hx)
theorem plI_smul {v : List Int} : v = smul (gcdL v 0) (plI v) := by
  unfold smul plI
  rw [List.map_map]
  conv => lhs; rw [← List.map_id v]
  refine List.map_congr_left fun x hx => ?_
  exact (Int.mul_ediv_cancel' ((gcdL_dvd v 0).2 x hx)).symm
theorem plI_bv {v : List Int} {k : Nat} (h : nzL v) (hv : bv k v) : bv k (plI v) := by
  refine bv.map fun x hx => ?_
  have hp := gcdL_pos h
  have e := Int.mul_ediv_cancel' ((gcdL_dvd v 0).2 x hx)
  have h2 := hv x hx
  unfold bw at *
  rw [← e, Int.natAbs_mul] at h2
  refine Nat.lt_of_le_of_lt ?_ h2
  exact Nat.le_mul_of_pos_left _ (by omega)
theorem plI_nz {v : List Int} (h : nzL v) : nzL (plI v) := by
  obtain ⟨x, hx, h0⟩ := h
  refine ⟨x / gcdL v 0, List.mem_map.mpr ⟨x, hx, rfl⟩, fun z => h0 ?_⟩
  rw [← Int.mul_ediv_cancel' ((gcdL_dvd v 0).2 x hx), z, Int.mul_zero]
theorem plI_prim {v : List Int} (h : nzL v) : prim (plI v) := fun d m hd => by
  have hp := gcdL_pos h
  have h1 : d * gcdL v 0 ∣ gcdL v 0 * m := by
    refine gcdL_mul v 0 _ m (by simp) fun x hx => ?_
    obtain ⟨q, hq⟩ := hd (x / gcdL v 0) (List.mem_map.mpr ⟨x, hx, rfl⟩)
    have e := Int.mul_ediv_cancel' ((gcdL_dvd v 0).2 x hx)
    refine ⟨q, ?_⟩
    rw [← e]
    generalize x / gcdL v 0 = y at *
    generalize gcdL v 0 = g at *
    grind
  obtain ⟨q, hq⟩ := h1
  refine ⟨q, ?_⟩
  have : gcdL v 0 * (d * q) = gcdL v 0 * m := by grind
  exact (Int.eq_of_mul_eq_mul_left (by omega) this).symm
theorem oppI_prim {u : List Int} (h : prim u) : prim (oppI u) := fun d m hd => by
  refine h d m fun x hx => ?_
  have := hd (-x) (List.mem_map.mpr ⟨x, hx, rfl⟩)
  rw [Int.neg_mul] at this
  exact (Int.dvd_neg).mp this
theorem oppI_bv {u : List Int} {k : Nat} (h : bv k u) : bv k (oppI u) := bv.map fun x hx => (h x hx).neg
theorem oppI_oppI (u : List Int) : oppI (oppI u) = u := by unfold oppI; rw [List.map_map]; conv => rhs; rw [← List.map_id u]
                                                           exact List.map_congr_left fun x _ => by simp
theorem upI_spec {v : List Int} {k : Nat} (h : nzL v) (hv : bv k v) : (upI v).length = v.length ∧ posL (upI v) ∧ prim (upI v) ∧ bv k (upI v) ∧ ∃ c, c ≠ 0 ∧ v = smul c (upI v) := by
  have hp := gcdL_pos h
  unfold upI
  by_cases hq : posL (plI v)
  · rw [if_pos hq]
    exact ⟨by unfold plI; rw [List.length_map], hq, plI_prim h, plI_bv h hv, _, by omega, plI_smul⟩
  · rw [if_neg hq]
    refine ⟨by unfold oppI plI; rw [List.length_map, List.length_map], (posL_or _ (plI_nz h)).resolve_left hq, oppI_prim (plI_prim h), oppI_bv (plI_bv h hv), -gcdL v 0, by omega, ?_⟩
    conv => lhs; rw [plI_smul (v := v)]
    unfold smul oppI
    rw [List.map_map]
    exact List.map_congr_left fun x _ => (Int.neg_mul_neg _ _).symm
theorem G_upright_eq {v : List Int} {k : Nat} (h : nzL v) (hv : bv k v) (hk : k ≤ 8000) : G_upright [tupI v] = some (tupI (upI v)) := by
  have hg : slim (gcdL v 0) := slim_of (gcdL_bw h hv) hk (gcdL_pos h)
  unfold G_upright b_upright N_upright
  refine run_of ?_
  and_intros
  · exact G_plain_eq hg
  and_intros
  refine sSeq_rt ?_
  unfold upI
  by_cases hq : posL (plI v)
  · rw [if_pos hq]
    exact sFor_of (iA_tupI (eVar_of rfl)) (forD_up1 _ _ hq)
  · rw [if_neg hq]
    exact sFor_of (iA_tupI (eVar_of rfl)) (forD_up2 _ _ ((posL_or _ (plI_nz h)).resolve_left hq))
/-! ### is_zero -/
theorem forD_isz {a : D} : ∀ (l : List Int) (j : Sl), (nzL l → forD (gN 1) b_is_zero_1 (l.map D.int) [.va a, j] = some (.rt (.bl false))) ∧ (¬ nzL l → ∃ j', forD (gN 1) b_is_zero_1 (l.map D.int) [.va a, j] = some (.nx [.va a, j']))
  | [], j => ⟨fun h => (by obtain ⟨x, hx, _⟩ := h; cases hx), fun _ => ⟨j, rfl⟩⟩
  | y :: l, j => by
    obtain ⟨h1, h2⟩ := forD_isz (a := a) l (.va (.int y))
    rw [List.map_cons]
    by_cases hy : y = 0
    · have hb : b_is_zero_1 [.va a, .va (.int y)] = some (.nx [.va a, .va (.int y)]) := by
        unfold b_is_zero_1
        refine sIf_f (eT_of (eOp_of (eVar_of rfl) eC_of (neD_int.trans ?_))) rfl
        rw [decide_eq_true hy]; rfl
      constructor
      · rintro ⟨x, hx, h0⟩
        refine forD_nx gN_of hb (h1 ?_)
        rcases List.mem_cons.mp hx with rfl | hx
        · exact absurd hy h0
        · exact ⟨x, hx, h0⟩
      · intro hn
        obtain ⟨j', e⟩ := h2 fun ⟨x, hx, h0⟩ => hn ⟨x, List.mem_cons_of_mem _ hx, h0⟩
        exact ⟨j', forD_nx gN_of hb e⟩
    · constructor
      · intro _
        refine forD_rt gN_of ?_
        unfold b_is_zero_1
        refine sIf_t (eT_of (eOp_of (eVar_of rfl) eC_of (neD_int.trans ?_))) (sRet_of eC_of)
        rw [decide_eq_false hy]; rfl
      · intro hn
        exact absurd ⟨y, List.mem_cons_self, hy⟩ hn
theorem G_is_zero_nz {v : List Int} (h : nzL v) : G_is_zero [tupI v] = some (.bl false) := by
  unfold G_is_zero b_is_zero N_is_zero
  refine run_of ?_
  and_intros
  exact sSeq_rt (sFor_of (iA_tupI (eVar_of rfl)) ((forD_isz v _).1 h))
theorem G_is_zero_z {v : List Int} (h : ¬ nzL v) : G_is_zero [tupI v] = some (.bl true) := by
  unfold G_is_zero b_is_zero N_is_zero
  refine run_of ?_
  and_intros
  obtain ⟨j, e⟩ := (forD_isz (a := tupI v) v .no).2 h
  exact sSeq_nx (sFor_of (iA_tupI (eVar_of rfl)) e) (sRet_of eC_of)
end M

namespace M
open PySem L2 DL W
local macro_rules | `(tactic| and_intros) => `(tactic| (repeat (first | first
      | (with_reducible first
      | apply (sSeq_set)
      | apply sSeq_own
      | apply sSeq_asg
      | apply sSet_of
      | apply sRet_of
      | apply sFz_of
      | apply sAsg_of
      | apply eOp_of
      | apply eU_of
      | apply eCall_of
      | apply aCons_of
      | exact aNil_of
      | exact bYes_of
      | exact eC_of
      | exact gN_of
      | apply eTup_of2
      | apply eLst_of2
      | apply fLst_of2
      | apply eT_of
      | apply bNot_of
      | apply eIsi_of2
      | exact subD_of
      | exact addD_int
      | exact negD_int
      | exact notD_bl
      | exact intG_int
      | exact intG_bl
      | exact absG_int
      | exact gcdG_int
      | exact ltD_of
      | exact leD_of
      | exact gtD_of
      | exact geD_of
      | exact eqD_int
      | exact neD_int
      | exact lenG_tupI _
      | exact lenG_lstI _
      | exact lenG_tupV _
      | exact lenG_lstV _)
      | exact ixD_tupI (by omega) (by omega)
      | exact ixD_lstI (by omega) (by omega)
      | exact ixD_tupV (by omega) (by omega)
      | exact ixD_lstV (by omega) (by omega)
      | exact eVar_of rfl
      | apply eTup_of2
      | apply aCons_of
      | (with_unfolding_all exact subD_of)
      | exact Eq.refl true
      | simp only [setS, wipeD, startD, fzD, ofS, List.foldr_cons, List.foldr_nil, List.map_cons, List.map_nil, List.length_cons, List.length_nil, List.replicate_succ, List.replicate_zero, List.cons_append, List.nil_append, Nat.reduceAdd, Nat.reduceSub, List.getElem?_cons_zero, List.getElem?_cons_succ, List.set_cons_zero, List.set_cons_succ])))
theorem gt_last {p : List Int} (h : p ≠ []) : p.getLast? = some (gt p (p.length - 1)) := by
  have hl := List.length_pos_iff.mpr h
  rw [List.getLast?_eq_getElem?, ← gt_get (v := p) (i := (p.length : Int) - 1) (by omega) (by omega)]
  congr 1
  omega
theorem ixD_last {p : List Int} (h : p ≠ []) : ixD (tupI p) (.int (-1)) = some (.int (gt p (p.length - 1))) := by
  show atI (p.map D.int) (-1) = _
  rw [atI_map, atI_last' h, gt_last h]; rfl
/-! ### offset -/
def offI (p h : List Int) : List Int := (upto h.length).map fun (k : Nat) => gt h k * gt p (p.length - 1) - gt p k
theorem G_offset_eq {p h : List Int} {k m : Nat} (hl : p.length = h.length + 1) (hh : h.length ≤ 1000) (wp : bv k p) (wh : bv m h) (hk : k ≤ 400000) (hm : m ≤ 400000) : G_offset [tupI p, tupI h] = some (tupI (offI p h)) := by
  unfold G_offset b_offset N_offset
  refine run_of ?_
  and_intros
  apply eLc_all
  · apply iR1_of
    · and_intros
    · unfold lim; omega
  · intro i hi
    have := mem_upto.mp hi
    and_intros
    exact ixD_last (fun z => by rw [z] at hl; simp at hl)
    exact mulD_of ((wh.gt (by omega) (by omega)).wide (by omega)) ((wp.gt (by omega) (by omega)).wide (by omega))
    and_intros
  and_intros
  exact tupG_map _ _
theorem offI_bv {p h : List Int} {k m : Nat} (hl : p.length = h.length + 1) (wp : bv k p) (wh : bv m h) : bv (m + k + 1) (offI p h) := by
  refine bv.map fun i hi => ?_
  have := mem_upto.mp hi
  exact ((wh.gt (by omega) (by omega)).mul (wp.gt (by omega) (by omega))).sub ((wp.gt (by omega) (by omega)).mono (by omega))
theorem len_off {p h : List Int} : (offI p h).length = h.length := by unfold offI upto; rw [List.length_map, List.length_range]
/-! ### lines -/
def vsz (n k : Nat) (vs : List (List Int)) : Prop := ∀ v ∈ vs, v.length = n ∧ bv k v
open Classical in
noncomputable def lnK (vs : List (List Int)) (ks : List (List Int × D)) : List (List Int × D) := vs.foldl (fun ks v => if nzL v then putT ks (upI v) (.bl true) else ks) ks
noncomputable def lnI (vs : List (List Int)) : List (List Int) := sortT ((lnK vs []).map (·.1))
theorem putT_len (ks : List (List Int × D)) (k : List Int) (d : D) : (putT ks k d).length ≤ ks.length + 1 := by
  unfold putT; split
  · rw [List.length_map]; omega
  · rw [List.length_append]; simp
theorem putT_keys (ks : List (List Int × D)) (k : List Int) (d : D) : ((putT ks k d).map (·.1)) = if k ∈ ks.map (·.1) then ks.map (·.1) else ks.map (·.1) ++ [k] := by
  have hh : hasT ks k = true ↔ k ∈ ks.map (·.1) := by
    unfold hasT
    rw [List.any_eq_true, List.mem_map]
    constructor
    · rintro ⟨p, hp, e⟩; exact ⟨p, hp, by simpa using e⟩
    · rintro ⟨p, hp, e⟩; exact ⟨p, hp, by simpa using e⟩
  unfold putT
  by_cases h : k ∈ ks.map (·.1)
  · rw [if_pos h, if_pos (hh.mpr h), List.map_map]
    refine List.map_congr_left fun p hp => ?_
    show (if p.1 = k then (p.1, d) else p).1 = p.1
    split <;> rfl
  · rw [if_neg h, if_neg (fun z => h (hh.mp z)), List.map_append]
    rfl
theorem forD_lines {a : D} {n k : Nat} (hk : k ≤ 8000) : ∀ (vs : List (List Int)) (ks : List (List Int × D)) (j : Sl), vsz n k vs → ks.length + vs.length ≤ 5000 → ∃ j', forD (gN 2) b_lines_of_1 (vs.map tupI) [.va a, .oT ks, j] = some (.nx [.va a, .oT (lnK vs ks), j'])
  | [], ks, j, _, _ => ⟨j, rfl⟩
  | v :: vs, ks, j, hv, hl => by
    have hl : ks.length + (vs.length + 1) ≤ 5000 := hl
    obtain ⟨h1, h2⟩ := hv v List.mem_cons_self
    have hv' : vsz n k vs := fun u hu => hv u (List.mem_cons_of_mem _ hu)
    rw [List.map_cons]
    by_cases hz : nzL v
    · have e : lnK (v :: vs) ks = lnK vs (putT ks (upI v) (.bl true)) := by unfold lnK; rw [List.foldl_cons, if_pos hz]
      rw [e]
      have := putT_len ks (upI v) (.bl true)
      obtain ⟨j', ih⟩ := forD_lines (a := a) hk vs (putT ks (upI v) (.bl true)) (.va (tupI v)) hv' (by omega)
      refine ⟨j', forD_nx gN_of ?_ ih⟩
      unfold b_lines_of_1
      refine sIf_t (bNot_of (eT_of (eCall_of (aCons_of (eVar_of rfl) aNil_of) (G_is_zero_nz hz)))) ?_
      exact sPutT_of rfl eC_of (eCall_of (aCons_of (eVar_of rfl) aNil_of) (G_upright_eq hz h2 hk)) (by unfold lim; omega)
    · have e : lnK (v :: vs) ks = lnK vs ks := by unfold lnK; rw [List.foldl_cons, if_neg hz]
      rw [e]
      obtain ⟨j', ih⟩ := forD_lines (a := a) hk vs ks (.va (tupI v)) hv' (by omega)
      refine ⟨j', forD_nx gN_of ?_ ih⟩
      unfold b_lines_of_1
      exact sIf_f (bNot_of (eT_of (eCall_of (aCons_of (eVar_of rfl) aNil_of) (G_is_zero_z hz)))) rfl
theorem lnK_spec {n k : Nat} : ∀ (vs : List (List Int)) (ks : List (List Int × D)), (ks.map (·.1)).Nodup → ((lnK vs ks).map (·.1)).Nodup ∧ (∀ u, u ∈ (lnK vs ks).map (·.1) ↔ u ∈ ks.map (·.1) ∨ ∃ v ∈ vs, nzL v ∧ u = upI v) ∧ (lnK vs ks).length ≤ ks.length + vs.length
  | [], ks, h => ⟨h, fun u => ⟨fun z => .inl z, fun z => z.elim id fun ⟨v, hv, _⟩ => nomatch hv⟩, by simp [lnK]⟩
  | v :: vs, ks, h => by
    by_cases hz : nzL v
    · have e : lnK (v :: vs) ks = lnK vs (putT ks (upI v) (.bl true)) := by unfold lnK; rw [List.foldl_cons, if_pos hz]
      rw [e]
      have hk : ((putT ks (upI v) (.bl true)).map (·.1)).Nodup := by
        rw [putT_keys]; split
        · exact h
        · rename_i hn
          exact List.nodup_append.mpr ⟨h, by simp, fun a ha b hb => by
            rw [List.mem_singleton] at hb; subst hb; exact fun z => hn (z ▸ ha)⟩
      obtain ⟨i1, i2, i3⟩ := lnK_spec (n := n) (k := k) vs _ hk
      have := putT_len ks (upI v) (.bl true)
      refine ⟨i1, fun u => ?_, by rw [List.length_cons]; omega⟩
      rw [i2, putT_keys]
      constructor
      · rintro (z | ⟨w, hw, hw2⟩)
        · split at z
          · exact .inl z
          · rcases List.mem_append.mp z with z | z
            · exact .inl z
            · exact .inr ⟨v, List.mem_cons_self, hz, List.mem_singleton.mp z⟩
        · exact .inr ⟨w, List.mem_cons_of_mem _ hw, hw2⟩
      · rintro (z | ⟨w, hw, hw2, hw3⟩)
        · left; split
          · exact z
          · exact List.mem_append_left _ z
        · rcases List.mem_cons.mp hw with rfl | hw
          · left; subst hw3; split
            · assumption
            · exact List.mem_append_right _ (by simp)
          · exact .inr ⟨w, hw, hw2, hw3⟩
    · have e : lnK (v :: vs) ks = lnK vs ks := by unfold lnK; rw [List.foldl_cons, if_neg hz]
      rw [e]
      obtain ⟨i1, i2, i3⟩ := lnK_spec (n := n) (k := k) vs ks h
      refine ⟨i1, fun u => ?_, by rw [List.length_cons]; omega⟩
      rw [i2]
      constructor
      · rintro (z | ⟨w, hw, hw2⟩)
        · exact .inl z
        · exact .inr ⟨w, List.mem_cons_of_mem _ hw, hw2⟩
      · rintro (z | ⟨w, hw, hw2, hw3⟩)
        · exact .inl z
        · rcases List.mem_cons.mp hw with rfl | hw
          · exact absurd hw2 hz
          · exact .inr ⟨w, hw, hw2, hw3⟩
theorem lnI_mem {vs : List (List Int)} {u : List Int} : u ∈ lnI vs ↔ ∃ v ∈ vs, nzL v ∧ u = upI v := by
  unfold lnI
  rw [(sortT_perm _).mem_iff, (lnK_spec (n := 0) (k := 0) vs [] List.nodup_nil).2.1]
  constructor
  · rintro (z | z)
    · cases z
    · exact z
  · exact .inr
theorem lnI_nodup (vs : List (List Int)) : (lnI vs).Nodup := (sortT_perm _).nodup_iff.mpr (lnK_spec (n := 0) (k := 0) vs [] List.nodup_nil).1
theorem lnI_len (vs : List (List Int)) : (lnI vs).length ≤ vs.length := by
  unfold lnI
  rw [(sortT_perm _).length_eq, List.length_map]
  have := (lnK_spec (n := 0) (k := 0) vs [] List.nodup_nil).2.2
  simpa using this
theorem lnI_vsz {n k : Nat} {vs : List (List Int)} (h : vsz n k vs) : vsz n k (lnI vs) := fun u hu => by
  obtain ⟨v, hv, hz, rfl⟩ := lnI_mem.mp hu
  obtain ⟨h1, h2⟩ := h v hv
  obtain ⟨e1, e2, e3, e4, _⟩ := upI_spec hz h2
  exact ⟨e1.trans h1, e4⟩
theorem sortedG_lstV {vs : List (List Int)} (h : ∀ v ∈ vs, v ≠ []) : sortedG [lstV vs] = some (lstV (sortT vs)) := by
  show (match dTups (vs.map tupI) with | some ns => if ns.all (fun n => !n.isEmpty) then some (D.lst ((sortT ns).map tupI)) else none | none => none) = _
  rw [dTups_map]
  show (if vs.all (fun n => !n.isEmpty) then some (D.lst ((sortT vs).map tupI)) else none) = _
  rw [if_pos]
  · rfl
  · rw [List.all_eq_true]
    intro v hv
    have := h v hv
    cases v with
    | nil => exact absurd rfl this
    | cons x v => rfl
theorem keys_lstV (ks : List (List Int × D)) : lsG [.dT ks] = some (lstV (ks.map (·.1))) := by
  show some (D.lst (ks.map fun p => tupI p.1)) = some (D.lst ((ks.map (·.1)).map tupI))
  rw [List.map_map]; rfl
theorem G_lines_eq {vs : List (List Int)} {n k : Nat} (hn : 0 < n) (hv : vsz n k vs) (hk : k ≤ 8000) (hl : vs.length ≤ 5000) : G_lines_of [lstV vs] = some (lstV (lnI vs)) := by
  unfold G_lines_of b_lines_of N_lines_of
  refine run_of ?_
  refine sSeq_own (s := .oT []) rfl ?_
  obtain ⟨j, hj⟩ := forD_lines (a := lstV vs) hk vs [] .no hv (by simp; omega)
  refine sSeq_nx (sFor_of (iA_lstV (eVar_of rfl)) hj) ?_
  and_intros
  · exact keys_lstV _
  and_intros
  refine sortedG_lstV fun v hv2 => ?_
  obtain ⟨w, hw, hz, rfl⟩ := (((lnK_spec (n := 0) (k := 0) vs [] List.nodup_nil).2.1 v).mp hv2).resolve_left (fun z => nomatch z)
  obtain ⟨h1, h2⟩ := hv w hw
  obtain ⟨e1, _⟩ := upI_spec hz h2
  intro z
  rw [z] at e1
  simp at e1
  omega
end M

namespace M
open PySem L2 DL W
local macro_rules | `(tactic| and_intros) => `(tactic| (repeat (first | first
      | (with_reducible first
      | apply (sSeq_set)
      | apply sSeq_own
      | apply sSeq_asg
      | apply sSet_of
      | apply sRet_of
      | apply sFz_of
      | apply sAsg_of
      | apply eOp_of
      | apply eU_of
      | apply eCall_of
      | apply aCons_of
      | exact aNil_of
      | exact bYes_of
      | exact eC_of
      | exact gN_of
      | apply eTup_of2
      | apply eLst_of2
      | apply fLst_of2
      | apply eT_of
      | apply bNot_of
      | apply eIsi_of2
      | exact subD_of
      | exact addD_int
      | exact negD_int
      | exact notD_bl
      | exact intG_int
      | exact intG_bl
      | exact absG_int
      | exact gcdG_int
      | exact ltD_of
      | exact leD_of
      | exact gtD_of
      | exact geD_of
      | exact eqD_int
      | exact neD_int
      | exact lenG_tupI _
      | exact lenG_lstI _
      | exact lenG_tupV _
      | exact lenG_lstV _)
      | exact ixD_tupI (by omega) (by omega)
      | exact ixD_lstI (by omega) (by omega)
      | exact ixD_tupV (by omega) (by omega)
      | exact ixD_lstV (by omega) (by omega)
      | exact eVar_of rfl
      | apply eTup_of2
      | apply aCons_of
      | (with_unfolding_all exact subD_of)
      | exact Eq.refl true
      | simp only [setS, wipeD, startD, fzD, ofS, List.foldr_cons, List.foldr_nil, List.map_cons, List.map_nil, List.length_cons, List.length_nil, List.replicate_succ, List.replicate_zero, List.cons_append, List.nil_append, Nat.reduceAdd, Nat.reduceSub, List.getElem?_cons_zero, List.getElem?_cons_succ, List.set_cons_zero, List.set_cons_succ])))
/-- loops that append -/
theorem forD_acc {α J : Type} {gg : D → DL.Env → Option DL.Env} {body : DL.Env → Option Out} (c : α → D) (out : α → List D) (E : List D → J → DL.Env) (B : Nat) : ∀ (l : List α) (acc : List D) (j : J), acc.length + (l.flatMap out).length ≤ B →
    (∀ x ∈ l, ∀ (acc : List D) (j : J), acc.length + (out x).length ≤ B → ∃ ρ1 j', gg (c x) (E acc j) = some ρ1 ∧ body ρ1 = some (.nx (E (acc ++ out x) j'))) → ∃ j', forD gg body (l.map c) (E acc j) = some (.nx (E (acc ++ l.flatMap out) j'))
  | [], acc, j, _, _ => ⟨j, by simp [forD]⟩
  | x :: l, acc, j, hB, hs => by
    rw [List.flatMap_cons, List.length_append] at hB
    obtain ⟨ρ1, j1, e1, e2⟩ := hs x List.mem_cons_self acc j (by omega)
    obtain ⟨j2, e3⟩ := forD_acc c out E B l (acc ++ out x) j1 (by rw [List.length_append]; omega) fun y hy => hs y (List.mem_cons_of_mem _ hy)
    refine ⟨j2, ?_⟩
    rw [List.map_cons, List.flatMap_cons, ← List.append_assoc]
    exact forD_nx e1 e2 e3
/-! ### bound_of, first_by -/
def absI (x : Int) : Int := if x < 0 then -x else x
def bndI (a : List Int) (vs : List (List Int)) : Int := 1 + maxI (vs.map fun w => absI (dotI a w))
def fbI (b t : List Int) (vs : List (List Int)) : List Int := addI (sclI b (bndI t vs)) t
theorem G_bound_eq {a : List Int} {vs : List (List Int)} {n k m : Nat} (ha : a.length = n) (hn : n ≤ 1000) (wa : bv k a) (hv : vsz n m vs) (hne : vs ≠ []) (hk : k ≤ 400000) (hm : m ≤ 400000) : G_bound_of [tupI a, lstV vs] = some (.int (bndI a vs)) := by
  unfold G_bound_of b_bound_of N_bound_of
  refine run_of ?_
  and_intros
  apply eLc_all
  · apply iA_lstV
    and_intros
  · intro w hw
    obtain ⟨h1, h2⟩ := hv w hw
    and_intros
    · exact G_dot_eq (ha.trans h1.symm) (by omega) wa h2 hk hm
    and_intros
  and_intros
  · exact maxG_map _ _ hne
  exact addD_int
theorem bnd_spec {a : List Int} {vs : List (List Int)} {w : List Int} (hw : w ∈ vs) : (dotI a w).natAbs < (bndI a vs) ∧ 0 < bndI a vs := by
  have h := (maxI_spec (ns := vs.map fun w => absI (dotI a w)) (by intro z; cases vs with | nil => cases hw | cons x l => cases z)).2 _ (List.mem_map.mpr ⟨w, hw, rfl⟩)
  unfold bndI
  unfold absI at h ⊢
  constructor
  · split at h <;> omega
  · split at h <;> omega
theorem bnd_bw {a : List Int} {vs : List (List Int)} {n k m : Nat} (ha : a.length = n) (hn : n ≤ 1000) (wa : bv k a) (hv : vsz n m vs) (hne : vs ≠ []) : bw (k + m + 11) (bndI a vs) := by
  obtain ⟨h1, h2⟩ := maxI_spec (ns := vs.map fun w => absI (dotI a w)) (by intro z; cases vs with | nil => exact hne rfl | cons x l => cases z)
  obtain ⟨w, hw, e⟩ := List.mem_map.mp h1
  obtain ⟨q1, q2⟩ := hv w hw
  have h3 := dotI_bw (ha.trans q1.symm) (by omega) wa q2
  unfold bndI
  rw [← e]
  unfold absI
  unfold bw at *
  have : 2 ^ (k + m + 11) = 2 ^ (k + m + 10) * 2 := Nat.pow_succ ..
  split <;> omega
theorem len_scl (v : List Int) (f : Int) : (sclI v f).length = v.length := by unfold sclI; rw [List.length_map]
theorem len_add (a b : List Int) : (addI a b).length = a.length := by unfold addI upto; rw [List.length_map, List.length_range]
theorem len_opp (v : List Int) : (oppI v).length = v.length := by unfold oppI; rw [List.length_map]
theorem scl_bv {v : List Int} {f : Int} {k m : Nat} (h : bv k v) (hf : bw m f) : bv (k + m) (sclI v f) := bv.map fun x hx => (h x hx).mul hf
theorem add_bv {a b : List Int} {k : Nat} (hl : a.length = b.length) (ha : bv k a) (hb : bv k b) : bv (k + 1) (addI a b) := bv.map fun i hi => by
  have := mem_upto.mp hi
  exact (ha.gt (by omega) (by omega)).add (hb.gt (by omega) (by omega))
theorem G_first_by_eq {b t : List Int} {vs : List (List Int)} {n p k m : Nat} (hb : b.length = n) (ht : t.length = n) (hn : n ≤ 1000) (wb : bv p b) (wt : bv k t) (hv : vsz n m vs) (hne : vs ≠ []) (hp : p ≤ 300000) (hk : k + m ≤ 300000) : G_first_by [tupI b, tupI t, lstV vs] = some (tupI (fbI b t vs)) := by
  unfold G_first_by b_first_by N_first_by
  refine run_of ?_
  and_intros
  · exact G_bound_eq ht hn wt hv hne (by omega) (by omega)
  and_intros
  · exact G_scaled_eq wb (by omega) ((bnd_bw ht hn wt hv hne).wide (by omega))
  and_intros
  exact G_added_eq (by rw [len_scl]; omega) (by rw [len_scl]; omega)
theorem fb_len (b t : List Int) (vs : List (List Int)) : (fbI b t vs).length = b.length := by unfold fbI; rw [len_add, len_scl]
theorem fb_bv {b t : List Int} {vs : List (List Int)} {n p k m : Nat} (hb : b.length = n) (ht : t.length = n) (hn : n ≤ 1000) (wb : bv p b) (wt : bv k t) (hv : vsz n m vs) (hne : vs ≠ []) : bv (p + k + m + 12) (fbI b t vs) := by
  have h1 := scl_bv wb (bnd_bw ht hn wt hv hne)
  have h2 := add_bv (by rw [len_scl]; omega) h1 (wt.mono (m := p + (k + m + 11)) (by omega))
  exact h2.mono (by omega)
theorem G_both_eq (a : List Int) : G_both_ways [tupI a] = some (tupV [a, oppI a]) := by
  unfold G_both_ways b_both_ways N_both_ways
  refine run_of ?_
  show _ = some (Out.rt (D.tup [tupI a, tupI (oppI a)]))
  and_intros
  exact G_opposite_eq a
  all_goals and_intros
theorem opp_bv {v : List Int} {k : Nat} (h : bv k v) : bv k (oppI v) := bv.map fun x hx => (h x hx).neg
theorem qrt_bv {v : List Int} {k : Nat} (hl : v.length = 2) (h : bv k v) : bv k (qrtI v) := fun x hx => by
  unfold qrtI at hx
  rcases List.mem_cons.mp hx with rfl | hx
  · exact (h.gt (by omega) (by omega)).neg
  · rw [List.mem_singleton] at hx; subst hx; exact h.gt (by omega) (by omega)
theorem cross_bv {a b : List Int} {k m : Nat} (ha : a.length = 3) (hb : b.length = 3) (wa : bv k a) (wb : bv m b) : bv (k + m + 1) (crossI a b) := fun x hx => by
  unfold crossI at hx
  have A : ∀ i : Int, 0 ≤ i → i < 3 → bw k (gt a i) := fun i h0 h1 => wa.gt h0 (by omega)
  have B : ∀ i : Int, 0 ≤ i → i < 3 → bw m (gt b i) := fun i h0 h1 => wb.gt h0 (by omega)
  have key : ∀ i j i' j' : Int, 0 ≤ i → i < 3 → 0 ≤ j → j < 3 → 0 ≤ i' → i' < 3 → 0 ≤ j' → j' < 3 → bw (k + m + 1) (gt a i * gt b j - gt a i' * gt b j') := fun i j i' j' a1 a2 b1 b2 c1 c2 d1 d2 => ((A i a1 a2).mul (B j b1 b2)).sub ((A i' c1 c2).mul (B j' d1 d2))
  rcases List.mem_cons.mp hx with rfl | hx
  · exact key _ _ _ _ (by omega) (by omega) (by omega) (by omega) (by omega) (by omega) (by omega) (by omega)
  · rcases List.mem_cons.mp hx with rfl | hx
    · exact key _ _ _ _ (by omega) (by omega) (by omega) (by omega) (by omega) (by omega) (by omega) (by omega)
    · rw [List.mem_singleton] at hx; subst hx
      exact key _ _ _ _ (by omega) (by omega) (by omega) (by omega) (by omega) (by omega) (by omega) (by omega)
/-! ### plane_arrows -/
def bw2 (v : List Int) : List (List Int) := [v, oppI v]
noncomputable def pl1 (vs : List (List Int)) (l : List Int) : List (List Int) := (bw2 (qrtI l)).flatMap fun b => (bw2 l).map fun t => fbI b t vs
noncomputable def plnI (vs : List (List Int)) : List (List Int) := (lnI vs).flatMap (pl1 vs)
theorem bw2_mem {v t : List Int} {n k : Nat} (h : t ∈ bw2 v) (hl : v.length = n) (hb : bv k v) : t.length = n ∧ bv k t := by
  unfold bw2 at h
  rcases List.mem_cons.mp h with rfl | h
  · exact ⟨hl, hb⟩
  · rw [List.mem_singleton] at h; subst h; exact ⟨(len_opp v).trans hl, opp_bv hb⟩
theorem flatMap_map_tupI {α : Type} (l : List α) (f : α → List (List Int)) : (l.flatMap fun x => (f x).map tupI) = (l.flatMap f).map tupI := by
  rw [List.map_flatMap]
theorem flatMap_single {α β : Type} (l : List α) (f : α → β) : (l.flatMap fun x => [f x]) = l.map f := by
  induction l with
  | nil => rfl
  | cons x l ih => rw [List.flatMap_cons, List.map_cons, ih]; rfl
theorem pl1_len (vs : List (List Int)) (l : List Int) : (pl1 vs l).length = 4 := rfl
theorem len_flatMap_const {α β : Type} (l : List α) (f : α → List β) (c : Nat) (h : ∀ x ∈ l, (f x).length = c) : (l.flatMap f).length = l.length * c := by
  induction l with
  | nil => simp
  | cons x l ih => rw [List.flatMap_cons, List.length_append, h x List.mem_cons_self, ih fun y hy => h y (List.mem_cons_of_mem _ hy), List.length_cons, Nat.succ_mul]; omega
theorem G_plane_eq {vs : List (List Int)} {k : Nat} (hv : vsz 2 k vs) (hne : vs ≠ []) (hk : k ≤ 8000) (hl : vs.length ≤ 1000) : G_plane_arrows [lstV vs] = some (lstV (plnI vs)) := by
  have HL := lnI_len vs
  have HV := lnI_vsz hv
  unfold G_plane_arrows b_plane_arrows N_plane_arrows
  refine run_of ?_
  refine sSeq_own (s := .ol []) rfl ?_
  have big : ∃ j' : Sl × Sl × Sl, forD (gN 2) b_plane_arrows_3 ((lnI vs).map tupI) [.va (lstV vs), .ol [], .no, .no, .no] = some (.nx [.va (lstV vs), .ol ([] ++ (lnI vs).flatMap fun l => (pl1 vs l).map tupI), j'.1, j'.2.1, j'.2.2]) := by
    refine forD_acc (J := Sl × Sl × Sl) tupI (fun l => (pl1 vs l).map tupI) (fun acc j => [.va (lstV vs), .ol acc, j.1, j.2.1, j.2.2]) 100000 (lnI vs) [] (.no, .no, .no) ?_ ?_
    · rw [len_flatMap_const _ _ 4 fun l _ => by rw [List.length_map, pl1_len]]; simp; omega
    · intro l hlm acc j hB
      obtain ⟨l1, l2⟩ := HV l hlm
      have q1 := G_quarter_eq l l1
      have q2 := qrt_bv l1 l2
      have mid : ∃ j' : Sl × Sl, forD (gN 3) b_plane_arrows_2 ((bw2 (qrtI l)).map tupI) [.va (lstV vs), .ol acc, .va (tupI l), j.2.1, j.2.2] = some (.nx [.va (lstV vs), .ol (acc ++ (bw2 (qrtI l)).flatMap fun b => ((bw2 l).map fun t => fbI b t vs).map tupI), .va (tupI l), j'.1, j'.2]) := by
        refine forD_acc (J := Sl × Sl) tupI (fun b => ((bw2 l).map fun t => fbI b t vs).map tupI) (fun acc j => [.va (lstV vs), .ol acc, .va (tupI l), j.1, j.2]) 100000 (bw2 (qrtI l)) acc (j.2.1, j.2.2) ?_ ?_
        · show acc.length + 4 ≤ 100000
          have : acc.length + 4 ≤ 100000 := hB
          omega
        · intro b hb acc j hB
          obtain ⟨b1, b2⟩ := bw2_mem hb rfl q2
          have inn : ∃ j' : Sl, forD (gN 4) b_plane_arrows_1 ((bw2 l).map tupI) [.va (lstV vs), .ol acc, .va (tupI l), .va (tupI b), j.2] = some (.nx [.va (lstV vs), .ol (acc ++ (bw2 l).flatMap fun t => [tupI (fbI b t vs)]), .va (tupI l), .va (tupI b), j']) := by
            refine forD_acc (J := Sl) tupI (fun t => [tupI (fbI b t vs)]) (fun acc j => [.va (lstV vs), .ol acc, .va (tupI l), .va (tupI b), j]) 100000 (bw2 l) acc j.2 ?_ ?_
            · show acc.length + 2 ≤ 100000
              have : acc.length + 2 ≤ 100000 := hB
              omega
            · intro t ht acc j hB
              obtain ⟨t1, t2⟩ := bw2_mem ht l1 l2
              refine ⟨_, .va (tupI t), gN_of, ?_⟩
              have hB : acc.length + 1 ≤ 100000 := hB
              refine sApp_of rfl ?_ (by unfold lim; omega)
              exact eCall_of (aCons_of (eVar_of rfl) (aCons_of (eVar_of rfl) (aCons_of (eVar_of rfl) aNil_of))) (G_first_by_eq (n := 2) b1 t1 (by omega) b2 t2 hv hne (by omega) (by omega))
          obtain ⟨j', e⟩ := inn
          refine ⟨_, (.va (tupI b), j'), gN_of, ?_⟩
          rw [flatMap_single] at e
          have e' : ((bw2 l).map fun t => fbI b t vs).map tupI = (bw2 l).map fun t => tupI (fbI b t vs) := by rw [List.map_map]; rfl
          rw [e']
          exact sFor_of (iA_tupV (eCall_of (aCons_of (eVar_of rfl) aNil_of) (G_both_eq l))) e
      obtain ⟨j', e⟩ := mid
      refine ⟨_, (.va (tupI l), j'.1, j'.2), gN_of, ?_⟩
      rw [flatMap_map_tupI] at e
      exact sFor_of (iA_tupV (eCall_of (aCons_of (eCall_of (aCons_of (eVar_of rfl) aNil_of) q1) aNil_of) (G_both_eq (qrtI l)))) e
  obtain ⟨j', e⟩ := big
  refine sSeq_nx (sFor_of (iA_lstV (eCall_of (aCons_of (eVar_of rfl) aNil_of) (G_lines_eq (by omega) hv hk (by omega)))) e) ?_
  rw [flatMap_map_tupI]
  exact sFz_of (sRet_of (eVar_of rfl))
end M

namespace M
open PySem L2 DL W
/-! ### flat_arrows -/
noncomputable def fl1 (nm : List Int) (vs : List (List Int)) (l : List Int) : List (List Int) := (bw2 (crossI nm l)).flatMap fun b => (bw2 l).map fun t => fbI b t vs
def inPl (nm : List Int) (vs : List (List Int)) : List (List Int) := vs.filter fun v => decide (dotI nm v = 0)
noncomputable def fltI (nm : List Int) (vs : List (List Int)) : List (List Int) := (lnI (inPl nm vs)).flatMap (fl1 nm vs)
theorem inPl_vsz {n k : Nat} {nm : List Int} {vs : List (List Int)} (h : vsz n k vs) : vsz n k (inPl nm vs) := fun v hv => h v (List.mem_filter.mp hv).1
theorem G_flat_eq {vs : List (List Int)} {nm : List Int} {p k : Nat} (hnm : nm.length = 3) (wn : bv p nm) (hp : p ≤ 8000) (hv : vsz 3 k vs) (hne : vs ≠ []) (hk : k ≤ 8000) (hl : vs.length ≤ 1000) : G_flat_arrows [tupI nm, lstV vs] = some (lstV (fltI nm vs)) := by
  have HL := lnI_len (inPl nm vs)
  have HP : (inPl nm vs).length ≤ vs.length := List.length_filter_le _ _
  have HV := lnI_vsz (inPl_vsz (nm := nm) hv)
  unfold G_flat_arrows b_flat_arrows N_flat_arrows
  refine run_of ?_
  refine sSeq_own (s := .ol []) rfl ?_
  have big : ∃ j' : Sl × Sl × Sl, forD (gN 3) b_flat_arrows_3 ((lnI (inPl nm vs)).map tupI) [.va (tupI nm), .va (lstV vs), .ol [], .no, .no, .no, .no] = some (.nx [.va (tupI nm), .va (lstV vs), .ol ([] ++ (lnI (inPl nm vs)).flatMap fun l => (fl1 nm vs l).map tupI), j'.1, j'.2.1, j'.2.2, .no]) := by
    refine forD_acc (J := Sl × Sl × Sl) tupI (fun l => (fl1 nm vs l).map tupI) (fun acc j => [.va (tupI nm), .va (lstV vs), .ol acc, j.1, j.2.1, j.2.2, .no]) 100000 (lnI (inPl nm vs)) [] (.no, .no, .no) ?_ ?_
    · rw [len_flatMap_const _ _ 4 fun l _ => by rw [List.length_map]; rfl]; simp; omega
    · intro l hlm acc j hB
      obtain ⟨l1, l2⟩ := HV l hlm
      have q1 := G_cross_eq nm l hnm l1 wn l2 (by omega) (by omega)
      have q2 := cross_bv hnm l1 wn l2
      have mid : ∃ j' : Sl × Sl, forD (gN 4) b_flat_arrows_2 ((bw2 (crossI nm l)).map tupI) [.va (tupI nm), .va (lstV vs), .ol acc, .va (tupI l), j.2.1, j.2.2, .no] = some (.nx [.va (tupI nm), .va (lstV vs), .ol (acc ++ (bw2 (crossI nm l)).flatMap fun b => ((bw2 l).map fun t => fbI b t vs).map tupI), .va (tupI l), j'.1, j'.2, .no]) := by
        refine forD_acc (J := Sl × Sl) tupI (fun b => ((bw2 l).map fun t => fbI b t vs).map tupI) (fun acc j => [.va (tupI nm), .va (lstV vs), .ol acc, .va (tupI l), j.1, j.2, .no]) 100000 (bw2 (crossI nm l)) acc (j.2.1, j.2.2) ?_ ?_
        · show acc.length + 4 ≤ 100000
          have : acc.length + 4 ≤ 100000 := hB
          omega
        · intro b hb acc j hB
          obtain ⟨b1, b2⟩ := bw2_mem hb rfl q2
          have inn : ∃ j' : Sl, forD (gN 5) b_flat_arrows_1 ((bw2 l).map tupI) [.va (tupI nm), .va (lstV vs), .ol acc, .va (tupI l), .va (tupI b), j.2, .no] = some (.nx [.va (tupI nm), .va (lstV vs), .ol (acc ++ (bw2 l).flatMap fun t => [tupI (fbI b t vs)]), .va (tupI l), .va (tupI b), j', .no]) := by
            refine forD_acc (J := Sl) tupI (fun t => [tupI (fbI b t vs)]) (fun acc j => [.va (tupI nm), .va (lstV vs), .ol acc, .va (tupI l), .va (tupI b), j, .no]) 100000 (bw2 l) acc j.2 ?_ ?_
            · show acc.length + 2 ≤ 100000
              have : acc.length + 2 ≤ 100000 := hB
              omega
            · intro t ht acc j hB
              obtain ⟨t1, t2⟩ := bw2_mem ht l1 l2
              refine ⟨_, .va (tupI t), gN_of, ?_⟩
              have hB : acc.length + 1 ≤ 100000 := hB
              refine sApp_of rfl ?_ (by unfold lim; omega)
              exact eCall_of (aCons_of (eVar_of rfl) (aCons_of (eVar_of rfl) (aCons_of (eVar_of rfl) aNil_of))) (G_first_by_eq (n := 3) b1 t1 (by omega) b2 t2 hv hne (by omega) (by omega))
          obtain ⟨j', e⟩ := inn
          refine ⟨_, (.va (tupI b), j'), gN_of, ?_⟩
          rw [flatMap_single] at e
          have e' : ((bw2 l).map fun t => fbI b t vs).map tupI = (bw2 l).map fun t => tupI (fbI b t vs) := by rw [List.map_map]; rfl
          rw [e']
          exact sFor_of (iA_tupV (eCall_of (aCons_of (eVar_of rfl) aNil_of) (G_both_eq l))) e
      obtain ⟨j', e⟩ := mid
      refine ⟨_, (.va (tupI l), j'.1, j'.2), gN_of, ?_⟩
      rw [flatMap_map_tupI] at e
      exact sFor_of (iA_tupV (eCall_of (aCons_of (eCall_of (aCons_of (eVar_of rfl) (aCons_of (eVar_of rfl) aNil_of)) q1) aNil_of) (G_both_eq (crossI nm l)))) e
  obtain ⟨j', e⟩ := big
  refine sSeq_nx (sFor_of (iA_lstV (eCall_of (aCons_of ?_ aNil_of) (G_lines_eq (n := 3) (by omega) (inPl_vsz (nm := nm) hv) hk (by omega)))) e) ?_
  · refine (eLc_fil (l := vs) (c := tupI) (p := fun v => decide (dotI nm v = 0)) (g := tupI) (iA_lstV (eVar_of rfl)) (fun v hv2 => ?_) (fun v hv2 _ => eVar_of rfl)).trans rfl
    obtain ⟨h1, h2⟩ := hv v hv2
    refine eT_of (eOp_of (eCall_of (aCons_of (eVar_of rfl) (aCons_of (eVar_of rfl) aNil_of)) (G_dot_eq (hnm.trans h1.symm) (by omega) wn h2 (by omega) (by omega))) eC_of eqD_int)
  · rw [flatMap_map_tupI]
    exact sFz_of (sRet_of (eVar_of rfl))
/-! ### space_arrows -/
def prs (L : List (List Int)) : List (List Int) := (upto L.length).flatMap fun (k : Nat) => (upto k).map fun (j : Nat) => crossI (gv L k) (gv L j)
theorem lnK_app (a b : List (List Int)) (ks : List (List Int × D)) : lnK (a ++ b) ks = lnK b (lnK a ks) := by unfold lnK; rw [List.foldl_append]
theorem lnK_len (a : List (List Int)) (ks : List (List Int × D)) : (lnK a ks).length ≤ ks.length + a.length := by
  induction a generalizing ks with
  | nil => simp [lnK]
  | cons v a ih =>
    rw [show v :: a = [v] ++ a from rfl, lnK_app]
    have h1 := ih (lnK [v] ks)
    have h2 : (lnK [v] ks).length ≤ ks.length + 1 := by
      unfold lnK; rw [List.foldl_cons, List.foldl_nil]
      split
      · exact putT_len _ _ _
      · omega
    rw [List.length_append]
    simp only [List.length_cons, List.length_nil]
    omega
theorem mem_prs {L : List (List Int)} {v : List Int} : v ∈ prs L ↔ ∃ k j : Nat, j < k ∧ k < L.length ∧ v = crossI (gv L k) (gv L j) := by
  unfold prs
  rw [List.mem_flatMap]
  constructor
  · rintro ⟨k, hk, hv⟩
    obtain ⟨j, hj, rfl⟩ := List.mem_map.mp hv
    exact ⟨k, j, mem_upto.mp hj, mem_upto.mp hk, rfl⟩
  · rintro ⟨k, j, h1, h2, rfl⟩
    exact ⟨k, mem_upto.mpr h2, List.mem_map.mpr ⟨j, mem_upto.mpr h1, rfl⟩⟩
abbrev Rest : Type := Sl × Sl
/-- the loops that fill the dict -/
theorem space_fill {V : D} {L : List (List Int)} {k : Nat} (hL : vsz 3 k L) (hk : k ≤ 3000) (hlen : L.length ≤ 60) (hz : ∀ v ∈ prs L, nzL v) : ∃ j3 j4 : Sl, forD (gN 3) b_space_arrows_2 ((upto L.length).map fun k : Nat => D.int (k : Int)) [.va V, .va (lstV L), .oT [], .no, .no, .no, .no, .no, .no, .no, .no]
    = some (.nx [.va V, .va (lstV L), .oT (lnK (prs L) []), j3, j4, .no, .no, .no, .no, .no, .no]) := by
  have key : ∀ (l : List Nat) (ks : List (List Int × D)) (j3 j4 : Sl), (∀ a ∈ l, a < L.length) → ks.length + l.length * 60 ≤ 5000 → ∃ j3' j4' : Sl, forD (gN 3) b_space_arrows_2 (l.map fun k : Nat => D.int (k : Int)) [.va V, .va (lstV L), .oT ks, j3, j4, .no, .no, .no, .no, .no, .no]
      = some (.nx [.va V, .va (lstV L), .oT (lnK (l.flatMap fun (k : Nat) => (upto k).map fun (j : Nat) => crossI (gv L k) (gv L j)) ks), j3', j4', .no, .no, .no, .no, .no, .no]) := by
    intro l
    induction l with
    | nil => intro ks j3 j4 _ _; exact ⟨j3, j4, rfl⟩
    | cons a l ih =>
      intro ks j3 j4 hl hB
      have ha := hl a List.mem_cons_self
      have inn : ∀ (m : List Nat) (ks : List (List Int × D)) (j4 : Sl), (∀ b ∈ m, b < a) → ks.length + m.length ≤ 5000 → ∃ j4' : Sl, forD (gN 4) b_space_arrows_1 (m.map fun k : Nat => D.int (k : Int)) [.va V, .va (lstV L), .oT ks, .va (.int a), j4, .no, .no, .no, .no, .no, .no]
          = some (.nx [.va V, .va (lstV L), .oT (lnK (m.map fun (j : Nat) => crossI (gv L a) (gv L j)) ks), .va (.int a), j4', .no, .no, .no, .no, .no, .no]) := by
        intro m
        induction m with
        | nil => intro ks j4 _ _; exact ⟨j4, rfl⟩
        | cons b m ihm =>
          intro ks j4 hm hB
          have hb := hm b List.mem_cons_self
          rw [List.length_cons] at hB
          have hnz : nzL (crossI (gv L a) (gv L b)) := hz _ (mem_prs.mpr ⟨a, b, hb, ha, rfl⟩)
          have e : lnK ((b :: m).map fun (j : Nat) => crossI (gv L a) (gv L j)) ks = lnK (m.map fun (j : Nat) => crossI (gv L a) (gv L j)) (putT ks (upI (crossI (gv L a) (gv L b))) (.bl true)) := by
            rw [List.map_cons]; unfold lnK; rw [List.foldl_cons, if_pos hnz]
          rw [e, List.map_cons]
          have := putT_len ks (upI (crossI (gv L a) (gv L b))) (.bl true)
          obtain ⟨j4', ih2⟩ := ihm (putT ks (upI (crossI (gv L a) (gv L b))) (.bl true)) (.va (.int b)) (fun c hc => hm c (List.mem_cons_of_mem _ hc)) (by omega)
          refine ⟨j4', forD_nx gN_of ?_ ih2⟩
          obtain ⟨a1, a2⟩ := hL _ (gv_mem (v := L) (i := a) (by omega) (by omega))
          obtain ⟨b1, b2⟩ := hL _ (gv_mem (v := L) (i := b) (by omega) (by omega))
          refine sPutT_of rfl eC_of (eCall_of (aCons_of (eCall_of (aCons_of (eOp_of (eVar_of rfl) (eVar_of rfl) (ixD_lstV (by omega) (by omega))) (aCons_of (eOp_of (eVar_of rfl) (eVar_of rfl) (ixD_lstV (by omega) (by omega))) aNil_of)) (G_cross_eq _ _ a1 b1 a2 b2 (by omega) (by omega))) aNil_of) (G_upright_eq hnz (cross_bv a1 b1 a2 b2) (by omega))) (by unfold lim; omega)
      rw [List.length_cons] at hB
      have hu : (upto a).length = a := by unfold upto; rw [List.length_range]
      obtain ⟨j4', e1⟩ := inn (upto a) ks j4 (fun b hb => mem_upto.mp hb) (by omega)
      have hlen2 := lnK_len ((upto a).map fun (j : Nat) => crossI (gv L a) (gv L j)) ks
      rw [List.length_map, hu] at hlen2
      obtain ⟨j3', j4'', e2⟩ := ih (lnK ((upto a).map fun (j : Nat) => crossI (gv L a) (gv L j)) ks) (.va (.int a)) j4' (fun c hc => hl c (List.mem_cons_of_mem _ hc)) (by omega)
      refine ⟨j3', j4'', ?_⟩
      rw [List.flatMap_cons, lnK_app, List.map_cons]
      exact forD_nx gN_of (sFor_of (iR1_of (eVar_of rfl) (by unfold lim; omega)) e1) e2
  have hu : (upto L.length).length = L.length := by unfold upto; rw [List.length_range]
  exact key (upto L.length) [] .no .no (fun a ha => mem_upto.mp ha) (by simp; omega)
noncomputable def nrI (vs : List (List Int)) : List (List Int) := lnI (prs (lnI vs))
noncomputable def spc2 (vs : List (List Int)) (nm : List Int) : List (List Int) := (fltI nm vs).flatMap fun t => (bw2 nm).map fun b => fbI b t vs
open Classical in
noncomputable def spcI (vs : List (List Int)) : List (List Int) := if nrI vs = [] then (lnI vs).flatMap bw2 else (nrI vs).flatMap (spc2 vs)
theorem lnI_nil {vs : List (List Int)} : lnI vs = [] ↔ lnK vs [] = [] := by
  unfold lnI
  constructor
  · intro h
    have := (sortT_perm ((lnK vs []).map (·.1))).length_eq
    rw [h, List.length_map] at this
    exact List.length_eq_zero_iff.mp this.symm
  · intro h; rw [h]; unfold sortT; simp
theorem prs_len {L : List (List Int)} (h : L.length ≤ 60) : (prs L).length ≤ 3600 := by
  unfold prs
  have : ∀ l : List Nat, (∀ a ∈ l, a ≤ 60) → (l.flatMap fun (k : Nat) => (upto k).map fun (j : Nat) => crossI (gv L k) (gv L j)).length ≤ l.length * 60 := by
    intro l
    induction l with
    | nil => intro _; simp
    | cons a l ih =>
      intro hl
      have h1 := ih fun b hb => hl b (List.mem_cons_of_mem _ hb)
      have h2 := hl a List.mem_cons_self
      rw [List.flatMap_cons, List.length_append, List.length_map, List.length_cons, Nat.succ_mul]
      unfold upto at *
      rw [List.length_range]
      omega
  have h2 := this (upto L.length) fun a ha => by have := mem_upto.mp ha; omega
  have hu : (upto L.length).length = L.length := by unfold upto; rw [List.length_range]
  rw [hu] at h2
  omega
end M

namespace M
open PySem L2 DL W
/-! ### two lines are not parallel -/
theorem cross_nz {u w : List Int} (hu : u.length = 3) (hw : w.length = 3) (pu : posL u) (pw : posL w) (qu : prim u) (qw : prim w) (hne : u ≠ w) : nzL (crossI u w) := by
  match u, hu with
  | [a, b, c], _ =>
  match w, hw with
  | [x, y, z], _ =>
  apply Classical.byContradiction
  intro hn
  have hz : ∀ t ∈ crossI [a, b, c] [x, y, z], t = 0 := fun t ht => Classical.byContradiction fun h => hn ⟨t, ht, h⟩
  have h1 : b * z - c * y = 0 := hz _ (by simp [crossI, gt])
  have h2 : c * x - a * z = 0 := hz _ (by simp [crossI, gt])
  have h3 : a * y - b * x = 0 := hz _ (by simp [crossI, gt])
  have D1 : ∀ i j : Int × Int, i ∈ [(a, x), (b, y), (c, z)] → j ∈ [(a, x), (b, y), (c, z)] → i.1 * j.2 = j.1 * i.2 := by
    intro i j hi hj
    simp only [List.mem_cons, List.not_mem_nil, or_false] at hi hj
    rcases hi with rfl | rfl | rfl <;> rcases hj with rfl | rfl | rfl <;> simp only [] <;> grind
  have key : ∀ i : Int × Int, i ∈ [(a, x), (b, y), (c, z)] → i.1.natAbs = i.2.natAbs := by
    intro i hi
    refine Nat.dvd_antisymm (Int.natAbs_dvd_natAbs.mpr (qu i.1 i.2 fun t ht => ?_)) (Int.natAbs_dvd_natAbs.mpr (qw i.2 i.1 fun t ht => ?_))
    · simp only [List.mem_cons, List.not_mem_nil, or_false] at ht
      rcases ht with rfl | rfl | rfl
      · exact ⟨x, (D1 i (t, x) hi (by simp)).symm⟩
      · exact ⟨y, (D1 i (t, y) hi (by simp)).symm⟩
      · exact ⟨z, (D1 i (t, z) hi (by simp)).symm⟩
    · simp only [List.mem_cons, List.not_mem_nil, or_false] at ht
      rcases ht with rfl | rfl | rfl
      · exact ⟨a, by have := D1 (a, t) i (by simp) hi; simp only [] at this; grind⟩
      · exact ⟨b, by have := D1 (b, t) i (by simp) hi; simp only [] at this; grind⟩
      · exact ⟨c, by have := D1 (c, t) i (by simp) hi; simp only [] at this; grind⟩
  have k1 : a.natAbs = x.natAbs := key (a, x) (by simp)
  have k2 : b.natAbs = y.natAbs := key (b, y) (by simp)
  have k3 : c.natAbs = z.natAbs := key (c, z) (by simp)
  have pu' : 0 < a ∨ (a = 0 ∧ (0 < b ∨ (b = 0 ∧ (0 < c ∨ (c = 0 ∧ False))))) := pu
  have pw' : 0 < x ∨ (x = 0 ∧ (0 < y ∨ (y = 0 ∧ (0 < z ∨ (z = 0 ∧ False))))) := pw
  apply hne
  have can : ∀ p q r : Int, 0 < p → p * q = p * r → q = r := fun p q r hp h => Int.eq_of_mul_eq_mul_left (by omega) h
  rcases pu' with h | ⟨h, h' | ⟨h', h'' | ⟨_, hf⟩⟩⟩
  · have : x = a := by omega
    subst this
    have e1 : y = b := can x y b h (by grind)
    have e2 : z = c := can x z c h (by grind)
    rw [e1, e2]
  · have e0 : x = 0 := by omega
    have : y = b := by omega
    subst this
    have e2 : z = c := can y z c h' (by grind)
    rw [e0, h, e2]
  · have e0 : x = 0 := by omega
    have e1 : y = 0 := by omega
    have : z = c := by omega
    rw [e0, e1, this, h, h']
  · exact hf.elim
theorem ln_at {n k : Nat} {vs : List (List Int)} (hv : vsz n k vs) {u : List Int} (hu : u ∈ lnI vs) : u.length = n ∧ bv k u ∧ posL u ∧ prim u := by
  obtain ⟨v, hv1, hz, rfl⟩ := lnI_mem.mp hu
  obtain ⟨h1, h2⟩ := hv v hv1
  obtain ⟨e1, e2, e3, e4, _⟩ := upI_spec hz h2
  exact ⟨e1.trans h1, e4, e2, e3⟩
theorem gv_inj {L : List (List Int)} (h : L.Nodup) {k j : Nat} (hk : k < L.length) (hj : j < L.length) (e : gv L k = gv L j) : k = j := by
  have a := gv_get (v := L) (i := k) (by omega) (by omega)
  have b := gv_get (v := L) (i := j) (by omega) (by omega)
  rw [e] at a
  rw [Int.toNat_natCast] at a b
  exact (List.getElem?_inj hk h).mp (a.trans b.symm)
theorem prs_nz {k : Nat} {vs : List (List Int)} (hv : vsz 3 k vs) : ∀ v ∈ prs (lnI vs), nzL v := fun v hv2 => by
  obtain ⟨a, b, h1, h2, rfl⟩ := mem_prs.mp hv2
  obtain ⟨a1, a2, a3, a4⟩ := ln_at hv (gv_mem (v := lnI vs) (i := a) (by omega) (by omega))
  obtain ⟨b1, b2, b3, b4⟩ := ln_at hv (gv_mem (v := lnI vs) (i := b) (by omega) (by omega))
  refine cross_nz a1 b1 a3 b3 a4 b4 fun e => ?_
  have := gv_inj (lnI_nodup vs) h2 (by omega) e
  omega
theorem prs_vsz {k : Nat} {L : List (List Int)} (hL : vsz 3 k L) : vsz 3 (k + k + 1) (prs L) := fun v hv => by
  obtain ⟨a, b, h1, h2, rfl⟩ := mem_prs.mp hv
  obtain ⟨a1, a2⟩ := hL _ (gv_mem (v := L) (i := a) (by omega) (by omega))
  obtain ⟨b1, b2⟩ := hL _ (gv_mem (v := L) (i := b) (by omega) (by omega))
  exact ⟨rfl, cross_bv a1 b1 a2 b2⟩
theorem fl_mem {nm : List Int} {p k : Nat} {vs : List (List Int)} (hnm : nm.length = 3) (wn : bv p nm) (hv : vsz 3 k vs) (hne : vs ≠ []) {t : List Int} (h : t ∈ fltI nm vs) : t.length = 3 ∧ bv (p + 3 * k + 13) t := by
  obtain ⟨l, hl, ht⟩ := List.mem_flatMap.mp h
  obtain ⟨l1, l2⟩ := lnI_vsz (inPl_vsz (nm := nm) hv) l hl
  obtain ⟨b, hb, ht⟩ := List.mem_flatMap.mp ht
  obtain ⟨u, hu, rfl⟩ := List.mem_map.mp ht
  obtain ⟨b1, b2⟩ := bw2_mem (n := 3) hb rfl (cross_bv hnm l1 wn l2)
  obtain ⟨u1, u2⟩ := bw2_mem hu l1 l2
  exact ⟨(fb_len _ _ _).trans b1, (fb_bv b1 u1 (by omega) b2 u2 hv hne).mono (by omega)⟩
theorem fl_len {nm : List Int} {vs : List (List Int)} : (fltI nm vs).length ≤ 4 * vs.length := by
  unfold fltI
  rw [len_flatMap_const _ _ 4 fun l _ => rfl]
  have := lnI_len (inPl nm vs)
  have := List.length_filter_le (fun v => decide (dotI nm v = 0)) vs
  unfold inPl at *
  omega
theorem len_flatMap_le {α β : Type} (l : List α) (f : α → List β) (c : Nat) (h : ∀ x ∈ l, (f x).length ≤ c) : (l.flatMap f).length ≤ l.length * c := by
  induction l with
  | nil => simp
  | cons x l ih =>
    have h1 := h x List.mem_cons_self
    have h2 := ih fun y hy => h y (List.mem_cons_of_mem _ hy)
    rw [List.flatMap_cons, List.length_append, List.length_cons, Nat.succ_mul]; omega
theorem spc2_len {nm : List Int} {vs : List (List Int)} : (spc2 vs nm).length ≤ 8 * vs.length := by
  unfold spc2
  rw [len_flatMap_const _ _ 2 fun l _ => rfl]
  have := fl_len (nm := nm) (vs := vs)
  omega
theorem G_space_eq {vs : List (List Int)} {k : Nat} (hv : vsz 3 k vs) (hne : vs ≠ []) (hk : k ≤ 700) (hl : vs.length ≤ 16) : G_space_arrows [lstV vs] = some (lstV (spcI vs)) := by
  have HL := lnI_len vs
  have HV := lnI_vsz hv
  have NV := lnI_vsz (prs_vsz HV)
  have NL := lnI_len (prs (lnI vs))
  have PL := prs_len (L := lnI vs) (by omega)
  have PL2 : (prs (lnI vs)).length ≤ 256 := by
    unfold prs
    have := len_flatMap_le (upto (lnI vs).length) (fun (k : Nat) => (upto k).map fun (j : Nat) => crossI (gv (lnI vs) k) (gv (lnI vs) j)) 16 fun a ha => by
      have := mem_upto.mp ha
      rw [List.length_map]; unfold upto; rw [List.length_range]; omega
    have hu : (upto (lnI vs).length).length = (lnI vs).length := by unfold upto; rw [List.length_range]
    rw [hu] at this
    omega
  unfold G_space_arrows b_space_arrows N_space_arrows
  refine run_of ?_
  refine sSeq_set (d := lstV (lnI vs)) (eCall_of (aCons_of (eVar_of rfl) aNil_of) (G_lines_eq (by omega) hv (by omega) (by omega))) ?_
  refine sSeq_own (s := .oT []) rfl ?_
  obtain ⟨j3, j4, ef⟩ := space_fill (V := lstV vs) HV (by omega) (by omega) (prs_nz hv)
  refine sSeq_nx (sFor_of (iR1_of (eCall_of (aCons_of (eVar_of rfl) aNil_of) (lenG_lstV _)) (by unfold lim; omega)) ef) ?_
  unfold spcI
  by_cases hz : nrI vs = []
  · rw [if_pos hz]
    have hz2 : lnK (prs (lnI vs)) [] = [] := lnI_nil.mp hz
    rw [hz2]
    refine sSeq_rt (sFz_of (sIf_t (eT_of (eOp_of (eCall_of (aCons_of (eVar_of rfl) aNil_of) (show lenG [.dT []] = some (.int 0) from rfl)) eC_of eqD_int)) (sRet_of ?_)))
    refine (eLc2_all (l := lnI vs) (c := tupI) (l1 := bw2) (c1 := fun _ => tupI) (g := fun _ => tupI) (iA_lstV (eVar_of rfl)) (fun x hx => iA_tupV (eCall_of (aCons_of (eVar_of rfl) aNil_of) (G_both_eq x))) (fun x hx y hy => eVar_of rfl) ?_).trans ?_
    · rw [len_flatMap_const _ _ 2 fun l _ => rfl]; unfold lim; omega
    · rw [flatMap_map_tupI]; rfl
  · rw [if_neg hz]
    have hz2 : lnK (prs (lnI vs)) [] ≠ [] := fun z => hz (lnI_nil.mpr z)
    have hlen : ((lnK (prs (lnI vs)) []).length : Int) ≠ 0 := by
      intro z
      exact hz2 (List.length_eq_zero_iff.mp (by exact_mod_cast z))
    refine sSeq_nx (sFz_of (sIf_f (eT_of (eOp_of (eCall_of (aCons_of (eVar_of rfl) aNil_of) (show lenG [.dT (lnK (prs (lnI vs)) [])] = some (.int (lnK (prs (lnI vs)) []).length) from rfl)) eC_of (eqD_int.trans (by rw [decide_eq_false hlen])))) rfl)) ?_
    refine sSeq_own (s := .ol []) rfl ?_
    have big : ∃ j' : Sl × Sl × Sl, forD (gN 6) b_space_arrows_5 ((nrI vs).map tupI) [.va (lstV vs), .va (lstV (lnI vs)), .va (.dT (lnK (prs (lnI vs)) [])), j3, j4, .ol [], .no, .no, .no, .no, .no]
        = some (.nx [.va (lstV vs), .va (lstV (lnI vs)), .va (.dT (lnK (prs (lnI vs)) [])), j3, j4, .ol ([] ++ (nrI vs).flatMap fun nm => (spc2 vs nm).map tupI), j'.1, j'.2.1, j'.2.2, .no, .no]) := by
      refine forD_acc (J := Sl × Sl × Sl) tupI (fun nm => (spc2 vs nm).map tupI) (fun acc j => [.va (lstV vs), .va (lstV (lnI vs)), .va (.dT (lnK (prs (lnI vs)) [])), j3, j4, .ol acc, j.1, j.2.1, j.2.2, .no, .no]) 100000 (nrI vs) [] (.no, .no, .no) ?_ ?_
      · have := len_flatMap_le (nrI vs) (fun nm => (spc2 vs nm).map tupI) (8 * vs.length) fun nm _ => by rw [List.length_map]; exact spc2_len
        have h2 : (nrI vs).length ≤ 256 := by unfold nrI; omega
        have h3 := Nat.mul_le_mul h2 (show 8 * vs.length ≤ 128 by omega)
        simp only [List.length_nil]
        omega
      · intro nm hnm acc j hB
        obtain ⟨n1, n2⟩ := NV nm hnm
        have mid : ∃ j' : Sl × Sl, forD (gN 7) b_space_arrows_4 ((fltI nm vs).map tupI) [.va (lstV vs), .va (lstV (lnI vs)), .va (.dT (lnK (prs (lnI vs)) [])), j3, j4, .ol acc, .va (tupI nm), j.2.1, j.2.2, .no, .no]
            = some (.nx [.va (lstV vs), .va (lstV (lnI vs)), .va (.dT (lnK (prs (lnI vs)) [])), j3, j4, .ol (acc ++ (fltI nm vs).flatMap fun t => ((bw2 nm).map fun b => fbI b t vs).map tupI), .va (tupI nm), j'.1, j'.2, .no, .no]) := by
          refine forD_acc (J := Sl × Sl) tupI (fun t => ((bw2 nm).map fun b => fbI b t vs).map tupI) (fun acc j => [.va (lstV vs), .va (lstV (lnI vs)), .va (.dT (lnK (prs (lnI vs)) [])), j3, j4, .ol acc, .va (tupI nm), j.1, j.2, .no, .no]) 100000 (fltI nm vs) acc (j.2.1, j.2.2) ?_ ?_
          · have hB2 : acc.length + ((spc2 vs nm).map tupI).length ≤ 100000 := hB
            rw [flatMap_map_tupI]
            exact hB2
          · intro t ht acc j hB
            obtain ⟨t1, t2⟩ := fl_mem n1 n2 hv hne ht
            have inn : ∃ j' : Sl, forD (gN 8) b_space_arrows_3 ((bw2 nm).map tupI) [.va (lstV vs), .va (lstV (lnI vs)), .va (.dT (lnK (prs (lnI vs)) [])), j3, j4, .ol acc, .va (tupI nm), .va (tupI t), j.2, .no, .no]
                = some (.nx [.va (lstV vs), .va (lstV (lnI vs)), .va (.dT (lnK (prs (lnI vs)) [])), j3, j4, .ol (acc ++ (bw2 nm).flatMap fun b => [tupI (fbI b t vs)]), .va (tupI nm), .va (tupI t), j', .no, .no]) := by
              refine forD_acc (J := Sl) tupI (fun b => [tupI (fbI b t vs)]) (fun acc j => [.va (lstV vs), .va (lstV (lnI vs)), .va (.dT (lnK (prs (lnI vs)) [])), j3, j4, .ol acc, .va (tupI nm), .va (tupI t), j, .no, .no]) 100000 (bw2 nm) acc j.2 ?_ ?_
              · show acc.length + 2 ≤ 100000
                have : acc.length + 2 ≤ 100000 := hB
                omega
              · intro b hb acc j hB
                obtain ⟨b1, b2⟩ := bw2_mem hb n1 n2
                refine ⟨_, .va (tupI b), gN_of, ?_⟩
                have hB : acc.length + 1 ≤ 100000 := hB
                refine sApp_of rfl ?_ (by unfold lim; omega)
                exact eCall_of (aCons_of (eVar_of rfl) (aCons_of (eVar_of rfl) (aCons_of (eVar_of rfl) aNil_of))) (G_first_by_eq (n := 3) b1 t1 (by omega) b2 t2 hv hne (by omega) (by omega))
            obtain ⟨j', e⟩ := inn
            refine ⟨_, (.va (tupI t), j'), gN_of, ?_⟩
            rw [flatMap_single] at e
            have e' : ((bw2 nm).map fun b => fbI b t vs).map tupI = (bw2 nm).map fun b => tupI (fbI b t vs) := by rw [List.map_map]; rfl
            rw [e']
            exact sFor_of (iA_tupV (eCall_of (aCons_of (eVar_of rfl) aNil_of) (G_both_eq nm))) e
        obtain ⟨j', e⟩ := mid
        refine ⟨_, (.va (tupI nm), j'.1, j'.2), gN_of, ?_⟩
        rw [flatMap_map_tupI] at e
        exact sFor_of (iA_lstV (eCall_of (aCons_of (eVar_of rfl) (aCons_of (eVar_of rfl) aNil_of)) (G_flat_eq n1 n2 (by omega) hv hne (by omega) (by omega)))) e
    obtain ⟨j', e⟩ := big
    rw [flatMap_map_tupI] at e
    refine sSeq_nx (sFz_of (sFor_of (iA_lstV (v := nrI vs) (eCall_of (aCons_of (eCall_of (aCons_of (eVar_of rfl) aNil_of) (keys_lstV _)) aNil_of) ?_)) e)) (sFz_of (sRet_of (eVar_of rfl)))
    refine sortedG_lstV fun v hv2 => ?_
    obtain ⟨w, hw, hz3, rfl⟩ := (((lnK_spec (n := 0) (k := 0) (prs (lnI vs)) [] List.nodup_nil).2.1 v).mp hv2).resolve_left (fun z => nomatch z)
    obtain ⟨h1, h2⟩ := prs_vsz HV w hw
    obtain ⟨e1, _⟩ := upI_spec hz3 h2
    intro z
    rw [z] at e1
    simp at e1
    omega
end M

namespace M
open PySem L2 DL W
local macro_rules | `(tactic| and_intros) => `(tactic| (repeat (first | first
      | (with_reducible first
      | apply (sSeq_set)
      | apply sSeq_own
      | apply sSeq_asg
      | apply sSet_of
      | apply sRet_of
      | apply sFz_of
      | apply sAsg_of
      | apply eOp_of
      | apply eU_of
      | apply eCall_of
      | apply aCons_of
      | exact aNil_of
      | exact bYes_of
      | exact eC_of
      | exact gN_of
      | apply eTup_of2
      | apply eLst_of2
      | apply fLst_of2
      | apply eT_of
      | apply bNot_of
      | apply eIsi_of2
      | exact subD_of
      | exact addD_int
      | exact negD_int
      | exact notD_bl
      | exact intG_int
      | exact intG_bl
      | exact absG_int
      | exact gcdG_int
      | exact ltD_of
      | exact leD_of
      | exact gtD_of
      | exact geD_of
      | exact eqD_int
      | exact neD_int
      | exact lenG_tupI _
      | exact lenG_lstI _
      | exact lenG_tupV _
      | exact lenG_lstV _)
      | exact ixD_tupI (by omega) (by omega)
      | exact ixD_lstI (by omega) (by omega)
      | exact ixD_tupV (by omega) (by omega)
      | exact ixD_lstV (by omega) (by omega)
      | exact eVar_of rfl
      | apply eTup_of2
      | apply aCons_of
      | (with_unfolding_all exact subD_of)
      | exact Eq.refl true
      | simp only [setS, wipeD, startD, fzD, ofS, List.foldr_cons, List.foldr_nil, List.map_cons, List.map_nil, List.length_cons, List.length_nil, List.replicate_succ, List.replicate_zero, List.cons_append, List.nil_append, Nat.reduceAdd, Nat.reduceSub, List.getElem?_cons_zero, List.getElem?_cons_succ, List.set_cons_zero, List.set_cons_succ])))
noncomputable def cutI (n : Nat) (vs : List (List Int)) : List (List Int) := if n = 1 then [[1], [-1]] else if n = 2 then plnI vs else spcI vs
theorem gv_len {n k : Nat} {vs : List (List Int)} (hv : vsz n k vs) (hne : vs ≠ []) : (gv vs 0).length = n := by
  have := List.length_pos_iff.mpr hne
  exact (hv _ (gv_mem (v := vs) (i := 0) (by omega) (by omega))).1
theorem G_cut_eq {n k : Nat} {vs : List (List Int)} (hn : n = 1 ∨ n = 2 ∨ n = 3) (hv : vsz n k vs) (hne : vs ≠ []) (hk : k ≤ 700) (hl : vs.length ≤ 16) : G_cutting_arrows [lstV vs] = some (lstV (cutI n vs)) := by
  have hp := List.length_pos_iff.mpr hne
  have hg := gv_len hv hne
  unfold G_cutting_arrows b_cutting_arrows N_cutting_arrows
  refine run_of ?_
  refine sSeq_set (d := .int (n : Int)) (eCall_of (aCons_of (eOp_of (eVar_of rfl) eC_of (ixD_lstV (by omega) (by omega))) aNil_of) (by rw [lenG_tupI, hg])) ?_
  have T : ∀ m : Int, eT (eOp eqD (eVar 1) (eC (D.int m))) (setS (startD [Str.ofString "vectors", Str.ofString "size"] [lstV vs]) 1 (Sl.va (D.int n))) = some (decide ((n : Int) = m)) := fun m => eT_of (eOp_of (eVar_of rfl) eC_of eqD_int)
  rcases hn with rfl | rfl | rfl
  · refine sSeq_rt (sIf_t (T 1) (sRet_of ?_))
    show _ = some (D.lst [D.tup [.int 1], D.tup [.int (-1)]])
    and_intros
  · refine sSeq_nx (sIf_f (T 1) rfl) (sSeq_rt (sIf_t (T 2) (sRet_of ?_)))
    exact eCall_of (aCons_of (eVar_of rfl) aNil_of) (G_plane_eq hv hne (by omega) (by omega))
  · refine sSeq_nx (sIf_f (T 1) rfl) (sSeq_nx (sIf_f (T 2) rfl) (sRet_of ?_))
    exact eCall_of (aCons_of (eVar_of rfl) aNil_of) (G_space_eq hv hne (by omega) (by omega))
theorem cut_mem {n k : Nat} {vs : List (List Int)} (hn : n = 1 ∨ n = 2 ∨ n = 3) (hv : vsz n k vs) (hne : vs ≠ []) {a : List Int} (h : a ∈ cutI n vs) : a.length = n ∧ bv (8 * k + 40) a := by
  unfold cutI at h
  rcases hn with rfl | rfl | rfl
  · rw [if_pos rfl] at h
    rcases List.mem_cons.mp h with rfl | h
    · exact ⟨rfl, fun x hx => by rw [List.mem_singleton] at hx; subst hx; exact Nat.one_lt_two_pow (by omega)⟩
    · rw [List.mem_singleton] at h; subst h
      exact ⟨rfl, fun x hx => by rw [List.mem_singleton] at hx; subst hx; exact Nat.one_lt_two_pow (by omega)⟩
  · rw [if_neg (by omega), if_pos rfl] at h
    obtain ⟨l, hl, ht⟩ := List.mem_flatMap.mp h
    obtain ⟨l1, l2⟩ := lnI_vsz hv l hl
    obtain ⟨b, hb, ht⟩ := List.mem_flatMap.mp ht
    obtain ⟨u, hu, rfl⟩ := List.mem_map.mp ht
    obtain ⟨b1, b2⟩ := bw2_mem (n := 2) hb rfl (qrt_bv l1 l2)
    obtain ⟨u1, u2⟩ := bw2_mem hu l1 l2
    exact ⟨(fb_len _ _ _).trans b1, (fb_bv b1 u1 (by omega) b2 u2 hv hne).mono (by omega)⟩
  · rw [if_neg (by omega), if_neg (by omega)] at h
    unfold spcI at h
    split at h
    · obtain ⟨l, hl, ht⟩ := List.mem_flatMap.mp h
      obtain ⟨l1, l2⟩ := lnI_vsz hv l hl
      obtain ⟨u1, u2⟩ := bw2_mem ht l1 l2
      exact ⟨u1, u2.mono (by omega)⟩
    · obtain ⟨nm, hnm, ht⟩ := List.mem_flatMap.mp h
      obtain ⟨n1, n2⟩ := lnI_vsz (prs_vsz (lnI_vsz hv)) nm hnm
      obtain ⟨t, ht2, hu⟩ := List.mem_flatMap.mp ht
      obtain ⟨b, hb, rfl⟩ := List.mem_map.mp hu
      obtain ⟨t1, t2⟩ := fl_mem n1 n2 hv hne ht2
      obtain ⟨b1, b2⟩ := bw2_mem hb n1 n2
      exact ⟨(fb_len _ _ _).trans b1, (fb_bv b1 t1 (by omega) b2 t2 hv hne).mono (by omega)⟩
theorem cut_len {n : Nat} {vs : List (List Int)} (hl : vs.length ≤ 16) : (cutI n vs).length ≤ 100000 := by
  have HL := lnI_len vs
  unfold cutI
  split
  · simp
  · split
    · unfold plnI
      rw [len_flatMap_const _ _ 4 fun l _ => rfl]; omega
    · unfold spcI
      split
      · rw [len_flatMap_const _ _ 2 fun l _ => rfl]; omega
      · have NL := lnI_len (prs (lnI vs))
        have PL2 := prs_len (L := lnI vs) (by omega)
        have h1 := len_flatMap_le (nrI vs) (spc2 vs) 27 
        have : (nrI vs).length ≤ 256 := by
          unfold nrI
          have := len_flatMap_le (upto (lnI vs).length) (fun (k : Nat) => (upto k).map fun (j : Nat) => crossI (gv (lnI vs) k) (gv (lnI vs) j)) 16 fun a ha => by
            have := mem_upto.mp ha
            rw [List.length_map]; unfold upto; rw [List.length_range]; omega
          have hu : (upto (lnI vs).length).length = (lnI vs).length := by unfold upto; rw [List.length_range]
          rw [hu] at this
          unfold prs at NL
          unfold prs
          omega
        have h1 := len_flatMap_le (nrI vs) (spc2 vs) 128 fun nm _ => by have := spc2_len (nm := nm) (vs := vs); omega
        omega
/-! ### weights -/
def nbI (a : List Int) (vs : List (List Int)) : List Nat := (upto vs.length).filter fun k => decide (dotI a (gv vs k) ≤ 0)
def wtI (ws : List Int) (vs : List (List Int)) (a : List Int) : Int := ((nbI a vs).map fun (k : Nat) => gt ws k).sum
theorem G_nb_eq {n k p : Nat} {vs : List (List Int)} {a : List Int} (hv : vsz n k vs) (ha : a.length = n) (hn : n ≤ 1000) (wa : bv p a) (hp : p ≤ 400000) (hk : k ≤ 400000) (hl : vs.length ≤ 1000) : G_not_beyond [tupI a, lstV vs] = some (tupI ((nbI a vs).map fun (k : Nat) => (k : Int))) := by
  unfold G_not_beyond b_not_beyond N_not_beyond
  refine run_of ?_
  refine sRet_of (eCall_of (aCons_of (eLc_fil (p := fun (k : Nat) => decide (dotI a (gv vs k) ≤ 0)) (g := fun k : Nat => D.int (k : Int)) (iR1_of (eCall_of (aCons_of (eVar_of rfl) aNil_of) (lenG_lstV vs)) (by unfold lim; omega)) (fun i hi => ?_) (fun i hi _ => eVar_of rfl)) aNil_of) (tupG_map _ _))
  have := mem_upto.mp hi
  obtain ⟨h1, h2⟩ := hv _ (gv_mem (v := vs) (i := i) (by omega) (by omega))
  exact eT_of (eOp_of (eCall_of (aCons_of (eVar_of rfl) (aCons_of (eOp_of (eVar_of rfl) (eVar_of rfl) (ixD_lstV (by omega) (by omega))) aNil_of)) (G_dot_eq (ha.trans h1.symm) (by omega) wa h2 hp hk)) eC_of leD_of)
theorem G_weight_eq {ws : List Int} {lot : List Int} (h : ∀ x ∈ lot, 0 ≤ x ∧ x < ws.length) : G_weight_of [tupI lot, tupI ws] = some (.int ((lot.map (gt ws)).sum)) := by
  unfold G_weight_of b_weight_of N_weight_of
  refine run_of ?_
  and_intros
  apply eLc_all
  · apply iA_tupI
    and_intros
  · intro x hx
    obtain ⟨h1, h2⟩ := h x hx
    and_intros
  and_intros
  exact suG_map _ _
theorem dotI_z {a w : List Int} (h : ¬ nzL a) : dotI a w = 0 := by
  unfold dotI
  have : ∀ l : List Nat, (∀ k ∈ l, k < a.length) → (l.map fun (k : Nat) => gt a k * gt w k).sum = 0 := by
    intro l
    induction l with
    | nil => intro _; rfl
    | cons k l ih =>
      intro hl
      rw [List.map_cons, List.sum_cons, ih fun j hj => hl j (List.mem_cons_of_mem _ hj)]
      have hk := hl k List.mem_cons_self
      have : gt a k = 0 := Classical.byContradiction fun z => h ⟨_, gt_mem (v := a) (i := k) (by omega) (by omega), z⟩
      rw [this, Int.zero_mul, Int.zero_add]
  exact this _ fun k hk => mem_upto.mp hk
theorem sum_gt (ws : List Int) : ((upto ws.length).map fun (k : Nat) => gt ws k).sum = ws.sum := by
  have : ((upto ws.length).map fun (k : Nat) => gt ws k) = ws := by
    apply List.ext_getElem?
    intro i
    unfold upto
    rw [List.getElem?_map]
    by_cases hi : i < ws.length
    · rw [List.getElem?_range hi]
      have := gt_get (v := ws) (i := i) (by omega) (by omega)
      rw [Int.toNat_natCast] at this
      exact this.symm
    · rw [List.getElem?_eq_none (by rw [List.length_range]; omega), List.getElem?_eq_none (by omega)]; rfl
  rw [this]
theorem wt_z {ws : List Int} {vs : List (List Int)} {a : List Int} (hl : ws.length = vs.length) (h : ∀ k : Nat, k < vs.length → dotI a (gv vs k) ≤ 0) : wtI ws vs a = ws.sum := by
  unfold wtI nbI
  rw [List.filter_eq_self.mpr fun k hk => decide_eq_true (h k (mem_upto.mp hk)), ← hl, sum_gt]
theorem wt_nz {ws : List Int} {vs : List (List Int)} {a : List Int} (hl : ws.length = vs.length) (h : wtI ws vs a < ws.sum) : nzL a := by
  apply Classical.byContradiction
  intro hz
  have := wt_z hl (a := a) fun k _ => by rw [dotI_z hz]; omega
  omega
/-! ### lightest -/
noncomputable def stI (ws : List Int) (vs : List (List Int)) (b : Int × List Int) (a : List Int) : Int × List Int := if wtI ws vs a < b.1 then (wtI ws vs a, plI a) else b
noncomputable def ligV (n : Nat) (ws : List Int) (vs : List (List Int)) : Int × List Int := (cutI n vs).foldl (stI ws vs) (ws.sum, axI n 0)
def prD (b : Int × List Int) : D := .tup [.int b.1, tupI b.2]
theorem ixD_pr0 (b : Int × List Int) : ixD (prD b) (.int 0) = some (.int b.1) := rfl
theorem ixD_pr1 (b : Int × List Int) : ixD (prD b) (.int 1) = some (tupI b.2) := rfl
theorem forD_lig {n k p : Nat} {h0 h2 : D} {ws : List Int} {vs : List (List Int)} (hv : vsz n k vs) (hn : n ≤ 3) (hl : ws.length = vs.length) (hl2 : vs.length ≤ 16) (hk : k ≤ 700) (hp : p ≤ 8000) : ∀ (as : List (List Int)) (b : Int × List Int) (j5 j6 : Sl), (∀ a ∈ as, a.length = n ∧ bv p a) → b.1 ≤ ws.sum →
    ∃ j5' j6', forD (gN 5) b_lightest_1 (as.map tupI) [.va h0, .va (tupI ws), .va h2, .va (lstV vs), .va (prD b), j5, j6, .no] = some (.nx [.va h0, .va (tupI ws), .va h2, .va (lstV vs), .va (prD (as.foldl (stI ws vs) b)), j5', j6', .no])
  | [], b, j5, j6, _, _ => ⟨j5, j6, rfl⟩
  | a :: as, b, j5, j6, ha, hb => by
    obtain ⟨a1, a2⟩ := ha a List.mem_cons_self
    have hb2 : (stI ws vs b a).1 ≤ ws.sum := by
      unfold stI; split
      · show wtI ws vs a ≤ _; omega
      · exact hb
    obtain ⟨j5', j6', ih⟩ := forD_lig (h0 := h0) (h2 := h2) hv hn hl hl2 hk hp as (stI ws vs b a) (.va (tupI a)) (.va (.int (wtI ws vs a))) (fun c hc => ha c (List.mem_cons_of_mem _ hc)) hb2
    refine ⟨j5', j6', ?_⟩
    rw [List.map_cons, List.foldl_cons]
    refine forD_nx gN_of ?_ ih
    unfold b_lightest_1
    refine sSeq_set (d := .int (wtI ws vs a)) (eCall_of (aCons_of (eCall_of (aCons_of (eVar_of rfl) (aCons_of (eVar_of rfl) aNil_of)) (G_nb_eq hv a1 (by omega) a2 (by omega) (by omega) (by omega))) (aCons_of (eVar_of rfl) aNil_of)) ?_) ?_
    · refine (G_weight_eq fun x hx => ?_).trans ?_
      · obtain ⟨i, hi, rfl⟩ := List.mem_map.mp hx
        have := mem_upto.mp (List.mem_filter.mp hi).1
        exact ⟨by omega, by omega⟩
      · rw [List.map_map]; rfl
    · have ht : eT (eOp ltD (eVar 6) (eOp ixD (eVar 4) (eC (D.int 0)))) (setS (setS [.va h0, .va (tupI ws), .va h2, .va (lstV vs), .va (prD b), j5, j6, .no] 5 (.va (tupI a))) 6 (.va (.int (wtI ws vs a)))) = some (decide (wtI ws vs a < b.1)) :=
        eT_of (eOp_of (eVar_of rfl) (eOp_of (eVar_of rfl) eC_of (ixD_pr0 b)) ltD_of)
      by_cases hw : wtI ws vs a < b.1
      · have hs : stI ws vs b a = (wtI ws vs a, plI a) := if_pos hw
        rw [hs]
        have hnz : nzL a := wt_nz hl (by omega)
        refine sIf_t (ht.trans (by rw [decide_eq_true hw])) (sSet_of (eTup_of (aCons_of (eVar_of rfl) (aCons_of (eCall_of (aCons_of (eVar_of rfl) aNil_of) (G_plain_eq (slim_of (gcdL_bw hnz a2) hp (gcdL_pos hnz)))) aNil_of)) (show 2 ≤ lim by decide)))
      · have hs : stI ws vs b a = b := if_neg hw
        rw [hs]
        exact sIf_f (ht.trans (by rw [decide_eq_false hw])) rfl
theorem G_lightest_eq {n m k : Nat} {homes : List (List Int)} {ws place : List Int} (hn : n = 1 ∨ n = 2 ∨ n = 3) (hh : vsz n m homes) (hne : homes ≠ []) (hl : ws.length = homes.length) (hl2 : homes.length ≤ 16) (hp : place.length = n + 1) (wp : bv k place) (hb : m + k + 1 ≤ 700) :
    G_lightest [tupV homes, tupI ws, tupI place] = some (prD (ligV n ws (homes.map (offI place)))) := by
  have hv : vsz n (m + k + 1) (homes.map (offI place)) := fun v hv => by
    obtain ⟨h, hm, rfl⟩ := List.mem_map.mp hv
    obtain ⟨h1, h2⟩ := hh h hm
    exact ⟨(len_off).trans h1, offI_bv (by omega) wp h2⟩
  have hpos := List.length_pos_iff.mpr hne
  have hne2 : homes.map (offI place) ≠ [] := fun z => hne (List.map_eq_nil_iff.mp z)
  unfold G_lightest b_lightest N_lightest
  refine run_of ?_
  refine sSeq_set (d := lstV (homes.map (offI place))) ?_ ?_
  · refine (eLc_all (l := homes) (c := tupI) (g := fun h => tupI (offI place h)) (iA_tupV (eVar_of rfl)) fun h hm => ?_).trans (by rw [lst_mapV])
    obtain ⟨h1, h2⟩ := hh h hm
    exact eCall_of (aCons_of (eVar_of rfl) (aCons_of (eVar_of rfl) aNil_of)) (G_offset_eq (by omega) (by omega) wp h2 (by omega) (by omega))
  · refine sSeq_set (d := prD (ws.sum, axI n 0)) ?_ ?_
    · refine eTup_of (aCons_of (eCall_of (aCons_of (eVar_of rfl) aNil_of) (suG_tupI ws)) (aCons_of (eCall_of (aCons_of (eCall_of (aCons_of (eOp_of (eVar_of rfl) eC_of (ixD_tupV (by omega) (by omega))) aNil_of) (lenG_tupI _)) (aCons_of eC_of aNil_of)) ?_) aNil_of)) (show 2 ≤ lim by decide)
      rw [gv_len hh hne]
      exact G_axis_eq (by omega)
    · obtain ⟨j5, j6, e⟩ := forD_lig (h0 := tupV homes) (h2 := tupI place) hv (by omega) (show ws.length = (homes.map (offI place)).length by rw [List.length_map]; exact hl) (show (homes.map (offI place)).length ≤ 16 by rw [List.length_map]; exact hl2) hb (p := 8 * (m + k + 1) + 40) (by omega) (cutI n (homes.map (offI place))) (ws.sum, axI n 0) .no .no (fun a ha => cut_mem hn hv hne2 ha) (by omega)
      exact sSeq_nx (sFor_of (iA_lstV (eCall_of (aCons_of (eVar_of rfl) aNil_of) (G_cut_eq hn hv hne2 hb (by rw [List.length_map]; omega)))) e) (sRet_of (eVar_of rfl))
end M

namespace Geo
theorem exists_max {α : Type} (r : α → α → Prop) : ∀ (S : List α), S ≠ [] → (∀ a ∈ S, ∀ b ∈ S, r a b ∨ r b a) → (∀ a ∈ S, ∀ b ∈ S, ∀ c ∈ S, r a b → r b c → r a c) → ∃ m ∈ S, ∀ x ∈ S, r x m
  | [], h, _, _ => absurd rfl h
  | [x], _, ht, _ => ⟨x, List.mem_cons_self, fun y hy => by
    rw [List.mem_singleton] at hy; subst hy
    rcases ht y List.mem_cons_self y List.mem_cons_self with h | h <;> exact h⟩
  | x :: y :: S, _, ht, hr => by
    obtain ⟨m, hm, hx⟩ := exists_max r (y :: S) (by simp) (fun a ha b hb => ht a (List.mem_cons_of_mem _ ha) b (List.mem_cons_of_mem _ hb)) (fun a ha b hb c hc => hr a (List.mem_cons_of_mem _ ha) b (List.mem_cons_of_mem _ hb) c (List.mem_cons_of_mem _ hc))
    have hm' := List.mem_cons_of_mem x hm
    rcases ht x List.mem_cons_self m hm' with h | h
    · exact ⟨m, hm', fun z hz => by
        rcases List.mem_cons.mp hz with rfl | hz
        · exact h
        · exact hx z hz⟩
    · refine ⟨x, List.mem_cons_self, fun z hz => ?_⟩
      rcases List.mem_cons.mp hz with rfl | hz
      · rcases ht z List.mem_cons_self z List.mem_cons_self with h | h <;> exact h
      · exact hr z (List.mem_cons_of_mem _ hz) m hm' x List.mem_cons_self (hx z hz) h
theorem frac_trans {x y z p q r : Int} (hp : 0 < p) (hq : 0 < q) (hr : 0 < r) (h1 : x * q ≤ y * p) (h2 : y * r ≤ z * q) : x * r ≤ z * p := by
  have a := Int.mul_le_mul_of_nonneg_right h1 (Int.le_of_lt hr)
  have b := Int.mul_le_mul_of_nonneg_right h2 (Int.le_of_lt hp)
  have c : (x * r) * q ≤ (z * p) * q := by grind
  exact Int.le_of_mul_le_mul_right c hq
theorem sq_pos {a : Int} (h : a ≠ 0) : 0 < a * a := by
  rcases Int.lt_or_gt_of_ne h with h | h
  · have := Int.mul_pos (Int.neg_pos_of_neg h) (Int.neg_pos_of_neg h); grind
  · exact Int.mul_pos h h
theorem sq_nn (a : Int) : 0 ≤ a * a := by
  by_cases h : a = 0
  · subst h; simp
  · exact Int.le_of_lt (sq_pos h)
theorem cs_step {N Ns a b Dd X : Int} (hX : 0 ≤ X) (hNs : 0 ≤ Ns) (ha : 0 < a) (hb : 0 < b) (id : Dd * Dd + X = Ns * N) (hle : N * (b * b) ≤ Ns * (a * a)) : b * Dd ≤ Ns * a ∧ (b * Dd = Ns * a → X = 0) := by
  have e1 : (b * Dd) * (b * Dd) + (b * b) * X = Ns * (N * (b * b)) := by grind
  have e2 := Int.mul_le_mul_of_nonneg_left hle hNs
  have e3 : Ns * (Ns * (a * a)) = (Ns * a) * (Ns * a) := by grind
  have e4 : 0 ≤ (b * b) * X := Int.mul_nonneg (sq_nn b) hX
  have e5 : 0 ≤ Ns * a := Int.mul_nonneg hNs (Int.le_of_lt ha)
  constructor
  · apply Classical.byContradiction
    intro hn
    have hlt : Ns * a < b * Dd := by omega
    have f1 := Int.mul_le_mul_of_nonneg_left (Int.le_of_lt hlt) e5
    have f2 := Int.mul_lt_mul_of_pos_right hlt (show 0 < b * Dd by omega)
    omega
  · intro he
    rw [he] at e1
    apply Classical.byContradiction
    intro hn
    have := Int.mul_pos (Int.mul_pos hb hb) (show 0 < X by omega)
    omega
theorem pos_of_mul {p q : Int} (h : 0 < p * q) (hp : 0 < p) : 0 < q := by
  apply Classical.byContradiction
  intro hn
  have h1 : 0 ≤ p * (-q) := Int.mul_nonneg (Int.le_of_lt hp) (by omega)
  have h2 : p * (-q) = -(p * q) := by grind
  omega
/-! ### the plane -/
theorem geo2 (v : Int × Int) (S : List (Int × Int)) (hne : S ≠ []) (hS : ∀ w ∈ S, 0 < v.1 * w.1 + v.2 * w.2) :
    ∃ u ∈ S, ∃ s : Int, (s = 1 ∨ s = -1) ∧ ∀ w ∈ S, 0 < s * (u.1 * w.2 - u.2 * w.1) ∨ (u.1 * w.2 - u.2 * w.1 = 0 ∧ 0 < u.1 * w.1 + u.2 * w.2) := by
  let N : Int × Int → Int := fun w => w.1 * w.1 + w.2 * w.2
  let a : Int × Int → Int := fun w => v.1 * w.1 + v.2 * w.2
  obtain ⟨u, hu, hmax⟩ := exists_max (fun w u => N w * (a u * a u) ≤ N u * (a w * a w)) S hne (fun x _ y _ => Int.le_total _ _) (fun x hx y hy z hz h1 h2 => frac_trans (Int.mul_pos (hS x hx) (hS x hx)) (Int.mul_pos (hS y hy) (hS y hy)) (Int.mul_pos (hS z hz) (hS z hz)) h1 h2)
  refine ⟨u, hu, if 0 < u.1 * v.2 - u.2 * v.1 then 1 else -1, by split <;> simp, fun w hw => ?_⟩
  have hN : 0 ≤ N u := Int.add_nonneg (sq_nn _) (sq_nn _)
  have hb := hS u hu
  have ha := hS w hw
  obtain ⟨c1, c2⟩ := cs_step (N := N w) (Ns := N u) (a := a w) (b := a u) (Dd := u.1 * w.1 + u.2 * w.2) (X := (u.1 * w.2 - u.2 * w.1) * (u.1 * w.2 - u.2 * w.1)) (sq_nn _) hN ha hb (by simp only [N]; grind) (hmax w hw)
  have idn : N u * a w - a u * (u.1 * w.1 + u.2 * w.2) = (u.1 * v.2 - u.2 * v.1) * (u.1 * w.2 - u.2 * w.1) := by simp only [N, a]; grind
  have hNp : 0 < N u := by
    apply Classical.byContradiction
    intro hn
    have h1 := sq_nn u.1
    have h2 := sq_nn u.2
    have z1 : u.1 = 0 := Classical.byContradiction fun h => by have := sq_pos h; simp only [N] at hn; omega
    have z2 : u.2 = 0 := Classical.byContradiction fun h => by have := sq_pos h; simp only [N] at hn; omega
    rw [z1, z2] at hb
    simp at hb
  by_cases hx : u.1 * w.2 - u.2 * w.1 = 0
  · right
    refine ⟨hx, ?_⟩
    rw [hx, Int.mul_zero] at idn
    apply Classical.byContradiction
    intro hn
    have h1 : 0 < N u * a w := Int.mul_pos hNp ha
    have h2 : 0 ≤ a u * (-(u.1 * w.1 + u.2 * w.2)) := Int.mul_nonneg (Int.le_of_lt hb) (by omega)
    have h3 : a u * (-(u.1 * w.1 + u.2 * w.2)) = -(a u * (u.1 * w.1 + u.2 * w.2)) := by grind
    omega
  · left
    have hlt : a u * (u.1 * w.1 + u.2 * w.2) < N u * a w := by
      rcases Int.lt_or_eq_of_le c1 with h | h
      · exact h
      · have := c2 h
        have := sq_pos hx
        omega
    generalize u.1 * w.2 - u.2 * w.1 = q at *
    generalize u.1 * v.2 - u.2 * v.1 = p at *
    have hpq : 0 < p * q := by omega
    split
    · rename_i hp
      rw [Int.one_mul]
      exact pos_of_mul hpq hp
    · rename_i hp
      have hp' : p < 0 := by
        rcases Int.lt_trichotomy p 0 with h | h | h
        · exact h
        · subst h; simp at hpq
        · exact absurd h hp
      have : 0 < (-p) * (-q) := by grind
      have := pos_of_mul this (by omega)
      omega
/-! ### space -/
structure V3 where
  x : Int
  y : Int
  z : Int
def dt (a b : V3) : Int := a.x * b.x + a.y * b.y + a.z * b.z
def cr (a b : V3) : V3 := ⟨a.y * b.z - a.z * b.y, a.z * b.x - a.x * b.z, a.x * b.y - a.y * b.x⟩
def zr (a : V3) : Prop := a.x = 0 ∧ a.y = 0 ∧ a.z = 0
theorem dt_self_nn (a : V3) : 0 ≤ dt a a := by have := sq_nn a.x; have := sq_nn a.y; have := sq_nn a.z; unfold dt; omega
theorem dt_self_z {a : V3} (h : dt a a = 0) : zr a := by
  have h1 := sq_nn a.x; have h2 := sq_nn a.y; have h3 := sq_nn a.z
  unfold dt at h
  refine ⟨Classical.byContradiction fun z => ?_, Classical.byContradiction fun z => ?_, Classical.byContradiction fun z => ?_⟩ <;> have := sq_pos z <;> omega
theorem lag (u w : V3) : dt u w * dt u w + dt (cr u w) (cr u w) = dt u u * dt w w := by
  obtain ⟨a, b, c⟩ := u; obtain ⟨x, y, z⟩ := w; simp only [dt, cr]; grind
theorem bc (u v w : V3) : dt u u * dt v w - dt v u * dt u w = dt (cr u v) (cr u w) := by
  obtain ⟨a, b, c⟩ := u; obtain ⟨x, y, z⟩ := w; obtain ⟨p, q, r⟩ := v; simp only [dt, cr]; grind
theorem dt_z {a b : V3} (h : zr b) : dt a b = 0 := by unfold dt; rw [h.1, h.2.1, h.2.2]; simp
/-- a vector parallel to u, on the positive side -/
theorem par_step {v u w : V3} (hu : 0 < dt v u) (hw : 0 < dt v w) (hz : zr (cr u w)) : 0 < dt u w := by
  have h1 := bc u v w
  rw [dt_z hz] at h1
  have hN : 0 < dt u u := by
    rcases Int.lt_or_eq_of_le (dt_self_nn u) with h | h
    · exact h
    · have := dt_z (a := v) (dt_self_z h.symm); omega
  have h2 : 0 < dt u u * dt v w := Int.mul_pos hN hw
  exact pos_of_mul (p := dt v u) (by omega) hu
theorem triple1 (u t w : V3) : dt (cr u t) w = -dt t (cr u w) := by
  obtain ⟨a, b, c⟩ := u; obtain ⟨x, y, z⟩ := w; obtain ⟨p, q, r⟩ := t; simp only [dt, cr]; grind
theorem triple2 (m u w : V3) : dt (cr m u) w = dt m (cr u w) := by
  obtain ⟨a, b, c⟩ := u; obtain ⟨x, y, z⟩ := w; obtain ⟨p, q, r⟩ := m; simp only [dt, cr]; grind
theorem id1 (u h t w : V3) : dt (cr u h) t * dt h w - dt h t * dt (cr u h) w = -(dt h h * dt (cr u t) w) - dt h u * dt (cr t h) w := by
  obtain ⟨a, b, c⟩ := u; obtain ⟨x, y, z⟩ := w; obtain ⟨p, q, r⟩ := t; obtain ⟨k, l, n⟩ := h; simp only [dt, cr]; grind
theorem id2 (u h t w : V3) : dt (cr (cr u t) u) w * dt h t - dt (cr (cr u t) u) t * dt h w = -(dt (cr u t) h * dt (cr u t) w) - dt u h * dt (cr u t) (cr w t) := by
  obtain ⟨a, b, c⟩ := u; obtain ⟨x, y, z⟩ := w; obtain ⟨p, q, r⟩ := t; obtain ⟨k, l, n⟩ := h; simp only [dt, cr]; grind
theorem id3 (u t : V3) : dt (cr (cr u t) u) t = dt (cr u t) (cr u t) := triple2 _ _ _
def lex3 (m c t w : V3) : Prop := dt m w < 0 ∨ (dt m w = 0 ∧ 0 < dt c w) ∨ (dt m w = 0 ∧ dt c w = 0 ∧ 0 < dt t w)
theorem geo3 (v : V3) (S : List V3) (hne : S ≠ []) (hS : ∀ w ∈ S, 0 < dt v w) :
    ∃ u ∈ S, (∀ t : V3, (∀ w ∈ S, zr (cr u w)) → ∀ w ∈ S, lex3 (cr u t) (cr (cr u t) u) u w) ∧ ((∀ w ∈ S, zr (cr u w)) ∨ ∃ t ∈ S, ¬ zr (cr u t) ∧ ∀ w ∈ S, lex3 (cr u t) (cr (cr u t) u) u w) := by
  obtain ⟨u, hu, hmax⟩ := exists_max (fun w u => dt w w * (dt v u * dt v u) ≤ dt u u * (dt v w * dt v w)) S hne (fun x _ y _ => Int.le_total _ _) (fun x hx y hy z hz h1 h2 => frac_trans (Int.mul_pos (hS x hx) (hS x hx)) (Int.mul_pos (hS y hy) (hS y hy)) (Int.mul_pos (hS z hz) (hS z hz)) h1 h2)
  have hb := hS u hu
  have par : ∀ (t : V3), ∀ w ∈ S, zr (cr u w) → lex3 (cr u t) (cr (cr u t) u) u w := fun t w hw hz => by
    refine .inr (.inr ⟨?_, ?_, par_step hb (hS w hw) hz⟩)
    · rw [triple1, dt_z hz]; rfl
    · rw [triple2, dt_z hz]
  refine ⟨u, hu, fun t hz w hw => par t w hw (hz w hw), ?_⟩
  by_cases hall : ∀ w ∈ S, zr (cr u w)
  · exact .inl hall
  · right
    -- h: strictly positive off the ray of u
    let h : V3 := ⟨dt u u * v.x - dt v u * u.x, dt u u * v.y - dt v u * u.y, dt u u * v.z - dt v u * u.z⟩
    have hdt : ∀ w, dt h w = dt u u * dt v w - dt v u * dt u w := fun w => by
      have : dt h w = (dt u u * v.x - dt v u * u.x) * w.x + (dt u u * v.y - dt v u * u.y) * w.y + (dt u u * v.z - dt v u * u.z) * w.z := rfl
      rw [this]
      generalize dt u u = p
      generalize dt v u = q
      simp only [dt]
      grind
    have hu0 : dt h u = 0 := by rw [hdt]; grind
    have hpos : ∀ w ∈ S, ¬ zr (cr u w) → 0 < dt h w := fun w hw hz => by
      obtain ⟨c1, c2⟩ := cs_step (N := dt w w) (Ns := dt u u) (a := dt v w) (b := dt v u) (Dd := dt u w) (X := dt (cr u w) (cr u w)) (dt_self_nn _) (dt_self_nn u) (hS w hw) hb (lag u w) (hmax w hw)
      rw [hdt]
      rcases Int.lt_or_eq_of_le c1 with z | z
      · omega
      · exact absurd (dt_self_z (c2 z)) hz
    let T := S.filter fun w => @decide (¬ zr (cr u w)) (Classical.propDecidable _)
    have mT : ∀ w, w ∈ T ↔ w ∈ S ∧ ¬ zr (cr u w) := fun w => by
      rw [List.mem_filter, @decide_eq_true_iff _ (Classical.propDecidable _)]
    have hTne : T ≠ [] := fun z => hall fun w hw => Classical.byContradiction fun hz => by
      have := (mT w).mpr ⟨hw, hz⟩
      rw [z] at this; cases this
    obtain ⟨t, ht, hmt⟩ := exists_max (fun w t => dt (cr u h) w * dt h t ≤ dt (cr u h) t * dt h w) T hTne (fun x _ y _ => Int.le_total _ _) (fun x hx y hy z hz h1 h2 => frac_trans (hpos x ((mT x).mp hx).1 ((mT x).mp hx).2) (hpos y ((mT y).mp hy).1 ((mT y).mp hy).2) (hpos z ((mT z).mp hz).1 ((mT z).mp hz).2) h1 h2)
    obtain ⟨ht1, ht2⟩ := (mT t).mp ht
    have htp := hpos t ht1 ht2
    have hhp : 0 < dt h h := by
      rcases Int.lt_or_eq_of_le (dt_self_nn h) with z | z
      · exact z
      · have := dt_self_z z.symm
        have e : dt h t = dt t h := by simp only [dt]; grind
        rw [e, dt_z this] at htp; omega
    refine ⟨t, ht1, ht2, fun w hw => ?_⟩
    by_cases hz : zr (cr u w)
    · exact par t w hw hz
    · have hwp := hpos w hw hz
      have r := hmt w ((mT w).mpr ⟨hw, hz⟩)
      have e1 := id1 u h t w
      rw [hu0, Int.zero_mul] at e1
      have hc : dt h t * dt (cr u h) w = dt (cr u h) w * dt h t := Int.mul_comm _ _
      have hm : dt (cr u t) w ≤ 0 := by
        apply Classical.byContradiction
        intro hn
        have := Int.mul_pos hhp (show 0 < dt (cr u t) w by omega)
        omega
      rcases Int.lt_or_eq_of_le hm with z | z
      · exact .inl z
      · refine .inr (.inl ⟨z, ?_⟩)
        have e2 := id2 u h t w
        have hu0' : dt u h = 0 := by
          have : dt u h = dt h u := by simp only [dt]; grind
          rw [this, hu0]
        rw [z, hu0', id3, Int.mul_zero, Int.zero_mul] at e2
        have hmm : 0 < dt (cr u t) (cr u t) := by
          rcases Int.lt_or_eq_of_le (dt_self_nn (cr u t)) with y | y
          · exact y
          · exact absurd (dt_self_z y.symm) ht2
        have h3 := Int.mul_pos hmm hwp
        have h4 : dt h t * dt (cr (cr u t) u) w = dt (cr (cr u t) u) w * dt h t := Int.mul_comm _ _
        exact pos_of_mul (p := dt h t) (by omega) htp
end Geo

namespace M
open PySem L2 DL W Geo
theorem gt_map {α : Type} {f : Int → Int} {v : List Int} {k : Int} (h0 : 0 ≤ k) (h : k < v.length) : gt (v.map f) k = f (gt v k) := by
  have a := gt_get (v := v.map f) (i := k) h0 (by rw [List.length_map]; exact h)
  rw [List.getElem?_map, gt_get h0 h] at a
  exact (Option.some.inj a).symm
theorem gt_upto {f : Nat → Int} {n k : Nat} (h : k < n) : gt ((upto n).map f) k = f k := by
  have hl : ((upto n).map f).length = n := by unfold upto; rw [List.length_map, List.length_range]
  have a := gt_get (v := (upto n).map f) (i := k) (by omega) (by omega)
  rw [Int.toNat_natCast, List.getElem?_map] at a
  unfold upto at a
  rw [List.getElem?_range h] at a
  exact (Option.some.inj a).symm
theorem sum_lin (p q r : Nat → Int) (f : Int) : ∀ l : List Nat, (l.map fun k => (p k * f + q k) * r k).sum = (l.map fun k => p k * r k).sum * f + (l.map fun k => q k * r k).sum
  | [] => by simp
  | k :: l => by
    rw [List.map_cons, List.sum_cons, List.map_cons, List.sum_cons, List.map_cons, List.sum_cons, sum_lin p q r f l]
    grind
theorem map_sum_congr {f g : Nat → Int} {l : List Nat} (h : ∀ k ∈ l, f k = g k) : (l.map f).sum = (l.map g).sum := by rw [List.map_congr_left h]
theorem fb_dot {b t w : List Int} {vs : List (List Int)} (hl : b.length = t.length) : dotI (fbI b t vs) w = dotI b w * bndI t vs + dotI t w := by
  unfold dotI
  rw [fb_len, ← hl, ← sum_lin (fun k => gt b k) (fun k => gt t k) (fun k => gt w k) (bndI t vs)]
  refine map_sum_congr fun k hk => ?_
  have hk := mem_upto.mp hk
  have e : gt (fbI b t vs) k = gt (sclI b (bndI t vs)) k + gt t k := by
    unfold fbI addI
    exact gt_upto (by rw [len_scl]; exact hk)
  rw [e]
  unfold sclI
  rw [gt_map (α := Int) (by omega) (by omega)]
theorem opp_dot {b w : List Int} : dotI (oppI b) w = -dotI b w := by
  unfold dotI
  rw [len_opp]
  have : ∀ l : List Nat, (∀ k ∈ l, k < b.length) → (l.map fun (k : Nat) => gt (oppI b) k * gt w k).sum = -(l.map fun (k : Nat) => gt b k * gt w k).sum := by
    intro l
    induction l with
    | nil => intro _; rfl
    | cons k l ih =>
      intro h
      have hk := h k List.mem_cons_self
      rw [List.map_cons, List.sum_cons, List.map_cons, List.sum_cons, ih fun j hj => h j (List.mem_cons_of_mem _ hj)]
      unfold oppI
      rw [gt_map (α := Int) (by omega) (by omega)]
      grind
  exact this _ fun k hk => mem_upto.mp hk
theorem smul_dot {c : Int} {b w : List Int} : dotI (smul c b) w = c * dotI b w := by
  unfold dotI
  have hl : (smul c b).length = b.length := by unfold smul; rw [List.length_map]
  rw [hl]
  have : ∀ l : List Nat, (∀ k ∈ l, k < b.length) → (l.map fun (k : Nat) => gt (smul c b) k * gt w k).sum = c * (l.map fun (k : Nat) => gt b k * gt w k).sum := by
    intro l
    induction l with
    | nil => intro _; simp
    | cons k l ih =>
      intro h
      have hk := h k List.mem_cons_self
      rw [List.map_cons, List.sum_cons, List.map_cons, List.sum_cons, ih fun j hj => h j (List.mem_cons_of_mem _ hj)]
      unfold smul
      rw [gt_map (α := Int) (by omega) (by omega)]
      grind
  exact this _ fun k hk => mem_upto.mp hk
theorem fb_pos {b t w : List Int} {vs : List (List Int)} (hl : b.length = t.length) (hw : w ∈ vs) : (0 < dotI b w → 0 < dotI (fbI b t vs) w) ∧ (dotI b w = 0 → dotI (fbI b t vs) w = dotI t w) := by
  obtain ⟨h1, h2⟩ := bnd_spec (a := t) hw
  rw [fb_dot hl]
  constructor
  · intro h
    have : 1 * bndI t vs ≤ dotI b w * bndI t vs := Int.mul_le_mul_of_nonneg_right (by omega) (by omega)
    omega
  · intro h
    rw [h]; simp
theorem pick (f : List Int) {s : Int} (hs : s ≠ 0) : ∃ b ∈ bw2 f, b.length = f.length ∧ ∀ w, (0 < s * dotI f w → 0 < dotI b w) ∧ (dotI f w = 0 → dotI b w = 0) := by
  by_cases h : 0 < s
  · exact ⟨f, by unfold bw2; simp, rfl, fun w => ⟨fun z => pos_of_mul z h, fun z => z⟩⟩
  · refine ⟨oppI f, by unfold bw2; simp, len_opp f, fun w => ⟨fun z => ?_, fun z => by rw [opp_dot, z]; rfl⟩⟩
    rw [opp_dot]
    have : 0 < (-s) * (-dotI f w) := by rw [Int.neg_mul_neg]; exact z
    exact pos_of_mul this (by omega)
theorem dot2 {a b : List Int} (h : a.length = 2) : dotI a b = gt a 0 * gt b 0 + gt a 1 * gt b 1 := by
  unfold dotI
  rw [h]
  show gt a (0 : Nat) * gt b (0 : Nat) + (gt a (1 : Nat) * gt b (1 : Nat) + 0) = _
  rw [Int.add_zero]; rfl
def v3 (a : List Int) : V3 := ⟨gt a 0, gt a 1, gt a 2⟩
theorem dot3 {a b : List Int} (h : a.length = 3) : dotI a b = dt (v3 a) (v3 b) := by
  unfold dotI
  rw [h]
  show gt a (0 : Nat) * gt b (0 : Nat) + (gt a (1 : Nat) * gt b (1 : Nat) + (gt a (2 : Nat) * gt b (2 : Nat) + 0)) = gt a 0 * gt b 0 + gt a 1 * gt b 1 + gt a 2 * gt b 2
  rw [Int.add_zero, ← Int.add_assoc]; rfl
def sc (c : Int) (a : V3) : V3 := ⟨c * a.x, c * a.y, c * a.z⟩
theorem v3_smul {c : Int} {a : List Int} (h : a.length = 3) : v3 (smul c a) = sc c (v3 a) := by
  unfold v3 sc smul
  rw [gt_map (α := Int) (by omega) (by omega), gt_map (α := Int) (by omega) (by omega), gt_map (α := Int) (by omega) (by omega)]
theorem dt_sc {c : Int} {a b : V3} : dt (sc c a) b = c * dt a b := by simp only [dt, sc]; grind
theorem cr_sc {c d : Int} {a b : V3} : cr (sc c a) (sc d b) = sc (c * d) (cr a b) := by
  simp only [cr, sc, V3.mk.injEq]; refine ⟨?_, ?_, ?_⟩ <;> grind
theorem cr_comm {a b : V3} : cr b a = sc (-1) (cr a b) := by simp only [cr, sc, V3.mk.injEq]; refine ⟨?_, ?_, ?_⟩ <;> grind
theorem sc_sc {c d : Int} {a : V3} : sc c (sc d a) = sc (c * d) a := by simp only [sc, V3.mk.injEq]; refine ⟨?_, ?_, ?_⟩ <;> grind
/-- what every arrow does, some cutting arrow does -/
theorem cover2 {k : Nat} {vs : List (List Int)} (hv : vsz 2 k vs) {v : List Int} (hv2 : v.length = 2) : (∀ w ∈ vs, dotI v w ≤ 0) ∨ ∃ a ∈ plnI vs, ∀ w ∈ vs, 0 < dotI v w → 0 < dotI a w := by
  by_cases hall : ∀ w ∈ vs, dotI v w ≤ 0
  · exact .inl hall
  · right
    have hex : ∃ w ∈ vs, 0 < dotI v w := Classical.byContradiction fun hn => hall fun w hw => by
      apply Classical.byContradiction
      intro hp
      exact hn ⟨w, hw, by omega⟩
    let P : List Int → Int × Int := fun w => (gt w 0, gt w 1)
    let S := vs.filter fun w => decide (0 < dotI v w)
    obtain ⟨w0, hw0, hp0⟩ := hex
    obtain ⟨u', hu', s, hs, hlex⟩ := geo2 (gt v 0, gt v 1) (S.map P) (fun z => by
      have : w0 ∈ S := List.mem_filter.mpr ⟨hw0, decide_eq_true hp0⟩
      rw [List.map_eq_nil_iff.mp z] at this; cases this) (fun p hp => by
      obtain ⟨w, hw, rfl⟩ := List.mem_map.mp hp
      have := of_decide_eq_true (List.mem_filter.mp hw).2
      rw [dot2 hv2] at this
      exact this)
    obtain ⟨u, hu, rfl⟩ := List.mem_map.mp hu'
    obtain ⟨hu1, hu2⟩ := List.mem_filter.mp hu
    have hup := of_decide_eq_true hu2
    obtain ⟨ul, ub⟩ := hv u hu1
    have hnz : nzL u := Classical.byContradiction fun z => by
      rw [dot2 hv2] at hup
      have z0 : gt u 0 = 0 := Classical.byContradiction fun y => z ⟨_, gt_mem (v := u) (i := 0) (by omega) (by omega), y⟩
      have z1 : gt u 1 = 0 := Classical.byContradiction fun y => z ⟨_, gt_mem (v := u) (i := 1) (by omega) (by omega), y⟩
      rw [z0, z1] at hup; simp at hup
    obtain ⟨e1, e2, e3, e4, c, hc, e5⟩ := upI_spec hnz ub
    have hl : upI u ∈ lnI vs := lnI_mem.mpr ⟨u, hu1, hnz, rfl⟩
    generalize upI u = l at *
    have ll : l.length = 2 := e1.trans ul
    have g0 : gt u 0 = c * gt l 0 := by rw [e5]; unfold smul; rw [gt_map (α := Int) (by omega) (by omega)]
    have g1 : gt u 1 = c * gt l 1 := by rw [e5]; unfold smul; rw [gt_map (α := Int) (by omega) (by omega)]
    obtain ⟨b, hb, hbl, hb2⟩ := pick (qrtI l) (s := s * c) (by rcases hs with rfl | rfl <;> omega)
    obtain ⟨t, ht, htl, ht2⟩ := pick l hc
    refine ⟨fbI b t vs, List.mem_flatMap.mpr ⟨l, hl, List.mem_flatMap.mpr ⟨b, hb, List.mem_map.mpr ⟨t, ht, rfl⟩⟩⟩, fun w hw hp => ?_⟩
    have hq : dotI (qrtI l) w = gt l 0 * gt w 1 - gt l 1 * gt w 0 := by
      rw [dot2 rfl]
      show -gt l 1 * gt w 0 + gt l 0 * gt w 1 = _
      grind
    obtain ⟨f1, f2⟩ := fb_pos (b := b) (t := t) (by rw [hbl, htl]; exact ll.symm) hw
    have hx := hlex (P w) (List.mem_map.mpr ⟨w, List.mem_filter.mpr ⟨hw, decide_eq_true hp⟩, rfl⟩)
    have ec : gt u 0 * gt w 1 - gt u 1 * gt w 0 = c * dotI (qrtI l) w := by rw [hq, g0, g1]; grind
    have ed : gt u 0 * gt w 0 + gt u 1 * gt w 1 = c * dotI l w := by rw [dot2 ll, g0, g1]; grind
    have hx' : 0 < s * (gt u 0 * gt w 1 - gt u 1 * gt w 0) ∨ (gt u 0 * gt w 1 - gt u 1 * gt w 0 = 0 ∧ 0 < gt u 0 * gt w 0 + gt u 1 * gt w 1) := hx
    rw [ec, ed] at hx'
    rcases hx' with z | ⟨z1, z2⟩
    · exact f1 ((hb2 w).1 (by rw [Int.mul_assoc]; exact z))
    · have : dotI (qrtI l) w = 0 := (Int.mul_eq_zero.mp z1).resolve_left hc
      rw [f2 ((hb2 w).2 this)]
      exact (ht2 w).1 z2
theorem cover3 {k : Nat} {vs : List (List Int)} (hv : vsz 3 k vs) {v : List Int} (hv2 : v.length = 3) : (∀ w ∈ vs, dotI v w ≤ 0) ∨ ∃ a ∈ spcI vs, ∀ w ∈ vs, 0 < dotI v w → 0 < dotI a w := by
  by_cases hall : ∀ w ∈ vs, dotI v w ≤ 0
  · exact .inl hall
  · right
    have hex : ∃ w ∈ vs, 0 < dotI v w := Classical.byContradiction fun hn => hall fun w hw => by
      apply Classical.byContradiction
      intro hp
      exact hn ⟨w, hw, by omega⟩
    obtain ⟨w0, hw0, hp0⟩ := hex
    let S := vs.filter fun w => decide (0 < dotI v w)
    have posS : ∀ w, w ∈ S → 0 < dt (v3 v) (v3 w) := fun w hw => by
      have := of_decide_eq_true (List.mem_filter.mp hw).2
      rw [dot3 hv2] at this
      exact this
    obtain ⟨u', hu', hA, hB⟩ := geo3 (v3 v) (S.map v3) (fun z => by
      have : w0 ∈ S := List.mem_filter.mpr ⟨hw0, decide_eq_true hp0⟩
      rw [List.map_eq_nil_iff.mp z] at this; cases this) (fun p hp => by
      obtain ⟨w, hw, rfl⟩ := List.mem_map.mp hp
      exact posS w hw)
    have nzS : ∀ w, w ∈ S → nzL w := fun w hw => Classical.byContradiction fun z => by
      have hup := posS w hw
      obtain ⟨wl, _⟩ := hv w (List.mem_filter.mp hw).1
      have z0 : gt w 0 = 0 := Classical.byContradiction fun y => z ⟨_, gt_mem (v := w) (i := 0) (by omega) (by omega), y⟩
      have z1 : gt w 1 = 0 := Classical.byContradiction fun y => z ⟨_, gt_mem (v := w) (i := 1) (by omega) (by omega), y⟩
      have z2 : gt w 2 = 0 := Classical.byContradiction fun y => z ⟨_, gt_mem (v := w) (i := 2) (by omega) (by omega), y⟩
      have := dt_z (a := v3 v) (b := v3 w) ⟨z0, z1, z2⟩
      omega
    obtain ⟨u, hu, rfl⟩ := List.mem_map.mp hu'
    obtain ⟨hu1, hu2⟩ := List.mem_filter.mp hu
    obtain ⟨ul, ub⟩ := hv u hu1
    obtain ⟨e1, e2, e3, e4, c, hc, e5⟩ := upI_spec (nzS u hu) ub
    have hl : upI u ∈ lnI vs := lnI_mem.mpr ⟨u, hu1, nzS u hu, rfl⟩
    have ll : (upI u).length = 3 := e1.trans ul
    have gu : v3 u = sc c (v3 (upI u)) := by rw [← v3_smul ll, ← e5]
    unfold spcI
    by_cases hz : nrI vs = []
    · rw [if_pos hz]
      obtain ⟨t, ht, htl, ht2⟩ := pick (upI u) hc
      refine ⟨t, List.mem_flatMap.mpr ⟨_, hl, ht⟩, fun w hw hp => ?_⟩
      have hwS : w ∈ S := List.mem_filter.mpr ⟨hw, decide_eq_true hp⟩
      obtain ⟨wl, wb⟩ := hv w hw
      obtain ⟨d1, d2, d3, d4, c', hc', d5⟩ := upI_spec (nzS w hwS) wb
      have hlw : upI w ∈ lnI vs := lnI_mem.mpr ⟨w, hw, nzS w hwS, rfl⟩
      have same : upI w = upI u := by
        apply Classical.byContradiction
        intro hne
        obtain ⟨i, hi⟩ := List.mem_iff_getElem?.mp hl
        obtain ⟨j, hj⟩ := List.mem_iff_getElem?.mp hlw
        have hi1 := (List.getElem?_eq_some_iff.mp hi).1
        have hj1 := (List.getElem?_eq_some_iff.mp hj).1
        have gi : gv (lnI vs) i = upI u := by
          have := gv_get (v := lnI vs) (i := i) (by omega) (by omega)
          rw [Int.toNat_natCast, hi] at this
          exact (Option.some.inj this).symm
        have gj : gv (lnI vs) j = upI w := by
          have := gv_get (v := lnI vs) (i := j) (by omega) (by omega)
          rw [Int.toNat_natCast, hj] at this
          exact (Option.some.inj this).symm
        have hij : i ≠ j := fun z => hne (by rw [← gj, ← gi, z])
        have : ∃ x, x ∈ prs (lnI vs) := by
          rcases Nat.lt_or_gt_of_ne hij with h | h
          · exact ⟨_, mem_prs.mpr ⟨j, i, h, hj1, rfl⟩⟩
          · exact ⟨_, mem_prs.mpr ⟨i, j, h, hi1, rfl⟩⟩
        obtain ⟨x, hx⟩ := this
        have : upI x ∈ nrI vs := lnI_mem.mpr ⟨x, hx, prs_nz hv x hx, rfl⟩
        rw [hz] at this; cases this
      have gw : v3 w = sc c' (v3 (upI u)) := by rw [← same, ← v3_smul (d1.trans wl), ← d5]
      have hpar : zr (cr (v3 u) (v3 w)) := by
        rw [gu, gw, cr_sc]
        refine ⟨?_, ?_, ?_⟩ <;> simp only [sc, cr] <;> grind
      have := par_step (posS u hu) (posS w hwS) hpar
      rw [gu, dt_sc, ← dot3 ll] at this
      exact (ht2 w).1 this
    · rw [if_neg hz]
      -- the second line
      have two : ∃ l2 ∈ lnI vs, l2 ≠ upI u ∧ ∃ c2, c2 ≠ 0 ∧ ∀ w ∈ S, lex3 (cr (v3 u) (sc c2 (v3 l2))) (cr (cr (v3 u) (sc c2 (v3 l2))) (v3 u)) (v3 u) (v3 w) := by
        rcases hB with hB | ⟨t', ht', hnp, hB⟩
        · have hex2 : ∃ l2 ∈ lnI vs, l2 ≠ upI u := by
            apply Classical.byContradiction
            intro hn
            apply hz
            have hlen : (lnI vs).length ≤ 1 := by
              apply Classical.byContradiction
              intro h2
              have a0 := gv_mem (v := lnI vs) (i := (0 : Nat)) (by omega) (by omega)
              have a1 := gv_mem (v := lnI vs) (i := (1 : Nat)) (by omega) (by omega)
              have b0 : gv (lnI vs) (0 : Nat) = upI u := Classical.byContradiction fun z => hn ⟨_, a0, z⟩
              have b1 : gv (lnI vs) (1 : Nat) = upI u := Classical.byContradiction fun z => hn ⟨_, a1, z⟩
              have := gv_inj (lnI_nodup vs) (k := 0) (j := 1) (by omega) (by omega) (b0.trans b1.symm)
              omega
            have : prs (lnI vs) = [] := by
              apply List.eq_nil_iff_forall_not_mem.mpr
              intro x hx
              obtain ⟨i, j, h1, h2, _⟩ := mem_prs.mp hx
              omega
            unfold nrI
            rw [this]
            exact lnI_nil.mpr rfl
          obtain ⟨l2, h1, h2⟩ := hex2
          refine ⟨l2, h1, h2, 1, by omega, fun w hw => hA _ hB (v3 w) (List.mem_map.mpr ⟨w, hw, rfl⟩)⟩
        · obtain ⟨t, ht, rfl⟩ := List.mem_map.mp ht'
          have ht1 := (List.mem_filter.mp ht).1
          obtain ⟨tl, tb⟩ := hv t ht1
          obtain ⟨d1, d2, d3, d4, c', hc', d5⟩ := upI_spec (nzS t ht) tb
          have gt' : v3 t = sc c' (v3 (upI t)) := by rw [← v3_smul (d1.trans tl), ← d5]
          refine ⟨upI t, lnI_mem.mpr ⟨t, ht1, nzS t ht, rfl⟩, fun e => hnp ?_, c', hc', fun w hw => ?_⟩
          · rw [gu, gt', e, cr_sc]
            refine ⟨?_, ?_, ?_⟩ <;> simp only [sc, cr] <;> grind
          · have := hB (v3 w) (List.mem_map.mpr ⟨w, hw, rfl⟩)
            rw [gt'] at this
            exact this
      obtain ⟨l2, hl2, hne2, c2, hc2, hlex⟩ := two
      obtain ⟨i, hi⟩ := List.mem_iff_getElem?.mp hl
      obtain ⟨j, hj⟩ := List.mem_iff_getElem?.mp hl2
      have hi1 := (List.getElem?_eq_some_iff.mp hi).1
      have hj1 := (List.getElem?_eq_some_iff.mp hj).1
      have gi : gv (lnI vs) i = upI u := by
        have := gv_get (v := lnI vs) (i := i) (by omega) (by omega)
        rw [Int.toNat_natCast, hi] at this
        exact (Option.some.inj this).symm
      have gj : gv (lnI vs) j = l2 := by
        have := gv_get (v := lnI vs) (i := j) (by omega) (by omega)
        rw [Int.toNat_natCast, hj] at this
        exact (Option.some.inj this).symm
      have hij : i ≠ j := fun z => hne2 (by rw [← gj, ← gi, z])
      obtain ⟨nm, hnm, c3, hc3, e3'⟩ : ∃ nm ∈ nrI vs, ∃ c3, c3 ≠ 0 ∧ cr (v3 (upI u)) (v3 l2) = sc c3 (v3 nm) := by
        have fin : ∀ x ∈ prs (lnI vs), ∃ nm ∈ nrI vs, ∃ c3, c3 ≠ 0 ∧ v3 x = sc c3 (v3 nm) := fun x hx => by
          obtain ⟨xl, xb⟩ := prs_vsz (lnI_vsz hv) x hx
          obtain ⟨d1, d2, d3, d4, c', hc', d5⟩ := upI_spec (prs_nz hv x hx) xb
          refine ⟨upI x, lnI_mem.mpr ⟨x, hx, prs_nz hv x hx, rfl⟩, c', hc', ?_⟩
          rw [← v3_smul (d1.trans xl), ← d5]
        rcases Nat.lt_or_gt_of_ne hij with h | h
        · obtain ⟨nm, h1, c3, h2, h3⟩ := fin _ (mem_prs.mpr ⟨j, i, h, hj1, rfl⟩)
          rw [gi, gj] at h3
          have h3' : cr (v3 l2) (v3 (upI u)) = sc c3 (v3 nm) := h3
          refine ⟨nm, h1, -1 * c3, by omega, ?_⟩
          rw [← sc_sc, ← h3', ← cr_comm]
        · obtain ⟨nm, h1, c3, h2, h3⟩ := fin _ (mem_prs.mpr ⟨i, j, h, hi1, rfl⟩)
          rw [gi, gj] at h3
          exact ⟨nm, h1, c3, h2, h3⟩
      have NV := lnI_vsz (prs_vsz (lnI_vsz hv))
      obtain ⟨nl, nb⟩ := NV nm hnm
      have em : cr (v3 u) (sc c2 (v3 l2)) = sc (c * c2 * c3) (v3 nm) := by rw [gu, cr_sc, e3', sc_sc]
      have hk : c * c2 * c3 ≠ 0 := Int.mul_ne_zero (Int.mul_ne_zero hc hc2) hc3
      generalize c * c2 * c3 = kk at *
      have eb : cr (cr (v3 u) (sc c2 (v3 l2))) (v3 u) = sc (kk * c) (v3 (crossI nm (upI u))) := by rw [em, gu, cr_sc]; rfl
      have hnu : dotI nm u = 0 := by
        rw [dot3 nl]
        have h0 : kk * dt (v3 nm) (v3 u) = 0 := by rw [← dt_sc, ← em]; exact (triple1 _ _ _).trans (by have : zr (cr (v3 u) (v3 u)) := (by refine ⟨?_, ?_, ?_⟩ <;> simp only [cr] <;> grind); rw [dt_z this]; rfl)
        exact (Int.mul_eq_zero.mp h0).resolve_left hk
      have hlf : upI u ∈ lnI (inPl nm vs) := lnI_mem.mpr ⟨u, List.mem_filter.mpr ⟨hu1, decide_eq_true hnu⟩, nzS u hu, rfl⟩
      obtain ⟨b1, hb1, hb1l, hb1p⟩ := pick nm (s := -kk) (by omega)
      obtain ⟨b2, hb2, hb2l, hb2p⟩ := pick (crossI nm (upI u)) (s := kk * c) (Int.mul_ne_zero hk hc)
      obtain ⟨t, ht, htl, htp⟩ := pick (upI u) hc
      refine ⟨fbI b1 (fbI b2 t vs) vs, List.mem_flatMap.mpr ⟨nm, hnm, List.mem_flatMap.mpr ⟨fbI b2 t vs, List.mem_flatMap.mpr ⟨upI u, hlf, List.mem_flatMap.mpr ⟨b2, hb2, List.mem_map.mpr ⟨t, ht, rfl⟩⟩⟩, List.mem_map.mpr ⟨b1, hb1, rfl⟩⟩⟩, fun w hw hp => ?_⟩
      have hb2l' : b2.length = 3 := hb2l
      obtain ⟨f1, f2⟩ := fb_pos (b := b1) (t := fbI b2 t vs) (by rw [fb_len]; omega) hw
      obtain ⟨f3, f4⟩ := fb_pos (b := b2) (t := t) (by omega) hw
      have hx := hlex w (List.mem_filter.mpr ⟨hw, decide_eq_true hp⟩)
      unfold lex3 at hx
      rw [eb, em, dt_sc, dt_sc, ← dot3 nl, ← dot3 (show (crossI nm (upI u)).length = 3 from rfl), gu, dt_sc, ← dot3 ll] at hx
      rcases hx with z | ⟨z1, z2⟩ | ⟨z1, z2, z3⟩
      · exact f1 ((hb1p w).1 (by rw [Int.neg_mul]; omega))
      · rw [f2 ((hb1p w).2 ((Int.mul_eq_zero.mp z1).resolve_left hk))]
        exact f3 ((hb2p w).1 z2)
      · rw [f2 ((hb1p w).2 ((Int.mul_eq_zero.mp z1).resolve_left hk)), f4 ((hb2p w).2 ((Int.mul_eq_zero.mp z2).resolve_left (Int.mul_ne_zero hk hc)))]
        exact (htp w).1 z3
end M

namespace M
open PySem L2 DL W Geo
theorem cover1 {k : Nat} {vs : List (List Int)} (hv : vsz 1 k vs) {v : List Int} (hv2 : v.length = 1) : ∃ a ∈ ([[1], [-1]] : List (List Int)), ∀ w ∈ vs, 0 < dotI v w → 0 < dotI a w := by
  have d1 : ∀ a b : List Int, a.length = 1 → dotI a b = gt a 0 * gt b 0 := fun a b h => by
    unfold dotI
    rw [h]
    show gt a (0 : Nat) * gt b (0 : Nat) + 0 = _
    rw [Int.add_zero]; rfl
  by_cases h : 0 < gt v 0
  · refine ⟨[1], by simp, fun w hw hp => ?_⟩
    rw [d1 _ _ hv2] at hp
    rw [d1 _ _ rfl]
    show 0 < 1 * gt w 0
    have := pos_of_mul hp h
    omega
  · refine ⟨[-1], by simp, fun w hw hp => ?_⟩
    rw [d1 _ _ hv2] at hp
    rw [d1 _ _ rfl]
    show 0 < -1 * gt w 0
    by_cases h0 : gt v 0 = 0
    · rw [h0] at hp; simp at hp
    · have : 0 < (-gt v 0) * (-gt w 0) := by rw [Int.neg_mul_neg]; exact hp
      have := pos_of_mul this (by omega)
      omega
theorem cover {n k : Nat} {vs : List (List Int)} (hn : n = 1 ∨ n = 2 ∨ n = 3) (hv : vsz n k vs) {v : List Int} (hv2 : v.length = n) : (∀ w ∈ vs, dotI v w ≤ 0) ∨ ∃ a ∈ cutI n vs, ∀ w ∈ vs, 0 < dotI v w → 0 < dotI a w := by
  unfold cutI
  rcases hn with rfl | rfl | rfl
  · rw [if_pos rfl]; exact .inr (cover1 hv hv2)
  · rw [if_neg (by omega), if_pos rfl]; exact cover2 hv hv2
  · rw [if_neg (by omega), if_neg (by omega)]; exact cover3 hv hv2
theorem sum_filter_le {f : Nat → Int} {p q : Nat → Bool} : ∀ l : List Nat, (∀ k ∈ l, 0 ≤ f k) → (∀ k ∈ l, p k = true → q k = true) → ((l.filter p).map f).sum ≤ ((l.filter q).map f).sum
  | [], _, _ => by simp
  | k :: l, h1, h2 => by
    have ih := sum_filter_le l (fun j hj => h1 j (List.mem_cons_of_mem _ hj)) (fun j hj => h2 j (List.mem_cons_of_mem _ hj))
    have hk := h1 k List.mem_cons_self
    cases hp : p k with
    | true =>
      rw [List.filter_cons_of_pos hp, List.filter_cons_of_pos (h2 k List.mem_cons_self hp), List.map_cons, List.sum_cons, List.map_cons, List.sum_cons]
      omega
    | false =>
      rw [List.filter_cons_of_neg (by rw [hp]; simp)]
      cases hq : q k with
      | true => rw [List.filter_cons_of_pos hq, List.map_cons, List.sum_cons]; omega
      | false => rw [List.filter_cons_of_neg (by rw [hq]; simp)]; exact ih
def nnW (ws : List Int) : Prop := ∀ x ∈ ws, 0 ≤ x
theorem wt_mono {ws : List Int} {vs : List (List Int)} {a v : List Int} (hl : ws.length = vs.length) (hw : nnW ws) (h : ∀ w ∈ vs, 0 < dotI v w → 0 < dotI a w) : wtI ws vs a ≤ wtI ws vs v := by
  refine sum_filter_le _ (fun k hk => ?_) fun k hk hp => ?_
  · have := mem_upto.mp hk
    exact hw _ (gt_mem (v := ws) (i := k) (by omega) (by omega))
  · have hk := mem_upto.mp hk
    have hp := of_decide_eq_true hp
    refine decide_eq_true ?_
    apply Classical.byContradiction
    intro hn
    have := h _ (gv_mem (v := vs) (i := k) (by omega) (by omega)) (by omega)
    omega
theorem wt_le {ws : List Int} {vs : List (List Int)} {a : List Int} (hl : ws.length = vs.length) (hw : nnW ws) : wtI ws vs a ≤ ws.sum := by
  have h1 := sum_filter_le (f := fun (k : Nat) => gt ws k) (p := fun (k : Nat) => decide (dotI a (gv vs k) ≤ 0)) (q := fun _ => true) (upto vs.length) (fun k hk => by
    have := mem_upto.mp hk
    exact hw _ (gt_mem (v := ws) (i := k) (by omega) (by omega))) fun _ _ _ => rfl
  rw [List.filter_eq_self.mpr fun _ _ => rfl, ← hl, sum_gt] at h1
  have e : wtI ws vs a = (List.map (fun (k : Nat) => gt ws k) (List.filter (fun (k : Nat) => decide (dotI a (gv vs k) ≤ 0)) (upto ws.length))).sum := by unfold wtI nbI; rw [hl]
  rw [e]; exact h1
theorem fold_spec (ws : List Int) (vs : List (List Int)) : ∀ (as : List (List Int)) (b : Int × List Int), (as.foldl (stI ws vs) b).1 ≤ b.1 ∧ (∀ a ∈ as, (as.foldl (stI ws vs) b).1 ≤ wtI ws vs a) ∧ (as.foldl (stI ws vs) b = b ∨ ∃ a ∈ as, wtI ws vs a < b.1 ∧ as.foldl (stI ws vs) b = (wtI ws vs a, plI a))
  | [], b => ⟨Int.le_refl _, fun a ha => (by cases ha), .inl rfl⟩
  | a :: as, b => by
    obtain ⟨h1, h2, h3⟩ := fold_spec ws vs as (stI ws vs b a)
    rw [List.foldl_cons]
    generalize as.foldl (stI ws vs) (stI ws vs b a) = r at *
    unfold stI at h1 h3
    by_cases hw : wtI ws vs a < b.1
    · rw [if_pos hw] at h1 h3
      have h1 : r.1 ≤ wtI ws vs a := h1
      refine ⟨by omega, fun c hc => ?_, ?_⟩
      · rcases List.mem_cons.mp hc with rfl | hc
        · exact h1
        · exact h2 c hc
      · rcases h3 with h3 | ⟨c, hc, h4, h5⟩
        · exact .inr ⟨a, List.mem_cons_self, hw, h3⟩
        · have h4 : wtI ws vs c < wtI ws vs a := h4
          exact .inr ⟨c, List.mem_cons_of_mem _ hc, by omega, h5⟩
    · rw [if_neg hw] at h1 h3
      refine ⟨h1, fun c hc => ?_, ?_⟩
      · rcases List.mem_cons.mp hc with rfl | hc
        · omega
        · exact h2 c hc
      · rcases h3 with h3 | ⟨c, hc, h4, h5⟩
        · exact .inl h3
        · exact .inr ⟨c, List.mem_cons_of_mem _ hc, h4, h5⟩
theorem lig_le {n k : Nat} {ws : List Int} {vs : List (List Int)} (hn : n = 1 ∨ n = 2 ∨ n = 3) (hv : vsz n k vs) (hl : ws.length = vs.length) (hw : nnW ws) {v : List Int} (hv2 : v.length = n) : (ligV n ws vs).1 ≤ wtI ws vs v := by
  obtain ⟨h1, h2, h3⟩ := fold_spec ws vs (cutI n vs) (ws.sum, axI n 0)
  rcases cover hn hv hv2 with h | ⟨a, ha, h⟩
  · have : wtI ws vs v = ws.sum := wt_z hl fun k hk => h _ (gv_mem (v := vs) (i := k) (by omega) (by omega))
    rw [this]; exact h1
  · exact Int.le_trans (h2 a ha) (wt_mono hl hw h)
theorem axI_len {n : Nat} {i : Int} : (axI n i).length = n := by unfold axI upto; rw [List.length_map, List.length_range]
theorem axI_nz {n : Nat} (hn : 0 < n) : nzL (axI n 0) := by
  refine ⟨1, ?_, by omega⟩
  unfold axI
  refine List.mem_map.mpr ⟨0, mem_upto.mpr hn, rfl⟩
theorem pl_wt {ws : List Int} {vs : List (List Int)} {a : List Int} (h : nzL a) : wtI ws vs (plI a) = wtI ws vs a := by
  have hp := gcdL_pos h
  have key : ∀ w, dotI a w = gcdL a 0 * dotI (plI a) w := fun w => by
    conv => lhs; rw [plI_smul (v := a)]
    exact smul_dot
  have e : nbI (plI a) vs = nbI a vs := by
    unfold nbI
    refine List.filter_congr fun k hk => ?_
    rw [decide_eq_decide, key]
    constructor
    · intro hle
      apply Classical.byContradiction
      intro hn
      have := pos_of_mul (show 0 < gcdL a 0 * dotI (plI a) (gv vs k) by omega) hp
      omega
    · intro hle
      apply Classical.byContradiction
      intro hn
      have := Int.mul_pos hp (show 0 < dotI (plI a) (gv vs k) by omega)
      omega
  unfold wtI
  rw [e]
theorem lig_at {n k : Nat} {ws : List Int} {vs : List (List Int)} (hn : n = 1 ∨ n = 2 ∨ n = 3) (hv : vsz n k vs) (hne : vs ≠ []) (hl : ws.length = vs.length) (hw : nnW ws) : wtI ws vs (ligV n ws vs).2 = (ligV n ws vs).1 ∧ (ligV n ws vs).2.length = n ∧ nzL (ligV n ws vs).2 ∧ bv (8 * k + 40) (ligV n ws vs).2 := by
  have hlow := lig_le hn hv hl hw (v := axI n 0) axI_len
  obtain ⟨h1, h2, h3⟩ := fold_spec ws vs (cutI n vs) (ws.sum, axI n 0)
  have hd : ligV n ws vs = (cutI n vs).foldl (stI ws vs) (ws.sum, axI n 0) := rfl
  rw [← hd] at h1 h2 h3
  rcases h3 with h3 | ⟨a, ha, h4, h5⟩
  · rw [h3] at hlow ⊢
    have hlow : ws.sum ≤ wtI ws vs (axI n 0) := hlow
    have := wt_le (a := axI n 0) hl hw
    refine ⟨by show wtI ws vs (axI n 0) = ws.sum; omega, axI_len, axI_nz (by omega), fun x hx => ?_⟩
    obtain ⟨i, _, rfl⟩ := List.mem_map.mp hx
    unfold bw
    have : 1 < 2 ^ (8 * k + 40) := Nat.one_lt_two_pow (by omega)
    split <;> omega
  · rw [h5]
    obtain ⟨a1, a2⟩ := cut_mem hn hv hne ha
    have hnz := wt_nz hl h4
    exact ⟨pl_wt hnz, by show (plI a).length = n; unfold plI; rw [List.length_map]; exact a1, plI_nz hnz, plI_bv hnz a2⟩
end M

namespace M
open PySem L2 DL W
theorem lenG_scr (v : List Int) : lenG [.scr v] = some (.int v.length) := rfl
theorem bw_lt {k : Nat} {i : Int} (h0 : 0 ≤ i) (h : i < 2 ^ k) : bw k i := by
  unfold bw
  have : ((2 ^ k : Nat) : Int) = (2 : Int) ^ k := by norm_cast
  omega
theorem pow_of {a b : Int} {r : Int} (h : CPow a b) (e : a ^ b.toNat = r) : powD (.int a) (.int b) = some (.int r) := by rw [← e]; exact iD_int h
theorem forD_range {gg : D → DL.Env → Option DL.Env} {fs : DL.Env → Option Out} (c : Nat → D) (I : Nat → DL.Env → Prop) : ∀ (m s : Nat) (ρ : DL.Env), I s ρ →
    (∀ (i : Nat) (ρ : DL.Env), s ≤ i → i < s + m → I i ρ → ∃ ρ1 ρ', gg (c i) ρ = some ρ1 ∧ fs ρ1 = some (.nx ρ') ∧ I (i + 1) ρ') → ∃ ρ', forD gg fs ((List.range' s m).map c) ρ = some (.nx ρ') ∧ I (s + m) ρ'
  | 0, s, ρ, h0, _ => ⟨ρ, rfl, h0⟩
  | m + 1, s, ρ, h0, hs => by
    obtain ⟨ρ1, ρ2, e1, e2, h1⟩ := hs s ρ (Nat.le_refl _) (by omega) h0
    obtain ⟨ρ3, e3, h3⟩ := forD_range c I m (s + 1) ρ2 h1 fun i r h1 h2 => hs i r (by omega) (by omega)
    refine ⟨ρ3, ?_, by rw [show s + (m + 1) = s + 1 + m by omega]; exact h3⟩
    rw [List.range'_succ, List.map_cons]
    exact forD_nx e1 e2 e3
theorem forD_upto {gg : D → DL.Env → Option DL.Env} {fs : DL.Env → Option Out} (c : Nat → D) (I : Nat → DL.Env → Prop) (n : Nat) (ρ : DL.Env) (h0 : I 0 ρ)
    (hs : ∀ (i : Nat) (ρ : DL.Env), i < n → I i ρ → ∃ ρ1 ρ', gg (c i) ρ = some ρ1 ∧ fs ρ1 = some (.nx ρ') ∧ I (i + 1) ρ') : ∃ ρ', forD gg fs ((upto n).map c) ρ = some (.nx ρ') ∧ I n ρ' := by
  have e : upto n = List.range' 0 n := by unfold upto; exact List.range_eq_range' ..
  rw [e]
  have := forD_range c I n 0 ρ h0 fun i r _ h2 hI => hs i r (by omega) hI
  rw [Nat.zero_add] at this
  exact this
theorem forD_pre {α : Type} {gg : D → DL.Env → Option DL.Env} {fs : DL.Env → Option Out} (c : α → D) (I : List α → DL.Env → Prop) (l : List α) (ρ : DL.Env) (h0 : I [] ρ)
    (hs : ∀ (pre : List α) (x : α) (post : List α) (ρ : DL.Env), pre ++ x :: post = l → I pre ρ → ∃ ρ1 ρ', gg (c x) ρ = some ρ1 ∧ fs ρ1 = some (.nx ρ') ∧ I (pre ++ [x]) ρ') : ∃ ρ', forD gg fs (l.map c) ρ = some (.nx ρ') ∧ I l ρ' := by
  have key : ∀ (post pre : List α) (ρ : DL.Env), pre ++ post = l → I pre ρ → ∃ ρ', forD gg fs (post.map c) ρ = some (.nx ρ') ∧ I l ρ' := by
    intro post
    induction post with
    | nil => intro pre ρ e h; rw [List.append_nil] at e; subst e; exact ⟨ρ, rfl, h⟩
    | cons x post ih =>
      intro pre ρ e h
      obtain ⟨ρ1, ρ2, e1, e2, h1⟩ := hs pre x post ρ e h
      obtain ⟨ρ3, e3, h3⟩ := ih (pre ++ [x]) ρ2 (by rw [List.append_assoc]; exact e) h1
      exact ⟨ρ3, by rw [List.map_cons]; exact forD_nx e1 e2 e3, h3⟩
  exact key l [] ρ rfl h0
theorem pre_lt {α : Type} {pre post l : List α} {x : α} (e : pre ++ x :: post = l) : pre.length < l.length ∧ x ∈ l := by
  subst e; simp
/-! ### whole, cell -/
theorem L_whole (i : Int) : G__law_whole [.int i] = some (.bl true) := by
  unfold G__law_whole b__law_whole N__law_whole
  refine run_of (sRet_of ?_)
  exact (eAnd_of (b := true) (c := true) ((eIsi_of (eVar_of rfl) rfl).trans rfl) fun _ => eU_of ((eIsi_of (eVar_of rfl) rfl).trans rfl) rfl)
theorem wd {i : Int} (h0 : 0 ≤ i) (h : i < 2 ^ 200) : wide i := (bw_lt (k := 200) h0 h).wide (by omega)
theorem L_cell (ns : List Int) (k : Int) (h0 : 0 ≤ k) (hk : k ≤ 1000) (hl : ns.length ≤ 63) : ∃ c, G__law_cell [.scr ns, .int k] = some (.int c) := by
  unfold G__law_cell b__law_cell N__law_cell
  by_cases hlt : k < ns.length
  · refine ⟨gt ns k, run_of (sSeq_rt (sIf_t (eT_of (eOp_of (eVar_of rfl) (eCall_of (aCons_of (eVar_of rfl) aNil_of) (lenG_scr _)) (ltD_of.trans ?_))) (sRet_of (eOp_of (eVar_of rfl) (eVar_of rfl) (ixD_scr h0 hlt)))))⟩
    rw [decide_eq_true hlt]
  · obtain ⟨ρ', e, s, j, rfl, hs0, hs1⟩ := forD_inv (fs := b__law_cell_1) (gg := gN 3) D.int (fun _ ρ => ∃ s j, ρ = [.va (.scr ns), .va (.int k), .va (.int s), j] ∧ 0 ≤ s ∧ s < 1000003) ns [] [.va (.scr ns), .va (.int k), .va (.int 17), .no] ⟨17, .no, rfl, by omega, by omega⟩ (by
      rintro pre x ρ hx ⟨s, j, rfl, h1, h2⟩
      refine ⟨_, _, gN_of, sSet_of (eOp_of (eCall_of (aCons_of (eOp_of (eOp_of (eVar_of rfl) eC_of (mulD_of (wd h1 (by omega)) (wd (by omega) (by omega)))) (eOp_of (eCall_of (aCons_of (eVar_of rfl) aNil_of) intG_int) eC_of (modD_of (by omega))) addD_int) aNil_of) intG_int) eC_of (modD_of (by omega))), _, _, rfl, Int.emod_nonneg _ (by omega), Int.emod_lt_of_pos _ (by omega)⟩)
    refine ⟨_, run_of (sSeq_nx (sIf_f (eT_of (eOp_of (eVar_of rfl) (eCall_of (aCons_of (eVar_of rfl) aNil_of) (lenG_scr _)) (ltD_of.trans ?_))) rfl) (sSeq_set eC_of (sSeq_nx (sFor_of (iA_scr (eVar_of rfl) (by unfold lim; omega)) e) (sRet_of
      (eOp_of (eCall_of (aCons_of (eOp_of (eOp_of (eOp_of (eVar_of rfl) eC_of addD_int) (eOp_of (eVar_of rfl) eC_of addD_int) (mulD_of (wd (by omega) (by omega)) (wd (by omega) (by omega)))) eC_of (mulD_of ?_ (wd (by omega) (by omega)))) aNil_of) intG_int) eC_of (modD_of (by omega)))))))⟩
    · rw [decide_eq_false hlt]
    · have a := bw_lt (k := 21) (i := s + 7) (by omega) (by omega)
      have b := bw_lt (k := 21) (i := k + 3) (by omega) (by omega)
      exact (a.mul b).wide (by omega)
/-! ### digits -/
def Dg (acc pre : List Int) : Prop := acc.length = pre.length ∧ ∀ (i : Nat) (x y : Int), acc[i]? = some x → pre[i]? = some y → 0 ≤ x ∧ x < y
theorem Dg.nil : Dg [] [] := ⟨rfl, fun i x y h => by simp at h⟩
theorem Dg.snoc {acc pre : List Int} {x y : Int} (h : Dg acc pre) (h0 : 0 ≤ x) (h1 : x < y) : Dg (acc ++ [x]) (pre ++ [y]) := by
  refine ⟨by simp [h.1], fun i a b ha hb => ?_⟩
  by_cases hi : i < acc.length
  · rw [List.getElem?_append_left hi] at ha
    rw [List.getElem?_append_left (by rw [← h.1]; exact hi)] at hb
    exact h.2 i a b ha hb
  · rw [List.getElem?_append_right (by omega)] at ha
    rw [List.getElem?_append_right (by rw [← h.1]; omega), ← h.1] at hb
    rw [List.getElem?_singleton] at ha hb
    split at ha
    · rw [if_pos (by assumption)] at hb
      cases ha; cases hb
      exact ⟨h0, h1⟩
    · cases ha
theorem Dg.gt {acc pre : List Int} (h : Dg acc pre) {i : Int} (h0 : 0 ≤ i) (h1 : i < pre.length) : 0 ≤ gt acc i ∧ gt acc i < gt pre i :=
  h.2 i.toNat _ _ (gt_get h0 (by rw [h.1]; exact h1)) (gt_get h0 h1)
def szs (sizes : List Int) : Prop := ∀ x ∈ sizes, 0 < x ∧ x < 2 ^ 200
theorem szs.slim {sizes : List Int} (h : szs sizes) {x : Int} (hx : x ∈ sizes) : slim x := slim_of (bw_lt (k := 200) (by have := (h x hx).1; omega) (h x hx).2) (by omega) (h x hx).1
theorem sApp_int {ρ : DL.Env} {i : Nat} {f : DL.Env → Option D} {xs : List Int} {x : Int} (h0 : ρ[i]? = some (.ol (xs.map D.int))) (h : f ρ = some (.int x)) (hl : xs.length < lim) : sApp i f ρ = some (.nx (setS ρ i (.ol ((xs ++ [x]).map D.int)))) := by
  rw [List.map_append]
  exact sApp_of h0 h (by rw [List.length_map]; exact hl)
theorem p18 : powD (.int 10) (.int 18) = some (.int 1000000000000000000) := pow_of ⟨by decide, by decide, by decide⟩ (by rfl)
theorem L_digits (c : Int) (sizes : List Int) (hs : szs sizes) (hl : sizes.length ≤ 200) : ∃ row, G__law_digits [.int c, lstI sizes] = some (lstI row) ∧ Dg row sizes := by
  unfold G__law_digits b__law_digits N__law_digits
  have T : ∀ r j, eT (eOp geD (eVar 3) (eOp powD (eC (D.int 10)) (eC (D.int 18)))) [.va (.int c), .va (lstI sizes), .ol [], .va (.int r), j, .no, .no, .no] = some (decide (1000000000000000000 ≤ r)) := fun r j => eT_of (eOp_of (eVar_of rfl) (eOp_of eC_of eC_of p18) geD_of)
  by_cases hc : 1000000000000000000 ≤ c
  · obtain ⟨ρ', e, acc, rest, j4, rfl, hd⟩ := forD_pre (fs := b__law_digits_1) (gg := gN 4) D.int (fun pre ρ => ∃ acc rest j4, ρ = [.va (.int c), .va (lstI sizes), .ol (acc.map D.int), .va (.int rest), j4, .no, .no, .no] ∧ Dg acc pre) sizes [.va (.int c), .va (lstI sizes), .ol [], .va (.int (c - 1000000000000000000)), .no, .no, .no, .no] ⟨[], _, .no, rfl, Dg.nil⟩ (by
      rintro pre x post ρ hp ⟨acc, rest, j4, rfl, hd⟩
      obtain ⟨h1, h2⟩ := pre_lt hp
      obtain ⟨x1, x2⟩ := hs x h2
      have := hd.1
      exact ⟨_, _, gN_of, sSeq_nx (sApp_int rfl (eOp_of (eCall_of (aCons_of (eVar_of rfl) aNil_of) intG_int) (eVar_of rfl) (modD_of x1)) (by unfold lim; omega)) (sSet_of (eOp_of (eCall_of (aCons_of (eVar_of rfl) aNil_of) intG_int) (eVar_of rfl) (fdivD_of (hs.slim h2)))), _, _, _, rfl, hd.snoc (Int.emod_nonneg _ (by omega)) (Int.emod_lt_of_pos _ x1)⟩)
    refine ⟨acc, run_of (sSeq_own (s := .ol []) rfl (sSeq_set (eCall_of (aCons_of (eVar_of rfl) aNil_of) intG_int) (sSeq_rt (sIf_t ((T c .no).trans ?_) (sSeq_set (eOp_of (eVar_of rfl) (eOp_of eC_of eC_of p18) subD_of) (sSeq_nx (sFor_of (iA_lstI (eVar_of rfl)) e) (sFz_of (sRet_of (eVar_of rfl))))))))), hd⟩
    rw [decide_eq_true hc]
  · obtain ⟨ρ', e, acc, s, j6, j7, rfl, hd, hs0, hs1⟩ := forD_upto (fs := b__law_digits_2) (gg := gN 6) (fun k : Nat => D.int (k : Int)) (fun i ρ => ∃ acc s j6 j7, ρ = [.va (.int c), .va (lstI sizes), .ol (acc.map D.int), .va (.int c), .no, .va (.int s), j6, j7] ∧ Dg acc (sizes.take i) ∧ 0 ≤ s ∧ s < 2147483647) sizes.length
      [.va (.int c), .va (lstI sizes), .ol [], .va (.int c), .no, .va (.int (c % 2147483629)), .no, .no] ⟨[], _, .no, .no, rfl, Dg.nil, Int.emod_nonneg _ (by omega), by have := Int.emod_lt_of_pos c (show (0 : Int) < 2147483629 by omega); omega⟩ (by
      rintro i ρ hi ⟨acc, s, j6, j7, rfl, hd, h0, h1⟩
      have hla := hd.1
      rw [List.length_take] at hla
      have hm := gt_mem (v := sizes) (i := (i : Int)) (by omega) (by omega)
      obtain ⟨x1, x2⟩ := hs _ hm
      have et : sizes.take (i + 1) = sizes.take i ++ [gt sizes i] := by
        rw [List.take_succ]
        congr 1
        have := gt_get (v := sizes) (i := (i : Int)) (by omega) (by omega)
        rw [Int.toNat_natCast] at this
        rw [this]; rfl
      have w1 : ∀ t : Int, 0 ≤ t → t < 2147483647 → wide (t * (t / 65537 + 3)) ∧ wide t ∧ wide (t / 65537 + 3) := fun t a b => by
        have q := Int.ediv_nonneg a (show (0 : Int) ≤ 65537 by omega)
        have q2 := Int.ediv_le_self 65537 a
        have A := bw_lt (k := 31) a (by omega)
        have B := bw_lt (k := 32) (i := t / 65537 + 3) (by omega) (by omega)
        exact ⟨(A.mul B).wide (by omega), A.wide (by omega), B.wide (by omega)⟩
      have e0 := Int.emod_nonneg (s * 48271 + 974711 * i + 12345) (show (2147483647 : Int) ≠ 0 by omega)
      have e1 := Int.emod_lt_of_pos (s * 48271 + 974711 * i + 12345) (show (0 : Int) < 2147483647 by omega)
      obtain ⟨wa, wb, wc⟩ := w1 _ e0 e1
      refine ⟨_, _, gN_of, sSeq_nx (sSet_of (eOp_of (eCall_of (aCons_of (eOp_of (eOp_of (eOp_of (eVar_of rfl) eC_of (mulD_of (wd h0 (by omega)) (wd (by omega) (by omega)))) (eOp_of eC_of (eVar_of rfl) (mulD_of (wd (by omega) (by omega)) (wd (by omega) (by omega)))) addD_int) eC_of addD_int) aNil_of) intG_int) eC_of (modD_of (by omega))))
        (sSeq_nx (sSet_of (eOp_of (eCall_of (aCons_of (eOp_of (eVar_of rfl) (eOp_of (eOp_of (eVar_of rfl) eC_of (fdivD_of (slim_of (k := 200) (bw_lt (by omega) (by omega)) (by omega) (by omega)))) eC_of addD_int) (mulD_of wb wc)) aNil_of) intG_int) eC_of (modD_of (by omega))))
        (sApp_int rfl (eOp_of (eOp_of (eVar_of rfl) eC_of (fdivD_of (slim_of (k := 200) (bw_lt (by omega) (by omega)) (by omega) (by omega)))) (eOp_of (eVar_of rfl) (eVar_of rfl) (ixD_lstI (by omega) (by omega))) (modD_of x1)) (by unfold lim; omega))), _, _, _, _, rfl, ?_, e0, e1⟩
      rw [et]
      exact hd.snoc (Int.emod_nonneg _ (by omega)) (Int.emod_lt_of_pos _ x1))
    rw [List.take_length] at hd
    refine ⟨acc, run_of (sSeq_own (s := .ol []) rfl (sSeq_set (eCall_of (aCons_of (eVar_of rfl) aNil_of) intG_int) (sSeq_nx (sIf_f ((T c .no).trans ?_) rfl) (sSeq_set (eOp_of (eCall_of (aCons_of (eVar_of rfl) aNil_of) intG_int) eC_of (modD_of (by omega))) (sSeq_nx (sFor_of (iR1_of (eCall_of (aCons_of (eVar_of rfl) aNil_of) (lenG_lstI _)) (by unfold lim; omega)) e) (sFz_of (sRet_of (eVar_of rfl)))))))), hd⟩
    rw [decide_eq_false hc]
/-! ### gcd, reduced -/
theorem abs_nn (a : Int) : (if a < 0 then -a else a) = (a.natAbs : Int) := by split <;> omega
theorem while_gcd : ∀ (n a b : Nat) (j : Sl), b ≤ n → ∃ j', sWhile (eT (eOp neD (eVar 1) (eC (.int 0)))) b__law_gcd_1 [.va (.int a), .va (.int b), j] = some (.nx [.va (.int (a.gcd b : Nat)), .va (.int 0), j'])
  | n, a, b, j, hn => by
    have T : eT (eOp neD (eVar 1) (eC (.int 0))) [.va (.int a), .va (.int b), j] = some (!decide ((b : Int) = 0)) := eT_of (eOp_of (eVar_of rfl) eC_of neD_int)
    by_cases hb : b = 0
    · subst hb
      refine ⟨j, ?_⟩
      rw [Nat.gcd_zero_right]
      exact sWhile_false T
    · match n, hn with
      | 0, hn => exact absurd (Nat.le_zero.mp hn) hb
      | n + 1, hn =>
        have hlt := Nat.mod_lt a (show 0 < b by omega)
        obtain ⟨j', ih⟩ := while_gcd n b (a % b) (.va (.int ((a % b : Nat) : Int))) (by omega)
        refine ⟨j', ?_⟩
        have eg : a.gcd b = b.gcd (a % b) := by rw [Nat.gcd_comm, Nat.gcd_rec, Nat.gcd_comm]
        rw [eg]
        refine sWhile_true (T.trans (by rw [decide_eq_false (by omega)]; rfl)) ?_ ih
        unfold b__law_gcd_1
        exact sSeq_nx (sSet_of (d := .int ((a % b : Nat) : Int)) ((eOp_of (eCall_of (aCons_of (eVar_of rfl) aNil_of) intG_int) (eVar_of rfl) (modD_of (by omega))).trans (by rw [Int.natCast_emod]))) (sSeq_nx (sSet_of (eVar_of rfl)) (sSet_of (eVar_of rfl)))
theorem L_gcd (a b : Int) : G__law_gcd [.int a, .int b] = some (.int ((a.natAbs.gcd b.natAbs : Nat) : Int)) := by
  unfold G__law_gcd b__law_gcd N__law_gcd
  obtain ⟨j, e⟩ := while_gcd b.natAbs a.natAbs b.natAbs .no (Nat.le_refl _)
  refine run_of (sSeq_set (d := .int (a.natAbs : Int)) ((eCall_of (aCons_of (eVar_of rfl) aNil_of) absG_int).trans (by rw [abs_nn])) (sSeq_set (d := .int (b.natAbs : Int)) ((eCall_of (aCons_of (eVar_of rfl) aNil_of) absG_int).trans (by rw [abs_nn])) (sSeq_nx e (sRet_of (eVar_of rfl)))))
theorem forD_red {n0 b0 : D} : ∀ (l : List Int) (c : Int) (j : Sl), ∃ j', forD (gN 3) b__law_reduced_1 (l.map D.int) [.va n0, .va b0, .va (.int c), j] = some (.nx [.va n0, .va b0, .va (.int (gcdL l c)), j'])
  | [], c, j => ⟨j, rfl⟩
  | y :: l, c, j => by
    obtain ⟨j', ih⟩ := forD_red (n0 := n0) (b0 := b0) l ((c.natAbs.gcd y.natAbs : Nat) : Int) (.va (.int y))
    refine ⟨j', ?_⟩
    rw [List.map_cons]
    exact forD_nx gN_of (sSet_of (eCall_of (aCons_of (eVar_of rfl) (aCons_of (eVar_of rfl) aNil_of)) (L_gcd _ _))) ih
theorem gcdL_bot {l : List Int} {b : Int} (hb : 0 < b) : 0 < gcdL l b ∧ gcdL l b ≤ b := by
  have h1 := (gcdL_dvd l b).1
  have h2 := gcdL_nonneg l b (by omega)
  have h3 := Int.le_of_dvd hb h1
  refine ⟨?_, h3⟩
  rcases Int.lt_or_eq_of_le h2 with z | z
  · exact z
  · rw [← z] at h1
    have := Int.zero_dvd.mp h1
    omega
theorem L_reduced {ns : List Int} {b : Int} {k : Nat} (hb : 0 < b) (wb : bw k b) (hk : k ≤ 8000) (wn : bv k ns) (hl : ns.length ≤ 1000) : ∃ p, G__law_reduced [lstI ns, .int b] = some (tupI p) ∧ p.length = ns.length + 1 ∧ bv k p ∧ 0 < gt p (p.length - 1) := by
  obtain ⟨g0, g1⟩ := gcdL_bot (l := ns) hb
  have hg : slim (gcdL ns b) := ⟨g0, by unfold bw at wb; exact Nat.lt_of_le_of_lt (show (gcdL ns b).natAbs ≤ b.natAbs by omega) (Nat.lt_of_lt_of_le wb (Nat.pow_le_pow_right (by decide) hk))⟩
  obtain ⟨j, e⟩ := forD_red (n0 := lstI ns) (b0 := .int b) ns b .no
  refine ⟨ns.map (fun x => x / gcdL ns b) ++ [b / gcdL ns b], ?_, by simp, ?_, ?_⟩
  · unfold G__law_reduced b__law_reduced N__law_reduced
    refine run_of (sSeq_set (eVar_of rfl) (sSeq_nx (sFor_of (iA_lstI (eVar_of rfl)) e) (sRet_of (eOp_of (eCall_of (aCons_of (eLc_all (g := fun x => D.int (x / gcdL ns b)) (iA_lstI (eVar_of rfl)) fun x hx => eOp_of (eVar_of rfl) (eVar_of rfl) (fdivD_of hg)) aNil_of) (tupG_map _ _)) (eTup_of (aCons_of (eOp_of (eVar_of rfl) (eVar_of rfl) (fdivD_of hg)) aNil_of) (show 1 ≤ lim by decide)) ?_))))
    show (if ((ns.map fun x => x / gcdL ns b).map D.int).length + 1 ≤ lim then some (D.tup (((ns.map fun x => x / gcdL ns b).map D.int) ++ [D.int (b / gcdL ns b)])) else none) = _
    rw [if_pos (by rw [List.length_map, List.length_map]; unfold lim; omega)]
    unfold tupI
    rw [List.map_append]
    rfl
  · have dv : ∀ x, bw k x → bw k (x / gcdL ns b) := fun x hx => by
      unfold bw at *
      exact Nat.lt_of_le_of_lt (Int.natAbs_ediv_le_natAbs _ _) hx
    intro y hy
    rcases List.mem_append.mp hy with hy | hy
    · obtain ⟨x, hx, rfl⟩ := List.mem_map.mp hy
      exact dv x (wn x hx)
    · rw [List.mem_singleton] at hy; subst hy; exact dv b wb
  · have e1 : gt (ns.map (fun x => x / gcdL ns b) ++ [b / gcdL ns b]) ((ns.map (fun x => x / gcdL ns b) ++ [b / gcdL ns b]).length - 1) = b / gcdL ns b := by
      have := gt_last (p := ns.map (fun x => x / gcdL ns b) ++ [b / gcdL ns b]) (by simp)
      rw [List.getLast?_append] at this
      simp at this
      simpa using this.symm
    rw [e1]
    exact Int.ediv_pos_of_pos_of_dvd hb (by omega) (gcdL_dvd ns b).1
end M

namespace M
open PySem L2 DL W
local macro_rules | `(tactic| and_intros) => `(tactic| (repeat (first | first
      | (with_reducible first
      | apply (sSeq_set)
      | apply sSeq_own
      | apply sSeq_asg
      | apply sSet_of
      | apply sRet_of
      | apply sFz_of
      | apply sAsg_of
      | apply eOp_of
      | apply eU_of
      | apply eCall_of
      | apply aCons_of
      | exact aNil_of
      | exact bYes_of
      | exact eC_of
      | exact gN_of
      | apply eTup_of2
      | apply eLst_of2
      | apply fLst_of2
      | apply eT_of
      | apply bNot_of
      | apply eIsi_of2
      | exact subD_of
      | exact addD_int
      | exact negD_int
      | exact notD_bl
      | exact intG_int
      | exact intG_bl
      | exact absG_int
      | exact gcdG_int
      | exact ltD_of
      | exact leD_of
      | exact gtD_of
      | exact geD_of
      | exact eqD_int
      | exact neD_int
      | exact lenG_tupI _
      | exact lenG_lstI _
      | exact lenG_tupV _
      | exact lenG_lstV _)
      | exact ixD_tupI (by omega) (by omega)
      | exact ixD_lstI (by omega) (by omega)
      | exact ixD_tupV (by omega) (by omega)
      | exact ixD_lstV (by omega) (by omega)
      | exact eVar_of rfl
      | apply eTup_of2
      | apply aCons_of
      | (with_unfolding_all exact subD_of)
      | exact Eq.refl true
      | simp only [setS, wipeD, startD, fzD, ofS, List.foldr_cons, List.foldr_nil, List.map_cons, List.map_nil, List.length_cons, List.length_nil, List.replicate_succ, List.replicate_zero, List.cons_append, List.nil_append, Nat.reduceAdd, Nat.reduceSub, List.getElem?_cons_zero, List.getElem?_cons_succ, List.set_cons_zero, List.set_cons_succ])))
theorem L_dot {a b : List Int} {k m : Nat} (hl : a.length = b.length) (ha : a.length ≤ 1000) (wa : bv k a) (wb : bv m b) (hk : k ≤ 400000) (hm : m ≤ 400000) : G__law_dot [tupI a, tupI b] = some (.int (dotI a b)) := by
  unfold G__law_dot b__law_dot N__law_dot
  refine run_of ?_
  and_intros
  apply eLc_all
  · apply iR1_of
    · and_intros
    · unfold lim; omega
  · intro k hk
    have := mem_upto.mp hk
    and_intros
    exact mulD_of ((wa.gt (by omega) (by omega)).wide (by omega)) ((wb.gt (by omega) (by omega)).wide (by omega))
  and_intros
  exact suG_map _ _
theorem L_flip (v : List Int) : G__law_flip [tupI v] = some (tupI (oppI v)) := by
  unfold G__law_flip b__law_flip N__law_flip
  refine run_of ?_
  and_intros
  apply eLc_all
  · apply iA_tupI
    and_intros
  · intro k hk
    and_intros
  and_intros
  exact tupG_map _ _
theorem L_turned (a b : List Int) {k m : Nat} (ha : a.length = 3) (hb : b.length = 3) (wa : bv k a) (wb : bv m b) (hk : k ≤ 400000) (hm : m ≤ 400000) : G__law_turned [tupI a, tupI b] = some (tupI (crossI a b)) := by
  have A0 := (wa.gt (i := 0) (by omega) (by omega)).wide hk
  have A1 := (wa.gt (i := 1) (by omega) (by omega)).wide hk
  have A2 := (wa.gt (i := 2) (by omega) (by omega)).wide hk
  have B0 := (wb.gt (i := 0) (by omega) (by omega)).wide hm
  have B1 := (wb.gt (i := 1) (by omega) (by omega)).wide hm
  have B2 := (wb.gt (i := 2) (by omega) (by omega)).wide hm
  unfold G__law_turned b__law_turned N__law_turned
  refine run_of ?_
  show _ = some (Out.rt (D.tup [.int _, .int _, .int _]))
  repeat (first | exact mulD_of (by assumption) (by assumption) | and_intros; exact mulD_of (by assumption) (by assumption))
  and_intros
theorem L_ways {n m k : Nat} {homes : List (List Int)} {p : List Int} (hh : vsz n m homes) (hn : n ≤ 1000) (hp : p.length = n + 1) (wp : bv k p) (hm : m ≤ 400000) (hk : k ≤ 400000) : G__law_ways [tupV homes, tupI p] = some (lstV (homes.map (offI p))) := by
  unfold G__law_ways b__law_ways N__law_ways
  refine run_of (sSeq_set (d := .int (n : Int)) ?_ (sRet_of ?_))
  · refine (eOp_of (eCall_of (aCons_of (eVar_of rfl) aNil_of) (lenG_tupI _)) eC_of subD_of).trans ?_
    rw [hp]; congr 2; omega
  · refine (eLc_all (l := homes) (c := tupI) (g := fun h => tupI (offI p h)) (iA_tupV (eVar_of rfl)) fun h hm2 => ?_).trans (by rw [lst_mapV])
    obtain ⟨h1, h2⟩ := hh h hm2
    refine (eCall_of (aCons_of (eLc_all (l := upto n) (c := fun k : Nat => D.int k) (g := fun k : Nat => D.int (gt h k * gt p (p.length - 1) - gt p k)) (iR1_of (eVar_of rfl) (by unfold lim; omega)) fun i hi => ?_) aNil_of) (tupG_map _ _)).trans ?_
    · have := mem_upto.mp hi
      have e : gt p n = gt p (p.length - 1) := by congr 1; omega
      rw [← e]
      exact eOp_of (eOp_of (eOp_of (eVar_of rfl) (eVar_of rfl) (ixD_tupI (by omega) (by omega))) (eOp_of (eVar_of rfl) (eVar_of rfl) (ixD_tupI (by omega) (by omega))) (mulD_of ((h2.gt (by omega) (by omega)).wide (by omega)) ((wp.gt (by omega) (by omega)).wide (by omega)))) (eOp_of (eVar_of rfl) (eVar_of rfl) (ixD_tupI (by omega) (by omega))) subD_of
    · unfold offI
      rw [h1]
theorem L_is_arrow {a : List Int} {n : Nat} (ha : a.length = n) (hz : nzL a) : G__law_is_arrow [tupI a, .int n] = some (.bl true) := by
  unfold G__law_is_arrow b__law_is_arrow N__law_is_arrow
  refine run_of (sSeq_nx (sIf_f ((bOr_of (b := false) (c := false) ((bNot_of (eT_of ((eIsi_of (eVar_of rfl) rfl).trans rfl))).trans rfl) fun _ => eT_of ((eOp_of (eCall_of (aCons_of (eVar_of rfl) aNil_of) (lenG_tupI _)) (eVar_of rfl) neD_int).trans ?_)).trans rfl) rfl) (sRet_of ((eAnd_of (b := true) (c := true) ?_ fun _ => ?_).trans rfl)))
  · rw [decide_eq_true (by rw [ha])]; rfl
  · refine (eCall_of (aCons_of (eLc_all (g := fun _ => D.bl true) (iA_tupI (eVar_of rfl)) fun x hx => eCall_of (aCons_of (eVar_of rfl) aNil_of) (L_whole x)) aNil_of) (allG_map _ _)).trans ?_
    simp
  · refine (eCall_of (aCons_of (eLc_all (g := fun x => D.bl (!decide (x = 0))) (iA_tupI (eVar_of rfl)) fun x hx => eOp_of (eVar_of rfl) eC_of neD_int) aNil_of) (anyG_map _ _)).trans ?_
    obtain ⟨x, hx, h0⟩ := hz
    have : (a.any fun x => !decide (x = 0)) = true := List.any_eq_true.mpr ⟨x, hx, by rw [decide_eq_false h0]; rfl⟩
    rw [this]
theorem L_weighed {n k p : Nat} {ws : List Int} {vs : List (List Int)} {a : List Int} (hv : vsz n k vs) (ha : a.length = n) (hn : n ≤ 1000) (wa : bv p a) (hp : p ≤ 400000) (hk : k ≤ 400000) (hl : vs.length ≤ 1000) (hw : ws.length = vs.length) : G__law_weighed [lstV vs, tupI ws, tupI a] = some (.int (wtI ws vs a)) := by
  unfold G__law_weighed b__law_weighed N__law_weighed
  refine run_of (sRet_of (eCall_of (aCons_of (eLc_fil (p := fun (k : Nat) => decide (dotI a (gv vs k) ≤ 0)) (g := fun k : Nat => D.int (gt ws k)) (iR1_of (eCall_of (aCons_of (eVar_of rfl) aNil_of) (lenG_lstV vs)) (by unfold lim; omega)) (fun i hi => ?_) (fun i hi _ => ?_)) aNil_of) (suG_map _ _)))
  · have := mem_upto.mp hi
    obtain ⟨h1, h2⟩ := hv _ (gv_mem (v := vs) (i := i) (by omega) (by omega))
    exact eT_of (eOp_of (eCall_of (aCons_of (eVar_of rfl) (aCons_of (eOp_of (eVar_of rfl) (eVar_of rfl) (ixD_lstV (by omega) (by omega))) aNil_of)) (L_dot (ha.trans h1.symm) (by omega) wa h2 hp hk)) eC_of leD_of)
  · have := mem_upto.mp hi
    exact eOp_of (eVar_of rfl) (eVar_of rfl) (ixD_tupI (by omega) (by omega))
/-! ### tied -/
theorem L_tied {n p q k : Nat} {a : List Int} {ties vs : List (List Int)} (hn : n ≤ 1000) (ha : a.length = n) (wa : bv p a) (ht : vsz n q ties) (hv : vsz n k vs) (hne : vs ≠ []) (hp : p + q + k ≤ 100000) (hl : ties.length ≤ 1000) :
    ∃ as, G__law_tied [tupI a, lstV ties, lstV vs] = some (lstV as) ∧ vsz n (p + q + k + 12) as ∧ as.length = 2 * ties.length := by
  unfold G__law_tied b__law_tied N__law_tied
  obtain ⟨ρ', e, acc, j4, j5, j6, rfl, h1, h2⟩ := forD_pre (fs := b__law_tied_2) (gg := gN 4) tupI (fun pre ρ => ∃ (acc : List (List Int)) (j4 j5 j6 : Sl), ρ = [.va (tupI a), .va (lstV ties), .va (lstV vs), .ol (acc.map tupI), j4, j5, j6, .no, .no] ∧ vsz n (p + q + k + 12) acc ∧ acc.length = 2 * pre.length) ties
    [.va (tupI a), .va (lstV ties), .va (lstV vs), .ol [], .no, .no, .no, .no, .no] ⟨[], .no, .no, .no, rfl, (fun v hv => by cases hv), rfl⟩ (by
    rintro pre t post ρ hpre ⟨acc, j4, j5, j6, rfl, h1, h2⟩
    obtain ⟨hl2, htm⟩ := pre_lt hpre
    obtain ⟨t1, t2⟩ := ht t htm
    have wf := bnd_bw t1 hn t2 hv hne
    have one : ∀ (f : Int) (acc : List (List Int)) (j6 : Sl), bw (q + k + 11) f → acc.length < 100000 → b__law_tied_1 [.va (tupI a), .va (lstV ties), .va (lstV vs), .ol (acc.map tupI), .va (tupI t), .va (.int (bndI t vs)), .va (.int f), .no, .no]
        = some (.nx [.va (tupI a), .va (lstV ties), .va (lstV vs), .ol ((acc ++ [(upto t.length).map fun (j : Nat) => f * gt a j + gt t j]).map tupI), .va (tupI t), .va (.int (bndI t vs)), .va (.int f), .no, .no]) := fun f acc j6 hf hacc => by
      rw [List.map_append]
      refine sApp_of rfl (eCall_of (aCons_of (eLc_all (g := fun j : Nat => D.int (f * gt a j + gt t j)) (iR1_of (eCall_of (aCons_of (eVar_of rfl) aNil_of) (lenG_tupI _)) (by unfold lim; omega)) fun j hj => ?_) aNil_of) (tupG_map _ _)) (by rw [List.length_map]; unfold lim; omega)
      have := mem_upto.mp hj
      exact eOp_of (eOp_of (eVar_of rfl) (eOp_of (eVar_of rfl) (eVar_of rfl) (ixD_tupI (by omega) (by omega))) (mulD_of (hf.wide (by omega)) ((wa.gt (by omega) (by omega)).wide (by omega)))) (eOp_of (eVar_of rfl) (eVar_of rfl) (ixD_tupI (by omega) (by omega))) addD_int
    have sz : ∀ f : Int, bw (q + k + 11) f → ((upto t.length).map fun (j : Nat) => f * gt a j + gt t j).length = n ∧ bv (p + q + k + 12) ((upto t.length).map fun (j : Nat) => f * gt a j + gt t j) := fun f hf => by
      refine ⟨by unfold upto; rw [List.length_map, List.length_range]; exact t1, bv.map fun j hj => ?_⟩
      have := mem_upto.mp hj
      exact (((hf.mul (wa.gt (i := (j : Int)) (by omega) (by omega))).mono (m := p + q + k + 11) (by omega)).add ((t2.gt (i := (j : Int)) (by omega) (by omega)).mono (m := p + q + k + 11) (by omega)))
    refine ⟨_, _, gN_of, sSeq_nx (sSet_of (d := .int (bndI t vs)) ?_) (sFor_of (items := [.int (bndI t vs), .int (-bndI t vs)]) (iA_lst (eLst_of (aCons_of (eVar_of rfl) (aCons_of (eU_of (eVar_of rfl) negD_int) aNil_of)) (show 2 ≤ lim by decide))) (forD_nx gN_of (one _ acc .no wf (by omega)) (forD_nx gN_of (one _ _ .no wf.neg (by simp; omega)) rfl))), _, _, _, _, rfl, fun v hv2 => ?_, by simp; omega⟩
    · exact eOp_of eC_of (eCall_of (aCons_of (eLc_all (g := fun w => D.int (absI (dotI t w))) (iA_lstV (eVar_of rfl)) fun w hw => by
        obtain ⟨w1, w2⟩ := hv w hw
        exact eCall_of (aCons_of (eCall_of (aCons_of (eVar_of rfl) (aCons_of (eVar_of rfl) aNil_of)) (L_dot (t1.trans w1.symm) (by omega) t2 w2 (by omega) (by omega))) aNil_of) absG_int) aNil_of) (maxG_map _ _ hne)) addD_int
    · rcases List.mem_append.mp hv2 with hv2 | hv2
      · rcases List.mem_append.mp hv2 with hv2 | hv2
        · exact h1 v hv2
        · rw [List.mem_singleton] at hv2; subst hv2; exact sz _ wf
      · rw [List.mem_singleton] at hv2; subst hv2; exact sz _ wf.neg)
  exact ⟨acc, run_of (sSeq_own (s := .ol []) rfl (sSeq_nx (sFor_of (iA_lstV (eVar_of rfl)) e) (sFz_of (sRet_of (eVar_of rfl))))), h1, h2⟩
/-! ### arrows -/
theorem okPys_int : ∀ (n : Nat) (v : List Int), okPys n (v.map D.int) = true
  | _, [] => rfl
  | n, x :: v => by
    show (okPy n (D.int x) && okPys n (v.map D.int)) = true
    rw [okPys_int n v]
    cases n <;> rfl
theorem neD_tupI (a b : List Int) : ∃ β, neD (tupI a) (tupI b) = some (.bl β) := by
  refine ⟨!PyData.eqv (toPy (tupI a)) (toPy (tupI b)), ?_⟩
  show (if okPy 40 (tupI a) && okPy 40 (tupI b) then some (D.bl (!PyData.eqv (toPy (tupI a)) (toPy (tupI b)))) else none) = _
  rw [if_pos]
  rw [Bool.and_eq_true]
  exact ⟨okPys_int 39 a, okPys_int 39 b⟩
theorem addD_lstV {a b : List (List Int)} (h : a.length + b.length ≤ lim) : addD (lstV a) (lstV b) = some (lstV (a ++ b)) := by
  show (if (a.map tupI).length + (b.map tupI).length ≤ lim then some (D.lst (a.map tupI ++ b.map tupI)) else none) = _
  rw [if_pos (by rw [List.length_map, List.length_map]; exact h), ← List.map_append]
  rfl
theorem vsz.append {n k : Nat} {a b : List (List Int)} (ha : vsz n k a) (hb : vsz n k b) : vsz n k (a ++ b) := fun v hv => (List.mem_append.mp hv).elim (ha v) (hb v)
theorem vsz.mono {n k m : Nat} {a : List (List Int)} (ha : vsz n k a) (h : k ≤ m) : vsz n m a := fun v hv => ⟨(ha v hv).1, (ha v hv).2.mono h⟩
theorem vsz_both {n k : Nat} {v : List Int} (h : v.length = n) (hb : bv k v) : vsz n k [v, oppI v] := fun w hw => by
  rcases List.mem_cons.mp hw with rfl | hw
  · exact ⟨h, hb⟩
  · rw [List.mem_singleton] at hw; subst hw; exact ⟨(len_opp v).trans h, opp_bv hb⟩
theorem L_arrows {n k : Nat} {vs : List (List Int)} (hn : n = 1 ∨ n = 2 ∨ n = 3) (hv : vsz n k vs) (hne : vs ≠ []) (hk : k ≤ 700) (hl : vs.length ≤ 16) :
    ∃ as, G__law_arrows [lstV vs] = some (lstV as) ∧ vsz n (20 * k + 100) as ∧ (∀ a ∈ as, nzL a) := by
  unfold G__law_arrows b__law_arrows N__law_arrows
  obtain ⟨ρ', e, told, j2, j3, j4, j5, j6, rfl, h1, h2⟩ := forD_upto (fs := b__law_arrows_2) (gg := gN 2) (fun k : Nat => D.int (k : Int)) (fun i ρ => ∃ (told : List (List Int)) (j2 j3 j4 j5 j6 : Sl), ρ = [.va (lstV vs), .va (lstV told), j2, j3, j4, j5, j6, .no, .no] ∧ vsz n (20 * k + 100) told ∧ told.length ≤ i * 1000) vs.length
    [.va (lstV vs), .va (lstV []), .no, .no, .no, .no, .no, .no, .no] ⟨[], .no, .no, .no, .no, .no, rfl, (fun v hv => by cases hv), by simp⟩ (by
    rintro i ρ hi ⟨told, j2, j3, j4, j5, j6, rfl, h1, h2⟩
    obtain ⟨v1, v2⟩ := hv _ (gv_mem (v := vs) (i := (i : Int)) (by omega) (by omega))
    have gi : ixD (lstV vs) (.int (i : Int)) = some (tupI (gv vs i)) := ixD_lstV (by omega) (by omega)
    have both := vsz_both v1 v2
    have told1 := h1.append (both.mono (m := 20 * k + 100) (by omega))
    have len1 : (told ++ [gv vs i, oppI (gv vs i)]).length ≤ i * 1000 + 2 := by simp; omega
    -- the part of the plane
    have A : ∃ told2 : List (List Int), vsz n (20 * k + 100) told2 ∧ told2.length ≤ i * 1000 + 6 ∧ (sIf (eT (eOp eqD (eCall lenG (aCons (eOp ixD (eVar 0) (eVar 2)) aNil)) (eC (.int 2)))) (sSet 1 (eOp addD (eVar 1) (eCall G__law_tied (aCons (eTup (aCons (eU negD (eOp ixD (eOp ixD (eVar 0) (eVar 2)) (eC (.int 1)))) (aCons (eOp ixD (eOp ixD (eVar 0) (eVar 2)) (eC (.int 0))) aNil))) (aCons (eVar 3) (aCons (eVar 0) aNil)))))) sNil)
        [.va (lstV vs), .va (lstV (told ++ [gv vs i, oppI (gv vs i)])), .va (.int (i : Int)), .va (lstV [gv vs i, oppI (gv vs i)]), j4, j5, j6, .no, .no] = some (.nx [.va (lstV vs), .va (lstV told2), .va (.int (i : Int)), .va (lstV [gv vs i, oppI (gv vs i)]), j4, j5, j6, .no, .no]) := by
      have T : eT (eOp eqD (eCall lenG (aCons (eOp ixD (eVar 0) (eVar 2)) aNil)) (eC (.int 2))) [.va (lstV vs), .va (lstV (told ++ [gv vs i, oppI (gv vs i)])), .va (.int (i : Int)), .va (lstV [gv vs i, oppI (gv vs i)]), j4, j5, j6, .no, .no] = some (decide (((gv vs i).length : Int) = 2)) :=
        eT_of (eOp_of (eCall_of (aCons_of (eOp_of (eVar_of rfl) (eVar_of rfl) gi) aNil_of) (lenG_tupI _)) eC_of eqD_int)
      by_cases h : n = 2
      · subst h
        obtain ⟨as, e, s1, s2⟩ := L_tied (n := 2) (p := k) (q := k) (by omega) (show (qrtI (gv vs i)).length = 2 from rfl) (qrt_bv v1 v2) both hv hne (by omega) (by simp)
        refine ⟨told ++ [gv vs i, oppI (gv vs i)] ++ as, told1.append (s1.mono (by omega)), by rw [List.length_append, s2]; simp only [List.length_cons, List.length_nil] at *; omega, sIf_t (T.trans (by rw [decide_eq_true (by omega)])) (sSet_of (eOp_of (eVar_of rfl) (eCall_of (aCons_of (eTup_of (aCons_of (eU_of (eOp_of (eOp_of (eVar_of rfl) (eVar_of rfl) gi) eC_of (ixD_tupI (by omega) (by omega))) negD_int) (aCons_of (eOp_of (eOp_of (eVar_of rfl) (eVar_of rfl) gi) eC_of (ixD_tupI (by omega) (by omega))) aNil_of)) (show 2 ≤ lim by decide)) (aCons_of (eVar_of rfl) (aCons_of (eVar_of rfl) aNil_of))) e) (addD_lstV (by rw [s2]; unfold lim; simp only [List.length_cons, List.length_nil] at *; omega))))⟩
      · exact ⟨_, told1, by omega, sIf_f (T.trans (by rw [decide_eq_false (by omega)])) rfl⟩
    obtain ⟨told2, t1, t2, eA⟩ := A
    -- the part of space
    obtain ⟨ρ3, e3, told3, k4, k5, k6, rfl, u1, u2⟩ := forD_upto (fs := b__law_arrows_1) (gg := gN 4) (fun k : Nat => D.int (k : Int)) (fun j ρ => ∃ (told : List (List Int)) (j4 j5 j6 : Sl), ρ = [.va (lstV vs), .va (lstV told), .va (.int (i : Int)), .va (lstV [gv vs i, oppI (gv vs i)]), j4, j5, j6, .no, .no] ∧ vsz n (20 * k + 100) told ∧ told.length ≤ i * 1000 + 6 + j * 16) i
      [.va (lstV vs), .va (lstV told2), .va (.int (i : Int)), .va (lstV [gv vs i, oppI (gv vs i)]), j4, j5, j6, .no, .no] ⟨told2, j4, j5, j6, rfl, t1, by omega⟩ (by
      rintro j ρ hj ⟨told, j4, j5, j6, rfl, h1, h2⟩
      obtain ⟨w1, w2⟩ := hv _ (gv_mem (v := vs) (i := (j : Int)) (by omega) (by omega))
      have gj : ixD (lstV vs) (.int (j : Int)) = some (tupI (gv vs j)) := ixD_lstV (by omega) (by omega)
      have T1 : eT (eOp eqD (eCall lenG (aCons (eOp ixD (eVar 0) (eVar 2)) aNil)) (eC (.int 3))) (setS [.va (lstV vs), .va (lstV told), .va (.int (i : Int)), .va (lstV [gv vs i, oppI (gv vs i)]), j4, j5, j6, .no, .no] 4 (.va (.int (j : Int)))) = some (decide (((gv vs i).length : Int) = 3)) :=
        eT_of (eOp_of (eCall_of (aCons_of (eOp_of (eVar_of rfl) (eVar_of rfl) gi) aNil_of) (lenG_tupI _)) eC_of eqD_int)
      by_cases h : n = 3
      · subst h
        have q0 := L_turned (gv vs i) (gv vs j) v1 w1 v2 w2 (by omega) (by omega)
        have c0 := cross_bv v1 w1 v2 w2
        obtain ⟨β, hβ⟩ := neD_tupI (crossI (gv vs i) (gv vs j)) [0, 0, 0]
        have T2 : eT (eOp neD (eCall G__law_turned (aCons (eOp ixD (eVar 0) (eVar 2)) (aCons (eOp ixD (eVar 0) (eVar 4)) aNil))) (eTup (aCons (eC (.int 0)) (aCons (eC (.int 0)) (aCons (eC (.int 0)) aNil))))) (setS [.va (lstV vs), .va (lstV told), .va (.int (i : Int)), .va (lstV [gv vs i, oppI (gv vs i)]), j4, j5, j6, .no, .no] 4 (.va (.int (j : Int)))) = some β :=
          eT_of (eOp_of (eCall_of (aCons_of (eOp_of (eVar_of rfl) (eVar_of rfl) gi) (aCons_of (eOp_of (eVar_of rfl) (eVar_of rfl) gj) aNil_of)) q0) (eTup_of (aCons_of eC_of (aCons_of eC_of (aCons_of eC_of aNil_of))) (show 3 ≤ lim by decide)) hβ)
        have TT := (bAnd_of (T1.trans (by rw [decide_eq_true (by omega)])) fun _ => T2).trans (show some (true && β) = some β from rfl)
        cases β with
        | false =>
          exact ⟨_, _, gN_of, sIf_f TT rfl, told, _, _, _, rfl, h1, by omega⟩
        | true =>
          have q1 := L_turned (crossI (gv vs i) (gv vs j)) (gv vs i) rfl v1 c0 v2 (by omega) (by omega)
          have q2 := L_turned (crossI (gv vs i) (gv vs j)) (gv vs j) rfl w1 c0 w2 (by omega) (by omega)
          obtain ⟨as1, ea1, sa1, la1⟩ := L_tied (n := 3) (by omega) (show (crossI (crossI (gv vs i) (gv vs j)) (gv vs i)).length = 3 from rfl) (cross_bv rfl v1 c0 v2) both hv hne (by omega) (by simp)
          obtain ⟨as2, ea2, sa2, la2⟩ := L_tied (n := 3) (by omega) (show (crossI (crossI (gv vs i) (gv vs j)) (gv vs j)).length = 3 from rfl) (cross_bv rfl w1 c0 w2) (vsz_both w1 w2) hv hne (by omega) (by simp)
          simp only [List.length_cons, List.length_nil] at la1 la2
          obtain ⟨as3, ea3, sa3, la3⟩ := L_tied (n := 3) (by omega) (show (crossI (gv vs i) (gv vs j)).length = 3 from rfl) c0 (sa1.append sa2) hv hne (by omega) (by rw [List.length_append]; omega)
          rw [List.length_append, la1, la2] at la3
          refine ⟨_, _, gN_of, sIf_t TT (sSeq_nx (sSet_of (eCall_of (aCons_of (eOp_of (eVar_of rfl) (eVar_of rfl) gi) (aCons_of (eOp_of (eVar_of rfl) (eVar_of rfl) gj) aNil_of)) q0))
            (sSeq_nx (sSet_of (eCall_of (aCons_of (eCall_of (aCons_of (eVar_of rfl) (aCons_of (eOp_of (eVar_of rfl) (eVar_of rfl) gi) aNil_of)) q1) (aCons_of (eVar_of rfl) (aCons_of (eVar_of rfl) aNil_of))) ea1))
            (sSeq_nx (sSet_of (eOp_of (eVar_of rfl) (eCall_of (aCons_of (eCall_of (aCons_of (eVar_of rfl) (aCons_of (eOp_of (eVar_of rfl) (eVar_of rfl) gj) aNil_of)) q2) (aCons_of (eLst_of (aCons_of (eOp_of (eVar_of rfl) (eVar_of rfl) gj) (aCons_of (eCall_of (aCons_of (eOp_of (eVar_of rfl) (eVar_of rfl) gj) aNil_of) (L_flip _)) aNil_of)) (show 2 ≤ lim by decide)) (aCons_of (eVar_of rfl) aNil_of))) ea2) (addD_lstV (by unfold lim; omega))))
            (sSet_of (eOp_of (eVar_of rfl) (eCall_of (aCons_of (eVar_of rfl) (aCons_of (eVar_of rfl) (aCons_of (eVar_of rfl) aNil_of))) ea3) (addD_lstV (by unfold lim; omega))))))), told ++ as3, _, _, _, rfl, h1.append (sa3.mono (by omega)), by rw [List.length_append]; omega⟩
      · exact ⟨_, _, gN_of, sIf_f ((bAnd_of (b := false) (c := false) (T1.trans (by rw [decide_eq_false (by omega)])) fun h => nomatch h).trans rfl) rfl, told, _, _, _, rfl, h1, by omega⟩)
    refine ⟨_, _, gN_of, sSeq_nx (sSet_of (d := lstV [gv vs i, oppI (gv vs i)]) (eLst_of (aCons_of (eOp_of (eVar_of rfl) (eVar_of rfl) gi) (aCons_of (eCall_of (aCons_of (eOp_of (eVar_of rfl) (eVar_of rfl) gi) aNil_of) (L_flip _)) aNil_of)) (show 2 ≤ lim by decide))) (sSeq_nx (sSet_of (eOp_of (eVar_of rfl) (eVar_of rfl) (addD_lstV (by unfold lim; simp only [List.length_cons, List.length_nil]; omega)))) (sSeq_nx eA (sFor_of (iR1_of (eVar_of rfl) (by unfold lim; omega)) e3))), told3, _, _, _, _, _, rfl, u1, by omega⟩)
  refine ⟨told.filter (fun v => v.any fun x => !decide (x = 0)), ?_, fun v hv2 => h1 v (List.mem_filter.mp hv2).1, fun v hv2 => ?_⟩
  · refine run_of (sSeq_set (d := lstV []) (eLst_of aNil_of (by decide)) (sSeq_nx (sFor_of (iR1_of (eCall_of (aCons_of (eVar_of rfl) aNil_of) (lenG_lstV _)) (by unfold lim; omega)) e) (sRet_of ?_)))
    exact (eLc_fil (l := told) (c := tupI) (p := fun v => v.any fun x => !decide (x = 0)) (g := tupI) (iA_lstV (eVar_of rfl)) (fun v hv2 => eT_of (eCall_of (aCons_of (eLc_all (g := fun x => D.bl (!decide (x = 0))) (iA_tupI (eVar_of rfl)) fun x hx => eOp_of (eVar_of rfl) eC_of neD_int) aNil_of) (anyG_map _ _))) (fun v hv2 _ => eVar_of rfl)).trans rfl
  · obtain ⟨x, hx, h0⟩ := List.any_eq_true.mp (List.mem_filter.mp hv2).2
    exact ⟨x, hx, fun z => by rw [decide_eq_true z] at h0; cases h0⟩
end M

namespace M
open PySem L2 DL W
theorem L_shown {n m k p : Nat} {homes : List (List Int)} {ws place : List Int} {b : Int × List Int} (hn : n ≤ 3) (hh : vsz n m homes) (hne : homes ≠ []) (hl : ws.length = homes.length) (hl2 : homes.length ≤ 16) (hp : place.length = n + 1) (wp : bv k place) (hm : m ≤ 1000) (hk : k ≤ 1000) (h1 : b.2.length = n) (h2 : nzL b.2) (h3 : bv p b.2) (hpp : p ≤ 400000) (h4 : wtI ws (homes.map (offI place)) b.2 = b.1) :
    G__law_is_shown [prD b, tupV homes, tupI ws, tupI place] = some (.bl true) := by
  have hpos := List.length_pos_iff.mpr hne
  have hv : vsz n (m + k + 1) (homes.map (offI place)) := fun v hv => by
    obtain ⟨h, hm2, rfl⟩ := List.mem_map.mp hv
    obtain ⟨q1, q2⟩ := hh h hm2
    exact ⟨(len_off).trans q1, offI_bv (by omega) wp q2⟩
  unfold G__law_is_shown b__law_is_shown N__law_is_shown
  refine run_of (sSeq_nx (sIf_f ((bOr_of (b := false) (c := false) ((bNot_of (eT_of ((eIsi_of (eVar_of rfl) rfl).trans rfl))).trans rfl) fun _ => (bOr_of (b := false) (c := false) (eT_of ((eOp_of (eCall_of (aCons_of (eVar_of rfl) aNil_of) (show lenG [prD b] = some (.int 2) from rfl)) eC_of neD_int).trans rfl)) fun _ => (bNot_of (eT_of (eCall_of (aCons_of (eOp_of (eVar_of rfl) eC_of (ixD_pr0 b)) aNil_of) (L_whole _)))).trans rfl).trans rfl).trans rfl) rfl)
    (sSeq_nx (sIf_f ((bNot_of (b := true) (eT_of (eCall_of (aCons_of (eOp_of (eVar_of rfl) eC_of (ixD_pr1 b)) (aCons_of (eCall_of (aCons_of (eOp_of (eVar_of rfl) eC_of (ixD_tupV (by omega) (by omega))) aNil_of) (lenG_tupI _)) aNil_of)) ?_))).trans rfl) rfl) (sRet_of (eOp_of (eCall_of (aCons_of (eCall_of (aCons_of (eVar_of rfl) (aCons_of (eVar_of rfl) aNil_of)) (L_ways hh (by omega) hp wp (by omega) (by omega))) (aCons_of (eVar_of rfl) (aCons_of (eOp_of (eVar_of rfl) eC_of (ixD_pr1 b)) aNil_of))) (L_weighed hv h1 (by omega) h3 hpp (by omega) (by rw [List.length_map]; omega) (by rw [List.length_map]; omega))) (eOp_of (eVar_of rfl) eC_of (ixD_pr0 b)) (eqD_int.trans ?_)))))
  · rw [gv_len hh hne]
    exact L_is_arrow h1 h2
  · rw [decide_eq_true h4]
theorem L_deep {n m k : Nat} {homes : List (List Int)} {ws place : List Int} {d : Int} (hn : n = 1 ∨ n = 2 ∨ n = 3) (hh : vsz n m homes) (hne : homes ≠ []) (hl : ws.length = homes.length) (hl2 : homes.length ≤ 16) (hp : place.length = n + 1) (wp : bv k place) (hmk : m + k + 1 ≤ 700) (hd : ∀ a : List Int, a.length = n → d ≤ wtI ws (homes.map (offI place)) a) :
    G__law_is_deep [tupV homes, tupI ws, tupI place, .int d] = some (.bl true) := by
  have hv : vsz n (m + k + 1) (homes.map (offI place)) := fun v hv => by
    obtain ⟨h, hm2, rfl⟩ := List.mem_map.mp hv
    obtain ⟨q1, q2⟩ := hh h hm2
    exact ⟨(len_off).trans q1, offI_bv (by omega) wp q2⟩
  have hne2 : homes.map (offI place) ≠ [] := fun z => hne (List.map_eq_nil_iff.mp z)
  obtain ⟨as, ea, sa, _⟩ := L_arrows hn hv hne2 hmk (by rw [List.length_map]; omega)
  unfold G__law_is_deep b__law_is_deep N__law_is_deep
  refine run_of (sSeq_set (eCall_of (aCons_of (eVar_of rfl) (aCons_of (eVar_of rfl) aNil_of)) (L_ways hh (by omega) hp wp (by omega) (by omega))) (sRet_of ((eCall_of (aCons_of (eLc_all (g := fun a => D.bl (decide (d ≤ wtI ws (homes.map (offI place)) a))) (iA_lstV (eCall_of (aCons_of (eVar_of rfl) aNil_of) ea)) fun a ha => ?_) aNil_of) (allG_map _ _)).trans ?_)))
  · obtain ⟨a1, a2⟩ := sa a ha
    exact eOp_of (eCall_of (aCons_of (eVar_of rfl) (aCons_of (eVar_of rfl) (aCons_of (eVar_of rfl) aNil_of))) (L_weighed hv a1 (by omega) a2 (by omega) (by omega) (by rw [List.length_map]; omega) (by rw [List.length_map]; omega))) (eVar_of rfl) geD_of
  · have : (as.all fun a => decide (d ≤ wtI ws (homes.map (offI place)) a)) = true := List.all_eq_true.mpr fun a ha => decide_eq_true (hd a (sa a ha).1)
    rw [this]
/-! ### weights, many -/
theorem L_weights {row : List Int} {many : Nat} {limit : Int} (hm : many ≤ row.length) (hm2 : many ≤ 100) (h0 : 0 < limit) : ∃ ws, G__law_weights [lstI row, .int many, .int limit] = some (tupI ws) ∧ ws.length = many ∧ nnW ws := by
  unfold G__law_weights b__law_weights N__law_weights
  have e : eCall tupG (aCons (eLc (iR1 (eVar 1)) [4] (gN 4) bYes (eOp modD (eCall intG (aCons (eOp ixD (eVar 0) (eVar 4)) aNil)) (eVar 2))) aNil) [.va (lstI row), .va (.int (many : Int)), .va (.int limit), .no, .no] = some (tupI ((upto many).map fun (k : Nat) => gt row k % limit)) := by
    refine eCall_of (aCons_of (eLc_all (g := fun k : Nat => D.int (gt row k % limit)) (iR1_of (eVar_of rfl) (by unfold lim; omega)) fun k hk => ?_) aNil_of) (tupG_map _ _)
    have := mem_upto.mp hk
    exact eOp_of (eCall_of (aCons_of (eOp_of (eVar_of rfl) (eVar_of rfl) (ixD_lstI (by omega) (by omega))) aNil_of) intG_int) (eVar_of rfl) (modD_of h0)
  have hu : (upto many).length = many := by unfold upto; rw [List.length_range]
  by_cases hs : ((upto many).map fun (k : Nat) => gt row k % limit).sum = 0
  · refine ⟨(upto many).map fun _ => 1, run_of (sSeq_set e (sSeq_rt (sIf_t (eT_of ((eOp_of (eCall_of (aCons_of (eVar_of rfl) aNil_of) (suG_tupI _)) eC_of eqD_int).trans ?_)) (sRet_of (eCall_of (aCons_of (eLc_all (g := fun _ : Nat => D.int 1) (iR1_of (eVar_of rfl) (by unfold lim; omega)) fun k hk => eC_of) aNil_of) (tupG_map _ _)))))), by rw [List.length_map, hu], fun x hx => ?_⟩
    · rw [decide_eq_true hs]
    · obtain ⟨_, _, rfl⟩ := List.mem_map.mp hx; omega
  · refine ⟨(upto many).map fun (k : Nat) => gt row k % limit, run_of (sSeq_set e (sSeq_nx (sIf_f (eT_of ((eOp_of (eCall_of (aCons_of (eVar_of rfl) aNil_of) (suG_tupI _)) eC_of eqD_int).trans ?_)) rfl) (sRet_of (eVar_of rfl)))), by rw [List.length_map, hu], fun x hx => ?_⟩
    · rw [decide_eq_false hs]
    · obtain ⟨k, _, rfl⟩ := List.mem_map.mp hx
      exact Int.emod_nonneg _ (by omega)
theorem pick_in {v : List Int} {i : Int} (P : Int → Prop) (h : ∀ x ∈ v, P x) (h0 : 0 ≤ i) (h1 : i < v.length) : P (gt v i) := h _ (gt_mem h0 h1)
theorem L_many {i : Int} {n : Nat} (h0 : 0 ≤ i) (h1 : i < 32) : ∃ m : Nat, G__law_many [.int i, .int n] = some (.int m) ∧ 1 ≤ m ∧ m ≤ 9 := by
  unfold G__law_many b__law_many N__law_many
  have fin : ∀ v : List Int, v.length = 32 → (∀ x ∈ v, 1 ≤ x ∧ x ≤ 9) → ∃ m : Nat, ixD (lstI v) (.int i) = some (.int m) ∧ 1 ≤ m ∧ m ≤ 9 := fun v hl hv => by
    obtain ⟨a, b⟩ := pick_in (fun x => 1 ≤ x ∧ x ≤ 9) hv h0 (by omega)
    exact ⟨(gt v i).toNat, by rw [ixD_lstI h0 (by omega)]; congr 2; omega, by omega, by omega⟩
  by_cases hn : n = 3
  · obtain ⟨m, e, m1, m2⟩ := fin [4, 3, 5, 2, 4, 5, 3, 6, 4, 5, 3, 4, 1, 5, 4, 3, 6, 5, 4, 2, 3, 4, 5, 7, 4, 3, 5, 4, 8, 3, 4, 9] rfl (by decide)
    refine ⟨m, run_of (sSeq_set (eLst_of rfl (by decide)) (sSeq_nx (sIf_t (eT_of ((eOp_of (eVar_of rfl) eC_of eqD_int).trans ?_)) (sSet_of (eLst_of rfl (by decide)))) (sRet_of (eOp_of (eVar_of rfl) (eVar_of rfl) e)))), m1, m2⟩
    rw [decide_eq_true (by omega)]
  · obtain ⟨m, e, m1, m2⟩ := fin [4, 3, 5, 2, 6, 3, 4, 5, 1, 4, 3, 5, 7, 4, 6, 3, 5, 4, 2, 3, 4, 5, 6, 8, 3, 7, 5, 8, 4, 9, 5, 9] rfl (by decide)
    refine ⟨m, run_of (sSeq_set (eLst_of rfl (by decide)) (sSeq_nx (sIf_f (eT_of ((eOp_of (eVar_of rfl) eC_of eqD_int).trans ?_)) rfl) (sRet_of (eOp_of (eVar_of rfl) (eVar_of rfl) e)))), m1, m2⟩
    rw [decide_eq_false (by omega)]
end M

namespace M
open PySem L2 DL W
theorem iR2_of {f g : DL.Env → Option D} {ρ : DL.Env} {m : Nat} (h1 : f ρ = some (.int 1)) (h2 : g ρ = some (.int m)) (hm : 1 ≤ m) (hm2 : m ≤ 1000) : iR2 f g ρ = some ((List.range' 1 (m - 1)).map fun k : Nat => D.int (k : Int)) := by
  unfold iR2
  rw [h1, h2]
  show (if _ then some (rng 1 ((m : Int) - 1).toNat) else none) = _
  rw [if_pos (by unfold lim; omega)]
  unfold rng
  rw [show ((m : Int) - 1).toNat = m - 1 by omega]
  congr 1
  rw [List.range'_eq_map_range, List.map_map]
  refine List.map_congr_left fun k hk => ?_
  show D.int (1 + (k : Int)) = D.int ((1 + k : Nat) : Int)
  congr 1
theorem bv_small {k : Nat} {v : List Int} (h : ∀ x ∈ v, -(2 ^ k : Int) < x ∧ x < 2 ^ k) : bv k v := fun x hx => by
  obtain ⟨a, b⟩ := h x hx
  unfold bw
  have : ((2 ^ k : Nat) : Int) = (2 : Int) ^ k := by norm_cast
  omega
theorem ix_ok {size many k j : Nat} (hs : size ≤ 3) (hk : k < many) (hj : j < size) : size * k + j < many * size := by
  match size, hs with
  | 0, _ => omega
  | 1, _ => omega
  | 2, _ => omega
  | 3, _ => omega
theorem tup_append (a b : List Int) (h : a.length + b.length ≤ lim) : addD (tupI a) (tupI b) = some (tupI (a ++ b)) := by
  show (if (a.map D.int).length + (b.map D.int).length ≤ lim then some (D.tup (a.map D.int ++ b.map D.int)) else none) = _
  rw [if_pos (by rw [List.length_map, List.length_map]; exact h), ← List.map_append]
  rfl
theorem HT_one (n : Nat) (hn : 1 ≤ n) : HT.sIx n 0 (some 1) = 1 := by unfold HT.sIx; simp; omega
theorem sl_drop1 (v : List Int) (h : 1 ≤ v.length) : slD (tupI v) (some 1) none = some (tupI (v.drop 1)) := by
  show some (D.tup (cutD (v.map D.int) (some 1) none)) = _
  unfold cutD
  rw [List.length_map, HT_one _ h]
  have : HT.sIx v.length v.length none = v.length := by unfold HT.sIx; rfl
  rw [this, ← List.map_drop, List.take_of_length_le (by simp)]
  rfl
theorem div_b {x : Int} {a : Int} {c : Int} (h1 : -a ≤ x) (h2 : x ≤ a) (hc : 0 < c) (ha : 0 ≤ a) : -a ≤ x / c ∧ x / c ≤ a := by
  have e : (x / c).natAbs ≤ x.natAbs := Int.natAbs_ediv_le_natAbs _ _
  omega
theorem L_homes {row : List Int} {many size : Nat} {span : Int} (hrow : Dg row ([8] ++ List.replicate (many * size) 121)) (hs : size = 1 ∨ size = 2 ∨ size = 3) (hm : 1 ≤ many) (hm2 : many ≤ 9) (h0 : 0 ≤ span) (h1 : span ≤ 60) :
    ∃ hs, G__law_homes [lstI row, .int many, .int size, .int span] = some (tupV hs) ∧ hs.length = many ∧ vsz size 20 hs := by
  have hlen : row.length = 1 + many * size := by rw [hrow.1]; simp; omega
  have hr : ∀ k j : Nat, k < many → j < size → (0 : Int) ≤ gt row (1 + (size : Int) * k + j) ∧ gt row (1 + (size : Int) * k + j) < 121 := fun k j hk hj => by
    have hi := ix_ok (by omega) hk hj
    have e : (1 + (size : Int) * k + j) = ((1 + (size * k + j) : Nat) : Int) := by push_cast; omega
    have := hrow.gt (i := ((1 + (size * k + j) : Nat) : Int)) (by omega) (by simp; omega)
    rw [e]
    refine ⟨this.1, ?_⟩
    have e2 : gt ([8] ++ List.replicate (many * size) 121) ((1 + (size * k + j) : Nat) : Int) = 121 := by
      have hg := gt_get (v := [8] ++ List.replicate (many * size) (121 : Int)) (i := ((1 + (size * k + j) : Nat) : Int)) (by omega) (by simp; omega)
      rw [Int.toNat_natCast, List.getElem?_append_right (by simp)] at hg
      simp only [List.length_cons, List.length_nil] at hg
      rw [List.getElem?_replicate] at hg
      rw [if_pos (by omega)] at hg
      exact (Option.some.inj hg).symm
    omega
  have ri : ∀ k j : Nat, k < many → j < size → ixD (lstI row) (.int (1 + (size : Int) * k + j)) = some (.int (gt row (1 + (size : Int) * k + j))) := fun k j hk hj => by
    have hi := ix_ok (by omega) hk hj
    have e : (1 + (size : Int) * k + j) = ((1 + (size * k + j) : Nat) : Int) := by push_cast; omega
    rw [e]
    exact ixD_lstI (by omega) (by omega)
  have ri0 : ∀ k : Nat, k < many → ixD (lstI row) (.int (1 + (size : Int) * k)) = some (.int (gt row (1 + (size : Int) * k))) := fun k hk => by
    have := ri k 0 hk (by omega)
    simpa using this
  have hr0 : ∀ k : Nat, k < many → (0 : Int) ≤ gt row (1 + (size : Int) * k) ∧ gt row (1 + (size : Int) * k) < 121 := fun k hk => by
    have := hr k 0 hk (by omega)
    simpa using this
  have wi : ∀ x : Int, -(2 ^ 100) < x → x < 2 ^ 100 → wide x := fun x a b => by
    refine bw.wide (k := 100) ?_ (by omega)
    unfold bw; omega
  let wdt : Int := 2 * span + 1
  let fr : List (List Int) := (upto many).map fun (k : Nat) => (upto size).map fun (j : Nat) => gt row (1 + (size : Int) * k + j) % wdt - span
  have frl : fr.length = many := by show ((upto many).map _).length = _; unfold upto; rw [List.length_map, List.length_range]
  have frv : ∀ v ∈ fr, v.length = size ∧ ∀ x ∈ v, -60 ≤ x ∧ x ≤ 121 := fun v hv => by
    obtain ⟨k, hk, rfl⟩ := List.mem_map.mp hv
    refine ⟨by unfold upto; rw [List.length_map, List.length_range], fun x hx => ?_⟩
    obtain ⟨j, hj, rfl⟩ := List.mem_map.mp hx
    have a := Int.emod_nonneg (gt row (1 + (size : Int) * k + j)) (show wdt ≠ 0 by show 2 * span + 1 ≠ 0; omega)
    have b := Int.emod_lt_of_pos (gt row (1 + (size : Int) * k + j)) (show 0 < wdt by show 0 < 2 * span + 1; omega)
    have c : wdt = 2 * span + 1 := rfl
    omega
  have frz : vsz size 20 fr := fun v hv => ⟨(frv v hv).1, bv_small fun x hx => by have := (frv v hv).2 x hx; omega⟩
  have small : ∀ v : List Int, v.length = size → (∀ x ∈ v, -(1000000 : Int) < x ∧ x < 1000000) → v.length = size ∧ bv 20 v := fun v h hb => ⟨h, bv_small fun x hx => by have := hb x hx; omega⟩
  unfold G__law_homes b__law_homes N__law_homes
  have hp := hrow.gt (i := 0) (by omega) (by rw [List.length_append]; simp only [List.length_cons, List.length_nil]; omega)
  have hp8 : gt ([8] ++ List.replicate (many * size) 121) 0 = 8 := rfl
  rw [hp8] at hp
  let R : List Sl := [.va (lstI row), .va (.int (many : Int)), .va (.int (size : Int)), .va (.int span), .va (.int wdt), .va (lstV fr), .va (.int (gt row 0)), .no, .no, .no, .no, .no, .no, .no]
  suffices h : ∃ hs, (∀ (o : DL.Env → Option Out), o = o) ∧ hs.length = many ∧ vsz size 20 hs ∧ (sSeq (sIf (eT (eOp eqD (eVar 6) (eC (.int 5)))) (sRet (eCall tupG (aCons (eLc (iR1 (eVar 1)) [9] (gN 9) bYes (eOp ixD (eVar 5) (eOp fdivD (eCall intG (aCons (eOp mulD (eVar 9) (eC (.int 2))) aNil)) (eC (.int 3))))) aNil))) sNil) (sSeq (sIf (bAnd (eT (eOp eqD (eVar 6) (eC (.int 6)))) (eT (eOp gtD (eVar 2) (eC (.int 1))))) (sSeq (sSet 7 (eCall tupG (aCons (eLc (iR1 (eVar 2)) [12] (gN 12) bYes (eOp fdivD (eOp ixD (eOp ixD (eVar 5) (eC (.int 0))) (eVar 12)) (eC (.int 6)))) aNil))) (sRet (eCall tupG (aCons (eLc (iR1 (eVar 1)) [9] (gN 9) bYes (eCall tupG (aCons (eLc (iR1 (eVar 2)) [12] (gN 12) bYes (eOp mulD (eOp ixD (eVar 7) (eVar 12)) (eOp subD (eOp modD (eCall intG (aCons (eOp ixD (eVar 0) (eOp addD (eC (.int 1)) (eOp mulD (eVar 2) (eVar 9)))) aNil)) (eC (.int 9))) (eC (.int 4))))) aNil))) aNil)))) sNil) (sSeq (sIf (bOr (eT (eOp eqD (eVar 6) (eC (.int 4)))) (eT (eOp eqD (eVar 6) (eC (.int 7))))) (sSeq (sOwn 8 (fLst (aCons (eCall tupG (aCons (eLc (iA (eOp ixD (eVar 5) (eC (.int 0)))) [13] (gN 13) bYes (eOp fdivD (eVar 13) (eC (.int 4)))) aNil)) aNil))) (sSeq (sFor (iR2 (eC (.int 1)) (eVar 1)) (gN 9) b__law_homes_1) (sSeq (sIf (eT (eOp eqD (eVar 6) (eC (.int 7)))) (sSetIx 8 (eOp subD (eVar 1) (eC (.int 1))) (eOp addD (eCall tupG (aCons (eLst (aCons (eOp addD (eOp ixD (eIxO 8 (eOp subD (eVar 1) (eC (.int 1)))) (eC (.int 0))) (eC (.int 1))) aNil)) aNil)) (eSl (eIxO 8 (eOp subD (eVar 1) (eC (.int 1)))) (oI (eC (.int 1))) oNo))) sNil) (sFz 8 (sRet (eCall tupG (aCons (eVar 8) aNil))))))) sNil) (sRet (eCall tupG (aCons (eVar 5) aNil)))))) R = some (.rt (tupV hs)) by
    obtain ⟨hs, _, l1, l2, e⟩ := h
    refine ⟨hs, run_of (sSeq_set (d := .int wdt) (eOp_of (eOp_of eC_of (eVar_of rfl) (mulD_of (wi _ (by omega) (by omega)) (wi _ (by omega) (by omega)))) eC_of addD_int) (sSeq_set (d := lstV fr) ?_ (sSeq_set (d := .int (gt row 0)) (eOp_of (eVar_of rfl) eC_of (ixD_lstI (by omega) (by omega))) e))), l1, l2⟩
    refine (eLc_all (l := upto many) (g := fun k : Nat => tupI ((upto size).map fun (j : Nat) => gt row (1 + (size : Int) * k + j) % wdt - span)) (iR1_of (eVar_of rfl) (by unfold lim; omega)) fun k hk => ?_).trans (by rw [lst_mapV])
    have hk := mem_upto.mp hk
    refine eCall_of (aCons_of (eLc_all (g := fun j : Nat => D.int (gt row (1 + (size : Int) * k + j) % wdt - span)) (iR1_of (eVar_of rfl) (by unfold lim; omega)) fun j hj => ?_) aNil_of) (tupG_map _ _)
    have hj := mem_upto.mp hj
    exact eOp_of (eOp_of (eCall_of (aCons_of (eOp_of (eVar_of rfl) (eOp_of (eOp_of eC_of (eOp_of (eVar_of rfl) (eVar_of rfl) (mulD_of (wi _ (by omega) (by omega)) (wi _ (by omega) (by omega)))) addD_int) (eVar_of rfl) addD_int) (ri k j hk hj)) aNil_of) intG_int) (eVar_of rfl) (modD_of (show 0 < 2 * span + 1 by omega))) (eVar_of rfl) subD_of
  have P6 : ∀ m : Int, eT (eOp eqD (eVar 6) (eC (.int m))) R = some (decide (gt row 0 = m)) := fun m => eT_of (eOp_of (eVar_of rfl) eC_of eqD_int)
  have s3 : ∀ x : Int, slim 3 := fun _ => slim_of (k := 3) (bw_lt (by omega) (by omega)) (by omega) (by omega)
  have s4 : slim 4 := slim_of (k := 3) (bw_lt (by omega) (by omega)) (by omega) (by omega)
  have s6 : slim 6 := slim_of (k := 3) (bw_lt (by omega) (by omega)) (by omega) (by omega)
  have s2 : slim 2 := slim_of (k := 3) (bw_lt (by omega) (by omega)) (by omega) (by omega)
  have frm : ∀ i : Int, 0 ≤ i → i < many → gv fr i ∈ fr := fun i a b => gv_mem a (by omega)
  by_cases h5 : gt row 0 = 5
  · refine ⟨(upto many).map fun (k : Nat) => gv fr ((k : Int) * 2 / 3), fun _ => rfl, by unfold upto; rw [List.length_map, List.length_range], fun v hv => ?_, sSeq_rt (sIf_t ((P6 5).trans (by rw [decide_eq_true h5])) (sRet_of (eCall_of (aCons_of (eLc_all (g := fun k : Nat => tupI (gv fr ((k : Int) * 2 / 3))) (iR1_of (eVar_of rfl) (by unfold lim; omega)) fun k hk => ?_) aNil_of) (tupG_mapV _ _))))⟩
    · obtain ⟨k, hk, rfl⟩ := List.mem_map.mp hv
      have := mem_upto.mp hk
      exact frz _ (frm _ (by omega) (by omega))
    · have := mem_upto.mp hk
      exact eOp_of (eVar_of rfl) (eOp_of (eCall_of (aCons_of (eOp_of (eVar_of rfl) eC_of (mulD_of (wi _ (by omega) (by omega)) (wi _ (by omega) (by omega)))) aNil_of) intG_int) eC_of (fdivD_of (s3 0))) (ixD_lstV (by omega) (by omega))
  by_cases h6 : gt row 0 = 6 ∧ (1 : Int) < size
  · have g0 := frm 0 (by omega) (by omega)
    obtain ⟨l0, b0⟩ := frv _ g0
    let st : List Int := (upto size).map fun (j : Nat) => gt (gv fr 0) j / 6
    have stl : st.length = size := by show ((upto size).map _).length = _; unfold upto; rw [List.length_map, List.length_range]
    have stb : ∀ x ∈ st, -(121 : Int) ≤ x ∧ x ≤ 121 := fun x hx => by
      obtain ⟨j, hj, rfl⟩ := List.mem_map.mp hx
      have := mem_upto.mp hj
      have := b0 _ (gt_mem (v := gv fr 0) (i := (j : Int)) (by omega) (by omega))
      exact div_b (by omega) (by omega) (by omega) (by omega)
    refine ⟨(upto many).map fun (k : Nat) => (upto size).map fun (j : Nat) => gt st j * (gt row (1 + (size : Int) * k) % 9 - 4), fun _ => rfl, by unfold upto; rw [List.length_map, List.length_range], fun v hv => ?_, sSeq_nx (sIf_f ((P6 5).trans (by rw [decide_eq_false h5])) rfl) (sSeq_rt (sIf_t ((bAnd_of (b := true) (c := true) ((P6 6).trans (by rw [decide_eq_true h6.1])) fun _ => eT_of ((eOp_of (eVar_of rfl) eC_of gtD_of).trans (by rw [decide_eq_true h6.2]))).trans rfl) (sSeq_set (d := tupI st) ?_ (sRet_of ?_))))⟩
    · obtain ⟨k, hk, rfl⟩ := List.mem_map.mp hv
      refine ⟨by unfold upto; rw [List.length_map, List.length_range], ?_⟩
      refine bv.map fun j hj => ?_
      have := mem_upto.mp hj
      have c1 := stb _ (gt_mem (v := st) (i := (j : Int)) (by omega) (by omega))
      have A : bw 8 (gt st j) := by unfold bw; omega
      have B : bw 8 (gt row (1 + (size : Int) * k) % 9 - 4) := by
        have := Int.emod_nonneg (gt row (1 + (size : Int) * k)) (show (9 : Int) ≠ 0 by omega)
        have := Int.emod_lt_of_pos (gt row (1 + (size : Int) * k)) (show (0 : Int) < 9 by omega)
        unfold bw; omega
      exact (A.mul B).mono (by omega)
    · refine eCall_of (aCons_of (eLc_all (g := fun j : Nat => D.int (gt (gv fr 0) j / 6)) (iR1_of (eVar_of rfl) (by unfold lim; omega)) fun j hj => ?_) aNil_of) (tupG_map _ _)
      have := mem_upto.mp hj
      exact eOp_of (eOp_of (eOp_of (eVar_of rfl) eC_of (ixD_lstV (by omega) (by omega))) (eVar_of rfl) (ixD_tupI (by omega) (by omega))) eC_of (fdivD_of s6)
    · refine eCall_of (aCons_of (eLc_all (g := fun k : Nat => tupI ((upto size).map fun (j : Nat) => gt st j * (gt row (1 + (size : Int) * k) % 9 - 4))) (iR1_of (eVar_of rfl) (by unfold lim; omega)) fun k hk => ?_) aNil_of) (tupG_mapV _ _)
      have hk := mem_upto.mp hk
      refine eCall_of (aCons_of (eLc_all (g := fun j : Nat => D.int (gt st j * (gt row (1 + (size : Int) * k) % 9 - 4))) (iR1_of (eVar_of rfl) (by unfold lim; omega)) fun j hj => ?_) aNil_of) (tupG_map _ _)
      have := mem_upto.mp hj
      have c1 := stb _ (gt_mem (v := st) (i := (j : Int)) (by omega) (by omega))
      have c2 := Int.emod_nonneg (gt row (1 + (size : Int) * k)) (show (9 : Int) ≠ 0 by omega)
      have c3 := Int.emod_lt_of_pos (gt row (1 + (size : Int) * k)) (show (0 : Int) < 9 by omega)
      exact eOp_of (eOp_of (eVar_of rfl) (eVar_of rfl) (ixD_tupI (by omega) (by omega))) (eOp_of (eOp_of (eCall_of (aCons_of (eOp_of (eVar_of rfl) (eOp_of eC_of (eOp_of (eVar_of rfl) (eVar_of rfl) (mulD_of (wi _ (by omega) (by omega)) (wi _ (by omega) (by omega)))) addD_int) (ri0 k hk)) aNil_of) intG_int) eC_of (modD_of (by omega))) eC_of subD_of) (mulD_of (wi _ (by omega) (by omega)) (wi _ (by omega) (by omega)))
  have T6 : bAnd (eT (eOp eqD (eVar 6) (eC (.int 6)))) (eT (eOp gtD (eVar 2) (eC (.int 1)))) R = some false := by
    by_cases h : gt row 0 = 6
    · exact (bAnd_of (b := true) (c := false) ((P6 6).trans (by rw [decide_eq_true h])) fun _ => eT_of ((eOp_of (eVar_of rfl) eC_of gtD_of).trans (by rw [decide_eq_false (fun z => h6 ⟨h, z⟩)]))).trans rfl
    · exact (bAnd_of (b := false) (c := false) ((P6 6).trans (by rw [decide_eq_false h])) fun z => nomatch z).trans rfl
  by_cases h47 : gt row 0 = 4 ∨ gt row 0 = 7
  · have T47 : bOr (eT (eOp eqD (eVar 6) (eC (.int 4)))) (eT (eOp eqD (eVar 6) (eC (.int 7)))) R = some true := by
      by_cases h : gt row 0 = 4
      · exact (bOr_of (b := true) (c := true) ((P6 4).trans (by rw [decide_eq_true h])) fun z => nomatch z).trans rfl
      · exact (bOr_of (b := false) (c := true) ((P6 4).trans (by rw [decide_eq_false h])) fun _ => (P6 7).trans (by rw [decide_eq_true (h47.resolve_left h)])).trans rfl
    have g0 := frm 0 (by omega) (by omega)
    obtain ⟨l0, b0⟩ := frv _ g0
    let t0 : List Int := (gv fr 0).map fun x => x / 4
    have t0l : t0.length = size := by show ((gv fr 0).map _).length = _; rw [List.length_map]; exact l0
    have t0b : ∀ x ∈ t0, -(121 : Int) ≤ x ∧ x ≤ 121 := fun x hx => by
      obtain ⟨y, hy, rfl⟩ := List.mem_map.mp hx
      have := b0 _ hy
      exact div_b (by omega) (by omega) (by omega) (by omega)
    obtain ⟨ρ', e, told, j9, j10, j11, rfl, q1, q2, q3⟩ := forD_range (fs := b__law_homes_1) (gg := gN 9) (fun k : Nat => D.int (k : Int)) (fun i ρ => ∃ (told : List (List Int)) (j9 j10 j11 : Sl), ρ = [.va (lstI row), .va (.int (many : Int)), .va (.int (size : Int)), .va (.int span), .va (.int wdt), .va (lstV fr), .va (.int (gt row 0)), .no, .ol (told.map tupI), j9, j10, j11, .no, .no] ∧ told.length = i ∧ (∀ v ∈ told, v.length = size ∧ ∀ x ∈ v, -(1000 : Int) < x ∧ x < 1000) ∧ gv told 0 = t0) (many - 1) 1
      [.va (lstI row), .va (.int (many : Int)), .va (.int (size : Int)), .va (.int span), .va (.int wdt), .va (lstV fr), .va (.int (gt row 0)), .no, .ol [tupI t0], .no, .no, .no, .no, .no] ⟨[t0], .no, .no, .no, rfl, rfl, fun v hv => by
        rw [List.mem_singleton] at hv; subst hv
        exact ⟨t0l, fun x hx => by have := t0b x hx; omega⟩, rfl⟩ (by
      rintro i ρ hi1 hi2 ⟨told, j9, j10, j11, rfl, q1, q2, q3⟩
      have gp := frm (((i : Int) + 1) / 2) (by omega) (by omega)
      obtain ⟨pl, pb⟩ := frv _ gp
      generalize hpr : gv fr (((i : Int) + 1) / 2) = pr at *
      have m2 : ((i : Int) % 2 = 0) ∨ ((i : Int) % 2 = 1) := by omega
      obtain ⟨f1, hf1, hf2⟩ : ∃ f1 : Int, ixD (.lst [.int 1, .int (-1)]) (.int ((i : Int) % 2)) = some (.int f1) ∧ (f1 = 1 ∨ f1 = -1) := by
        rcases m2 with h | h
        · rw [h]; exact ⟨1, rfl, .inl rfl⟩
        · rw [h]; exact ⟨-1, rfl, .inr rfl⟩
      have rr := Int.emod_nonneg (gt row (1 + (size : Int) * i)) (show (2 : Int) ≠ 0 by omega)
      have rr2 := Int.emod_lt_of_pos (gt row (1 + (size : Int) * i)) (show (0 : Int) < 2 by omega)
      obtain ⟨f, hfe, hfb⟩ : ∃ f : Int, f1 * (1 + gt row (1 + (size : Int) * i) % 2) = f ∧ (-2 ≤ f ∧ f ≤ 2) := ⟨_, rfl, by rcases hf2 with rfl | rfl <;> omega⟩
      have dq : ∀ j : Nat, j < size → -(121 : Int) ≤ gt pr j / 4 ∧ gt pr j / 4 ≤ 121 := fun j hj => by
        have := pb _ (gt_mem (v := pr) (i := (j : Int)) (by omega) (by omega))
        exact div_b (by omega) (by omega) (by omega) (by omega)
      have tq : ∀ j : Nat, j < size → -(121 : Int) ≤ gt t0 j ∧ gt t0 j ≤ 121 := fun j hj => t0b _ (gt_mem (v := t0) (i := (j : Int)) (by omega) (by omega))
      have fq : ∀ j : Nat, j < size → -(363 : Int) ≤ gt t0 j + f * (gt pr j / 4) ∧ gt t0 j + f * (gt pr j / 4) ≤ 363 := fun j hj => by
        have a := dq j hj
        have b := tq j hj
        generalize gt pr j / 4 = z at *
        have : f = -2 ∨ f = -1 ∨ f = 0 ∨ f = 1 ∨ f = 2 := by omega
        rcases this with rfl | rfl | rfl | rfl | rfl <;> omega
      refine ⟨_, _, gN_of, sSeq_nx (sSet_of (d := tupI pr) (eOp_of (eVar_of rfl) (eOp_of (eOp_of (eVar_of rfl) eC_of addD_int) eC_of (fdivD_of s2)) (by rw [← hpr]; exact ixD_lstV (by omega) (by omega))))
        (sSeq_nx (sSet_of (d := .int f) (eOp_of (eOp_of (eLst_of (aCons_of eC_of (aCons_of (eU_of eC_of negD_int) aNil_of)) (show 2 ≤ lim by decide)) (eOp_of (eCall_of (aCons_of (eVar_of rfl) aNil_of) intG_int) eC_of (modD_of (by omega))) hf1) (eOp_of eC_of (eOp_of (eCall_of (aCons_of (eOp_of (eVar_of rfl) (eOp_of eC_of (eOp_of (eVar_of rfl) (eVar_of rfl) (mulD_of (wi _ (by omega) (by omega)) (wi _ (by omega) (by omega)))) addD_int) (ri0 i (by omega))) aNil_of) intG_int) eC_of (modD_of (by omega))) addD_int) ((mulD_of (wi _ (by omega) (by omega)) (wi _ (by omega) (by omega))).trans (by rw [hfe]))))
        (sApp_of (d := tupI ((upto size).map fun (j : Nat) => gt t0 j + f * (gt pr j / 4))) rfl (eCall_of (aCons_of (eLc_all (g := fun j : Nat => D.int (gt t0 j + f * (gt pr j / 4))) (iR1_of (eVar_of rfl) (by unfold lim; omega)) fun j hj => ?_) aNil_of) (tupG_map _ _)) (by rw [List.length_map]; unfold lim; omega))),
        told ++ [(upto size).map fun (j : Nat) => gt t0 j + f * (gt pr j / 4)], _, _, _, by rw [List.map_append]; rfl, by simp [q1], fun v hv => ?_, ?_⟩
      · have hj := mem_upto.mp hj
        have a := dq j hj
        have ix0 : ixD (.lst (told.map tupI)) (.int 0) = some (tupI t0) := (ixD_lstV (vs := told) (by omega) (by omega)).trans (by rw [q3])
        exact eOp_of (eOp_of (show eIxO 8 (eC (.int 0)) _ = some (tupI t0) from ix0) (eVar_of rfl) (ixD_tupI (by omega) (by omega))) (eOp_of (eVar_of rfl) (eOp_of (eOp_of (eVar_of rfl) (eVar_of rfl) (ixD_tupI (by omega) (by omega))) eC_of (fdivD_of s4)) (mulD_of (wi _ (by omega) (by omega)) (wi _ (by omega) (by omega)))) addD_int
      · rcases List.mem_append.mp hv with hv | hv
        · exact q2 v hv
        · rw [List.mem_singleton] at hv; subst hv
          refine ⟨by unfold upto; rw [List.length_map, List.length_range], fun x hx => ?_⟩
          obtain ⟨j, hj, rfl⟩ := List.mem_map.mp hx
          have := fq j (mem_upto.mp hj)
          omega
      · rw [← q3]
        unfold gv
        rw [List.getD_eq_getElem?_getD, List.getD_eq_getElem?_getD, List.getElem?_append_left (by show 0 < told.length; omega)])
    have own0 : fLst (aCons (eCall tupG (aCons (eLc (iA (eOp ixD (eVar 5) (eC (.int 0)))) [13] (gN 13) bYes (eOp fdivD (eVar 13) (eC (.int 4)))) aNil)) aNil) R = some (.ol [tupI t0]) :=
      fLst_of (aCons_of (eCall_of (aCons_of (eLc_all (g := fun x : Int => D.int (x / 4)) (iA_tupI (eOp_of (eVar_of rfl) eC_of (ixD_lstV (by omega) (by omega)))) fun x hx => eOp_of (eVar_of rfl) eC_of (fdivD_of s4)) aNil_of) (tupG_map _ _)) aNil_of) (show 1 ≤ lim by decide)
    have tl : told.length = many := by omega
    have P7 : eT (eOp eqD (eVar 6) (eC (.int 7))) [.va (lstI row), .va (.int (many : Int)), .va (.int (size : Int)), .va (.int span), .va (.int wdt), .va (lstV fr), .va (.int (gt row 0)), .no, .ol (told.map tupI), j9, j10, j11, .no, .no] = some (decide (gt row 0 = 7)) := eT_of (eOp_of (eVar_of rfl) eC_of eqD_int)
    by_cases h7 : gt row 0 = 7
    · have lm := gv_mem (v := told) (i := (many : Int) - 1) (by omega) (by omega)
      obtain ⟨ll, lb⟩ := q2 _ lm
      have ixl : ixD (.lst (told.map tupI)) (.int ((many : Int) - 1)) = some (tupI (gv told ((many : Int) - 1))) := ixD_lstV (vs := told) (by omega) (by omega)
      generalize gv told ((many : Int) - 1) = lv at *
      refine ⟨told.set (many - 1) ([gt lv 0 + 1] ++ lv.drop 1), fun _ => rfl, by rw [List.length_set]; exact tl, fun v hv => ?_, sSeq_nx (sIf_f ((P6 5).trans (by rw [decide_eq_false h5])) rfl) (sSeq_nx (sIf_f T6 rfl) (sSeq_rt (sIf_t T47 (sSeq_own own0 (sSeq_nx (sFor_of (iR2_of eC_of (eVar_of rfl) hm (by omega)) e) (sSeq_nx (ρ' := [.va (lstI row), .va (.int (many : Int)), .va (.int (size : Int)), .va (.int span), .va (.int wdt), .va (lstV fr), .va (.int (gt row 0)), .no, .ol ((told.set (many - 1) ([gt lv 0 + 1] ++ lv.drop 1)).map tupI), j9, j10, j11, .no, .no]) (sIf_t (P7.trans (by rw [decide_eq_true h7])) ?_) (sFz_of (sRet_of (eCall_of (aCons_of (eVar_of rfl) aNil_of) rfl)))))))))⟩
      · have hv := List.mem_or_eq_of_mem_set hv
        rcases hv with hv | rfl
        · exact small v (q2 v hv).1 fun x hx => by have := (q2 v hv).2 x hx; omega
        · refine small _ (by simp; omega) fun x hx => ?_
          rcases List.mem_append.mp hx with hx | hx
          · rw [List.mem_singleton] at hx; subst hx
            have := lb _ (gt_mem (v := lv) (i := 0) (by omega) (by omega)); omega
          · have := lb _ (List.mem_of_mem_drop hx); omega
      · have ev : (eOp addD (eCall tupG (aCons (eLst (aCons (eOp addD (eOp ixD (eIxO 8 (eOp subD (eVar 1) (eC (.int 1)))) (eC (.int 0))) (eC (.int 1))) aNil)) aNil)) (eSl (eIxO 8 (eOp subD (eVar 1) (eC (.int 1)))) (oI (eC (.int 1))) oNo)) [.va (lstI row), .va (.int (many : Int)), .va (.int (size : Int)), .va (.int span), .va (.int wdt), .va (lstV fr), .va (.int (gt row 0)), .no, .ol (told.map tupI), j9, j10, j11, .no, .no] = some (tupI ([gt lv 0 + 1] ++ lv.drop 1)) := by
          have ixo : eIxO 8 (eOp subD (eVar 1) (eC (.int 1))) [.va (lstI row), .va (.int (many : Int)), .va (.int (size : Int)), .va (.int span), .va (.int wdt), .va (lstV fr), .va (.int (gt row 0)), .no, .ol (told.map tupI), j9, j10, j11, .no, .no] = some (tupI lv) := by
            show ((eOp subD (eVar 1) (eC (.int 1)) _).bind fun j => ixD (.lst (told.map tupI)) j) = _
            rw [eOp_of (eVar_of rfl) eC_of subD_of, Option.bind_some]
            exact ixl
          exact eOp_of (eCall_of (aCons_of (eLst_of (aCons_of (eOp_of (eOp_of ixo eC_of (ixD_tupI (by omega) (by omega))) eC_of addD_int) aNil_of) (show 1 ≤ lim by decide)) aNil_of) rfl) (eSl_of ixo (oI_of eC_of) rfl (sl_drop1 _ (by omega))) (tup_append [gt lv 0 + 1] _ (by simp; unfold lim; omega))
        show (Option.bind _ fun d => match (eOp subD (eVar 1) (eC (.int 1)) [.va (lstI row), .va (.int (many : Int)), .va (.int (size : Int)), .va (.int span), .va (.int wdt), .va (lstV fr), .va (.int (gt row 0)), .no, .ol (told.map tupI), j9, j10, j11, .no, .no]) with | some (.int j) => (ixN (told.map tupI).length j).map fun n => Out.nx (setS _ 8 (.ol ((told.map tupI).set n d))) | _ => none) = _
        rw [ev, Option.bind_some, eOp_of (eVar_of rfl) eC_of subD_of]
        have : ixN (told.map tupI).length ((many : Int) - 1) = some (many - 1) := by
          unfold ixN
          rw [if_pos (by omega), if_pos (by rw [List.length_map]; omega)]
          congr 1; omega
        show ((ixN (told.map tupI).length ((many : Int) - 1)).map _) = _
        rw [this, Option.map_some, ← List.map_set]
        rfl
    · exact ⟨told, fun _ => rfl, tl, fun v hv => small v (q2 v hv).1 fun x hx => by have := (q2 v hv).2 x hx; omega, sSeq_nx (sIf_f ((P6 5).trans (by rw [decide_eq_false h5])) rfl) (sSeq_nx (sIf_f T6 rfl) (sSeq_rt (sIf_t T47 (sSeq_own own0 (sSeq_nx (sFor_of (iR2_of eC_of (eVar_of rfl) hm (by omega)) e) (sSeq_nx (sIf_f (P7.trans (by rw [decide_eq_false h7])) rfl) (sFz_of (sRet_of (eCall_of (aCons_of (eVar_of rfl) aNil_of) rfl)))))))))⟩
  · have T47 : bOr (eT (eOp eqD (eVar 6) (eC (.int 4)))) (eT (eOp eqD (eVar 6) (eC (.int 7)))) R = some false :=
      (bOr_of (b := false) (c := false) ((P6 4).trans (by rw [decide_eq_false fun z => h47 (.inl z)])) fun _ => (P6 7).trans (by rw [decide_eq_false fun z => h47 (.inr z)])).trans rfl
    exact ⟨fr, fun _ => rfl, frl, frz, sSeq_nx (sIf_f ((P6 5).trans (by rw [decide_eq_false h5])) rfl) (sSeq_nx (sIf_f T6 rfl) (sSeq_nx (sIf_f T47 rfl) (sRet_of (eCall_of (aCons_of (eVar_of rfl) aNil_of) rfl))))⟩
end M

namespace M
open PySem L2 DL W
def szL : List Int := [10, 9, 9, 9, 12, 4, 4, 12, 125, 125, 125, 3, 3, 3, 10000000000000000000000000, 10000000000000000000000000, 10000000000000000000000000, 10000000000000000000000000, 201, 201, 201, 201, 201, 201]
theorem wi {x : Int} (a : -(2 ^ 200) < x) (b : x < 2 ^ 200) : wide x := by
  refine bw.wide (k := 200) ?_ (by omega)
  unfold bw; omega
theorem bwi {k : Nat} {x : Int} (a : -(2 ^ k : Int) < x) (b : x < 2 ^ k) : bw k x := by
  unfold bw
  have : ((2 ^ k : Nat) : Int) = (2 : Int) ^ k := by norm_cast
  omega
theorem p40 : powD (.int 10) (.int 40) = some (.int 10000000000000000000000000000000000000000) := pow_of ⟨by decide, by decide, by decide⟩ (by rfl)
theorem L_spot {row : List Int} {homes : List (List Int)} {n : Nat} {span : Int} (hrow : Dg row szL) (hn : n = 1 ∨ n = 2 ∨ n = 3) (hh : vsz n 20 homes) (hne : homes ≠ []) (hl2 : homes.length ≤ 16) (h0 : 0 ≤ span) (h1 : span ≤ 60) :
    ∃ p, G__law_spot [lstI row, tupV homes, .int span] = some (tupI p) ∧ p.length = n + 1 ∧ bv 400 p := by
  have hlen : row.length = 24 := hrow.1
  have hpos := List.length_pos_iff.mpr hne
  have r : ∀ i : Int, 0 ≤ i → i < 24 → ixD (lstI row) (.int i) = some (.int (gt row i)) := fun i a b => ixD_lstI a (by omega)
  have q : ∀ i : Int, 0 ≤ i → i < 24 → 0 ≤ gt row i ∧ gt row i < gt szL i := fun i a b => hrow.gt a b
  have q0 := q 0 (by omega) (by omega); rw [show gt szL 0 = 10 from rfl] at q0
  have q4 := q 4 (by omega) (by omega); rw [show gt szL 4 = 12 from rfl] at q4
  have q5 := q 5 (by omega) (by omega); rw [show gt szL 5 = 4 from rfl] at q5
  have q6 := q 6 (by omega) (by omega); rw [show gt szL 6 = 4 from rfl] at q6
  have q7 := q 7 (by omega) (by omega); rw [show gt szL 7 = 12 from rfl] at q7
  have q14 := q 14 (by omega) (by omega); rw [show gt szL 14 = 10000000000000000000000000 from rfl] at q14
  have hz : gv homes 0 ∈ homes := gv_mem (by omega) (by omega)
  have gl := gv_len hh hne
  unfold G__law_spot b__law_spot N__law_spot
  suffices h : ∃ p, p.length = n + 1 ∧ bv 400 p ∧ (sSeq (sIf (eT (eOp eqD (eVar 4) (eC (.int 4)))) (sSeq (sSet 5 (eOp ixD (eLst (aCons (eC (.int 1)) (aCons (eC (.int 2)) (aCons (eC (.int 3)) (aCons (eC (.int 1)) (aCons (eC (.int 4)) (aCons (eC (.int 5)) (aCons (eC (.int 6)) (aCons (eC (.int 2)) (aCons (eC (.int 7)) (aCons (eC (.int 8)) (aCons (eC (.int 10)) (aCons (eC (.int 12)) aNil))))))))))))) (eOp ixD (eVar 0) (eC (.int 7))))) (sSeq (sIf (eT (eOp eqD (eOp ixD (eVar 0) (eC (.int 0))) (eC (.int 9)))) (sSet 5 (eOp addD (eOp ixD (eLst (aCons (eC (.int 1)) (aCons (eOp powD (eC (.int 10)) (eC (.int 40))) aNil))) (eOp modD (eCall intG (aCons (eOp ixD (eVar 0) (eC (.int 7))) aNil)) (eC (.int 2)))) (eCall intG (aCons (eOp ixD (eVar 0) (eC (.int 14))) aNil)))) sNil) (sSeq (sSet 6 (eOp addD (eOp mulD (eC (.int 2)) (eVar 2)) (eC (.int 5)))) (sSeq (sSet 7 (eLc (iR1 (eVar 3)) [12] (gN 12) bYes (eOp addD (eOp mulD (eOp subD (eOp subD (eOp modD (eCall intG (aCons (eOp ixD (eVar 0) (eOp addD (eC (.int 8)) (eVar 12))) aNil)) (eVar 6)) (eVar 2)) (eC (.int 2))) (eVar 5)) (eOp modD (eCall intG (aCons (eOp ixD (eVar 0) (eOp addD (eC (.int 15)) (eVar 12))) aNil)) (eVar 5))))) (sRet (eCall G__law_reduced (aCons (eVar 7) (aCons (eVar 5) aNil)))))))) sNil) (sSeq (sSet 8 (eOp ixD (eLst (aCons (eTup (aCons (eC (.int 1)) (aCons (eC (.int 0)) (aCons (eC (.int 0)) aNil)))) (aCons (eTup (aCons (eC (.int 1)) (aCons (eC (.int 1)) (aCons (eC (.int 0)) aNil)))) (aCons (eTup (aCons (eOp subD (eCall intG (aCons (eOp ixD (eVar 0) (eC (.int 4))) aNil)) (eC (.int 5))) (aCons (eC (.int 6)) (aCons (eC (.int 0)) aNil)))) (aCons (eTup (aCons (eOp addD (eC (.int 1)) (eCall intG (aCons (eOp ixD (eVar 0) (eC (.int 5))) aNil))) (aCons (eOp addD (eC (.int 1)) (eCall intG (aCons (eOp ixD (eVar 0) (eC (.int 6))) aNil))) (aCons (eOp modD (eCall intG (aCons (eOp ixD (eVar 0) (eC (.int 4))) aNil)) (eC (.int 4))) aNil)))) aNil))))) (eVar 4))) (sSeq (sSet 9 (eLc (iR1 (eC (.int 3))) [13] (gN 13) bYes (eOp ixD (eVar 1) (eOp modD (eCall intG (aCons (eOp ixD (eVar 0) (eOp addD (eC (.int 1)) (eVar 13))) aNil)) (eCall lenG (aCons (eVar 1) aNil)))))) (sSeq (sSet 10 (eCall G__law_reduced (aCons (eLc (iR1 (eVar 3)) [12] (gN 12) bYes (eCall suG (aCons (eLc (iR1 (eC (.int 3))) [13] (gN 13) bYes (eOp mulD (eOp ixD (eVar 8) (eVar 13)) (eOp ixD (eOp ixD (eVar 9) (eVar 13)) (eVar 12)))) aNil))) (aCons (eCall suG (aCons (eVar 8) aNil)) aNil)))) (sSeq (sIf (eT (eOp ltD (eOp ixD (eVar 0) (eC (.int 0))) (eC (.int 5)))) (sRet (eVar 10)) sNil) (sSeq (sSet 11 (eOp powD (eC (.int 10)) (eC (.int 40)))) (sRet (eCall G__law_reduced (aCons (eLc (iR1 (eVar 3)) [12] (gN 12) bYes (eOp addD (eOp mulD (eOp ixD (eVar 10) (eVar 12)) (eVar 11)) (eOp mulD (eOp subD (eCall intG (aCons (eOp ixD (eVar 0) (eOp addD (eC (.int 11)) (eVar 12))) aNil)) (eC (.int 1))) (eOp ixD (eVar 10) (eVar 3))))) (aCons (eOp mulD (eOp ixD (eVar 10) (eVar 3)) (eVar 11)) aNil))))))))))
      [.va (lstI row), .va (tupV homes), .va (.int span), .va (.int (n : Int)), .va (.int (gt row 0 % 5)), .no, .no, .no, .no, .no, .no, .no, .no, .no] = some (.rt (tupI p)) by
    obtain ⟨p, l1, l2, e⟩ := h
    exact ⟨p, run_of (sSeq_set (d := .int (n : Int)) (eCall_of (aCons_of (eOp_of (eVar_of rfl) eC_of (ixD_tupV (by omega) (by omega))) aNil_of) (by rw [lenG_tupI, gl])) (sSeq_set (d := .int (gt row 0 % 5)) (eOp_of (eCall_of (aCons_of (eOp_of (eVar_of rfl) eC_of (r 0 (by omega) (by omega))) aNil_of) intG_int) eC_of (modD_of (by omega))) e)), l1, l2⟩
  have hm0 := Int.emod_nonneg (gt row 0) (show (5 : Int) ≠ 0 by omega)
  have hm1 := Int.emod_lt_of_pos (gt row 0) (show (0 : Int) < 5 by omega)
  have P4 : eT (eOp eqD (eVar 4) (eC (.int 4))) [.va (lstI row), .va (tupV homes), .va (.int span), .va (.int (n : Int)), .va (.int (gt row 0 % 5)), .no, .no, .no, .no, .no, .no, .no, .no, .no] = some (decide (gt row 0 % 5 = 4)) := eT_of (eOp_of (eVar_of rfl) eC_of eqD_int)
  by_cases h4 : gt row 0 % 5 = 4
  · -- a spot of its own
    have fin : ∀ (bt : Int), 0 < bt → bt < 2 ^ 140 → ∃ p, p.length = n + 1 ∧ bv 400 p ∧ (sSeq (sSet 6 (eOp addD (eOp mulD (eC (.int 2)) (eVar 2)) (eC (.int 5)))) (sSeq (sSet 7 (eLc (iR1 (eVar 3)) [12] (gN 12) bYes (eOp addD (eOp mulD (eOp subD (eOp subD (eOp modD (eCall intG (aCons (eOp ixD (eVar 0) (eOp addD (eC (.int 8)) (eVar 12))) aNil)) (eVar 6)) (eVar 2)) (eC (.int 2))) (eVar 5)) (eOp modD (eCall intG (aCons (eOp ixD (eVar 0) (eOp addD (eC (.int 15)) (eVar 12))) aNil)) (eVar 5))))) (sRet (eCall G__law_reduced (aCons (eVar 7) (aCons (eVar 5) aNil))))))
        [.va (lstI row), .va (tupV homes), .va (.int span), .va (.int (n : Int)), .va (.int (gt row 0 % 5)), .va (.int bt), .no, .no, .no, .no, .no, .no, .no, .no] = some (.rt (tupI p)) := fun bt b0 b1 => by
      let nb : List Int := (upto n).map fun (j : Nat) => (gt row (8 + (j : Int)) % (2 * span + 5) - span - 2) * bt + gt row (15 + (j : Int)) % bt
      have nbl : nb.length = n := by show ((upto n).map _).length = _; unfold upto; rw [List.length_map, List.length_range]
      have nbb : bv 300 nb := by
        refine bv.map fun j hj => ?_
        have hj := mem_upto.mp hj
        have a := Int.emod_nonneg (gt row (8 + (j : Int))) (show 2 * span + 5 ≠ 0 by omega)
        have b := Int.emod_lt_of_pos (gt row (8 + (j : Int))) (show 0 < 2 * span + 5 by omega)
        have c := Int.emod_nonneg (gt row (15 + (j : Int))) (show bt ≠ 0 by omega)
        have d := Int.emod_lt_of_pos (gt row (15 + (j : Int))) b0
        have A : bw 10 (gt row (8 + (j : Int)) % (2 * span + 5) - span - 2) := bwi (by omega) (by omega)
        have B : bw 140 bt := bwi (by omega) (by omega)
        have C : bw 140 (gt row (15 + (j : Int)) % bt) := bwi (by omega) (by omega)
        exact (((A.mul B).mono (m := 150) (by omega)).add (C.mono (m := 150) (by omega))).mono (by omega)
      obtain ⟨p, e, p1, p2, _⟩ := L_reduced (ns := nb) (b := bt) (k := 300) b0 ((bwi (k := 140) (by omega) (by omega)).mono (by omega)) (by omega) nbb (by omega)
      refine ⟨p, by omega, p2.mono (by omega), sSeq_set (d := .int (2 * span + 5)) (eOp_of (eOp_of eC_of (eVar_of rfl) (mulD_of (wi (by omega) (by omega)) (wi (by omega) (by omega)))) eC_of addD_int) (sSeq_set (d := lstI nb) ?_ (sRet_of (eCall_of (aCons_of (eVar_of rfl) (aCons_of (eVar_of rfl) aNil_of)) e)))⟩
      refine (eLc_all (l := upto n) (g := fun j : Nat => D.int ((gt row (8 + (j : Int)) % (2 * span + 5) - span - 2) * bt + gt row (15 + (j : Int)) % bt)) (iR1_of (eVar_of rfl) (by unfold lim; omega)) fun j hj => ?_).trans (by rw [lst_map])
      have hj := mem_upto.mp hj
      have a := Int.emod_nonneg (gt row (8 + (j : Int))) (show 2 * span + 5 ≠ 0 by omega)
      have b := Int.emod_lt_of_pos (gt row (8 + (j : Int))) (show 0 < 2 * span + 5 by omega)
      exact eOp_of (eOp_of (eOp_of (eOp_of (eOp_of (eCall_of (aCons_of (eOp_of (eVar_of rfl) (eOp_of eC_of (eVar_of rfl) addD_int) (r _ (by omega) (by omega))) aNil_of) intG_int) (eVar_of rfl) (modD_of (by omega))) (eVar_of rfl) subD_of) eC_of subD_of) (eVar_of rfl) (mulD_of (wi (by omega) (by omega)) (wi (by omega) (by omega)))) (eOp_of (eCall_of (aCons_of (eOp_of (eVar_of rfl) (eOp_of eC_of (eVar_of rfl) addD_int) (r _ (by omega) (by omega))) aNil_of) intG_int) (eVar_of rfl) (modD_of b0)) addD_int
    have bt1 := pick_in (v := [1, 2, 3, 1, 4, 5, 6, 2, 7, 8, 10, 12]) (i := gt row 7) (fun x => 0 < x ∧ x < 20) (by decide) q7.1 (by simp; omega)
    have bt1e : ixD (.lst ([1, 2, 3, 1, 4, 5, 6, 2, 7, 8, 10, 12].map D.int)) (.int (gt row 7)) = some (.int (gt [1, 2, 3, 1, 4, 5, 6, 2, 7, 8, 10, 12] (gt row 7))) := ixD_lstI (v := [1, 2, 3, 1, 4, 5, 6, 2, 7, 8, 10, 12]) q7.1 (by simp; omega)
    generalize gt [1, 2, 3, 1, 4, 5, 6, 2, 7, 8, 10, 12] (gt row 7) = bt at *
    have P9 : eT (eOp eqD (eOp ixD (eVar 0) (eC (.int 0))) (eC (.int 9))) [.va (lstI row), .va (tupV homes), .va (.int span), .va (.int (n : Int)), .va (.int (gt row 0 % 5)), .va (.int bt), .no, .no, .no, .no, .no, .no, .no, .no] = some (decide (gt row 0 = 9)) := eT_of (eOp_of (eOp_of (eVar_of rfl) eC_of (r 0 (by omega) (by omega))) eC_of eqD_int)
    by_cases h9 : gt row 0 = 9
    · have m2 : gt row 7 % 2 = 0 ∨ gt row 7 % 2 = 1 := by omega
      obtain ⟨c, hc, c0, c1⟩ : ∃ c : Int, ixD (.lst [.int 1, .int 10000000000000000000000000000000000000000]) (.int (gt row 7 % 2)) = some (.int c) ∧ 1 ≤ c ∧ c ≤ 10000000000000000000000000000000000000000 := by
        rcases m2 with h | h
        · rw [h]; exact ⟨1, rfl, by omega, by omega⟩
        · rw [h]; exact ⟨10000000000000000000000000000000000000000, rfl, by omega, by omega⟩
      obtain ⟨p, l1, l2, e⟩ := fin (c + gt row 14) (by omega) (by omega)
      refine ⟨p, l1, l2, sSeq_rt (sIf_t (P4.trans (by rw [decide_eq_true h4])) (sSeq_set (d := .int bt) (eOp_of (eLst_of (ds := [1, 2, 3, 1, 4, 5, 6, 2, 7, 8, 10, 12].map D.int) rfl (by decide)) (eOp_of (eVar_of rfl) eC_of (r 7 (by omega) (by omega))) bt1e) (sSeq_nx (sIf_t (P9.trans (by rw [decide_eq_true h9])) (sSet_of (d := .int (c + gt row 14)) (eOp_of (eOp_of (eLst_of (aCons_of eC_of (aCons_of (eOp_of eC_of eC_of p40) aNil_of)) (show 2 ≤ lim by decide)) (eOp_of (eCall_of (aCons_of (eOp_of (eVar_of rfl) eC_of (r 7 (by omega) (by omega))) aNil_of) intG_int) eC_of (modD_of (by omega))) hc) (eCall_of (aCons_of (eOp_of (eVar_of rfl) eC_of (r 14 (by omega) (by omega))) aNil_of) intG_int) addD_int))) e)))⟩
    · obtain ⟨p, l1, l2, e⟩ := fin bt bt1.1 (by omega)
      exact ⟨p, l1, l2, sSeq_rt (sIf_t (P4.trans (by rw [decide_eq_true h4])) (sSeq_set (d := .int bt) (eOp_of (eLst_of (ds := [1, 2, 3, 1, 4, 5, 6, 2, 7, 8, 10, 12].map D.int) rfl (by decide)) (eOp_of (eVar_of rfl) eC_of (r 7 (by omega) (by omega))) bt1e) (sSeq_nx (sIf_f (P9.trans (by rw [decide_eq_false h9])) rfl) e)))⟩
  · -- a mix of three homes
    obtain ⟨s, hs, s1, s2, s3⟩ : ∃ s : List Int, ixD (.lst [tupI [1, 0, 0], tupI [1, 1, 0], tupI [gt row 4 - 5, 6, 0], tupI [1 + gt row 5, 1 + gt row 6, gt row 4 % 4]]) (.int (gt row 0 % 5)) = some (tupI s) ∧ s.length = 3 ∧ (∀ x ∈ s, -(20 : Int) < x ∧ x < 20) ∧ 0 < s.sum := by
      have : gt row 0 % 5 = 0 ∨ gt row 0 % 5 = 1 ∨ gt row 0 % 5 = 2 ∨ gt row 0 % 5 = 3 := by omega
      have e4 := Int.emod_nonneg (gt row 4) (show (4 : Int) ≠ 0 by omega)
      have e5 := Int.emod_lt_of_pos (gt row 4) (show (0 : Int) < 4 by omega)
      rcases this with h | h | h | h
      · rw [h]; exact ⟨_, rfl, rfl, by simp, by simp⟩
      · rw [h]; exact ⟨_, rfl, rfl, by simp, by simp⟩
      · rw [h]; exact ⟨_, rfl, rfl, by intro x hx; simp at hx; rcases hx with rfl | rfl | rfl <;> omega, by simp; omega⟩
      · rw [h]; exact ⟨_, rfl, rfl, by intro x hx; simp at hx; rcases hx with rfl | rfl | rfl <;> omega, by simp; omega⟩
    have hL : (homes.length : Int) ≠ 0 := by omega
    let tr : List (List Int) := (upto 3).map fun (k : Nat) => gv homes (gt row (1 + (k : Int)) % homes.length)
    have trm : ∀ k : Nat, k < 3 → gv homes (gt row (1 + (k : Int)) % homes.length) ∈ homes := fun k hk => gv_mem (Int.emod_nonneg _ hL) (Int.emod_lt_of_pos _ (by omega))
    have trv : ∀ v ∈ tr, v.length = n ∧ bv 20 v := fun v hv => by
      obtain ⟨k, hk, rfl⟩ := List.mem_map.mp hv
      exact hh _ (trm k (mem_upto.mp hk))
    have trl : tr.length = 3 := rfl
    have sb : bv 6 s := fun x hx => by have := s2 x hx; exact bwi (by omega) (by omega)
    let nb : List Int := (upto n).map fun (j : Nat) => ((upto 3).map fun (k : Nat) => gt s k * gt (gv tr k) j).sum
    have nbl : nb.length = n := by show ((upto n).map _).length = _; unfold upto; rw [List.length_map, List.length_range]
    have tg : ∀ (j k : Nat), j < n → k < 3 → bw 6 (gt s k) ∧ bw 20 (gt (gv tr k) j) ∧ (j : Int) < (gv tr k).length := fun j k hj hk => by
      obtain ⟨a, b⟩ := trv _ (gv_mem (v := tr) (i := (k : Int)) (by omega) (by omega))
      exact ⟨sb.gt (by omega) (by omega), b.gt (by omega) (by omega), by omega⟩
    have nbb : bv 60 nb := by
      refine bv.map fun j hj => ?_
      have hj := mem_upto.mp hj
      refine (bw.sum (k := 26) _ (fun x hx => ?_) (by rw [List.length_map]; decide)).mono (by omega)
      obtain ⟨k, hk, rfl⟩ := List.mem_map.mp hx
      obtain ⟨a, b, _⟩ := tg j k hj (mem_upto.mp hk)
      exact a.mul b
    have ssb : bw 60 s.sum := (bw.sum (k := 6) s sb (by omega)).mono (by omega)
    obtain ⟨p, e, p1, p2, p3⟩ := L_reduced (ns := nb) (b := s.sum) (k := 60) s3 ssb (by omega) nbb (by omega)
    have pl : gt p (p.length - 1) = gt p n := by congr 1; omega
    rw [pl] at p3
    have E8 : ∀ ρ : DL.Env, ρ = [.va (lstI row), .va (tupV homes), .va (.int span), .va (.int (n : Int)), .va (.int (gt row 0 % 5)), .no, .no, .no, .no, .no, .no, .no, .no, .no] → (eOp ixD (eLst (aCons (eTup (aCons (eC (.int 1)) (aCons (eC (.int 0)) (aCons (eC (.int 0)) aNil)))) (aCons (eTup (aCons (eC (.int 1)) (aCons (eC (.int 1)) (aCons (eC (.int 0)) aNil)))) (aCons (eTup (aCons (eOp subD (eCall intG (aCons (eOp ixD (eVar 0) (eC (.int 4))) aNil)) (eC (.int 5))) (aCons (eC (.int 6)) (aCons (eC (.int 0)) aNil)))) (aCons (eTup (aCons (eOp addD (eC (.int 1)) (eCall intG (aCons (eOp ixD (eVar 0) (eC (.int 5))) aNil))) (aCons (eOp addD (eC (.int 1)) (eCall intG (aCons (eOp ixD (eVar 0) (eC (.int 6))) aNil))) (aCons (eOp modD (eCall intG (aCons (eOp ixD (eVar 0) (eC (.int 4))) aNil)) (eC (.int 4))) aNil)))) aNil))))) (eVar 4)) ρ = some (tupI s) := by
      rintro ρ rfl
      refine eOp_of (eLst_of (aCons_of (eTup_of (aCons_of eC_of (aCons_of eC_of (aCons_of eC_of aNil_of))) (show 3 ≤ lim by decide)) (aCons_of (eTup_of (aCons_of eC_of (aCons_of eC_of (aCons_of eC_of aNil_of))) (show 3 ≤ lim by decide)) (aCons_of (eTup_of (aCons_of (eOp_of (eCall_of (aCons_of (eOp_of (eVar_of rfl) eC_of (r 4 (by omega) (by omega))) aNil_of) intG_int) eC_of subD_of) (aCons_of eC_of (aCons_of eC_of aNil_of))) (show 3 ≤ lim by decide)) (aCons_of (eTup_of (aCons_of (eOp_of eC_of (eCall_of (aCons_of (eOp_of (eVar_of rfl) eC_of (r 5 (by omega) (by omega))) aNil_of) intG_int) addD_int) (aCons_of (eOp_of eC_of (eCall_of (aCons_of (eOp_of (eVar_of rfl) eC_of (r 6 (by omega) (by omega))) aNil_of) intG_int) addD_int) (aCons_of (eOp_of (eCall_of (aCons_of (eOp_of (eVar_of rfl) eC_of (r 4 (by omega) (by omega))) aNil_of) intG_int) eC_of (modD_of (by omega))) aNil_of))) (show 3 ≤ lim by decide)) aNil_of)))) (show 4 ≤ lim by decide)) (eVar_of rfl) hs
    have E9 : ∀ ρ : DL.Env, ρ = [.va (lstI row), .va (tupV homes), .va (.int span), .va (.int (n : Int)), .va (.int (gt row 0 % 5)), .no, .no, .no, .va (tupI s), .no, .no, .no, .no, .no] → eLc (iR1 (eC (.int 3))) [13] (gN 13) bYes (eOp ixD (eVar 1) (eOp modD (eCall intG (aCons (eOp ixD (eVar 0) (eOp addD (eC (.int 1)) (eVar 13))) aNil)) (eCall lenG (aCons (eVar 1) aNil)))) ρ = some (lstV tr) := by
      rintro ρ rfl
      refine (eLc_all (l := upto 3) (g := fun k : Nat => tupI (gv homes (gt row (1 + (k : Int)) % homes.length))) (iR1_of eC_of (by decide)) fun k hk => ?_).trans (by rw [lst_mapV])
      have hk := mem_upto.mp hk
      exact eOp_of (eVar_of rfl) (eOp_of (eCall_of (aCons_of (eOp_of (eVar_of rfl) (eOp_of eC_of (eVar_of rfl) addD_int) (r _ (by omega) (by omega))) aNil_of) intG_int) (eCall_of (aCons_of (eVar_of rfl) aNil_of) (lenG_tupV _)) (modD_of (by omega))) (ixD_tupV (Int.emod_nonneg _ hL) (Int.emod_lt_of_pos _ (by omega)))
    have E10 : ∀ ρ : DL.Env, ρ = [.va (lstI row), .va (tupV homes), .va (.int span), .va (.int (n : Int)), .va (.int (gt row 0 % 5)), .no, .no, .no, .va (tupI s), .va (lstV tr), .no, .no, .no, .no] → eCall G__law_reduced (aCons (eLc (iR1 (eVar 3)) [12] (gN 12) bYes (eCall suG (aCons (eLc (iR1 (eC (.int 3))) [13] (gN 13) bYes (eOp mulD (eOp ixD (eVar 8) (eVar 13)) (eOp ixD (eOp ixD (eVar 9) (eVar 13)) (eVar 12)))) aNil))) (aCons (eCall suG (aCons (eVar 8) aNil)) aNil)) ρ = some (tupI p) := by
      rintro ρ rfl
      refine eCall_of (aCons_of (d := lstI nb) ?_ (aCons_of (eCall_of (aCons_of (eVar_of rfl) aNil_of) (suG_tupI _)) aNil_of)) e
      refine (eLc_all (l := upto n) (g := fun j : Nat => D.int (((upto 3).map fun (k : Nat) => gt s k * gt (gv tr k) j).sum)) (iR1_of (eVar_of rfl) (by unfold lim; omega)) fun j hj => ?_).trans (by rw [lst_map])
      have hj := mem_upto.mp hj
      refine eCall_of (aCons_of (eLc_all (l := upto 3) (g := fun k : Nat => D.int (gt s k * gt (gv tr k) j)) (iR1_of eC_of (by decide)) fun k hk => ?_) aNil_of) (suG_map _ _)
      have hk := mem_upto.mp hk
      obtain ⟨a, b, c⟩ := tg j k hj hk
      exact eOp_of (eOp_of (eVar_of rfl) (eVar_of rfl) (ixD_tupI (by omega) (by omega))) (eOp_of (eOp_of (eVar_of rfl) (eVar_of rfl) (ixD_lstV (by omega) (by omega))) (eVar_of rfl) (ixD_tupI (by omega) c)) (mulD_of (a.wide (by omega)) (b.wide (by omega)))
    have P5 : eT (eOp ltD (eOp ixD (eVar 0) (eC (.int 0))) (eC (.int 5))) [.va (lstI row), .va (tupV homes), .va (.int span), .va (.int (n : Int)), .va (.int (gt row 0 % 5)), .no, .no, .no, .va (tupI s), .va (lstV tr), .va (tupI p), .no, .no, .no] = some (decide (gt row 0 < 5)) := eT_of (eOp_of (eOp_of (eVar_of rfl) eC_of (r 0 (by omega) (by omega))) eC_of ltD_of)
    by_cases h5 : gt row 0 < 5
    · exact ⟨p, by omega, p2.mono (by omega), sSeq_nx (sIf_f (P4.trans (by rw [decide_eq_false h4])) rfl) (sSeq_set (E8 _ rfl) (sSeq_set (E9 _ rfl) (sSeq_set (E10 _ rfl) (sSeq_rt (sIf_t (P5.trans (by rw [decide_eq_true h5])) (sRet_of (eVar_of rfl)))))))⟩
    · have pg : ∀ i : Int, 0 ≤ i → i < n + 1 → bw 60 (gt p i) := fun i a b => p2.gt a (by omega)
      have tb : bw 140 10000000000000000000000000000000000000000 := bwi (by omega) (by omega)
      let nb2 : List Int := (upto n).map fun (j : Nat) => gt p j * 10000000000000000000000000000000000000000 + (gt row (11 + (j : Int)) - 1) * gt p n
      have nb2l : nb2.length = n := by show ((upto n).map _).length = _; unfold upto; rw [List.length_map, List.length_range]
      have rb : ∀ j : Nat, j < n → bw 60 (gt row (11 + (j : Int)) - 1) := fun j hj => by
        have := q (11 + (j : Int)) (by omega) (by omega)
        have e3 : gt szL (11 + (j : Int)) = 3 := by
          have : j = 0 ∨ j = 1 ∨ j = 2 := by omega
          rcases this with rfl | rfl | rfl <;> rfl
        exact bwi (by omega) (by omega)
      have nb2b : bv 300 nb2 := by
        refine bv.map fun j hj => ?_
        have hj := mem_upto.mp hj
        exact (((pg j (by omega) (by omega)).mul tb).add (((rb j hj).mul (pg n (by omega) (by omega))).mono (by omega))).mono (by omega)
      have btp : 0 < gt p n * 10000000000000000000000000000000000000000 := Int.mul_pos p3 (by omega)
      have btb : bw 300 (gt p n * 10000000000000000000000000000000000000000) := ((pg n (by omega) (by omega)).mul tb).mono (by omega)
      obtain ⟨p', e', p1', p2', _⟩ := L_reduced (ns := nb2) (k := 300) btp btb (by omega) nb2b (by omega)
      refine ⟨p', by omega, p2'.mono (by omega), sSeq_nx (sIf_f (P4.trans (by rw [decide_eq_false h4])) rfl) (sSeq_set (E8 _ rfl) (sSeq_set (E9 _ rfl) (sSeq_set (E10 _ rfl) (sSeq_nx (sIf_f (P5.trans (by rw [decide_eq_false h5])) rfl) (sSeq_set (eOp_of eC_of eC_of p40) (sRet_of (eCall_of (aCons_of (d := lstI nb2) ?_ (aCons_of (eOp_of (eOp_of (eVar_of rfl) (eVar_of rfl) (ixD_tupI (by omega) (by omega))) (eVar_of rfl) (mulD_of ((pg n (by omega) (by omega)).wide (by omega)) (tb.wide (by omega)))) aNil_of)) e')))))))⟩
      refine (eLc_all (l := upto n) (g := fun j : Nat => D.int (gt p j * 10000000000000000000000000000000000000000 + (gt row (11 + (j : Int)) - 1) * gt p n)) (iR1_of (eVar_of rfl) (by unfold lim; omega)) fun j hj => ?_).trans (by rw [lst_map])
      have hj := mem_upto.mp hj
      exact eOp_of (eOp_of (eOp_of (eVar_of rfl) (eVar_of rfl) (ixD_tupI (by omega) (by omega))) (eVar_of rfl) (mulD_of ((pg j (by omega) (by omega)).wide (by omega)) (tb.wide (by omega)))) (eOp_of (eOp_of (eCall_of (aCons_of (eOp_of (eVar_of rfl) (eOp_of eC_of (eVar_of rfl) addD_int) (r _ (by omega) (by omega))) aNil_of) intG_int) eC_of subD_of) (eOp_of (eVar_of rfl) (eVar_of rfl) (ixD_tupI (by omega) (by omega))) (mulD_of ((rb j hj).wide (by omega)) ((pg n (by omega) (by omega)).wide (by omega)))) addD_int
end M

namespace M
open PySem L2 DL W
theorem eqvAll_ints : ∀ v : List Int, PyData.eqvAll (toPys (v.map D.int)) (toPys (v.map D.int)) = true
  | [] => by simp [toPys, PyData.eqvAll]
  | x :: v => by
    show PyData.eqvAll (PyData.int x :: toPys (v.map D.int)) (PyData.int x :: toPys (v.map D.int)) = true
    have := eqvAll_ints v
    simp [PyData.eqvAll, PyData.eqv, this]
theorem neD_prD (b : Int × List Int) : neD (prD b) (prD b) = some (.bl false) := by
  have e : PyData.eqv (toPy (prD b)) (toPy (prD b)) = true := by
    show PyData.eqv (.tuple [.int b.1, .tuple (toPys (b.2.map D.int))]) (.tuple [.int b.1, .tuple (toPys (b.2.map D.int))]) = true
    have := eqvAll_ints b.2
    simp [PyData.eqvAll, PyData.eqv, this]
  show (if okPy 40 (prD b) && okPy 40 (prD b) then some (D.bl (!PyData.eqv (toPy (prD b)) (toPy (prD b)))) else none) = _
  rw [e, if_pos]
  · rfl
  · rw [Bool.and_eq_true]
    have : okPy 40 (prD b) = true := by
      show (okPy 39 (D.int b.1) && (okPys 38 (b.2.map D.int) && true)) = true
      rw [okPys_int]; rfl
    exact ⟨this, this⟩
theorem mulD_lst {xs : List D} {k : Int} (h : 0 ≤ k ∧ k < 1000 ∧ xs.length ≤ 1000) : mulD (.lst xs) (.int k) = some (.lst (List.replicate k.toNat xs).flatten) := by
  unfold mulD; exact if_pos h
structure WD where
  n : Nat
  homes : List (List Int)
  ws : List Int
  span : Int
structure WD.Ok (w : WD) : Prop where
  hn : w.n = 1 ∨ w.n = 2 ∨ w.n = 3
  hh : vsz w.n 20 w.homes
  ne : w.homes ≠ []
  lw : w.ws.length = w.homes.length
  l9 : w.homes.length ≤ 9
  nn : nnW w.ws
  s0 : 0 ≤ w.span
  s1 : w.span ≤ 60
def WD.d (w : WD) : D := .tup [tupV w.homes, tupI w.ws, .int w.span]
def szW : List Int := [12, 32, 6, 6, 4, 31, 31, 31, 31, 31, 31, 31, 31, 31]
theorem rep_one (m : Nat) (x : Int) : (List.replicate m [D.int x]).flatten = (List.replicate m x).map D.int := by
  induction m with
  | zero => rfl
  | succ m ih => rw [List.replicate_succ, List.flatten_cons, ih, List.replicate_succ, List.map_cons]; rfl
theorem szs_rep (a x : Int) (m : Nat) (ha : 0 < a ∧ a < 2 ^ 200) (hx : 0 < x ∧ x < 2 ^ 200) : szs ([a] ++ List.replicate m x) := fun y hy => by
  rcases List.mem_append.mp hy with hy | hy
  · rw [List.mem_singleton] at hy; subst hy; exact ha
  · rw [List.eq_of_mem_replicate hy]; exact hx
theorem addD_lstI {a b : List Int} (h : a.length + b.length ≤ lim) : addD (lstI a) (lstI b) = some (lstI (a ++ b)) := by
  show (if (a.map D.int).length + (b.map D.int).length ≤ lim then some (D.lst (a.map D.int ++ b.map D.int)) else none) = _
  rw [if_pos (by rw [List.length_map, List.length_map]; exact h), ← List.map_append]
  rfl
theorem sl_drop5 (v : List Int) (h : 5 ≤ v.length) : slD (lstI v) (some 5) none = some (lstI (v.drop 5)) := by
  show some (D.lst (cutD (v.map D.int) (some 5) none)) = _
  unfold cutD
  rw [List.length_map]
  have e1 : HT.sIx v.length 0 (some 5) = 5 := by unfold HT.sIx; simp; omega
  have e2 : HT.sIx v.length v.length none = v.length := by unfold HT.sIx; rfl
  rw [e1, e2, ← List.map_drop, List.take_of_length_le (by simp)]
  rfl
theorem L_world (ns : List Int) (hns : ns.length ≤ 63) (k : Nat) (hk : k < 3) : ∃ w : WD, w.Ok ∧ G__law_world [.scr ns, .int k] = some w.d := by
  obtain ⟨c1, ec1⟩ := L_cell ns (2 * (k : Int)) (by omega) (by omega) hns
  obtain ⟨row, er, hd⟩ := L_digits c1 szW (by intro x hx; simp [szW] at hx; omega) (by decide)
  have hlen : row.length = 14 := hd.1
  have r : ∀ i : Int, 0 ≤ i → i < 14 → ixD (lstI row) (.int i) = some (.int (gt row i)) := fun i a b => ixD_lstI a (by omega)
  have q0 := hd.gt (i := 0) (by omega) (by decide); rw [show gt szW 0 = 12 from rfl] at q0
  have q1 := hd.gt (i := 1) (by omega) (by decide); rw [show gt szW 1 = 32 from rfl] at q1
  have q2 := hd.gt (i := 2) (by omega) (by decide); rw [show gt szW 2 = 6 from rfl] at q2
  have q3 := hd.gt (i := 3) (by omega) (by decide); rw [show gt szW 3 = 6 from rfl] at q3
  obtain ⟨n, en, hn⟩ : ∃ n : Nat, ixD (.lst ([2, 2, 1, 2, 3, 2, 2, 1, 2, 3, 2, 2].map D.int)) (.int (gt row 0)) = some (.int n) ∧ (n = 1 ∨ n = 2 ∨ n = 3) := by
    have := pick_in (v := [2, 2, 1, 2, 3, 2, 2, 1, 2, 3, 2, 2]) (i := gt row 0) (fun x => x = 1 ∨ x = 2 ∨ x = 3) (by decide) q0.1 (by simp; omega)
    refine ⟨(gt [2, 2, 1, 2, 3, 2, 2, 1, 2, 3, 2, 2] (gt row 0)).toNat, (ixD_lstI (v := [2, 2, 1, 2, 3, 2, 2, 1, 2, 3, 2, 2]) q0.1 (by simp; omega)).trans ?_, by omega⟩
    congr 2; omega
  obtain ⟨many, em, m1, m9⟩ := L_many (n := n) q1.1 q1.2
  obtain ⟨sp, es, sp0, sp1⟩ : ∃ sp : Int, ixD (.lst ([12, 12, 4, 60, 12, 12].map D.int)) (.int (gt row 2)) = some (.int sp) ∧ 0 ≤ sp ∧ sp ≤ 60 := by
    have := pick_in (v := [12, 12, 4, 60, 12, 12]) (i := gt row 2) (fun x => 0 ≤ x ∧ x ≤ 60) (by decide) q2.1 (by simp; omega)
    exact ⟨_, ixD_lstI (v := [12, 12, 4, 60, 12, 12]) q2.1 (by simp; omega), this.1, this.2⟩
  obtain ⟨li, el, l0⟩ : ∃ li : Int, ixD (.lst ([31, 4, 2, 31, 6, 1].map D.int)) (.int (gt row 3)) = some (.int li) ∧ 0 < li := by
    have := pick_in (v := [31, 4, 2, 31, 6, 1]) (i := gt row 3) (fun x => 0 < x) (by decide) q3.1 (by simp; omega)
    exact ⟨_, ixD_lstI (v := [31, 4, 2, 31, 6, 1]) q3.1 (by simp; omega), this⟩
  obtain ⟨c2, ec2⟩ := L_cell ns (2 * (k : Int) + 1) (by omega) (by omega) hns
  have hmn : many * n ≤ 27 := by
    have h3 : n ≤ 3 := by omega
    have := Nat.mul_le_mul m9 h3
    omega
  obtain ⟨row2, er2, hd2⟩ := L_digits c2 ([8] ++ List.replicate (many * n) 121) (szs_rep 8 121 _ (by omega) (by omega)) (by simp; omega)
  obtain ⟨hs, eh, hl, hz⟩ := L_homes hd2 hn m1 m9 sp0 sp1
  obtain ⟨ws, ew, wl, wn⟩ := L_weights (row := row.drop 5) (many := many) (limit := li) (by rw [List.length_drop]; omega) (by omega) l0
  have hne : hs ≠ [] := fun z => by rw [z] at hl; simp at hl; omega
  have T : ∀ h : D, ∃ β, bAnd (eT (eOp eqD (eVar 1) (eC (.int 2)))) (eT (eOp eqD (eOp ixD (eVar 2) (eC (.int 4))) (eC (.int 3)))) [.va (.scr ns), .va (.int (k : Int)), .va (lstI row), .va (.int (n : Int)), .va (.int (many : Int)), .va (.int sp), .va h, .no] = some β := fun h =>
    ⟨_, bAnd_of (eT_of (eOp_of (eVar_of rfl) eC_of eqD_int)) fun _ => eT_of (eOp_of (eOp_of (eVar_of rfl) eC_of (r 4 (by omega) (by omega))) eC_of eqD_int)⟩
  obtain ⟨β, hβ⟩ := T (tupV hs)
  have fin : ∀ (hs' : List (List Int)), hs'.length = many → vsz n 20 hs' → (sIf (bAnd (eT (eOp eqD (eVar 1) (eC (.int 2)))) (eT (eOp eqD (eOp ixD (eVar 2) (eC (.int 4))) (eC (.int 3))))) (sSet 6 (eCall tupG (aCons (eLc (iR1 (eVar 4)) [7] (gN 7) bYes (eOp ixD (eVar 6) (eC (.int 0)))) aNil))) sNil) [.va (.scr ns), .va (.int (k : Int)), .va (lstI row), .va (.int (n : Int)), .va (.int (many : Int)), .va (.int sp), .va (tupV hs), .no] = some (.nx [.va (.scr ns), .va (.int (k : Int)), .va (lstI row), .va (.int (n : Int)), .va (.int (many : Int)), .va (.int sp), .va (tupV hs'), .no]) →
      ∃ w : WD, w.Ok ∧ G__law_world [.scr ns, .int k] = some w.d := fun hs' hl' hz' e => by
    refine ⟨⟨n, hs', ws, sp⟩, ⟨hn, hz', fun z => ?_, by show ws.length = hs'.length; omega, by show hs'.length ≤ 9; omega, wn, sp0, sp1⟩, ?_⟩
    · have z' : hs' = [] := z
      rw [z'] at hl'; simp at hl'; omega
    · unfold G__law_world b__law_world N__law_world
      refine run_of (sSeq_set (d := lstI row) (eCall_of (aCons_of (eCall_of (aCons_of (eVar_of rfl) (aCons_of (eOp_of eC_of (eVar_of rfl) (mulD_of (wi (by omega) (by omega)) (wi (by omega) (by omega)))) aNil_of)) ec1) (aCons_of (eOp_of (eLst_of (ds := [12, 32, 6, 6, 4].map D.int) rfl (by decide)) (eOp_of (eLst_of (aCons_of eC_of aNil_of) (by decide)) eC_of (mulD_lst ⟨by omega, by omega, by decide⟩)) rfl) aNil_of)) er)
        (sSeq_set (d := .int (n : Int)) (eOp_of (eLst_of (ds := [2, 2, 1, 2, 3, 2, 2, 1, 2, 3, 2, 2].map D.int) rfl (by decide)) (eOp_of (eVar_of rfl) eC_of (r 0 (by omega) (by omega))) en)
        (sSeq_set (d := .int (many : Int)) (eCall_of (aCons_of (eOp_of (eVar_of rfl) eC_of (r 1 (by omega) (by omega))) (aCons_of (eVar_of rfl) aNil_of)) em)
        (sSeq_set (d := .int sp) (eOp_of (eLst_of (ds := [12, 12, 4, 60, 12, 12].map D.int) rfl (by decide)) (eOp_of (eVar_of rfl) eC_of (r 2 (by omega) (by omega))) es)
        (sSeq_set (d := tupV hs) (eCall_of (aCons_of (eCall_of (aCons_of (eCall_of (aCons_of (eVar_of rfl) (aCons_of (eOp_of (eOp_of eC_of (eVar_of rfl) (mulD_of (wi (by omega) (by omega)) (wi (by omega) (by omega)))) eC_of addD_int) aNil_of)) ec2) (aCons_of (d := lstI ([8] ++ List.replicate (many * n) 121)) (eOp_of (x := lstI [8]) (y := lstI (List.replicate (many * n) 121)) (eLst_of (aCons_of eC_of aNil_of) (by decide)) (eOp_of (eLst_of (aCons_of eC_of aNil_of) (by decide)) (eOp_of (eVar_of rfl) (eVar_of rfl) (mulD_of (wi (by omega) (by omega)) (wi (by omega) (by omega)))) ?_) (addD_lstI (by simp; unfold lim; omega))) aNil_of)) er2) (aCons_of (eVar_of rfl) (aCons_of (eVar_of rfl) (aCons_of (eVar_of rfl) aNil_of)))) eh)
        (sSeq_nx e (sRet_of (eTup_of (aCons_of (eVar_of rfl) (aCons_of (eCall_of (aCons_of (eSl_of (eVar_of rfl) (oI_of eC_of) rfl (sl_drop5 row (by omega))) (aCons_of (eVar_of rfl) (aCons_of (eOp_of (eLst_of (ds := [31, 4, 2, 31, 6, 1].map D.int) rfl (by decide)) (eOp_of (eVar_of rfl) eC_of (r 3 (by omega) (by omega))) el) aNil_of))) ew) (aCons_of (eVar_of rfl) aNil_of))) (show 3 ≤ lim by decide)))))))))
      have e2 : ((many : Int) * (n : Int)) = ((many * n : Nat) : Int) := by push_cast; rfl
      rw [e2]
      refine (mulD_lst (k := ((many * n : Nat) : Int)) ⟨by omega, by omega, by decide⟩).trans ?_
      rw [Int.toNat_natCast, rep_one]; rfl
  cases β with
  | false => exact fin hs hl hz (sIf_f hβ rfl)
  | true =>
    refine fin ((upto many).map fun _ => gv hs 0) (by unfold upto; rw [List.length_map, List.length_range]) (fun v hv => ?_) (sIf_t hβ (sSet_of (eCall_of (aCons_of (eLc_all (l := upto many) (g := fun _ : Nat => tupI (gv hs 0)) (iR1_of (eVar_of rfl) (by unfold lim; omega)) fun j hj => eOp_of (eVar_of rfl) eC_of (ixD_tupV (by omega) (by omega))) aNil_of) (tupG_mapV _ _))))
    obtain ⟨_, _, rfl⟩ := List.mem_map.mp hv
    exact hz _ (gv_mem (by omega) (by omega))
/-! ### the law -/
noncomputable def WD.b (w : WD) (place : List Int) : Int × List Int := ligV w.n w.ws (w.homes.map (offI place))
theorem WD.vs {w : WD} (h : w.Ok) {place : List Int} (hp : place.length = w.n + 1) (wp : bv 400 place) : vsz w.n 421 (w.homes.map (offI place)) ∧ w.homes.map (offI place) ≠ [] ∧ w.ws.length = (w.homes.map (offI place)).length := by
  have := h.hn
  refine ⟨fun v hv => ?_, fun z => h.ne (List.map_eq_nil_iff.mp z), by rw [List.length_map]; exact h.lw⟩
  obtain ⟨x, hm2, rfl⟩ := List.mem_map.mp hv
  obtain ⟨q1, q2⟩ := h.hh x hm2
  exact ⟨(len_off).trans q1, (offI_bv (by omega) wp q2).mono (by omega)⟩
theorem WD.light {w : WD} (h : w.Ok) {place : List Int} (hp : place.length = w.n + 1) (wp : bv 400 place) : G_lightest [tupV w.homes, tupI w.ws, tupI place] = some (prD (w.b place)) :=
  G_lightest_eq h.hn h.hh h.ne h.lw (by have := h.l9; omega) hp wp (by omega)
theorem WD.shown {w : WD} (h : w.Ok) {place : List Int} (hp : place.length = w.n + 1) (wp : bv 400 place) : G__law_is_shown [prD (w.b place), tupV w.homes, tupI w.ws, tupI place] = some (.bl true) := by
  obtain ⟨v1, v2, v3⟩ := w.vs h hp wp
  obtain ⟨a1, a2, a3, a4⟩ := lig_at h.hn v1 v2 v3 h.nn
  have := h.hn; have := h.l9
  exact L_shown (by omega) h.hh h.ne h.lw (by omega) hp wp (by omega) (by omega) a2 a3 a4 (by omega) a1
theorem WD.deep {w : WD} (h : w.Ok) {place : List Int} (hp : place.length = w.n + 1) (wp : bv 400 place) : G__law_is_deep [tupV w.homes, tupI w.ws, tupI place, .int (w.b place).1] = some (.bl true) := by
  obtain ⟨v1, v2, v3⟩ := w.vs h hp wp
  have := h.l9
  exact L_deep h.hn h.hh h.ne h.lw (by omega) hp wp (by omega) fun a ha => lig_le h.hn v1 v3 h.nn ha
def EL (s w : D) (acc : List D) (J : List Sl) : DL.Env := [.va s, .va w, .ol acc, J.getD 0 .no, J.getD 1 .no, J.getD 2 .no, J.getD 3 .no, J.getD 4 .no, J.getD 5 .no, J.getD 6 .no, J.getD 7 .no, J.getD 8 .no, J.getD 9 .no, J.getD 10 .no, J.getD 11 .no, J.getD 12 .no, J.getD 13 .no, J.getD 14 .no, J.getD 15 .no]
def Good (f : Nat → WD) (d : D) : Prop := ∃ (k : Nat) (place : List Int), k < 3 ∧ place.length = (f k).n + 1 ∧ bv 400 place ∧ d = .tup [prD ((f k).b place), .int (k : Int), tupI place]
theorem law_plain (ns : List Int) (hns : ns.length ≤ 63) : G_law [.scr ns] = some (.bl true) := by
  obtain ⟨w0, o0, e0⟩ := L_world ns hns 0 (by omega)
  obtain ⟨w1, o1, e1⟩ := L_world ns hns 1 (by omega)
  obtain ⟨w2, o2, e2⟩ := L_world ns hns 2 (by omega)
  let f : Nat → WD := fun k => if k = 0 then w0 else if k = 1 then w1 else w2
  have fo : ∀ k, k < 3 → (f k).Ok ∧ G__law_world [.scr ns, .int (k : Int)] = some (f k).d := fun k hk => by
    have : k = 0 ∨ k = 1 ∨ k = 2 := by omega
    rcases this with rfl | rfl | rfl
    · exact ⟨o0, e0⟩
    · exact ⟨o1, e1⟩
    · exact ⟨o2, e2⟩
  let WS : D := .lst ((upto 3).map fun (k : Nat) => (f k).d)
  have gw : ∀ k : Nat, k < 3 → ixD WS (.int (k : Int)) = some (f k).d := fun k hk => by
    have : k = 0 ∨ k = 1 ∨ k = 2 := by omega
    rcases this with rfl | rfl | rfl <;> rfl
  unfold G_law b_law N_law
  -- the first loop
  obtain ⟨ρ1, el1, acc, J, rfl, hacc, hal⟩ := forD_upto (fs := b_law_3) (gg := gN 3) (fun k : Nat => D.int (k : Int)) (fun i ρ => ∃ (acc : List D) (J : List Sl), ρ = EL (.scr ns) WS acc J ∧ (∀ d ∈ acc, Good f d) ∧ acc.length = 3 * i) 3 (EL (.scr ns) WS [] []) ⟨[], [], rfl, (fun d hd => by cases hd), rfl⟩ (by
    rintro k ρ hk ⟨acc, J, rfl, hacc, hal⟩
    obtain ⟨ok, ek⟩ := fo k hk
    have gk := gw k hk
    have fkn : Good f = Good f := rfl
    generalize hfk : f k = w at ok ek gk
    obtain ⟨ρ2, el2, acc2, J2, rfl, hacc2, hal2⟩ := forD_upto (fs := b_law_2) (gg := gN 7) (fun k : Nat => D.int (k : Int)) (fun j ρ => ∃ (acc : List D) (J : List Sl), ρ = EL (.scr ns) WS acc ([.va (.int (k : Int)), .va (tupV w.homes), .va (tupI w.ws), .va (.int w.span)] ++ J) ∧ (∀ d ∈ acc, Good f d) ∧ acc.length = 3 * k + j) 3
      (EL (.scr ns) WS acc ([.va (.int (k : Int)), .va (tupV w.homes), .va (tupI w.ws), .va (.int w.span)] ++ [J.getD 4 .no, J.getD 5 .no, J.getD 6 .no, J.getD 7 .no, J.getD 8 .no, J.getD 9 .no, J.getD 10 .no, J.getD 11 .no, J.getD 12 .no, J.getD 13 .no, J.getD 14 .no, J.getD 15 .no])) ⟨acc, _, rfl, hacc, by omega⟩ (by
      rintro j ρ hj ⟨acc, J, rfl, hacc, hal⟩
      obtain ⟨c, ec⟩ := L_cell ns (6 + 3 * (k : Int) + (j : Int)) (by omega) (by omega) hns
      obtain ⟨row, er, hd⟩ := L_digits c szL (by intro x hx; simp [szL] at hx; omega) (by decide)
      have hlen : row.length = 24 := hd.1
      obtain ⟨place, ep, hp, wp⟩ := L_spot (homes := w.homes) (span := w.span) hd ok.hn ok.hh ok.ne (by have := ok.l9; omega) ok.s0 ok.s1
      obtain ⟨v1, v2, v3⟩ := w.vs ok hp wp
      obtain ⟨a1, a2, a3, a4⟩ := lig_at ok.hn v1 v2 v3 ok.nn
      have hn3 := ok.hn
      have h9 := ok.l9
      have hpos := List.length_pos_iff.mpr ok.ne
      -- the drawn arrows
      obtain ⟨ρ3, el3, j12, j13, rfl⟩ := forD_upto (fs := b_law_1) (gg := gN 12) (fun k : Nat => D.int (k : Int)) (fun i ρ => ∃ (j12 j13 : Sl), ρ = EL (.scr ns) WS acc [.va (.int (k : Int)), .va (tupV w.homes), .va (tupI w.ws), .va (.int w.span), .va (.int (j : Int)), .va (lstI szL), .va (lstI row), .va (tupI place), .va (prD (w.b place)), j12, j13, J.getD 7 .no, J.getD 8 .no, J.getD 9 .no, J.getD 10 .no, J.getD 11 .no]) 2
        (EL (.scr ns) WS acc [.va (.int (k : Int)), .va (tupV w.homes), .va (tupI w.ws), .va (.int w.span), .va (.int (j : Int)), .va (lstI szL), .va (lstI row), .va (tupI place), .va (prD (w.b place)), J.getD 5 .no, J.getD 6 .no, J.getD 7 .no, J.getD 8 .no, J.getD 9 .no, J.getD 10 .no, J.getD 11 .no]) ⟨_, _, rfl⟩ (by
        rintro i ρ hi ⟨j12, j13, rfl⟩
        let av : List Int := (upto w.n).map fun (x : Nat) => gt row (18 + 3 * (i : Int) + (x : Int)) - 100
        have avl : av.length = w.n := by show ((upto w.n).map _).length = _; unfold upto; rw [List.length_map, List.length_range]
        have avb : bv 20 av := bv.map fun x hx => by
          have hx := mem_upto.mp hx
          have q := hd.gt (i := 18 + 3 * (i : Int) + (x : Int)) (by omega) (by show _ < ((24 : Nat) : Int); omega)
          have e : gt szL (18 + 3 * (i : Int) + (x : Int)) = 201 := by
            have : (18 + 3 * (i : Int) + (x : Int)) = 18 ∨ (18 + 3 * (i : Int) + (x : Int)) = 19 ∨ (18 + 3 * (i : Int) + (x : Int)) = 20 ∨ (18 + 3 * (i : Int) + (x : Int)) = 21 ∨ (18 + 3 * (i : Int) + (x : Int)) = 22 ∨ (18 + 3 * (i : Int) + (x : Int)) = 23 := by omega
            rcases this with h | h | h | h | h | h <;> rw [h] <;> rfl
          exact bwi (by omega) (by omega)
        have lo := lig_le ok.hn v1 v3 ok.nn (v := av) avl
        have TA : ∃ β, eT (eCall anyG (aCons (eLc (iA (eVar 13)) [16] (gN 16) bYes (eOp neD (eVar 16) (eC (.int 0)))) aNil)) (EL (.scr ns) WS acc [.va (.int (k : Int)), .va (tupV w.homes), .va (tupI w.ws), .va (.int w.span), .va (.int (j : Int)), .va (lstI szL), .va (lstI row), .va (tupI place), .va (prD (w.b place)), .va (.int (i : Int)), .va (tupI av), J.getD 7 .no, J.getD 8 .no, J.getD 9 .no, J.getD 10 .no, J.getD 11 .no]) = some β :=
          ⟨_, eT_of (eCall_of (aCons_of (eLc_all (g := fun x => D.bl (!decide (x = 0))) (iA_tupI (eVar_of rfl)) fun x hx => eOp_of (eVar_of rfl) eC_of neD_int) aNil_of) (anyG_map _ _))⟩
        obtain ⟨β, hβ⟩ := TA
        refine ⟨_, EL (.scr ns) WS acc [.va (.int (k : Int)), .va (tupV w.homes), .va (tupI w.ws), .va (.int w.span), .va (.int (j : Int)), .va (lstI szL), .va (lstI row), .va (tupI place), .va (prD (w.b place)), .va (.int (i : Int)), .va (tupI av), J.getD 7 .no, J.getD 8 .no, J.getD 9 .no, J.getD 10 .no, J.getD 11 .no], gN_of, sSeq_nx (sSet_of (d := tupI av) ?_) ?_, _, _, rfl⟩
        · refine eCall_of (aCons_of (eLc_all (l := upto w.n) (g := fun x : Nat => D.int (gt row (18 + 3 * (i : Int) + (x : Int)) - 100)) (iR1_of (n := w.n) (eCall_of (aCons_of (eOp_of (eVar_of rfl) eC_of (ixD_tupV (by omega) (by omega))) aNil_of) (by rw [lenG_tupI, gv_len ok.hh ok.ne])) (by unfold lim; omega)) fun x hx => ?_) aNil_of) (tupG_map _ _)
          have hx := mem_upto.mp hx
          exact eOp_of (eCall_of (aCons_of (eOp_of (eVar_of rfl) (eOp_of (eOp_of eC_of (eOp_of eC_of (eVar_of rfl) (mulD_of (wi (by omega) (by omega)) (wi (by omega) (by omega)))) addD_int) (eVar_of rfl) addD_int) (ixD_lstI (by omega) (by omega))) aNil_of) intG_int) eC_of subD_of
        · cases β with
          | false => exact sIf_f hβ rfl
          | true =>
            refine sIf_t hβ (sIf_f (eT_of ((eOp_of (eCall_of (aCons_of (eCall_of (aCons_of (eVar_of rfl) (aCons_of (eVar_of rfl) aNil_of)) (L_ways ok.hh (by omega) hp wp (by omega) (by omega))) (aCons_of (eVar_of rfl) (aCons_of (eVar_of rfl) aNil_of))) (L_weighed v1 avl (by omega) avb (by omega) (by omega) (by rw [List.length_map]; omega) v3)) (eOp_of (eVar_of rfl) eC_of (ixD_pr0 _)) ltD_of).trans ?_)) rfl)
            have : ¬ wtI w.ws (w.homes.map (offI place)) av < (w.b place).1 := by
              have : (w.b place).1 ≤ wtI w.ws (w.homes.map (offI place)) av := lo
              omega
            rw [decide_eq_false this])
      refine ⟨_, EL (.scr ns) WS (acc ++ [.tup [prD (w.b place), .int (k : Int), tupI place]]) [.va (.int (k : Int)), .va (tupV w.homes), .va (tupI w.ws), .va (.int w.span), .va (.int (j : Int)), .va (lstI szL), .va (lstI row), .va (tupI place), .va (prD (w.b place)), j12, j13, J.getD 7 .no, J.getD 8 .no, J.getD 9 .no, J.getD 10 .no, J.getD 11 .no], gN_of, ?_, _, [.va (.int (j : Int)), .va (lstI szL), .va (lstI row), .va (tupI place), .va (prD (w.b place)), j12, j13, J.getD 7 .no, J.getD 8 .no, J.getD 9 .no, J.getD 10 .no, J.getD 11 .no], rfl, ?_, by simp; omega⟩
      · refine sSeq_nx (sSet_of (d := lstI szL) ?_) (sSeq_nx (sSet_of (d := lstI row) ?_) (sSeq_nx (sSet_of (d := tupI place) (eCall_of (aCons_of (eVar_of rfl) (aCons_of (eVar_of rfl) (aCons_of (eVar_of rfl) aNil_of))) ep)) (sSeq_nx (sSet_of (d := prD (w.b place)) (eCall_of (aCons_of (eVar_of rfl) (aCons_of (eVar_of rfl) (aCons_of (eVar_of rfl) aNil_of))) (w.light ok hp wp))) (sSeq_nx (sIf_f ((bOr_of (b := false) (c := false) ((bNot_of (b := true) (eT_of (eCall_of (aCons_of (eVar_of rfl) (aCons_of (eVar_of rfl) (aCons_of (eVar_of rfl) (aCons_of (eVar_of rfl) aNil_of)))) (w.shown ok hp wp)))).trans rfl) fun _ => (bNot_of (b := true) (eT_of (eCall_of (aCons_of (eVar_of rfl) (aCons_of (eVar_of rfl) (aCons_of (eVar_of rfl) (aCons_of (eOp_of (eVar_of rfl) eC_of (ixD_pr0 _)) aNil_of)))) (w.deep ok hp wp)))).trans rfl).trans rfl) rfl) (sSeq_nx (sFor_of (iR1_of (n := 2) eC_of (by decide)) el3) (sApp_of rfl (eTup_of (aCons_of (eVar_of rfl) (aCons_of (eVar_of rfl) (aCons_of (eVar_of rfl) aNil_of))) (show 3 ≤ lim by decide)) (by unfold lim; omega)))))))
        · have M : ∀ (x : Int) (m : Int), 0 ≤ m → m < 10 → mulD (.lst [.int x]) (.int m) = some (lstI (List.replicate m.toNat x)) := fun x m a b => (mulD_lst (xs := [.int x]) ⟨by omega, by omega, show 1 ≤ 1000 by decide⟩).trans (by rw [rep_one]; rfl)
          exact eOp_of (x := lstI [10, 9, 9, 9, 12, 4, 4, 12, 125, 125, 125, 3, 3, 3, 10000000000000000000000000, 10000000000000000000000000, 10000000000000000000000000, 10000000000000000000000000]) (eOp_of (x := lstI [10, 9, 9, 9, 12, 4, 4, 12, 125, 125, 125, 3, 3, 3]) (eOp_of (x := lstI [10, 9, 9, 9, 12, 4, 4, 12, 125, 125, 125]) (eOp_of (x := lstI [10, 9, 9, 9, 12, 4, 4, 12]) (eLst_of (ds := [10, 9, 9, 9, 12, 4, 4, 12].map D.int) rfl (by decide)) (eOp_of (eLst_of (aCons_of eC_of aNil_of) (by decide)) eC_of (M 125 3 (by omega) (by omega))) rfl) (eOp_of (eLst_of (aCons_of eC_of aNil_of) (by decide)) eC_of (M 3 3 (by omega) (by omega))) rfl) (eOp_of (eLst_of (aCons_of (eOp_of eC_of eC_of (pow_of (r := 10000000000000000000000000) ⟨by decide, by decide, by decide⟩ (by rfl))) aNil_of) (by decide)) eC_of (M 10000000000000000000000000 4 (by omega) (by omega))) rfl) (eOp_of (eLst_of (aCons_of eC_of aNil_of) (by decide)) eC_of (M 201 6 (by omega) (by omega))) rfl
        · exact eCall_of (aCons_of (eCall_of (aCons_of (eVar_of rfl) (aCons_of (eOp_of (eOp_of eC_of (eOp_of eC_of (eVar_of rfl) (mulD_of (wi (by omega) (by omega)) (wi (by omega) (by omega)))) addD_int) (eVar_of rfl) addD_int) aNil_of)) ec) (aCons_of (eVar_of rfl) aNil_of)) er
      · intro d hd2
        rcases List.mem_append.mp hd2 with hd2 | hd2
        · exact hacc d hd2
        · rw [List.mem_singleton] at hd2; subst hd2
          exact ⟨k, place, hk, by rw [hfk]; exact hp, wp, by rw [hfk]⟩)
    refine ⟨_, _, gN_of, sSeq_nx (sAsg_of (eOp_of (eVar_of rfl) (eVar_of rfl) gk) rfl) (sFor_of (iR1_of (n := 3) eC_of (by decide)) el2), acc2, _, rfl, hacc2, by omega⟩)
  -- the second loop
  have sl : ∃ ρ', forD (gA 3 (gsCons (gN 11) (gsCons (gN 3) (gsCons (gN 10) gsNil)))) b_law_4 (acc.map id) (fzD 2 (EL (.scr ns) WS acc J)) = some (.nx ρ') ∧ ∃ J' : List Sl, ρ' = fzD 2 (EL (.scr ns) WS acc J') := by
    refine forD_pre (fs := b_law_4) id (fun _ ρ => ∃ J' : List Sl, ρ = fzD 2 (EL (.scr ns) WS acc J')) acc _ ⟨J, rfl⟩ ?_
    rintro pre d post ρ hpre ⟨J', rfl⟩
    obtain ⟨k, place, hk, hp, wp, rfl⟩ := hacc d (pre_lt hpre).2
    obtain ⟨ok, ek⟩ := fo k hk
    have gk := gw k hk
    generalize f k = w at *
    refine ⟨_, fzD 2 (EL (.scr ns) WS acc [.va (.int (k : Int)), .va (tupV w.homes), .va (tupI w.ws), J'.getD 3 .no, J'.getD 4 .no, J'.getD 5 .no, J'.getD 6 .no, .va (tupI place), .va (prD (w.b place)), J'.getD 9 .no, J'.getD 10 .no, .va (prD (w.b place)), J'.getD 12 .no, J'.getD 13 .no, J'.getD 14 .no, J'.getD 15 .no]), rfl, ?_, _, rfl⟩
    refine sSeq_nx (sSet_of (d := tupV w.homes) ?_) (sSeq_nx (sSet_of (d := tupI w.ws) ?_) (sSeq_nx (sSet_of (d := prD (w.b place)) (eCall_of (aCons_of (eVar_of rfl) (aCons_of (eVar_of rfl) (aCons_of (d := tupI place) ?_ aNil_of))) (w.light ok hp wp))) (sIf_f ((bOr_of (b := false) (c := false) ((bNot_of (b := true) (eT_of (eCall_of (aCons_of (eVar_of rfl) (aCons_of (eVar_of rfl) (aCons_of (eVar_of rfl) (aCons_of (eVar_of rfl) aNil_of)))) (w.shown ok hp wp)))).trans rfl) fun _ => eT_of (eOp_of (eVar_of rfl) (eVar_of rfl) (neD_prD _))).trans rfl) rfl)))
    · refine (eCall_of (aCons_of (eLc_all (l := w.homes) (g := fun v => tupI (v.map fun x => x)) (iA_tupV (eOp_of (eOp_of (eVar_of rfl) (eVar_of rfl) gk) eC_of rfl)) fun v hv => eCall_of (aCons_of (eLc_all (g := fun x => D.int x) (iA_tupI (eVar_of rfl)) fun x hx => eVar_of rfl) aNil_of) (tupG_map (fun x => x) v)) aNil_of) (tupG_mapV (fun v => v.map fun x => x) w.homes)).trans ?_
      simp
    · refine (eCall_of (aCons_of (eLc_all (l := w.ws) (g := fun x => D.int x) (iA_tupI (eOp_of (eOp_of (eVar_of rfl) (eVar_of rfl) gk) eC_of rfl)) fun x hx => eVar_of rfl) aNil_of) (tupG_map _ _)).trans ?_
      simp
    · refine (eCall_of (aCons_of (eLc_all (l := place) (g := fun x => D.int x) (iA_tupI (eVar_of rfl)) fun x hx => eVar_of rfl) aNil_of) (tupG_map _ _)).trans ?_
      simp
  obtain ⟨ρ4, el4, J4, rfl⟩ := sl
  rw [List.map_id] at el4
  refine run_of (sSeq_set (d := WS) (eLc_all (l := upto 3) (g := fun k : Nat => (f k).d) (iR1_of (n := 3) eC_of (by decide)) fun k hk => eCall_of (aCons_of (eVar_of rfl) (aCons_of (eVar_of rfl) aNil_of)) (fo k (mem_upto.mp hk)).2) (sSeq_own (s := .ol []) rfl (sSeq_nx (sFor_of (iR1_of (n := 3) eC_of (by decide)) el1) (sSeq_nx (sFz_of (sFor_of (iA_lst (eVar_of rfl)) el4)) (sRet_of eC_of)))))
end M

namespace Hd
open PySem PySem.Spec PyProof.Rows L2 DL W
def gOk (K : PySem.W.Frag) : Bool := decide (PySem.W.nsIn K mainGlobals "gcd" = some (some (.builtin "math.gcd")))
def fn0 : List He.DefD := [⟨("dot", none), "dot", "dot", defArgs st_dot, defBody st_dot, defScope st_dot, [], []⟩, ⟨("plain", none), "plain", "plain", defArgs st_plain, defBody st_plain, defScope st_plain, [], []⟩, ⟨("opposite", none), "opposite", "opposite", defArgs st_opposite, defBody st_opposite, defScope st_opposite, [], []⟩, ⟨("quarter", none), "quarter", "quarter", defArgs st_quarter, defBody st_quarter, defScope st_quarter, [], []⟩, ⟨("cross", none), "cross", "cross", defArgs st_cross, defBody st_cross, defScope st_cross, [], []⟩, ⟨("is_zero", none), "is_zero", "is_zero", defArgs st_is_zero, defBody st_is_zero, defScope st_is_zero, [], []⟩, ⟨("added", none), "added", "added", defArgs st_added, defBody st_added, defScope st_added, [], []⟩, ⟨("scaled", none), "scaled", "scaled", defArgs st_scaled, defBody st_scaled, defScope st_scaled, [], []⟩, ⟨("axis", none), "axis", "axis", defArgs st_axis, defBody st_axis, defScope st_axis, [], []⟩, ⟨("upright", none), "upright", "upright", defArgs st_upright, defBody st_upright, defScope st_upright, [], []⟩, ⟨("offset", none), "offset", "offset", defArgs st_offset, defBody st_offset, defScope st_offset, [], []⟩, ⟨("lines_of", none), "lines_of", "lines_of", defArgs st_lines_of, defBody st_lines_of, defScope st_lines_of, [], []⟩, ⟨("bound_of", none), "bound_of", "bound_of", defArgs st_bound_of, defBody st_bound_of, defScope st_bound_of, [], []⟩, ⟨("first_by", none), "first_by", "first_by", defArgs st_first_by, defBody st_first_by, defScope st_first_by, [], []⟩, ⟨("both_ways", none), "both_ways", "both_ways", defArgs st_both_ways, defBody st_both_ways, defScope st_both_ways, [], []⟩, ⟨("plane_arrows", none), "plane_arrows", "plane_arrows", defArgs st_plane_arrows, defBody st_plane_arrows, defScope st_plane_arrows, [], []⟩, ⟨("flat_arrows", none), "flat_arrows", "flat_arrows", defArgs st_flat_arrows, defBody st_flat_arrows, defScope st_flat_arrows, [], []⟩, ⟨("space_arrows", none), "space_arrows", "space_arrows", defArgs st_space_arrows, defBody st_space_arrows, defScope st_space_arrows, [], []⟩, ⟨("cutting_arrows", none), "cutting_arrows", "cutting_arrows", defArgs st_cutting_arrows, defBody st_cutting_arrows, defScope st_cutting_arrows, [], []⟩, ⟨("weight_of", none), "weight_of", "weight_of", defArgs st_weight_of, defBody st_weight_of, defScope st_weight_of, [], []⟩]
def fn1 : List He.DefD := [⟨("not_beyond", none), "not_beyond", "not_beyond", defArgs st_not_beyond, defBody st_not_beyond, defScope st_not_beyond, [], []⟩, ⟨("lightest", none), "lightest", "lightest", defArgs st_lightest, defBody st_lightest, defScope st_lightest, [], []⟩, ⟨("_law_whole", none), "_law_whole", "_law_whole", defArgs st__law_whole, defBody st__law_whole, defScope st__law_whole, [], []⟩, ⟨("_law_cell", none), "_law_cell", "_law_cell", defArgs st__law_cell, defBody st__law_cell, defScope st__law_cell, [], []⟩, ⟨("_law_digits", none), "_law_digits", "_law_digits", defArgs st__law_digits, defBody st__law_digits, defScope st__law_digits, [], []⟩, ⟨("_law_gcd", none), "_law_gcd", "_law_gcd", defArgs st__law_gcd, defBody st__law_gcd, defScope st__law_gcd, [], []⟩, ⟨("_law_reduced", none), "_law_reduced", "_law_reduced", defArgs st__law_reduced, defBody st__law_reduced, defScope st__law_reduced, [], []⟩, ⟨("_law_dot", none), "_law_dot", "_law_dot", defArgs st__law_dot, defBody st__law_dot, defScope st__law_dot, [], []⟩, ⟨("_law_homes", none), "_law_homes", "_law_homes", defArgs st__law_homes, defBody st__law_homes, defScope st__law_homes, [], []⟩, ⟨("_law_flip", none), "_law_flip", "_law_flip", defArgs st__law_flip, defBody st__law_flip, defScope st__law_flip, [], []⟩, ⟨("_law_is_arrow", none), "_law_is_arrow", "_law_is_arrow", defArgs st__law_is_arrow, defBody st__law_is_arrow, defScope st__law_is_arrow, [], []⟩, ⟨("_law_turned", none), "_law_turned", "_law_turned", defArgs st__law_turned, defBody st__law_turned, defScope st__law_turned, [], []⟩, ⟨("_law_ways", none), "_law_ways", "_law_ways", defArgs st__law_ways, defBody st__law_ways, defScope st__law_ways, [], []⟩, ⟨("_law_tied", none), "_law_tied", "_law_tied", defArgs st__law_tied, defBody st__law_tied, defScope st__law_tied, [], []⟩, ⟨("_law_arrows", none), "_law_arrows", "_law_arrows", defArgs st__law_arrows, defBody st__law_arrows, defScope st__law_arrows, [], []⟩, ⟨("_law_weighed", none), "_law_weighed", "_law_weighed", defArgs st__law_weighed, defBody st__law_weighed, defScope st__law_weighed, [], []⟩, ⟨("_law_is_shown", none), "_law_is_shown", "_law_is_shown", defArgs st__law_is_shown, defBody st__law_is_shown, defScope st__law_is_shown, [], []⟩, ⟨("_law_is_deep", none), "_law_is_deep", "_law_is_deep", defArgs st__law_is_deep, defBody st__law_is_deep, defScope st__law_is_deep, [], []⟩, ⟨("_law_spot", none), "_law_spot", "_law_spot", defArgs st__law_spot, defBody st__law_spot, defScope st__law_spot, [], []⟩, ⟨("_law_weights", none), "_law_weights", "_law_weights", defArgs st__law_weights, defBody st__law_weights, defScope st__law_weights, [], []⟩]
def fn2 : List He.DefD := [⟨("_law_many", none), "_law_many", "_law_many", defArgs st__law_many, defBody st__law_many, defScope st__law_many, [], []⟩, ⟨("_law_world", none), "_law_world", "_law_world", defArgs st__law_world, defBody st__law_world, defScope st__law_world, [], []⟩, ⟨("law", none), "law", "law", defArgs st_law, defBody st_law, defScope st_law, [], []⟩]
def fn : List He.DefD := fn0 ++ fn1 ++ fn2
def fa0 : List He.Fa := [.glo "dot", .glo "plain", .glo "opposite", .glo "quarter", .glo "cross", .glo "is_zero", .glo "added", .glo "scaled", .glo "axis", .glo "upright", .glo "offset", .glo "lines_of", .glo "bound_of", .glo "first_by", .glo "both_ways", .glo "plane_arrows", .glo "flat_arrows", .glo "space_arrows", .glo "cutting_arrows", .glo "weight_of"]
def fa1 : List He.Fa := [.glo "not_beyond", .glo "lightest", .glo "_law_whole", .glo "_law_cell", .glo "_law_digits", .glo "_law_gcd", .glo "_law_reduced", .glo "_law_dot", .glo "_law_homes", .glo "_law_flip", .glo "_law_is_arrow", .glo "_law_turned", .glo "_law_ways", .glo "_law_tied", .glo "_law_arrows", .glo "_law_weighed", .glo "_law_is_shown", .glo "_law_is_deep", .glo "_law_spot", .glo "_law_weights"]
def fa2 : List He.Fa := [.glo "_law_many", .glo "_law_world", .glo "law", .free "len", .free "sum", .free "any", .free "all", .free "max", .free "min", .free "abs", .free "sorted", .free "int", .free "bool", .free "tuple", .free "list", .free "range", .free "zip", .free "isinstance"]
def fa : List He.Fa := fa0 ++ fa1 ++ fa2
theorem fact {fa : List He.Fa} {fn : List He.DefD} {K : PySem.W.Frag} (c : He.SaysD fa fn K) (f : He.Fa) (i : Nat) (h : fa[i]? = some f) : f.ok K = true := c.fact i h
theorem std {K : PySem.W.Frag} {mg : Str → Option Value} {h : Heap} (X : K.In h) (G : h.Ns mainGlobals mg) (c : He.SaysD fa fn K) {d : He.DefD} {x : Str} {st : Stmt} {ps : List Str} (i : Nat) (hd : fn[i]? = some d) (hf : fa[i]? = some (.glo x)) (ed : d = ⟨(x, none), x, x, defArgs st, defBody st, defScope st, [], []⟩)
    (hb : ∀ (kV doc pm : Value) (an : Option Addr) (cdv ct : Value) (us : List Value), us.length = ps.length → bindArgs (PySem.W.fnOf x x (defArgs st) (defBody st) (defScope st) .none kV doc pm an cdv ct) ⟨us, []⟩ = pure (ps.zip us)) : Std K mg x st ps := by
  subst ed
  obtain ⟨fd, F⟩ := c.def_ i hd
  exact ⟨_, fd, F, He.glo_ok X G (c.fact i hf), F.bindsN hb⟩
theorem of_in {K : PySem.W.Frag} {h : Heap} (_ : K.In h) (e : He.obsD fa fn K = He.valD fn) : He.SaysD fa fn K := e
theorem of_g {K : PySem.W.Frag} {h : Heap} (_ : K.In h) (e : gOk K = true) : gOk K = true := e
theorem bl {K : PySem.W.Frag} {mg : Str → Option Value} {h : Heap} (X : K.In h) (G : h.Ns mainGlobals mg) (c : He.SaysD fa fn K) : Bl mg where
  len := He.free_ok X G (c.fact 43 (f := .free "len") (by kernel_rfl))
  sum := He.free_ok X G (c.fact 44 (f := .free "sum") (by kernel_rfl))
  any := He.free_ok X G (c.fact 45 (f := .free "any") (by kernel_rfl))
  all := He.free_ok X G (c.fact 46 (f := .free "all") (by kernel_rfl))
  max := He.free_ok X G (c.fact 47 (f := .free "max") (by kernel_rfl))
  min := He.free_ok X G (c.fact 48 (f := .free "min") (by kernel_rfl))
  abs := He.free_ok X G (c.fact 49 (f := .free "abs") (by kernel_rfl))
  sorted := He.free_ok X G (c.fact 50 (f := .free "sorted") (by kernel_rfl))
  int := He.free_ok X G (c.fact 51 (f := .free "int") (by kernel_rfl))
  bool := He.free_ok X G (c.fact 52 (f := .free "bool") (by kernel_rfl))
  tuple := He.free_ok X G (c.fact 53 (f := .free "tuple") (by kernel_rfl))
  list := He.free_ok X G (c.fact 54 (f := .free "list") (by kernel_rfl))
  range := He.free_ok X G (c.fact 55 (f := .free "range") (by kernel_rfl))
  zip := He.free_ok X G (c.fact 56 (f := .free "zip") (by kernel_rfl))
  isinstance := He.free_ok X G (c.fact 57 (f := .free "isinstance") (by kernel_rfl))
theorem okAll {P : Program} {w : World} {K : PySem.W.Frag} {h : Heap} {mg : Str → Option Value} {base : Heap} (X : K.In h) (G : h.Ns mainGlobals mg) (c : He.SaysD fa fn K) (cg : gOk K = true) {f : Addr} {fd : FuncData} (Fn : FunD K "law" "law" (defArgs st_law) (defBody st_law) (defScope st_law) [] [] f fd) : FnOk P w K mg base CX0 8 f fd ["script"] (DL.spD K (fun _ => 0) G_law) := by
  have B := bl X G c
  have Bgcd : mg "gcd" = some (.builtin "math.gcd") := PySem.W.mg_of X G (of_decide_eq_true cg)
  have O_dot := ok_dot (P := P) (w := w) (base := base) (cm := fun _ => 0) B (std X G c 0 (st := st_dot) (ps := ["one", "two"]) (by kernel_rfl) (by kernel_rfl) rfl (fun _ _ _ _ _ _ us hl => match us, hl with | [_, _], _ => rfl))
  have O_plain := ok_plain (P := P) (w := w) (base := base) (cm := fun _ => 0) B Bgcd (std X G c 1 (st := st_plain) (ps := ["arrow"]) (by kernel_rfl) (by kernel_rfl) rfl (fun _ _ _ _ _ _ us hl => match us, hl with | [_], _ => rfl))
  have O_opposite := ok_opposite (P := P) (w := w) (base := base) (cm := fun _ => 0) B (std X G c 2 (st := st_opposite) (ps := ["arrow"]) (by kernel_rfl) (by kernel_rfl) rfl (fun _ _ _ _ _ _ us hl => match us, hl with | [_], _ => rfl))
  have O_quarter := ok_quarter (P := P) (w := w) (base := base) (cm := fun _ => 0) B (std X G c 3 (st := st_quarter) (ps := ["arrow"]) (by kernel_rfl) (by kernel_rfl) rfl (fun _ _ _ _ _ _ us hl => match us, hl with | [_], _ => rfl))
  have O_cross := ok_cross (P := P) (w := w) (base := base) (cm := fun _ => 0) B (std X G c 4 (st := st_cross) (ps := ["one", "two"]) (by kernel_rfl) (by kernel_rfl) rfl (fun _ _ _ _ _ _ us hl => match us, hl with | [_, _], _ => rfl))
  have O_is_zero := ok_is_zero (P := P) (w := w) (base := base) (cm := fun _ => 0) B (std X G c 5 (st := st_is_zero) (ps := ["arrow"]) (by kernel_rfl) (by kernel_rfl) rfl (fun _ _ _ _ _ _ us hl => match us, hl with | [_], _ => rfl))
  have O_added := ok_added (P := P) (w := w) (base := base) (cm := fun _ => 0) B (std X G c 6 (st := st_added) (ps := ["one", "two"]) (by kernel_rfl) (by kernel_rfl) rfl (fun _ _ _ _ _ _ us hl => match us, hl with | [_, _], _ => rfl))
  have O_scaled := ok_scaled (P := P) (w := w) (base := base) (cm := fun _ => 0) B (std X G c 7 (st := st_scaled) (ps := ["arrow", "factor"]) (by kernel_rfl) (by kernel_rfl) rfl (fun _ _ _ _ _ _ us hl => match us, hl with | [_, _], _ => rfl))
  have O_axis := ok_axis (P := P) (w := w) (base := base) (cm := fun _ => 0) B (std X G c 8 (st := st_axis) (ps := ["dimension", "index"]) (by kernel_rfl) (by kernel_rfl) rfl (fun _ _ _ _ _ _ us hl => match us, hl with | [_, _], _ => rfl))
  have O_upright := ok_upright (P := P) (w := w) (base := base) (cm := fun _ => 0) B (std X G c 9 (st := st_upright) (ps := ["arrow"]) (by kernel_rfl) (by kernel_rfl) rfl (fun _ _ _ _ _ _ us hl => match us, hl with | [_], _ => rfl)) O_plain O_opposite
  have O_offset := ok_offset (P := P) (w := w) (base := base) (cm := fun _ => 0) B (std X G c 10 (st := st_offset) (ps := ["place", "home"]) (by kernel_rfl) (by kernel_rfl) rfl (fun _ _ _ _ _ _ us hl => match us, hl with | [_, _], _ => rfl))
  have O_lines_of := ok_lines_of (P := P) (w := w) (base := base) (cm := fun _ => 0) B (std X G c 11 (st := st_lines_of) (ps := ["vectors"]) (by kernel_rfl) (by kernel_rfl) rfl (fun _ _ _ _ _ _ us hl => match us, hl with | [_], _ => rfl)) O_is_zero O_upright
  have O_bound_of := ok_bound_of (P := P) (w := w) (base := base) (cm := fun _ => 0) B (std X G c 12 (st := st_bound_of) (ps := ["arrow", "vectors"]) (by kernel_rfl) (by kernel_rfl) rfl (fun _ _ _ _ _ _ us hl => match us, hl with | [_, _], _ => rfl)) O_dot
  have O_first_by := ok_first_by (P := P) (w := w) (base := base) (cm := fun _ => 0) B (std X G c 13 (st := st_first_by) (ps := ["base", "tie", "vectors"]) (by kernel_rfl) (by kernel_rfl) rfl (fun _ _ _ _ _ _ us hl => match us, hl with | [_, _, _], _ => rfl)) O_bound_of O_scaled O_added
  have O_both_ways := ok_both_ways (P := P) (w := w) (base := base) (cm := fun _ => 0) B (std X G c 14 (st := st_both_ways) (ps := ["arrow"]) (by kernel_rfl) (by kernel_rfl) rfl (fun _ _ _ _ _ _ us hl => match us, hl with | [_], _ => rfl)) O_opposite
  have O_plane_arrows := ok_plane_arrows (P := P) (w := w) (base := base) (cm := fun _ => 0) B (std X G c 15 (st := st_plane_arrows) (ps := ["vectors"]) (by kernel_rfl) (by kernel_rfl) rfl (fun _ _ _ _ _ _ us hl => match us, hl with | [_], _ => rfl)) O_lines_of O_quarter O_both_ways O_first_by
  have O_flat_arrows := ok_flat_arrows (P := P) (w := w) (base := base) (cm := fun _ => 0) B (std X G c 16 (st := st_flat_arrows) (ps := ["normal", "vectors"]) (by kernel_rfl) (by kernel_rfl) rfl (fun _ _ _ _ _ _ us hl => match us, hl with | [_, _], _ => rfl)) O_dot O_lines_of O_cross O_both_ways O_first_by
  have O_space_arrows := ok_space_arrows (P := P) (w := w) (base := base) (cm := fun _ => 0) B (std X G c 17 (st := st_space_arrows) (ps := ["vectors"]) (by kernel_rfl) (by kernel_rfl) rfl (fun _ _ _ _ _ _ us hl => match us, hl with | [_], _ => rfl)) O_lines_of O_cross O_upright O_both_ways O_flat_arrows O_first_by
  have O_cutting_arrows := ok_cutting_arrows (P := P) (w := w) (base := base) (cm := fun _ => 0) B (std X G c 18 (st := st_cutting_arrows) (ps := ["vectors"]) (by kernel_rfl) (by kernel_rfl) rfl (fun _ _ _ _ _ _ us hl => match us, hl with | [_], _ => rfl)) O_plane_arrows O_space_arrows
  have O_weight_of := ok_weight_of (P := P) (w := w) (base := base) (cm := fun _ => 0) B (std X G c 19 (st := st_weight_of) (ps := ["lot", "weights"]) (by kernel_rfl) (by kernel_rfl) rfl (fun _ _ _ _ _ _ us hl => match us, hl with | [_, _], _ => rfl))
  have O_not_beyond := ok_not_beyond (P := P) (w := w) (base := base) (cm := fun _ => 0) B (std X G c 20 (st := st_not_beyond) (ps := ["arrow", "vectors"]) (by kernel_rfl) (by kernel_rfl) rfl (fun _ _ _ _ _ _ us hl => match us, hl with | [_, _], _ => rfl)) O_dot
  have O_lightest := ok_lightest (P := P) (w := w) (base := base) (cm := fun _ => 0) B (std X G c 21 (st := st_lightest) (ps := ["homes", "weights", "place"]) (by kernel_rfl) (by kernel_rfl) rfl (fun _ _ _ _ _ _ us hl => match us, hl with | [_, _, _], _ => rfl)) O_offset O_axis O_cutting_arrows O_not_beyond O_weight_of O_plain
  have O__law_whole := ok__law_whole (P := P) (w := w) (base := base) (cm := fun _ => 0) B (std X G c 22 (st := st__law_whole) (ps := ["value"]) (by kernel_rfl) (by kernel_rfl) rfl (fun _ _ _ _ _ _ us hl => match us, hl with | [_], _ => rfl))
  have O__law_cell := ok__law_cell (P := P) (w := w) (base := base) (cm := fun _ => 0) B (std X G c 23 (st := st__law_cell) (ps := ["script", "k"]) (by kernel_rfl) (by kernel_rfl) rfl (fun _ _ _ _ _ _ us hl => match us, hl with | [_, _], _ => rfl))
  have O__law_digits := ok__law_digits (P := P) (w := w) (base := base) (cm := fun _ => 0) B (std X G c 24 (st := st__law_digits) (ps := ["cell", "sizes"]) (by kernel_rfl) (by kernel_rfl) rfl (fun _ _ _ _ _ _ us hl => match us, hl with | [_, _], _ => rfl))
  have O__law_gcd := ok__law_gcd (P := P) (w := w) (base := base) (cm := fun _ => 0) B (std X G c 25 (st := st__law_gcd) (ps := ["one", "other"]) (by kernel_rfl) (by kernel_rfl) rfl (fun _ _ _ _ _ _ us hl => match us, hl with | [_, _], _ => rfl))
  have O__law_reduced := ok__law_reduced (P := P) (w := w) (base := base) (cm := fun _ => 0) B (std X G c 26 (st := st__law_reduced) (ps := ["numbers", "bottom"]) (by kernel_rfl) (by kernel_rfl) rfl (fun _ _ _ _ _ _ us hl => match us, hl with | [_, _], _ => rfl)) O__law_gcd
  have O__law_dot := ok__law_dot (P := P) (w := w) (base := base) (cm := fun _ => 0) B (std X G c 27 (st := st__law_dot) (ps := ["one", "other"]) (by kernel_rfl) (by kernel_rfl) rfl (fun _ _ _ _ _ _ us hl => match us, hl with | [_, _], _ => rfl))
  have O__law_homes := ok__law_homes (P := P) (w := w) (base := base) (cm := fun _ => 0) B (std X G c 28 (st := st__law_homes) (ps := ["row", "many", "size", "span"]) (by kernel_rfl) (by kernel_rfl) rfl (fun _ _ _ _ _ _ us hl => match us, hl with | [_, _, _, _], _ => rfl))
  have O__law_flip := ok__law_flip (P := P) (w := w) (base := base) (cm := fun _ => 0) B (std X G c 29 (st := st__law_flip) (ps := ["arrow"]) (by kernel_rfl) (by kernel_rfl) rfl (fun _ _ _ _ _ _ us hl => match us, hl with | [_], _ => rfl))
  have O__law_is_arrow := ok__law_is_arrow (P := P) (w := w) (base := base) (cm := fun _ => 0) B (std X G c 30 (st := st__law_is_arrow) (ps := ["arrow", "size"]) (by kernel_rfl) (by kernel_rfl) rfl (fun _ _ _ _ _ _ us hl => match us, hl with | [_, _], _ => rfl)) O__law_whole
  have O__law_turned := ok__law_turned (P := P) (w := w) (base := base) (cm := fun _ => 0) B (std X G c 31 (st := st__law_turned) (ps := ["one", "other"]) (by kernel_rfl) (by kernel_rfl) rfl (fun _ _ _ _ _ _ us hl => match us, hl with | [_, _], _ => rfl))
  have O__law_ways := ok__law_ways (P := P) (w := w) (base := base) (cm := fun _ => 0) B (std X G c 32 (st := st__law_ways) (ps := ["homes", "place"]) (by kernel_rfl) (by kernel_rfl) rfl (fun _ _ _ _ _ _ us hl => match us, hl with | [_, _], _ => rfl))
  have O__law_tied := ok__law_tied (P := P) (w := w) (base := base) (cm := fun _ => 0) B (std X G c 33 (st := st__law_tied) (ps := ["arrow", "ties", "ways"]) (by kernel_rfl) (by kernel_rfl) rfl (fun _ _ _ _ _ _ us hl => match us, hl with | [_, _, _], _ => rfl)) O__law_dot
  have O__law_arrows := ok__law_arrows (P := P) (w := w) (base := base) (cm := fun _ => 0) B (std X G c 34 (st := st__law_arrows) (ps := ["ways"]) (by kernel_rfl) (by kernel_rfl) rfl (fun _ _ _ _ _ _ us hl => match us, hl with | [_], _ => rfl)) O__law_flip O__law_tied O__law_turned
  have O__law_weighed := ok__law_weighed (P := P) (w := w) (base := base) (cm := fun _ => 0) B (std X G c 35 (st := st__law_weighed) (ps := ["ways", "weights", "arrow"]) (by kernel_rfl) (by kernel_rfl) rfl (fun _ _ _ _ _ _ us hl => match us, hl with | [_, _, _], _ => rfl)) O__law_dot
  have O__law_is_shown := ok__law_is_shown (P := P) (w := w) (base := base) (cm := fun _ => 0) B (std X G c 36 (st := st__law_is_shown) (ps := ["told", "homes", "weights", "place"]) (by kernel_rfl) (by kernel_rfl) rfl (fun _ _ _ _ _ _ us hl => match us, hl with | [_, _, _, _], _ => rfl)) O__law_whole O__law_is_arrow O__law_ways O__law_weighed
  have O__law_is_deep := ok__law_is_deep (P := P) (w := w) (base := base) (cm := fun _ => 0) B (std X G c 37 (st := st__law_is_deep) (ps := ["homes", "weights", "place", "depth"]) (by kernel_rfl) (by kernel_rfl) rfl (fun _ _ _ _ _ _ us hl => match us, hl with | [_, _, _, _], _ => rfl)) O__law_ways O__law_arrows O__law_weighed
  have O__law_spot := ok__law_spot (P := P) (w := w) (base := base) (cm := fun _ => 0) B (std X G c 38 (st := st__law_spot) (ps := ["row", "homes", "span"]) (by kernel_rfl) (by kernel_rfl) rfl (fun _ _ _ _ _ _ us hl => match us, hl with | [_, _, _], _ => rfl)) O__law_reduced
  have O__law_weights := ok__law_weights (P := P) (w := w) (base := base) (cm := fun _ => 0) B (std X G c 39 (st := st__law_weights) (ps := ["row", "many", "limit"]) (by kernel_rfl) (by kernel_rfl) rfl (fun _ _ _ _ _ _ us hl => match us, hl with | [_, _, _], _ => rfl))
  have O__law_many := ok__law_many (P := P) (w := w) (base := base) (cm := fun _ => 0) B (std X G c 40 (st := st__law_many) (ps := ["number", "size"]) (by kernel_rfl) (by kernel_rfl) rfl (fun _ _ _ _ _ _ us hl => match us, hl with | [_, _], _ => rfl))
  have O__law_world := ok__law_world (P := P) (w := w) (base := base) (cm := fun _ => 0) B (std X G c 41 (st := st__law_world) (ps := ["script", "k"]) (by kernel_rfl) (by kernel_rfl) rfl (fun _ _ _ _ _ _ us hl => match us, hl with | [_, _], _ => rfl)) O__law_cell O__law_digits O__law_many O__law_homes O__law_weights
  exact fn_law B Fn O__law_world O__law_cell O__law_digits O__law_spot O_lightest O__law_is_shown O__law_is_deep O__law_ways O__law_weighed
end Hd
open PySem PySem.W PyProof.Rows
theorem PySem.Challenge.cw_calmspot_k44_depth_holds : PySem.Challenge.rw_calmspot_k44_depth.Holds :=
  hd (by
  refine L2.walk_ofK (l := PySem.Challenge.rw_calmspot_k44_depth) (n := 63) (k := 8) (CX := L2.CX0) (x := "script") rfl (by decide) (by kernel_rfl) ⟨rfl, by decide, by decide⟩ (fun w h Y => PySem.W.kIn_of Y) (sp := fun K => DL.spD K (fun _ => 0) W.G_law) ?F ?S (fun _ _ _ _ z => z)
  case S =>
    intro K H a ns hl _ hS
    exact ⟨H, [.scr ns], .bl true, DL.Ex.refl H, .cons (.scr hS) .nil, M.law_plain ns hl, fun F' H' v g r => by cases r; rfl⟩
  case F =>
    intro w mg fa h KX G hmg0
    have c := Hd.of_in KX (by kernel_rfl)
    have cg := Hd.of_g KX (by kernel_rfl)
    have hmg : mg ("law" : PySem.Str) = some (.ref fa) := hmg0
    obtain ⟨fd, Fd⟩ := c.def_ 42 (d := ⟨("law", none), "law", "law", L2.defArgs W.st_law, L2.defBody W.st_law, L2.defScope W.st_law, [], []⟩) (by kernel_rfl)
    have ef := (He.glo_ok KX G (c.fact 42 (f := .glo "law") (by kernel_rfl))).symm.trans hmg
    injection ef with ef
    injection ef with ef
    rw [← ef]
    have b := L2.FunD.bindsA (ps := ["script"]) Fd fun _ _ _ _ _ _ us hl => match us, hl with | [_], _ => rfl
    exact ⟨fd, fun s v => b s [v] rfl, fun base _ _ => Hd.okAll KX G c cg Fd⟩)
