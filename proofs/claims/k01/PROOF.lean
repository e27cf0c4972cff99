import PyProof.Rows.All
import HandS.ForMost
import HandS.ForExc
import HandS.Deep
import HandS.IsInst
import HandS.TupLe
import HandS.Walk
import HandS.More
import KE.SortData
import Wide.All
import OpenK.AllK
import Wide.FinOn
import PySem.Challenge.RW_allheard_k01_names_known
set_option Elab.async false
set_option linter.all false
set_option autoImplicit false
namespace DL
open PySem L2

/-- data: frozen values, references to mutable cells (by label), things of the module by name -/
inductive D where
  | non | bl (b : Bool) | int (i : Int) | str (s : Str)
  | tup (ds : List D) | lst (ds : List D) | dct (kvs : List (Key × D))
  | lsk (ds : List D)
  | ins (c : Str) (fs : List (Str × D))
  | ref (l : Nat)
  | glb (x : Str)
  | typ (n : String)

inductive Cell where
  | lst (ds : List D) | dct (kvs : List (Key × D)) | ins (c : Str) (fs : List (Str × D)) | dead
abbrev Store := List Cell
/-- a slot: nothing, a value, a list that this slot alone holds -/
inductive Sl where
  | no | val (d : D) | ml (ds : List D)
abbrev En := List Sl

/-- a raised exception: class name, fields -/
structure Ex where
  c : Str
  fs : List (Str × D)

inductive R where
  | ok (d : D) (ρ : En) (st : Store)
  | exc (c : Ex) (ρ : En) (st : Store)
  | bad
inductive Fl where
  | nx (ρ : En) (st : Store)
  | rt (d : D) (ρ : En) (st : Store)
  | bk (ρ : En) (st : Store)
  | ct (ρ : En) (st : Store)
  | exc (c : Ex) (ρ : En) (st : Store)
  | bad
@[simp] def R.bind (r : R) (f : D → En → Store → R) : R := match r with
  | .ok d ρ st => f d ρ st
  | .exc c ρ st => .exc c ρ st
  | .bad => .bad
abbrev DEx := En → Store → R
abbrev DSx := En → Store → Fl

/-! ### representation -/
section
variable (K : PySem.W.Frag) (mg : Str → Option Value)
mutual
inductive Rep (G : Hp) (ι : List Addr) : V → D → Prop
  | non : Rep G ι .non .non
  | bl (b : Bool) : Rep G ι (.bl b) (.bl b)
  | int (i : Int) : Rep G ι (.int i) (.int i)
  | str (x : Str) : Rep G ι (.str x) (.str x)
  | lst {a : Addr} {vs : List V} {ds : List D} : G a = some (.lst vs) → vs.length ≤ sizeLine → Reps G ι vs ds → Rep G ι (.ref a) (.lst ds)
  | lsk {a : Addr} {vs : List V} {ds : List D} : SqL K G a vs → vs.length ≤ sizeLine → Reps G ι vs ds → Rep G ι (.ref a) (.lsk ds)
  | tup {a : Addr} {vs : List V} {ds : List D} : SqT K G a vs → vs.length ≤ sizeLine → Reps G ι vs ds → Rep G ι (.ref a) (.tup ds)
  | dct {a : Addr} {vs : List (Key × V)} {ds : List (Key × D)} : Rd G a (.dK vs) → RepK G ι vs ds → Rep G ι (.ref a) (.dct ds)
  | ins {a C dx : Addr} {c : Str} {vs : List (Str × V)} {ds : List (Str × D)} : mg c = some (.ref C) → G a = some (.ins C dx vs) → G dx = some (.own a) → RepF G ι vs ds → Rep G ι (.ref a) (.ins c ds)
  | ref {a : Addr} {l : Nat} : ι[l]? = some a → Rep G ι (.ref a) (.ref l)
  | glb {v : V} {x : Str} {u : Value} : mg x = some u → RelV v u → Rep G ι v (.glb x)
  | typ (n : String) : Rep G ι (.ty n) (.typ n)
inductive Reps (G : Hp) (ι : List Addr) : List V → List D → Prop
  | nil : Reps G ι [] []
  | cons {v : V} {d : D} {vs : List V} {ds : List D} : Rep G ι v d → Reps G ι vs ds → Reps G ι (v :: vs) (d :: ds)
inductive RepK (G : Hp) (ι : List Addr) : List (Key × V) → List (Key × D) → Prop
  | nil : RepK G ι [] []
  | cons {k : Key} {v : V} {d : D} {vs : List (Key × V)} {ds : List (Key × D)} : Rep G ι v d → RepK G ι vs ds → RepK G ι ((k, v) :: vs) ((k, d) :: ds)
inductive RepF (G : Hp) (ι : List Addr) : List (Str × V) → List (Str × D) → Prop
  | nil : RepF G ι [] []
  | cons {k : Str} {v : V} {d : D} {vs : List (Str × V)} {ds : List (Str × D)} : Rep G ι v d → RepF G ι vs ds → RepF G ι ((k, v) :: vs) ((k, d) :: ds)
end
end

theorem Rd.mono {G G' : Hp} {a : Addr} {u : HO} (e : Same G G') (h : Rd G a u) : Rd G' a u := by
  rcases h with h | ⟨o, h⟩
  · exact .inl (e _ _ h)
  · exact .inr ⟨o, e _ _ h⟩
theorem SqT.mono {K : PySem.W.Frag} {G G' : Hp} {a : Addr} {xs : List V} (e : Same G G') (h : SqT K G a xs) : SqT K G' a xs := by
  rcases h with h | h
  · exact .inl (Rd.mono e h)
  · exact .inr h
theorem SqL.mono {K : PySem.W.Frag} {G G' : Hp} {a : Addr} {xs : List V} (e : Same G G') (h : SqL K G a xs) : SqL K G' a xs := by
  rcases h with h | h
  · exact .inl (Rd.mono e h)
  · exact .inr h
/-- labels keep their addresses -/
def LeI (ι ι' : List Addr) : Prop := ∀ (l : Nat) (a : Addr), ι[l]? = some a → ι'[l]? = some a
theorem LeI.refl (ι : List Addr) : LeI ι ι := fun _ _ h => h
theorem LeI.trans {a b c : List Addr} (x : LeI a b) (y : LeI b c) : LeI a c := fun l q h => y l q (x l q h)

section
variable {K : PySem.W.Frag} {mg : Str → Option Value} {G G' : Hp} {ι ι' : List Addr}
mutual
theorem Rep.mono (e : Same G G') (i : LeI ι ι') : ∀ {v : V} {d : D}, Rep K mg G ι v d → Rep K mg G' ι' v d
  | _, _, .non => .non
  | _, _, .bl b => .bl b
  | _, _, .int i => .int i
  | _, _, .str x => .str x
  | _, _, .lst h l r => .lst (e _ _ h) l (Reps.mono e i r)
  | _, _, .lsk h l r => .lsk (SqL.mono e h) l (Reps.mono e i r)
  | _, _, .tup h l r => .tup (SqT.mono e h) l (Reps.mono e i r)
  | _, _, .dct h r => .dct (Rd.mono e h) (RepK.mono e i r)
  | _, _, .ins c h1 h2 r => .ins c (e _ _ h1) (e _ _ h2) (RepF.mono e i r)
  | _, _, .ref h => .ref (i _ _ h)
  | _, _, .glb h r => .glb h r
  | _, _, .typ n => .typ n
theorem Reps.mono (e : Same G G') (i : LeI ι ι') : ∀ {v : List V} {d : List D}, Reps K mg G ι v d → Reps K mg G' ι' v d
  | _, _, .nil => .nil
  | _, _, .cons h r => .cons (Rep.mono e i h) (Reps.mono e i r)
theorem RepK.mono (e : Same G G') (i : LeI ι ι') : ∀ {v : List (Key × V)} {d : List (Key × D)}, RepK K mg G ι v d → RepK K mg G' ι' v d
  | _, _, .nil => .nil
  | _, _, .cons h r => .cons (Rep.mono e i h) (RepK.mono e i r)
theorem RepF.mono (e : Same G G') (i : LeI ι ι') : ∀ {v : List (Str × V)} {d : List (Str × D)}, RepF K mg G ι v d → RepF K mg G' ι' v d
  | _, _, .nil => .nil
  | _, _, .cons h r => .cons (Rep.mono e i h) (RepF.mono e i r)
end
theorem Reps.len : ∀ {v : List V} {d : List D}, Reps K mg G ι v d → v.length = d.length
  | _, _, .nil => rfl
  | _, _, .cons _ r => by simp [Reps.len r]
theorem Reps.get : ∀ {vs : List V} {ds : List D} {i : Nat} {d : D}, Reps K mg G ι vs ds → ds[i]? = some d → ∃ v, vs[i]? = some v ∧ Rep K mg G ι v d
  | _, _, _, _, .nil, h => by simp at h
  | _, _, 0, _, .cons r _, h => by simp at h; subst h; exact ⟨_, rfl, r⟩
  | _, _, i + 1, d, .cons _ t, h => by
    obtain ⟨v, h1, h2⟩ := Reps.get (i := i) (d := d) t (by simpa using h)
    exact ⟨v, by simpa using h1, h2⟩
theorem Reps.getV : ∀ {vs : List V} {ds : List D} {i : Nat} {v : V}, Reps K mg G ι vs ds → vs[i]? = some v → ∃ d, ds[i]? = some d ∧ Rep K mg G ι v d
  | _, _, _, _, .nil, h => by simp at h
  | _, _, 0, _, .cons r _, h => by simp at h; subst h; exact ⟨_, rfl, r⟩
  | _, _, i + 1, d, .cons _ t, h => by
    obtain ⟨v, h1, h2⟩ := Reps.getV (i := i) (v := d) t (by simpa using h)
    exact ⟨v, by simpa using h1, h2⟩
theorem Reps.append : ∀ {vs ws : List V} {ds es : List D}, Reps K mg G ι vs ds → Reps K mg G ι ws es → Reps K mg G ι (vs ++ ws) (ds ++ es)
  | _, _, _, _, .nil, s => s
  | _, _, _, _, .cons r t, s => .cons r (Reps.append t s)
theorem Reps.take : ∀ {vs : List V} {ds : List D} (n : Nat), Reps K mg G ι vs ds → Reps K mg G ι (vs.take n) (ds.take n)
  | _, _, 0, _ => .nil
  | _, _, _ + 1, .nil => .nil
  | _, _, n + 1, .cons r t => .cons r (Reps.take n t)
theorem Reps.drop : ∀ {vs : List V} {ds : List D} (n : Nat), Reps K mg G ι vs ds → Reps K mg G ι (vs.drop n) (ds.drop n)
  | _, _, 0, r => r
  | _, _, _ + 1, .nil => .nil
  | _, _, n + 1, .cons _ t => Reps.drop n t
theorem Reps.set {v : V} {d : D} (r : Rep K mg G ι v d) : ∀ {vs : List V} {ds : List D} (n : Nat), Reps K mg G ι vs ds → Reps K mg G ι (vs.set n v) (ds.set n d)
  | _, _, _, .nil => .nil
  | _, _, 0, .cons _ t => .cons r t
  | _, _, n + 1, .cons q t => .cons q (Reps.set r n t)
theorem Reps.reverse : ∀ {vs : List V} {ds : List D}, Reps K mg G ι vs ds → Reps K mg G ι vs.reverse ds.reverse
  | _, _, .nil => .nil
  | _, _, .cons r t => by simpa using Reps.append (Reps.reverse t) (.cons r .nil)
theorem Reps.eraseIdx : ∀ {vs : List V} {ds : List D} (n : Nat), Reps K mg G ι vs ds → Reps K mg G ι (vs.eraseIdx n) (ds.eraseIdx n)
  | _, _, _, .nil => .nil
  | _, _, 0, .cons _ t => t
  | _, _, n + 1, .cons q t => .cons q (Reps.eraseIdx n t)
theorem Reps.mem : ∀ {vs : List V} {ds : List D} {v : V}, Reps K mg G ι vs ds → v ∈ vs → ∃ d ∈ ds, Rep K mg G ι v d
  | _, _, _, .nil, h => by simp at h
  | _, _, v, .cons r t, h => by
    rcases List.mem_cons.mp h with rfl | h
    · exact ⟨_, by simp, r⟩
    · obtain ⟨d, h1, h2⟩ := Reps.mem t h
      exact ⟨d, by simp [h1], h2⟩
end

/-! ### the state -/
structure Ws where
  ρ : En
  σ : L2.St
  G : Hp
  ι : List Addr
  H : Hp
  st : Store

def CellAt (K : PySem.W.Frag) (mg : Str → Option Value) (w : Ws) (a : Addr) : Cell → Prop
  | .dead => True
  | .lst ds => w.G a = none ∧ ∃ vs, w.H a = some (.lst vs) ∧ vs.length ≤ sizeLine ∧ Reps K mg w.G w.ι vs ds
  | .dct ds => w.G a = none ∧ ∃ vs, w.H a = some (.dK vs) ∧ RepK K mg w.G w.ι vs ds
  | .ins c ds => w.G a = none ∧ ∃ C dx vs, mg c = some (.ref C) ∧ w.H a = some (.ins C dx vs) ∧ w.H dx = some (.own a) ∧ w.G dx = some (.own a) ∧ RepF K mg w.G w.ι vs ds
/-- what slot i says of its value -/
def SlotAt (K : PySem.W.Frag) (mg : Str → Option Value) (w : Ws) (x : Option (Option V)) : Sl → Prop
  | .no => True
  | .val d => ∃ v, x = some (some v) ∧ Rep K mg w.G w.ι v d
  | .ml ds => ∃ a vs, x = some (some (.ref a)) ∧ w.G a = none ∧ w.H a = some (.lst vs) ∧ vs.length ≤ sizeLine ∧ Reps K mg w.G w.ι vs ds
/-- slot i holds the list at a alone -/
def OwnS (w : Ws) (i : Nat) (a : Addr) : Prop := ∃ ds, w.ρ[i]? = some (.ml ds) ∧ w.σ[i]? = some (some (V.ref a))
def Liv (w : Ws) (l : Nat) (a : Addr) : Prop := ∃ c, w.st[l]? = some c ∧ c ≠ .dead ∧ w.ι[l]? = some a
/-- the addresses that may be written -/
def Mt (w : Ws) (a : Addr) : Prop := (∃ l, Liv w l a) ∨ ∃ i, OwnS w i a

structure Sts (K : PySem.W.Frag) (mg : Str → Option Value) (w : Ws) : Prop where
  sub : Same w.G w.H
  ln : w.ρ.length = w.σ.length
  len : w.st.length = w.ι.length
  cel : ∀ (l : Nat) c a, w.st[l]? = some c → w.ι[l]? = some a → CellAt K mg w a c
  inj : ∀ l l' a, Liv w l a → Liv w l' a → l = l'
  slo : ∀ (i : Nat) s, w.ρ[i]? = some s → SlotAt K mg w w.σ[i]? s
  sep : ∀ i l a, OwnS w i a → Liv w l a → False
  dis : ∀ i j a, OwnS w i a → OwnS w j a → i = j

theorem Sts.mtG {K : PySem.W.Frag} {mg : Str → Option Value} {w : Ws} (s : Sts K mg w) {a : Addr} (h : Mt w a) : w.G a = none := by
  rcases h with ⟨l, c, h1, h2, h3⟩ | ⟨i, ds, h1, h2⟩
  · have := s.cel l c a h1 h3
    cases c with
    | dead => exact absurd rfl h2
    | lst ds => exact this.1
    | dct ds => exact this.1
    | ins c ds => exact this.1
  · obtain ⟨b, vs, e, g, _⟩ := s.slo i _ h1
    rw [h2] at e
    cases e
    exact g
theorem Sts.mtH {K : PySem.W.Frag} {mg : Str → Option Value} {w : Ws} (s : Sts K mg w) {a : Addr} (h : Mt w a) : ∃ o, w.H a = some o := by
  rcases h with ⟨l, c, h1, h2, h3⟩ | ⟨i, ds, h1, h2⟩
  · have := s.cel l c a h1 h3
    cases c with
    | dead => exact absurd rfl h2
    | lst ds => obtain ⟨_, vs, e, _⟩ := this; exact ⟨_, e⟩
    | dct ds => obtain ⟨_, vs, e, _⟩ := this; exact ⟨_, e⟩
    | ins c ds => obtain ⟨_, C, dx, vs, _, e, _⟩ := this; exact ⟨_, e⟩
  · obtain ⟨b, vs, e, g, e2, _⟩ := s.slo i _ h1
    rw [h2] at e
    cases e
    exact ⟨_, e2⟩

/-- from w on -/
structure Aft (K : PySem.W.Frag) (mg : Str → Option Value) (w w' : Ws) : Prop where
  s : Sts K mg w'
  g : Same w.G w'.G
  i : LeI w.ι w'.ι
  kp : ∀ a o, w.H a = some o → ¬ Mt w a → w'.H a = some o
  nw : ∀ a, Mt w' a → Mt w a ∨ w.H a = none
  gn : ∀ a, w'.G a ≠ none → w.G a ≠ none ∨ Mt w a ∨ w.H a = none
  al : ∀ a, w'.H a = none → w.H a = none

section
variable {K : PySem.W.Frag} {mg : Str → Option Value} {w w' w'' : Ws}
theorem Aft.refl (s : Sts K mg w) : Aft K mg w w := ⟨s, Same.refl _, LeI.refl _, fun _ _ h _ => h, fun _ h => .inl h, fun _ h => .inl h, fun _ h => h⟩
theorem Aft.trans (x : Aft K mg w w') (y : Aft K mg w' w'') : Aft K mg w w'' where
  s := y.s
  g := x.g.trans y.g
  i := x.i.trans y.i
  kp := fun a o h n => y.kp a o (x.kp a o h n) fun q => by
    rcases x.nw a q with q | q
    · exact n q
    · rw [h] at q; cases q
  nw := fun a h => by
    rcases y.nw a h with h | h
    · exact x.nw a h
    · by_cases n : Mt w a
      · exact .inl n
      · refine .inr ?_
        cases e : w.H a with
        | none => rfl
        | some o => rw [x.kp a o e n] at h; cases h
  gn := fun a h => by
    rcases y.gn a h with h | h | h
    · exact x.gn a h
    · rcases x.nw a h with h | h
      · exact .inr (.inl h)
      · exact .inr (.inr h)
    · by_cases n : Mt w a
      · exact .inr (.inl n)
      · refine .inr (.inr ?_)
        cases e : w.H a with
        | none => rfl
        | some o => rw [x.kp a o e n] at h; cases h
  al := fun a h => x.al a (y.al a h)
end

/-! ### what is wanted of an end -/
/-- the exception in hand -/
def ExcAt (K : PySem.W.Frag) (mg : Str → Option Value) (w : Ws) (c : Ex) (cls : Value) (dx : Option Addr) : Prop :=
  (mg c.c = some cls ∨ (mg c.c = none ∧ bootBuiltins c.c = some cls)) ∧
    match c.fs with
    | [] => dx = none
    | fs => ∃ d vs, dx = some d ∧ w.H d = some (.xd vs) ∧ RepF K mg w.G w.ι vs fs
def OkR (K : PySem.W.Frag) (mg : Str → Option Value) (W : WX) (w : Ws) (Q : VK) : R → Prop
  | .ok d ρ st => ∀ (w' : Ws) (v : V), w'.ρ = ρ → w'.st = st → w'.σ = w.σ → Aft K mg w w' → Rep K mg w'.G w'.ι v d → Q v w'.H
  | .exc c ρ st => ∀ (w' : Ws) (cls : Value) (dx : Option Addr), w'.ρ = ρ → w'.st = st → w'.σ = w.σ → Aft K mg w w' → ExcAt K mg w' c cls dx → W cls dx w'.σ w'.H
  | .bad => False
/-- a new list in hand, nobody's yet -/
def Loose (w : Ws) (a : Addr) : Prop := w.G a = none ∧ ¬ Mt w a
def OkO (K : PySem.W.Frag) (mg : Str → Option Value) (W : WX) (w : Ws) (Q : VK) : R → Prop
  | .ok (.lst ds) ρ st => ∀ (w' : Ws) (a : Addr) (vs : List V), w'.ρ = ρ → w'.st = st → w'.σ = w.σ → Aft K mg w w' → w.H a = none → Loose w' a → w'.H a = some (.lst vs) → vs.length ≤ sizeLine → Reps K mg w'.G w'.ι vs ds → Q (.ref a) w'.H
  | .ok _ _ _ => False
  | .exc c ρ st => ∀ (w' : Ws) (cls : Value) (dx : Option Addr), w'.ρ = ρ → w'.st = st → w'.σ = w.σ → Aft K mg w w' → ExcAt K mg w' c cls dx → W cls dx w'.σ w'.H
  | .bad => False
def OkF (K : PySem.W.Frag) (mg : Str → Option Value) (W : WX) (w : Ws) (E : Ends) : Fl → Prop
  | .nx ρ st => ∀ w' : Ws, w'.ρ = ρ → w'.st = st → Aft K mg w w' → E.nx w'.σ w'.H
  | .rt d ρ st => ∀ (w' : Ws) (v : V), w'.ρ = ρ → w'.st = st → Aft K mg w w' → Rep K mg w'.G w'.ι v d → E.rt v w'.H
  | .bk ρ st => ∀ w' : Ws, w'.ρ = ρ → w'.st = st → Aft K mg w w' → E.bk w'.σ w'.H
  | .ct ρ st => ∀ w' : Ws, w'.ρ = ρ → w'.st = st → Aft K mg w w' → E.ct w'.σ w'.H
  | .exc c ρ st => ∀ (w' : Ws) (cls : Value) (dx : Option Addr), w'.ρ = ρ → w'.st = st → Aft K mg w w' → ExcAt K mg w' c cls dx → W cls dx w'.σ w'.H
  | .bad => False
section
variable {K : PySem.W.Frag} {mg : Str → Option Value} {W : WX} {w w1 : Ws}
theorem OkR.aft {Q : VK} {r : R} (h : OkR K mg W w Q r) (a : Aft K mg w w1) (e : w1.σ = w.σ) : OkR K mg W w1 Q r := by
  cases r with
  | ok d ρ st => exact fun w' v h1 h2 h3 h4 h5 => h w' v h1 h2 (h3.trans e) (a.trans h4) h5
  | exc c ρ st => exact fun w' cls dx h1 h2 h3 h4 h5 => h w' cls dx h1 h2 (h3.trans e) (a.trans h4) h5
  | bad => exact h
theorem OkF.aft {E : Ends} {r : Fl} (h : OkF K mg W w E r) (a : Aft K mg w w1) : OkF K mg W w1 E r := by
  cases r with
  | nx ρ st => exact fun w' h1 h2 h4 => h w' h1 h2 (a.trans h4)
  | rt d ρ st => exact fun w' v h1 h2 h4 h5 => h w' v h1 h2 (a.trans h4) h5
  | bk ρ st => exact fun w' h1 h2 h4 => h w' h1 h2 (a.trans h4)
  | ct ρ st => exact fun w' h1 h2 h4 => h w' h1 h2 (a.trans h4)
  | exc c ρ st => exact fun w' cls dx h1 h2 h4 h5 => h w' cls dx h1 h2 (a.trans h4) h5
  | bad => exact h
end

/-! ### the judgements -/
def RefE (K : PySem.W.Frag) (mg : Str → Option Value) (W : WX) (t : TE) (f : DEx) : Prop :=
  ∀ (w : Ws) (Q : VK), Sts K mg w → OkR K mg W w Q (f w.ρ w.st) → t w.σ w.H Q
def RefO (K : PySem.W.Frag) (mg : Str → Option Value) (W : WX) (t : TE) (f : DEx) : Prop :=
  ∀ (w : Ws) (Q : VK), Sts K mg w → OkO K mg W w Q (f w.ρ w.st) → t w.σ w.H Q
def RefS (K : PySem.W.Frag) (mg : Str → Option Value) (W : WX) (t : TS) (f : DSx) : Prop :=
  ∀ (w : Ws) (E : Ends), Sts K mg w → OkF K mg W w E (f w.ρ w.st) → t E w.σ w.H
/-- the expression e denotes f -/
def DE (X : Cx) (W : WX) (e : Expr) (f : DEx) : Prop := ∃ t, PE X e t ∧ RefE X.K X.mg W t f
/-- .. a new list that nobody holds yet -/
def IsL (f : DEx) : Prop := ∀ ρ st d ρ' st', f ρ st = .ok d ρ' st' → ∃ ds, d = .lst ds
def DO (X : Cx) (W : WX) (e : Expr) (f : DEx) : Prop := (∃ t, PE X e t ∧ RefO X.K X.mg W t f) ∧ IsL f
def DS (X : Cx) (W : WX) (s : Stmt) (f : DSx) : Prop := ∃ t, PS X s t ∧ RefS X.K X.mg W t f
def DSs (X : Cx) (W : WX) (s : List Stmt) (f : DSx) : Prop := ∃ t, PSs X s t ∧ RefS X.K X.mg W t f
/-- a test: the answer is a D.bl -/
def OkT (K : PySem.W.Frag) (mg : Str → Option Value) (W : WX) (w : Ws) (Q : Bool → Hp → Prop) : R → Prop
  | .ok (.bl b) ρ st => ∀ (w' : Ws), w'.ρ = ρ → w'.st = st → w'.σ = w.σ → Aft K mg w w' → Q b w'.H
  | .ok _ _ _ => False
  | .exc c ρ st => ∀ (w' : Ws) (cls : Value) (dx : Option Addr), w'.ρ = ρ → w'.st = st → w'.σ = w.σ → Aft K mg w w' → ExcAt K mg w' c cls dx → W cls dx w'.σ w'.H
  | .bad => False
def RefT (K : PySem.W.Frag) (mg : Str → Option Value) (W : WX) (t : TT) (f : DEx) : Prop :=
  ∀ (w : Ws) (Q : Bool → Hp → Prop), Sts K mg w → OkT K mg W w Q (f w.ρ w.st) → t w.σ w.H Q
def DT (X : Cx) (W : WX) (e : Expr) (f : DEx) : Prop := ∃ t, PT X e t ∧ RefT X.K X.mg W t f
/-- argument lists: the values as a tuple -/
def OkA (K : PySem.W.Frag) (mg : Str → Option Value) (W : WX) (w : Ws) (Q : List V → Hp → Prop) : R → Prop
  | .ok (.tup ds) ρ st => ∀ (w' : Ws) (vs : List V), w'.ρ = ρ → w'.st = st → w'.σ = w.σ → Aft K mg w w' → Reps K mg w'.G w'.ι vs ds → Q vs w'.H
  | .ok _ _ _ => False
  | .exc c ρ st => ∀ (w' : Ws) (cls : Value) (dx : Option Addr), w'.ρ = ρ → w'.st = st → w'.σ = w.σ → Aft K mg w w' → ExcAt K mg w' c cls dx → W cls dx w'.σ w'.H
  | .bad => False
def RefA (K : PySem.W.Frag) (mg : Str → Option Value) (W : WX) (t : TA) (f : DEx) : Prop :=
  ∀ (w : Ws) (Q : List V → Hp → Prop), Sts K mg w → OkA K mg W w Q (f w.ρ w.st) → t w.σ w.H Q
def DA (X : Cx) (W : WX) (es : List Expr) (f : DEx) : Prop := ∃ t, PA X es t ∧ RefA X.K X.mg W t f
section
variable {K : PySem.W.Frag} {mg : Str → Option Value} {W : WX} {w w1 : Ws}
theorem OkT.aft {Q : Bool → Hp → Prop} {r : R} (h : OkT K mg W w Q r) (a : Aft K mg w w1) (e : w1.σ = w.σ) : OkT K mg W w1 Q r := by
  cases r with
  | ok d ρ st =>
    cases d with
    | bl b => exact fun w' h1 h2 h3 h4 => h w' h1 h2 (h3.trans e) (a.trans h4)
    | _ => exact h
  | exc c ρ st => exact fun w' cls dx h1 h2 h3 h4 h5 => h w' cls dx h1 h2 (h3.trans e) (a.trans h4) h5
  | bad => exact h
theorem OkA.aft {Q : List V → Hp → Prop} {r : R} (h : OkA K mg W w Q r) (a : Aft K mg w w1) (e : w1.σ = w.σ) : OkA K mg W w1 Q r := by
  cases r with
  | ok d ρ st =>
    cases d with
    | tup ds => exact fun w' v h1 h2 h3 h4 h5 => h w' v h1 h2 (h3.trans e) (a.trans h4) h5
    | _ => exact h
  | exc c ρ st => exact fun w' cls dx h1 h2 h3 h4 h5 => h w' cls dx h1 h2 (h3.trans e) (a.trans h4) h5
  | bad => exact h
end
end DL
namespace DL
open PySem L2
section
variable {K : PySem.W.Frag} {mg : Str → Option Value} {w : Ws}

theorem same_upd {H : Hp} {p : Addr} {o : HO} (h : H p = none) : Same H (upd H p o) := fun b u e => by
  rw [upd_ne (ne_of_none e h)]; exact e
theorem CellAt.keep {w w' : Ws} {a : Addr} {c : Cell} (h : CellAt K mg w a c) (g : Same w.G w'.G) (i : LeI w.ι w'.ι) (ha : c ≠ .dead → w'.G a = none ∧ ∀ o, w.H a = some o → w'.H a = some o)
    (hd : Same w'.G w'.H) : CellAt K mg w' a c := by
  cases c with
  | dead => trivial
  | lst ds => obtain ⟨_, vs, e, l, r⟩ := h; have := ha (by simp); exact ⟨this.1, vs, this.2 _ e, l, r.mono g i⟩
  | dct ds => obtain ⟨_, vs, e, r⟩ := h; have := ha (by simp); exact ⟨this.1, vs, this.2 _ e, r.mono g i⟩
  | ins c ds =>
    obtain ⟨_, C, dx, vs, m, e, o, o', r⟩ := h
    have := ha (by simp)
    exact ⟨this.1, C, dx, vs, m, this.2 _ e, hd _ _ (g _ _ o'), g _ _ o', r.mono g i⟩
theorem SlotAt.keep {w w' : Ws} {x : Option (Option V)} {s : Sl} (h : SlotAt K mg w x s) (g : Same w.G w'.G) (i : LeI w.ι w'.ι) (ha : ∀ a, (∃ ds, s = .ml ds) → x = some (some (.ref a)) → w'.G a = none ∧ ∀ o, w.H a = some o → w'.H a = some o) : SlotAt K mg w' x s := by
  cases s with
  | no => trivial
  | val d => obtain ⟨v, e, r⟩ := h; exact ⟨v, e, r.mono g i⟩
  | ml ds => obtain ⟨a, vs, e, _, e2, l, r⟩ := h; have := ha a ⟨ds, rfl⟩ e; exact ⟨a, vs, e, this.1, this.2 _ e2, l, r.mono g i⟩
theorem Liv.mt {l : Nat} {a : Addr} (h : Liv w l a) : Mt w a := .inl ⟨l, h⟩
theorem OwnS.mt {i : Nat} {a : Addr} (h : OwnS w i a) : Mt w a := .inr ⟨i, h⟩

/-- the heap changes, no slot and no cell does -/
theorem Sts.heap {G' H' : Hp} (s : Sts K mg w) (g : Same w.G G') (sub : Same G' H') (m : ∀ a, Mt w a → G' a = none ∧ ∀ o, w.H a = some o → H' a = some o) : Sts K mg { w with G := G', H := H' } where
  sub := sub
  ln := s.ln
  len := s.len
  cel := fun l c a h1 h2 => (s.cel l c a h1 h2).keep (w' := { w with G := G', H := H' }) g (LeI.refl _) (fun n => m a (.inl ⟨l, c, h1, n, h2⟩)) sub
  inj := s.inj
  slo := fun i x h => (s.slo i x h).keep (w' := { w with G := G', H := H' }) g (LeI.refl _) fun a ⟨ds, e⟩ h2 => m a (.inr ⟨i, ds, by rw [h, e], h2⟩)
  sep := s.sep
  dis := s.dis
/-- a new frozen object -/
theorem Sts.alloc (s : Sts K mg w) {p : Addr} {o : HO} (hp : w.H p = none) : Sts K mg { w with G := upd w.G p o, H := upd w.H p o } := by
  have gp : w.G p = none := s.sub.free hp
  refine s.heap (same_upd gp) (fun b u e => ?_) fun a m => ?_
  · by_cases h : b = p
    · subst h; rw [upd_same] at e ⊢; exact e
    · rw [upd_ne h] at e ⊢; exact s.sub _ _ e
  · obtain ⟨u, hu⟩ := s.mtH m
    have np : a ≠ p := ne_of_none hu hp
    rw [upd_ne np]
    exact ⟨s.mtG m, fun o e => by rw [upd_ne np]; exact e⟩
theorem Aft.alloc (s : Sts K mg w) {p : Addr} {o : HO} (hp : w.H p = none) : Aft K mg w { w with G := upd w.G p o, H := upd w.H p o } where
  s := s.alloc hp
  g := same_upd (s.sub.free hp)
  i := LeI.refl _
  kp := fun a u h _ => by show upd w.H p o a = some u; rw [upd_ne (ne_of_none h hp)]; exact h
  nw := fun a h => .inl h
  gn := fun a h => by
    by_cases e : a = p
    · subst e; exact .inr (.inr hp)
    · refine .inl ?_
      have h' : upd w.G p o a ≠ none := h
      rwa [upd_ne e] at h'
  al := fun a h => by
    by_cases e : a = p
    · rw [e]; exact hp
    · have h' : upd w.H p o a = none := h
      rwa [upd_ne e] at h'
/-- a new object that nobody holds -/
theorem Aft.loose (s : Sts K mg w) {p : Addr} {o : HO} (hp : w.H p = none) : Aft K mg w { w with H := upd w.H p o } where
  s := s.heap (G' := w.G) (H' := upd w.H p o) (Same.refl _) (fun b u e => by rw [upd_ne (ne_of_none (s.sub _ _ e) hp)]; exact s.sub _ _ e) fun a m => ⟨s.mtG m, fun u e => by rw [upd_ne (ne_of_none e hp)]; exact e⟩
  g := Same.refl _
  i := LeI.refl _
  kp := fun a u h _ => by show upd w.H p o a = some u; rw [upd_ne (ne_of_none h hp)]; exact h
  nw := fun a h => .inl h
  gn := fun a h => .inl h
  al := fun a h => by
    by_cases e : a = p
    · rw [e]; exact hp
    · have h' : upd w.H p o a = none := h
      rwa [upd_ne e] at h'
theorem Sts.looseAt (s : Sts K mg w) {p : Addr} {o : HO} (hp : w.H p = none) : Loose { w with H := upd w.H p o } p :=
  ⟨s.sub.free hp, fun m => by
    obtain ⟨u, hu⟩ := s.mtH (w := w) (a := p) m
    rw [hp] at hu; cases hu⟩
/-- a loose object is frozen -/
theorem Aft.freeze {w0 : Ws} (A : Aft K mg w0 w) {a : Addr} {o : HO} (hf : w0.H a = none) (hl : Loose w a) (ha : w.H a = some o) : Aft K mg w0 { w with G := upd w.G a o } where
  s := A.s.heap (G' := upd w.G a o) (H' := w.H) (same_upd hl.1) (fun b u e => by
      by_cases h : b = a
      · subst h; rw [upd_same] at e; rw [ha]; exact e
      · rw [upd_ne h] at e; exact A.s.sub _ _ e) fun b m => ⟨by rw [upd_ne (fun e : b = a => hl.2 (e ▸ m))]; exact A.s.mtG m, fun u e => e⟩
  g := A.g.trans (same_upd hl.1)
  i := A.i
  kp := A.kp
  nw := A.nw
  gn := fun b h => by
    by_cases e : b = a
    · subst e; exact .inr (.inr hf)
    · refine A.gn b ?_
      have h' : upd w.G a o b ≠ none := h
      rwa [upd_ne e] at h'
  al := A.al
theorem getElem?_set_ite {α : Type} {l : List α} {i j : Nat} {x y : α} (h : (l.set i x)[j]? = some y) : (j = i ∧ y = x ∧ i < l.length) ∨ (j ≠ i ∧ l[j]? = some y) := by
  by_cases e : i = j
  · subst e
    by_cases q : i < l.length
    · rw [List.getElem?_set_self q] at h; exact .inl ⟨rfl, (Option.some.inj h).symm, q⟩
    · rw [List.getElem?_eq_none (by simp; omega)] at h; cases h
  · rw [List.getElem?_set_ne e] at h; exact .inr ⟨fun q => e q.symm, h⟩
/-- a slot's own list after a change of slot i to no list -/
theorem OwnS.of_set {i j : Nat} {s : Sl} {x : Option V} {a : Addr} (hs : ∀ ds, s ≠ .ml ds) (h : OwnS { w with ρ := w.ρ.set i s, σ := w.σ.set i x } j a) : OwnS w j a := by
  obtain ⟨ds, h1, h2⟩ := h
  rcases getElem?_set_ite h1 with ⟨_, e, _⟩ | ⟨ne, e⟩
  · exact absurd e.symm (hs ds)
  · rcases getElem?_set_ite h2 with ⟨e', _⟩ | ⟨_, e2⟩
    · exact absurd e' ne
    · exact ⟨ds, e, e2⟩
/-- a slot is given a value -/
theorem Aft.setVal (s : Sts K mg w) {i : Nat} {v : V} {d : D} (r : Rep K mg w.G w.ι v d) : Aft K mg w { w with ρ := w.ρ.set i (.val d), σ := w.σ.set i (some v) } := by
  have ow : ∀ j a, OwnS { w with ρ := w.ρ.set i (.val d), σ := w.σ.set i (some v) } j a → OwnS w j a := fun j a h => h.of_set (fun ds e => by cases e)
  refine ⟨⟨s.sub, by simpa using s.ln, s.len, s.cel, s.inj, fun j x h => ?_, fun j l a h1 h2 => s.sep j l a (ow j a h1) h2, fun j k a h1 h2 => s.dis j k a (ow j a h1) (ow k a h2)⟩, Same.refl _, LeI.refl _, fun _ _ h _ => h, fun a h => .inl ?_, fun _ h => .inl h, fun _ h => h⟩
  · rcases getElem?_set_ite h with ⟨e, e2, hl⟩ | ⟨ne, e⟩
    · subst e; subst e2
      exact ⟨v, List.getElem?_set_self (by rw [← s.ln]; exact hl), r⟩
    · have := s.slo j x e
      show SlotAt K mg { w with ρ := w.ρ.set i (.val d), σ := w.σ.set i (some v) } (w.σ.set i (some v))[j]? x
      rw [List.getElem?_set_ne (Ne.symm ne)]
      exact this
  · rcases h with h | ⟨j, h⟩
    · exact .inl h
    · exact .inr ⟨j, ow j a h⟩
/-- a slot is forgotten; its place in σ may be anything -/
theorem Aft.setNo (s : Sts K mg w) {i : Nat} {x : Option V} : Aft K mg w { w with ρ := w.ρ.set i .no, σ := w.σ.set i x } := by
  have ow : ∀ j a, OwnS { w with ρ := w.ρ.set i .no, σ := w.σ.set i x } j a → OwnS w j a := fun j a h => h.of_set (fun ds e => by cases e)
  refine ⟨⟨s.sub, by simpa using s.ln, s.len, s.cel, s.inj, fun j x' h => ?_, fun j l a h1 h2 => s.sep j l a (ow j a h1) h2, fun j k a h1 h2 => s.dis j k a (ow j a h1) (ow k a h2)⟩, Same.refl _, LeI.refl _, fun _ _ h _ => h, fun a h => .inl ?_, fun _ h => .inl h, fun _ h => h⟩
  · rcases getElem?_set_ite h with ⟨e, e2, hl⟩ | ⟨ne, e⟩
    · subst e; subst e2; trivial
    · have := s.slo j x' e
      show SlotAt K mg { w with ρ := w.ρ.set i .no, σ := w.σ.set i x } (w.σ.set i x)[j]? x'
      rw [List.getElem?_set_ne (Ne.symm ne)]
      exact this
  · rcases h with h | ⟨j, h⟩
    · exact .inl h
    · exact .inr ⟨j, ow j a h⟩
/-- a loose list is given to slot i -/
theorem Aft.setMl {w0 : Ws} (A : Aft K mg w0 w) {i : Nat} {a : Addr} {vs : List V} {ds : List D} (hf : w0.H a = none) (hl : Loose w a) (ha : w.H a = some (.lst vs)) (hz : vs.length ≤ sizeLine) (r : Reps K mg w.G w.ι vs ds) :
    Aft K mg w0 { w with ρ := w.ρ.set i (.ml ds), σ := w.σ.set i (some (.ref a)) } := by
  have s := A.s
  have ow : ∀ j b, OwnS { w with ρ := w.ρ.set i (.ml ds), σ := w.σ.set i (some (.ref a)) } j b → (j = i ∧ b = a) ∨ (j ≠ i ∧ OwnS w j b) := fun j b h => by
    obtain ⟨es, h1, h2⟩ := h
    rcases getElem?_set_ite h1 with ⟨e, _, _⟩ | ⟨ne, e⟩
    · rcases getElem?_set_ite h2 with ⟨_, e2, _⟩ | ⟨ne, _⟩
      · cases e2; exact .inl ⟨e, rfl⟩
      · exact absurd e ne
    · rcases getElem?_set_ite h2 with ⟨e', _⟩ | ⟨_, e2⟩
      · exact absurd e' ne
      · exact .inr ⟨ne, es, e, e2⟩
  refine ⟨⟨s.sub, by simpa using s.ln, s.len, s.cel, s.inj, fun j x h => ?_, fun j l b h1 h2 => ?_, fun j k b h1 h2 => ?_⟩, A.g, A.i, A.kp, fun b h => ?_, A.gn, A.al⟩
  · rcases getElem?_set_ite h with ⟨e, e2, hl'⟩ | ⟨ne, e⟩
    · subst e; subst e2
      exact ⟨a, vs, List.getElem?_set_self (by rw [← s.ln]; exact hl'), hl.1, ha, hz, r⟩
    · have := s.slo j x e
      show SlotAt K mg { w with ρ := w.ρ.set i (.ml ds), σ := w.σ.set i (some (.ref a)) } (w.σ.set i (some (.ref a)))[j]? x
      rw [List.getElem?_set_ne (Ne.symm ne)]
      exact this
  · rcases ow j b h1 with ⟨_, e⟩ | ⟨_, h1⟩
    · subst e; exact hl.2 (.inl ⟨l, h2⟩)
    · exact s.sep j l b h1 h2
  · rcases ow j b h1 with ⟨e1, e⟩ | ⟨_, q1⟩ <;> rcases ow k b h2 with ⟨e2, e'⟩ | ⟨_, q2⟩
    · rw [e1, e2]
    · subst e; exact (hl.2 (.inr ⟨k, q2⟩)).elim
    · subst e'; exact (hl.2 (.inr ⟨j, q1⟩)).elim
    · exact s.dis j k b q1 q2
  · rcases h with h | ⟨j, h⟩
    · exact A.nw b (.inl h)
    · rcases ow j b h with ⟨_, e⟩ | ⟨_, h⟩
      · subst e; exact .inr hf
      · exact A.nw b (.inr ⟨j, h⟩)
/-- slot i's own list is changed -/
theorem Aft.mutMl (s : Sts K mg w) {i : Nat} {a : Addr} {ds0 ds : List D} {vs : List V} (h0 : w.ρ[i]? = some (.ml ds0)) (h1 : w.σ[i]? = some (some (.ref a))) (hz : vs.length ≤ sizeLine) (r : Reps K mg w.G w.ι vs ds) :
    Aft K mg w { w with ρ := w.ρ.set i (.ml ds), H := upd w.H a (.lst vs) } := by
  have own : OwnS w i a := ⟨ds0, h0, h1⟩
  have ga : w.G a = none := s.mtG own.mt
  have hi : i < w.ρ.length := by
    rcases List.getElem?_eq_some_iff.mp h0 with ⟨h, _⟩; exact h
  have ow : ∀ j b, OwnS { w with ρ := w.ρ.set i (.ml ds), H := upd w.H a (.lst vs) } j b → OwnS w j b := fun j b h => by
    obtain ⟨es, h1', h2⟩ := h
    rcases getElem?_set_ite h1' with ⟨e, _, _⟩ | ⟨ne, e⟩
    · exact ⟨ds0, by rw [e]; exact h0, h2⟩
    · exact ⟨es, e, h2⟩
  have lv : ∀ l b, Liv w l b → b ≠ a := fun l b h e => s.sep i l a own (e ▸ h)
  refine ⟨⟨fun b u e => ?_, by simpa using s.ln, s.len, fun l c b h1 h2 => ?_, s.inj, fun j x h => ?_, fun j l b h1 h2 => s.sep j l b (ow j b h1) h2, fun j k b h1 h2 => s.dis j k b (ow j b h1) (ow k b h2)⟩, Same.refl _, LeI.refl _, fun b u h n => ?_, fun b h => .inl ?_, fun _ h => .inl h, fun b h => ?_⟩
  · show upd w.H a (.lst vs) b = some u
    have e' : w.G b = some u := e
    rw [upd_ne (fun q => by rw [q, ga] at e'; cases e')]
    exact s.sub _ _ e'
  · exact (s.cel l c b h1 h2).keep (w' := { w with ρ := w.ρ.set i (.ml ds), H := upd w.H a (.lst vs) }) (Same.refl _) (LeI.refl _) (fun n => ⟨s.mtG (.inl ⟨l, c, h1, n, h2⟩), fun o e => by
      show upd w.H a (.lst vs) b = some o
      rw [upd_ne (lv l b ⟨c, h1, n, h2⟩)]; exact e⟩) (fun b u e => by
      show upd w.H a (.lst vs) b = some u
      have e' : w.G b = some u := e
      rw [upd_ne (fun q => by rw [q, ga] at e'; cases e')]
      exact s.sub _ _ e')
  · rcases getElem?_set_ite h with ⟨e, e2, hl'⟩ | ⟨ne, e⟩
    · subst e; subst e2
      exact ⟨a, vs, h1, ga, upd_same, hz, r⟩
    · refine (s.slo j x e).keep (w' := { w with ρ := w.ρ.set i (.ml ds), H := upd w.H a (.lst vs) }) (Same.refl _) (LeI.refl _) fun b ⟨es, e3⟩ h2 => ?_
      have o2 : OwnS w j b := ⟨es, by rw [e, e3], h2⟩
      refine ⟨s.mtG o2.mt, fun o e4 => ?_⟩
      show upd w.H a (.lst vs) b = some o
      rw [upd_ne (fun q : b = a => ne (s.dis j i b o2 (q ▸ own)))]
      exact e4
  · show upd w.H a (.lst vs) b = some u
    rw [upd_ne (fun q : b = a => n (q ▸ own.mt))]
    exact h
  · rcases h with h | ⟨j, h⟩
    · exact .inl h
    · exact .inr ⟨j, ow j b h⟩
  · have h' : upd w.H a (.lst vs) b = none := h
    by_cases e : b = a
    · rw [e, upd_same] at h'; cases h'
    · rwa [upd_ne e] at h'

/-! ### cells -/
theorem getElem?_append_one {α : Type} {l : List α} {x y : α} {i : Nat} (h : (l ++ [x])[i]? = some y) : l[i]? = some y ∨ (i = l.length ∧ y = x) := by
  by_cases q : i < l.length
  · rw [List.getElem?_append_left q] at h; exact .inl h
  · rw [List.getElem?_append_right (by omega)] at h
    by_cases e : i = l.length
    · subst e; simp at h; exact .inr ⟨rfl, h.symm⟩
    · rw [List.getElem?_eq_none (by simp; omega)] at h; cases h
theorem leI_append (ι : List Addr) (a : Addr) : LeI ι (ι ++ [a]) := fun l b h => by
  rw [List.getElem?_append_left (List.getElem?_eq_some_iff.mp h).1]; exact h
/-- a loose list becomes a cell -/
theorem Aft.newCell {w0 : Ws} (A : Aft K mg w0 w) {a : Addr} {vs : List V} {ds : List D} (hf : w0.H a = none) (hl : Loose w a) (ha : w.H a = some (.lst vs)) (hz : vs.length ≤ sizeLine) (r : Reps K mg w.G w.ι vs ds) :
    Aft K mg w0 { w with ι := w.ι ++ [a], st := w.st ++ [.lst ds] } := by
  have s := A.s
  have le := leI_append w.ι a
  have lv : ∀ l b, Liv { w with ι := w.ι ++ [a], st := w.st ++ [.lst ds] } l b → (l = w.st.length ∧ b = a) ∨ Liv w l b := fun l b h => by
    obtain ⟨c, h1, h2, h3⟩ := h
    rcases getElem?_append_one h1 with h1 | ⟨h1, _⟩
    · rcases getElem?_append_one h3 with h3 | ⟨h3, _⟩
      · exact .inr ⟨c, h1, h2, h3⟩
      · have := (List.getElem?_eq_some_iff.mp h1).1
        rw [s.len] at this; omega
    · rcases getElem?_append_one h3 with h3 | ⟨_, h3⟩
      · have := (List.getElem?_eq_some_iff.mp h3).1
        rw [← s.len] at this; omega
      · exact .inl ⟨h1, h3⟩
  refine ⟨⟨s.sub, s.ln, by simp [s.len], fun l c b h1 h2 => ?_, fun l l' b h1 h2 => ?_, fun i x h => ?_, fun i l b h1 h2 => ?_, s.dis⟩, A.g, A.i.trans le, A.kp, fun b h => ?_, A.gn, A.al⟩
  · rcases getElem?_append_one h1 with h1 | ⟨h1, e⟩
    · rcases getElem?_append_one h2 with h2 | ⟨h2, _⟩
      · exact (s.cel l c b h1 h2).keep (w' := { w with ι := w.ι ++ [a], st := w.st ++ [.lst ds] }) (Same.refl _) le (fun n => ⟨s.mtG (.inl ⟨l, c, h1, n, h2⟩), fun _ e => e⟩) s.sub
      · have := (List.getElem?_eq_some_iff.mp h1).1
        rw [s.len] at this; omega
    · rcases getElem?_append_one h2 with h2 | ⟨_, h2⟩
      · have := (List.getElem?_eq_some_iff.mp h2).1
        rw [← s.len] at this; omega
      · subst e; subst h2
        exact ⟨hl.1, vs, ha, hz, r.mono (Same.refl _) le⟩
  · rcases lv l b h1 with ⟨e1, e⟩ | q1 <;> rcases lv l' b h2 with ⟨e2, e'⟩ | q2
    · rw [e1, e2]
    · subst e; exact (hl.2 (.inl ⟨l', q2⟩)).elim
    · subst e'; exact (hl.2 (.inl ⟨l, q1⟩)).elim
    · exact s.inj l l' b q1 q2
  · exact (s.slo i x h).keep (w' := { w with ι := w.ι ++ [a], st := w.st ++ [.lst ds] }) (Same.refl _) le fun b ⟨es, e⟩ h2 => ⟨s.mtG (.inr ⟨i, es, by rw [h, e], h2⟩), fun _ e => e⟩
  · rcases lv l b h2 with ⟨_, e⟩ | q2
    · subst e; exact hl.2 (.inr ⟨i, h1⟩)
    · exact s.sep i l b h1 q2
  · rcases h with ⟨l, h⟩ | h
    · rcases lv l b h with ⟨_, e⟩ | q
      · subst e; exact .inr hf
      · exact A.nw b (.inl ⟨l, q⟩)
    · exact A.nw b (.inr h)
/-- a cell's object is changed -/
theorem Aft.mutCell (s : Sts K mg w) {l : Nat} {a : Addr} {c0 c : Cell} {o : HO} (h0 : w.st[l]? = some c0) (hd : c0 ≠ .dead) (h1 : w.ι[l]? = some a) (hc : c ≠ .dead)
    (r : CellAt K mg { w with H := upd w.H a o, st := w.st.set l c } a c) : Aft K mg w { w with H := upd w.H a o, st := w.st.set l c } := by
  have own : Liv w l a := ⟨c0, h0, hd, h1⟩
  have ga : w.G a = none := s.mtG own.mt
  have sub' : Same w.G (upd w.H a o) := fun b u e => by
    rw [upd_ne (fun q => by rw [q, ga] at e; cases e)]
    exact s.sub _ _ e
  have lv : ∀ k b, Liv { w with H := upd w.H a o, st := w.st.set l c } k b → Liv w k b := fun k b h => by
    obtain ⟨c', q1, q2, q3⟩ := h
    rcases getElem?_set_ite q1 with ⟨e, _, _⟩ | ⟨_, e⟩
    · subst e; exact ⟨c0, h0, hd, q3⟩
    · exact ⟨c', e, q2, q3⟩
  refine ⟨⟨sub', s.ln, by simpa using s.len, fun k c' b q1 q2 => ?_, fun k k' b q1 q2 => s.inj k k' b (lv k b q1) (lv k' b q2), fun i x h => ?_, fun i k b q1 q2 => s.sep i k b q1 (lv k b q2), s.dis⟩, Same.refl _, LeI.refl _, fun b u h n => ?_, fun b h => .inl ?_, fun _ h => .inl h, fun b h => ?_⟩
  · rcases getElem?_set_ite q1 with ⟨e, e2, _⟩ | ⟨ne, e⟩
    · subst e; subst e2
      have : b = a := Option.some.inj (q2.symm.trans h1)
      subst this; exact r
    · refine (s.cel k c' b e q2).keep (w' := { w with H := upd w.H a o, st := w.st.set l c }) (Same.refl _) (LeI.refl _) (fun n => ⟨s.mtG (.inl ⟨k, c', e, n, q2⟩), fun u e4 => ?_⟩) sub'
      show upd w.H a o b = some u
      rw [upd_ne (fun q : b = a => ne (s.inj k l b ⟨c', e, n, q2⟩ (q ▸ own)))]
      exact e4
  · refine (s.slo i x h).keep (w' := { w with H := upd w.H a o, st := w.st.set l c }) (Same.refl _) (LeI.refl _) fun b ⟨es, e3⟩ h2 => ?_
    have o2 : OwnS w i b := ⟨es, by rw [h, e3], h2⟩
    refine ⟨s.mtG o2.mt, fun u e4 => ?_⟩
    show upd w.H a o b = some u
    rw [upd_ne (fun q : b = a => s.sep i l b o2 (q ▸ own))]
    exact e4
  · show upd w.H a o b = some u
    rw [upd_ne (fun q : b = a => n (q ▸ own.mt))]
    exact h
  · rcases h with ⟨k, h⟩ | h
    · exact .inl ⟨k, lv k b h⟩
    · exact .inr h
  · have h' : upd w.H a o b = none := h
    by_cases e : b = a
    · rw [e, upd_same] at h'; cases h'
    · rwa [upd_ne e] at h'

/-! ### a call's view of the state -/
def Ws.strip (w : Ws) : Ws := { w with ρ := [], σ := [] }
theorem mt_strip {a : Addr} (h : Mt w.strip a) : ∃ l, Liv w l a := by
  rcases h with ⟨l, h⟩ | ⟨i, ds, h, _⟩
  · exact ⟨l, h⟩
  · simp [Ws.strip] at h
theorem Sts.strip (s : Sts K mg w) : Sts K mg w.strip where
  sub := s.sub
  ln := rfl
  len := s.len
  cel := s.cel
  inj := s.inj
  slo := fun i x h => by simp [Ws.strip] at h
  sep := fun i l a h _ => by obtain ⟨ds, h, _⟩ := h; simp [Ws.strip] at h
  dis := fun i j a h _ => by obtain ⟨ds, h, _⟩ := h; simp [Ws.strip] at h
/-- behind a call: the slots as they were -/
theorem Aft.back {w' : Ws} (s : Sts K mg w) (A : Aft K mg w.strip w') : Aft K mg w { w' with ρ := w.ρ, σ := w.σ } := by
  have nm : ∀ i a, OwnS w i a → ¬ Mt w.strip a := fun i a h m => by
    obtain ⟨l, hl⟩ := mt_strip m
    exact s.sep i l a h hl
  have nm' : ∀ i a, OwnS w i a → ¬ Mt w' a := fun i a h m => by
    rcases A.nw a m with m | m
    · exact nm i a h m
    · obtain ⟨o, ho⟩ := s.mtH h.mt
      have m' : w.H a = none := m
      rw [m'] at ho; cases ho
  have ng : ∀ i a, OwnS w i a → w'.G a = none := fun i a h => by
    cases e : w'.G a with
    | none => rfl
    | some u =>
      rcases A.gn a (by rw [e]; simp) with q | q | q
      · exact absurd (s.mtG h.mt) q
      · exact absurd q (nm i a h)
      · obtain ⟨o, ho⟩ := s.mtH h.mt
        have m' : w.H a = none := q
        rw [m'] at ho; cases ho
  refine ⟨⟨A.s.sub, s.ln, A.s.len, A.s.cel, A.s.inj, fun i x h => ?_, fun i l a h1 h2 => nm' i a h1 (.inl ⟨l, h2⟩), s.dis⟩, A.g, A.i, fun a o h n => A.kp a o h fun m => n ?_, fun a h => ?_, fun a h => ?_, A.al⟩
  · exact (s.slo i x h).keep (w' := { w' with ρ := w.ρ, σ := w.σ }) A.g A.i fun a ⟨ds, e⟩ h2 => by
      have o2 : OwnS w i a := ⟨ds, by rw [h, e], h2⟩
      exact ⟨ng i a o2, fun o ho => A.kp a o ho (nm i a o2)⟩
  · obtain ⟨l, hl⟩ := mt_strip m; exact .inl ⟨l, hl⟩
  · rcases h with ⟨l, h⟩ | h
    · rcases A.nw a (.inl ⟨l, h⟩) with q | q
      · obtain ⟨l, hl⟩ := mt_strip q; exact .inl (.inl ⟨l, hl⟩)
      · exact .inr q
    · exact .inl (.inr h)
  · rcases A.gn a h with q | q | q
    · exact .inl q
    · obtain ⟨l, hl⟩ := mt_strip q; exact .inr (.inl (.inl ⟨l, hl⟩))
    · exact .inr (.inr q)
/-- the end of a body: its slots are gone -/
theorem Aft.out {w' : Ws} (s : Sts K mg w.strip) {ρ : En} {σ : L2.St} (hρ : ∀ (i : Nat) ds, ρ[i]? ≠ some (Sl.ml ds)) (A : Aft K mg { w with ρ := ρ, σ := σ } w') : Aft K mg w.strip w'.strip := by
  have m0 : ∀ a, Mt { w with ρ := ρ, σ := σ } a → Mt w.strip a := fun a h => by
    rcases h with h | ⟨i, ds, h, _⟩
    · exact .inl h
    · exact absurd h (hρ i ds)
  refine ⟨A.s.strip, A.g, A.i, fun a o h n => A.kp a o h fun m => n (m0 a m), fun a h => ?_, fun a h => ?_, A.al⟩
  · obtain ⟨l, hl⟩ := mt_strip h
    rcases A.nw a (.inl ⟨l, hl⟩) with q | q
    · exact .inl (m0 a q)
    · exact .inr q
  · rcases A.gn a h with q | q | q
    · exact .inl q
    · exact .inr (.inl (m0 a q))
    · exact .inr (.inr q)
end
end DL
namespace DL
open PySem L2
section
variable {K : PySem.W.Frag} {mg : Str → Option Value} {W : WX} {G : Hp} {ι : List Addr}

/-! ### inversions -/
theorem Rep.int_inv {v : V} {i : Int} (h : Rep K mg G ι v (.int i)) : v = .int i := by cases h; rfl
theorem Rep.str_inv {v : V} {i : Str} (h : Rep K mg G ι v (.str i)) : v = .str i := by cases h; rfl
theorem Rep.bl_inv {v : V} {i : Bool} (h : Rep K mg G ι v (.bl i)) : v = .bl i := by cases h; rfl
theorem Rep.non_inv {v : V} (h : Rep K mg G ι v .non) : v = .non := by cases h; rfl

end

/-! ### views: the outermost object may be one that is written later -/
def RepV (K : PySem.W.Frag) (mg : Str → Option Value) (w : Ws) (v : V) (d : D) : Prop :=
  Rep K mg w.G w.ι v d ∨ (∃ a vs ds, v = .ref a ∧ d = .lst ds ∧ w.H a = some (.lst vs) ∧ vs.length ≤ sizeLine ∧ Reps K mg w.G w.ι vs ds) ∨
    ∃ a vs ds, v = .ref a ∧ d = .dct ds ∧ w.H a = some (.dK vs) ∧ RepK K mg w.G w.ι vs ds
def OkV (K : PySem.W.Frag) (mg : Str → Option Value) (W : WX) (w : Ws) (Q : VK) : R → Prop
  | .ok d ρ st => ∀ (w' : Ws) (v : V), w'.ρ = ρ → w'.st = st → w'.σ = w.σ → Aft K mg w w' → RepV K mg w' v d → Q v w'.H
  | .exc c ρ st => ∀ (w' : Ws) (cls : Value) (dx : Option Addr), w'.ρ = ρ → w'.st = st → w'.σ = w.σ → Aft K mg w w' → ExcAt K mg w' c cls dx → W cls dx w'.σ w'.H
  | .bad => False
def RefV (K : PySem.W.Frag) (mg : Str → Option Value) (W : WX) (t : TE) (f : DEx) : Prop :=
  ∀ (w : Ws) (Q : VK), Sts K mg w → OkV K mg W w Q (f w.ρ w.st) → t w.σ w.H Q
/-- e gives a value that is looked at at once -/
def DV (X : Cx) (W : WX) (e : Expr) (f : DEx) : Prop := ∃ t, PE X e t ∧ RefV X.K X.mg W t f
abbrev DPx := En → Store → Option D
@[simp] def pureE (p : DPx) : DEx := fun ρ st => match p ρ st with
  | some d => .ok d ρ st
  | none => .bad
/-- nothing is changed or made -/
def RefP (K : PySem.W.Frag) (mg : Str → Option Value) (t : TE) (p : DPx) : Prop :=
  ∀ (w : Ws) (Q : VK) (d : D), Sts K mg w → p w.ρ w.st = some d → (∀ v, Rep K mg w.G w.ι v d → Q v w.H) → t w.σ w.H Q
def RefPv (K : PySem.W.Frag) (mg : Str → Option Value) (t : TE) (p : DPx) : Prop :=
  ∀ (w : Ws) (Q : VK) (d : D), Sts K mg w → p w.ρ w.st = some d → (∀ v, RepV K mg w v d → Q v w.H) → t w.σ w.H Q
def DP (X : Cx) (e : Expr) (p : DPx) : Prop := ∃ t, PE X e t ∧ RefP X.K X.mg t p
def DPv (X : Cx) (e : Expr) (p : DPx) : Prop := ∃ t, PE X e t ∧ RefPv X.K X.mg t p
section
variable {K : PySem.W.Frag} {mg : Str → Option Value} {W : WX} {X : Cx} {ee : Expr} {f : DEx} {p : DPx}
theorem RefE.v {t : TE} (h : RefE K mg W t f) : RefV K mg W t f := fun w Q s q => h w Q s (by
  cases r : f w.ρ w.st with
  | ok d ρ st => rw [r] at q; exact fun w' v h1 h2 h3 h4 h5 => q w' v h1 h2 h3 h4 (.inl h5)
  | exc c ρ st => rw [r] at q; exact q
  | bad => rw [r] at q; exact q)
theorem DE.v (h : DE X W ee f) : DV X W ee f := let ⟨t, p, r⟩ := h; ⟨t, p, r.v⟩
theorem DP.e (h : DP X ee p) : DE X W ee (pureE p) := by
  obtain ⟨t, pt, r⟩ := h
  refine ⟨t, pt, fun w Q s q => ?_⟩
  unfold pureE at q
  split at q
  · rename_i d hd
    exact r w Q d s hd fun v rv => q w v rfl rfl rfl (Aft.refl s) rv
  · exact q.elim
theorem DPv.v (h : DPv X ee p) : DV X W ee (pureE p) := by
  obtain ⟨t, pt, r⟩ := h
  refine ⟨t, pt, fun w Q s q => ?_⟩
  unfold pureE at q
  split at q
  · rename_i d hd
    exact r w Q d s hd fun v rv => q w v rfl rfl rfl (Aft.refl s) rv
  · exact q.elim
theorem DP.pv (h : DP X ee p) : DPv X ee p := let ⟨t, pt, r⟩ := h; ⟨t, pt, fun w Q d s hd k => r w Q d s hd fun v rv => k v (.inl rv)⟩
theorem RepV.h {w : Ws} {v : V} {d : D} (s : Sts K mg w) (h : RepV K mg w v d) : Rep K mg w.H w.ι v d := by
  rcases h with h | ⟨a, vs, ds, rfl, rfl, h1, h2, h3⟩ | ⟨a, vs, ds, rfl, rfl, h1, h3⟩
  · exact h.mono s.sub (LeI.refl _)
  · exact .lst h1 h2 (h3.mono s.sub (LeI.refl _))
  · exact .dct (.inl h1) (h3.mono s.sub (LeI.refl _))
theorem RepV.int_inv {w : Ws} {v : V} {i : Int} (h : RepV K mg w v (.int i)) : v = .int i := by
  rcases h with h | ⟨a, vs, ds, _, e, _⟩ | ⟨a, vs, ds, _, e, _⟩
  · cases h; rfl
  · cases e
  · cases e
theorem RepV.str_inv {w : Ws} {v : V} {i : Str} (h : RepV K mg w v (.str i)) : v = .str i := by
  rcases h with h | ⟨a, vs, ds, _, e, _⟩ | ⟨a, vs, ds, _, e, _⟩
  · cases h; rfl
  · cases e
  · cases e
theorem RepV.bl_inv {w : Ws} {v : V} {i : Bool} (h : RepV K mg w v (.bl i)) : v = .bl i := by
  rcases h with h | ⟨a, vs, ds, _, e, _⟩ | ⟨a, vs, ds, _, e, _⟩
  · cases h; rfl
  · cases e
  · cases e
/-- a list that is looked at -/
theorem RepV.lst_inv {w : Ws} {v : V} {ds : List D} (s : Sts K mg w) (h : RepV K mg w v (.lst ds)) : ∃ a vs, v = .ref a ∧ w.H a = some (.lst vs) ∧ vs.length ≤ sizeLine ∧ Reps K mg w.G w.ι vs ds := by
  rcases h with h | ⟨a, vs, ds, rfl, e, h1, h2, h3⟩ | ⟨a, vs, ds, _, e, _⟩
  · cases h with
    | lst h l r => exact ⟨_, _, rfl, s.sub _ _ h, l, r⟩
  · cases e; exact ⟨a, vs, rfl, h1, h2, h3⟩
  · cases e
theorem RepV.lsk_inv {w : Ws} {v : V} {ds : List D} (s : Sts K mg w) (h : RepV K mg w v (.lsk ds)) : ∃ a vs, v = .ref a ∧ SqL K w.H a vs ∧ vs.length ≤ sizeLine ∧ Reps K mg w.G w.ι vs ds := by
  rcases h with h | ⟨a, vs, ds, rfl, e, h1, h2, h3⟩ | ⟨a, vs, ds, _, e, _⟩
  · cases h with
    | lsk h l r => exact ⟨_, _, rfl, SqL.mono s.sub h, l, r⟩
  · cases e
  · cases e
theorem RepV.tup_inv {w : Ws} {v : V} {ds : List D} (s : Sts K mg w) (h : RepV K mg w v (.tup ds)) : ∃ a vs, v = .ref a ∧ SqT K w.H a vs ∧ vs.length ≤ sizeLine ∧ Reps K mg w.G w.ι vs ds := by
  rcases h with h | ⟨a, vs, ds, rfl, e, h1, h2, h3⟩ | ⟨a, vs, ds, _, e, _⟩
  · cases h with
    | tup h l r => exact ⟨_, _, rfl, SqT.mono s.sub h, l, r⟩
  · cases e
  · cases e
end
section
variable {K : PySem.W.Frag} {mg : Str → Option Value} {W : WX} {G : Hp} {ι : List Addr}

/-! ### sequencing -/
theorem RefE.bind {t : TE} {f : DEx} (h : RefE K mg W t f) {w : Ws} {Q1 : VK} {r : D → En → Store → R} (s : Sts K mg w) {P : R → Prop}
    (hP : P ((f w.ρ w.st).bind r))
    (hx : ∀ c ρ st, P (.exc c ρ st) → ∀ (w' : Ws) (cls : Value) (dx : Option Addr), w'.ρ = ρ → w'.st = st → w'.σ = w.σ → Aft K mg w w' → ExcAt K mg w' c cls dx → W cls dx w'.σ w'.H)
    (hb : P .bad → False)
    (k : ∀ (w1 : Ws) (v : V) (d : D), w1.σ = w.σ → Aft K mg w w1 → Rep K mg w1.G w1.ι v d → P (r d w1.ρ w1.st) → Q1 v w1.H) : t w.σ w.H Q1 := by
  refine h w Q1 s ?_
  cases e : f w.ρ w.st with
  | ok d ρ st =>
    rw [e] at hP
    intro w' v h1 h2 h3 h4 h5
    subst h1; subst h2
    exact k w' v d h3 h4 h5 hP
  | exc c ρ st =>
    rw [e] at hP
    exact hx c ρ st hP
  | bad => rw [e] at hP; exact (hb hP).elim
/-- for an end that OkR tells -/
theorem RefE.bindR {t : TE} {f : DEx} (h : RefE K mg W t f) {w : Ws} {Q Q1 : VK} {r : D → En → Store → R} (s : Sts K mg w) (hP : OkR K mg W w Q ((f w.ρ w.st).bind r))
    (k : ∀ (w1 : Ws) (v : V) (d : D), Sts K mg w1 → w1.σ = w.σ → Aft K mg w w1 → Rep K mg w1.G w1.ι v d → OkR K mg W w1 Q (r d w1.ρ w1.st) → Q1 v w1.H) : t w.σ w.H Q1 :=
  h.bind (P := OkR K mg W w Q) s hP (fun _ _ _ q => q) (fun q => q) fun w1 v d e a rp q => k w1 v d a.s e a rp (q.aft a e)

theorem OkV.aft {Q : VK} {w w1 : Ws} {r : R} (h : OkV K mg W w Q r) (a : Aft K mg w w1) (e : w1.σ = w.σ) : OkV K mg W w1 Q r := by
  cases r with
  | ok d ρ st => exact fun w' v h1 h2 h3 h4 h5 => h w' v h1 h2 (h3.trans e) (a.trans h4) h5
  | exc c ρ st => exact fun w' cls dx h1 h2 h3 h4 h5 => h w' cls dx h1 h2 (h3.trans e) (a.trans h4) h5
  | bad => exact h
theorem RefV.bind {t : TE} {f : DEx} (h : RefV K mg W t f) {w : Ws} {Q1 : VK} {r : D → En → Store → R} (s : Sts K mg w) {P : R → Prop}
    (hP : P ((f w.ρ w.st).bind r))
    (hx : ∀ c ρ st, P (.exc c ρ st) → ∀ (w' : Ws) (cls : Value) (dx : Option Addr), w'.ρ = ρ → w'.st = st → w'.σ = w.σ → Aft K mg w w' → ExcAt K mg w' c cls dx → W cls dx w'.σ w'.H)
    (hb : P .bad → False)
    (k : ∀ (w1 : Ws) (v : V) (d : D), w1.σ = w.σ → Aft K mg w w1 → RepV K mg w1 v d → P (r d w1.ρ w1.st) → Q1 v w1.H) : t w.σ w.H Q1 := by
  refine h w Q1 s ?_
  cases e : f w.ρ w.st with
  | ok d ρ st =>
    rw [e] at hP
    intro w' v h1 h2 h3 h4 h5
    subst h1; subst h2
    exact k w' v d h3 h4 h5 hP
  | exc c ρ st =>
    rw [e] at hP
    exact hx c ρ st hP
  | bad => rw [e] at hP; exact (hb hP).elim
theorem RefV.bindR {t : TE} {f : DEx} (h : RefV K mg W t f) {w : Ws} {Q Q1 : VK} {r : D → En → Store → R} (s : Sts K mg w) (hP : OkR K mg W w Q ((f w.ρ w.st).bind r))
    (k : ∀ (w1 : Ws) (v : V) (d : D), Sts K mg w1 → w1.σ = w.σ → Aft K mg w w1 → RepV K mg w1 v d → OkR K mg W w1 Q (r d w1.ρ w1.st) → Q1 v w1.H) : t w.σ w.H Q1 :=
  h.bind (P := OkR K mg W w Q) s hP (fun _ _ _ q => q) (fun q => q) fun w1 v d e a rp q => k w1 v d a.s e a rp (q.aft a e)

/-! ### names and constants -/
/-- what a slot shows: a cell of the store is looked through -/
@[simp] def seen (st : Store) : Sl → Option D
  | .no => none
  | .ml ds => some (.lst ds)
  | .val (.ref l) => match st[l]? with
    | some (.lst ds) => some (.lst ds)
    | some (.dct ds) => some (.dct ds)
    | _ => none
  | .val d => some d
@[simp] def pvr (i : Nat) : DPx := fun ρ st => match ρ[i]? with
  | some (.val d) => some d
  | _ => none
@[simp] def pvw (i : Nat) : DPx := fun ρ st => match ρ[i]? with
  | some s => seen st s
  | _ => none
@[simp] def pcst (d : D) : DPx := fun _ _ => some d
theorem refP_var (i : Nat) : RefP K mg (tVar i) (pvr i) := fun w Q d s h k => by
  unfold pvr at h
  split at h
  · rename_i d' e
    cases h
    obtain ⟨v, e2, r⟩ := s.slo i _ e
    exact ⟨v, e2, k v r⟩
  · cases h
theorem refPv_var (i : Nat) : RefPv K mg (tVar i) (pvw i) := fun w Q d s h k => by
  unfold pvw at h
  split at h
  · rename_i sl e
    have sl' := s.slo i _ e
    unfold seen at h
    split at h
    · cases h
    · cases h
      obtain ⟨a, vs, e1, e2, e3, e4, e5⟩ := sl'
      exact ⟨_, e1, k _ (.inr (.inl ⟨a, vs, _, rfl, rfl, e3, e4, e5⟩))⟩
    · rename_i l
      obtain ⟨v, e2, r⟩ := sl'
      cases r with
      | ref hl =>
        rename_i a
        split at h
        · rename_i ds hs
          cases h
          obtain ⟨_, vs, e3, e4, e5⟩ := s.cel l _ a hs hl
          exact ⟨_, e2, k _ (.inr (.inl ⟨a, vs, _, rfl, rfl, e3, e4, e5⟩))⟩
        · rename_i ds hs
          cases h
          obtain ⟨_, vs, e3, e5⟩ := s.cel l _ a hs hl
          exact ⟨_, e2, k _ (.inr (.inr ⟨a, vs, _, rfl, rfl, e3, e5⟩))⟩
        · cases h
    · cases h
      obtain ⟨v, e2, r⟩ := sl'
      exact ⟨v, e2, k v (.inl r)⟩
  · cases h
theorem refP_cst {v : V} {d : D} (r : ∀ G ι, Rep K mg G ι v d) : RefP K mg (tC v) (pcst d) := fun w Q e s h k => by
  cases h; exact k v (r _ _)

@[simp] def vr (i : Nat) : DEx := fun ρ st => match ρ[i]? with
  | some (.val d) => .ok d ρ st
  | _ => .bad
@[simp] def cst (d : D) : DEx := fun ρ st => .ok d ρ st
theorem ref_var (i : Nat) : RefE K mg W (tVar i) (vr i) := fun w Q s h => by
  unfold vr at h
  split at h
  · rename_i d e
    obtain ⟨v, e2, r⟩ := s.slo i _ e
    exact ⟨v, e2, h w v rfl rfl rfl (Aft.refl s) r⟩
  · exact h.elim
theorem ref_cst {v : V} {d : D} (r : ∀ G ι, Rep K mg G ι v d) : RefE K mg W (tC v) (cst d) := fun w Q s h =>
  h w v rfl rfl rfl (Aft.refl s) (r _ _)
end

section
variable {X : Cx} {W : WX} {a b c : Expr} {f g : DEx} {pos : Pos}
theorem de_vr (i : Nat) {x : Str} (hN : X.N[i]? = some x := by rfl) (hv : Vis X.env.scope x := by first | exact Or.inl rfl | exact Or.inr (Or.inl rfl) | exact Or.inr (Or.inr rfl)) (hd : (x == ("__debug__" : Str)) = false := by decide)
    (hcd : (x == ("__classdict__" : Str)) = false := by decide) : DE X W (.Name x pos) (vr i) := ⟨_, pv i hN hv hd hcd, ref_var i⟩
theorem dp_vr (i : Nat) {x : Str} (hN : X.N[i]? = some x := by rfl) (hv : Vis X.env.scope x := by first | exact Or.inl rfl | exact Or.inr (Or.inl rfl) | exact Or.inr (Or.inr rfl)) (hd : (x == ("__debug__" : Str)) = false := by decide)
    (hcd : (x == ("__classdict__" : Str)) = false := by decide) : DP X (.Name x pos) (pvr i) := ⟨_, pv i hN hv hd hcd, refP_var i⟩
theorem dp_vw (i : Nat) {x : Str} (hN : X.N[i]? = some x := by rfl) (hv : Vis X.env.scope x := by first | exact Or.inl rfl | exact Or.inr (Or.inl rfl) | exact Or.inr (Or.inr rfl)) (hd : (x == ("__debug__" : Str)) = false := by decide)
    (hcd : (x == ("__classdict__" : Str)) = false := by decide) : DPv X (.Name x pos) (pvw i) := ⟨_, pv i hN hv hd hcd, refPv_var i⟩
theorem dp_int {i : Int} {j : Nat} : DP X (.Constant (.int i) j pos) (pcst (.int i)) := ⟨_, pe_int, refP_cst fun _ _ => .int i⟩
theorem dp_str {i : Str} {j : Nat} : DP X (.Constant (.str i) j pos) (pcst (.str i)) := ⟨_, pe_str, refP_cst fun _ _ => .str i⟩
theorem de_int {i : Int} {j : Nat} : DE X W (.Constant (.int i) j pos) (cst (.int i)) := ⟨_, pe_int, ref_cst fun _ _ => .int i⟩
theorem de_bl {i : Bool} {j : Nat} : DE X W (.Constant (.bool i) j pos) (cst (.bl i)) := ⟨_, pe_bl, ref_cst fun _ _ => .bl i⟩
theorem de_non {j : Nat} : DE X W (.Constant .none j pos) (cst .non) := ⟨_, pe_non, ref_cst fun _ _ => .non⟩
theorem de_str {i : Str} {j : Nat} : DE X W (.Constant (.str i) j pos) (cst (.str i)) := ⟨_, pe_str, ref_cst fun _ _ => .str i⟩
/-- a module's constant: an int, a text -/
theorem de_gint {x : Str} {i : Int} {t : Tok} (hg : Gl X x) (hm : X.mg x = some (.int i t)) (hdb : (x == ("__debug__" : Str)) = false := by decide) : DE X W (.Name x pos) (cst (.int i)) := ⟨_, pe_glob (v := .int i) hg hm ⟨_, rfl⟩ hdb, ref_cst fun _ _ => .int i⟩
theorem de_gstr {x : Str} {i : Str} {t : Tok} (hg : Gl X x) (hm : X.mg x = some (.str i t)) (hdb : (x == ("__debug__" : Str)) = false := by decide) : DE X W (.Name x pos) (cst (.str i)) := ⟨_, pe_glob (v := .str i) hg hm ⟨_, rfl⟩ hdb, ref_cst fun _ _ => .str i⟩
end

/-! ### two-place operations on values, nothing made -/
@[simp] def lift2 (p : D → D → Option D) (f g : DEx) : DEx := fun ρ st => (f ρ st).bind fun d ρ st => (g ρ st).bind fun e ρ st => match p d e with
  | some z => .ok z ρ st
  | none => .bad
@[simp] def lift1 (p : D → Option D) (f : DEx) : DEx := fun ρ st => (f ρ st).bind fun d ρ st => match p d with
  | some z => .ok z ρ st
  | none => .bad
/-- r answers p -/
def Ans2 (K : PySem.W.Frag) (mg : Str → Option Value) (r : R2) (p : D → D → Option D) : Prop :=
  ∀ (w : Ws) (x y : V) (d e z : D) (Q : VK), Sts K mg w → RepV K mg w x d → RepV K mg w y e → p d e = some z → (∀ v, (∀ G ι, Rep K mg G ι v z) → Q v w.H) → r x y w.H Q
def Ans1 (K : PySem.W.Frag) (mg : Str → Option Value) (r : V → Hp → VK → Prop) (p : D → Option D) : Prop :=
  ∀ (w : Ws) (x : V) (d z : D) (Q : VK), Sts K mg w → RepV K mg w x d → p d = some z → (∀ v, (∀ G ι, Rep K mg G ι v z) → Q v w.H) → r x w.H Q
section
variable {K : PySem.W.Frag} {mg : Str → Option Value} {W : WX}
theorem ref_op {r : R2} {p : D → D → Option D} {ta tb : TE} {f g : DEx} (hr : Ans2 K mg r p) (ha : RefE K mg W ta f) (hb : RefV K mg W tb g) : RefE K mg W (tOp r ta tb) (lift2 p f g) := fun w Q s h => by
  refine ha.bindR (Q := Q) s h fun w1 x d s1 e1 a1 r1 h1 => ?_
  show tb w.σ w1.H _
  rw [← e1]
  refine hb.bindR (Q := Q) s1 h1 fun w2 y e s2 e2 a2 r2 h2 => ?_
  cases q : p d e with
  | none => simp only [q] at h2; exact h2.elim
  | some z =>
    simp only [q] at h2
    exact hr w2 x y d e z Q s2 (.inl (r1.mono a2.g a2.i)) r2 q fun v rv => h2 w2 v rfl rfl rfl (Aft.refl s2) (rv _ _)
theorem ref_un {r : V → Hp → VK → Prop} {p : D → Option D} {ta : TE} {f : DEx} (hr : Ans1 K mg r p) (ha : RefV K mg W ta f) : RefE K mg W (tUn r ta) (lift1 p f) := fun w Q s h => by
  refine ha.bindR (Q := Q) s h fun w1 x d s1 e1 a1 r1 h1 => ?_
  cases q : p d with
  | none => simp only [q] at h1; exact h1.elim
  | some z =>
    simp only [q] at h1
    exact hr w1 x d z Q s1 r1 q fun v rv => h1 w1 v rfl rfl rfl (Aft.refl s1) (rv _ _)
theorem Ans2.or {r r' : R2} {p : D → D → Option D} (h : ∀ d e z, p d e = some z → ∃ (q : D → D → Option D), q d e = some z ∧ (Ans2 K mg r q ∨ Ans2 K mg r' q)) : Ans2 K mg (fun x y H Q => r x y H Q ∨ r' x y H Q) p := fun w x y d e z Q s rx ry q k => by
  obtain ⟨q', h1, h2⟩ := h d e z q
  rcases h2 with h2 | h2
  · exact .inl (h2 w x y d e z Q s rx ry h1 k)
  · exact .inr (h2 w x y d e z Q s rx ry h1 k)
end
theorem opR_or {X : Cx} {f : Value → Value → Sem Value} {r r' : R2} (h : OpR X f r) (h' : OpR X f r') : OpR X f (fun x y H Q => r x y H Q ∨ r' x y H Q) := fun pins s σ H x y v u Q I rx ry q => by
  rcases q with q | q
  · exact h pins s σ H x y v u Q I rx ry q
  · exact h' pins s σ H x y v u Q I rx ry q

/-! ### arithmetic -/
@[simp] def iop (C : Int → Int → Prop) [∀ i j, Decidable (C i j)] (h : Int → Int → Int) : D → D → Option D
  | .int i, .int j => if C i j then some (.int (h i j)) else none
  | _, _ => none
@[simp] def iop0 (h : Int → Int → Int) : D → D → Option D
  | .int i, .int j => some (.int (h i j))
  | _, _ => none
@[simp] def ibp (h : Int → Int → Bool) : D → D → Option D
  | .int i, .int j => some (.bl (h i j))
  | _, _ => none
section
variable {K : PySem.W.Frag} {mg : Str → Option Value}
theorem iop_inv {C : Int → Int → Prop} [∀ i j, Decidable (C i j)] {h : Int → Int → Int} {d e z : D} (q : iop C h d e = some z) : ∃ i j, d = .int i ∧ e = .int j ∧ C i j ∧ z = .int (h i j) := by
  unfold iop at q
  split at q
  · split at q
    · cases q; exact ⟨_, _, rfl, rfl, by assumption, rfl⟩
    · cases q
  · cases q
theorem iop0_inv {h : Int → Int → Int} {d e z : D} (q : iop0 h d e = some z) : ∃ i j, d = .int i ∧ e = .int j ∧ z = .int (h i j) := by
  unfold iop0 at q
  split at q
  · cases q; exact ⟨_, _, rfl, rfl, rfl⟩
  · cases q
theorem ibp_inv {h : Int → Int → Bool} {d e z : D} (q : ibp h d e = some z) : ∃ i j, d = .int i ∧ e = .int j ∧ z = .bl (h i j) := by
  unfold ibp at q
  split at q
  · cases q; exact ⟨_, _, rfl, rfl, rfl⟩
  · cases q
theorem ans_iop {C : Int → Int → Prop} [∀ i j, Decidable (C i j)] {h : Int → Int → Int} : Ans2 K mg (rI C fun i j => .int (h i j)) (iop C h) := fun w x y d e z Q s rx ry q k => by
  obtain ⟨i, j, rfl, rfl, hc, rfl⟩ := iop_inv q
  exact ⟨i, j, rx.int_inv, ry.int_inv, hc, k _ (fun _ _ => .int _)⟩
theorem ans_iop0 {h : Int → Int → Int} : Ans2 K mg (rI0 fun i j => .int (h i j)) (iop0 h) := fun w x y d e z Q s rx ry q k => by
  obtain ⟨i, j, rfl, rfl, rfl⟩ := iop0_inv q
  exact ⟨i, j, rx.int_inv, ry.int_inv, k _ (fun _ _ => .int _)⟩
theorem ans_ibp {h : Int → Int → Bool} : Ans2 K mg (rI0 fun i j => .bl (h i j)) (ibp h) := fun w x y d e z Q s rx ry q k => by
  obtain ⟨i, j, rfl, rfl, rfl⟩ := ibp_inv q
  exact ⟨i, j, rx.int_inv, ry.int_inv, k _ (fun _ _ => .bl _)⟩
end
instance (i j : Int) : Decidable (CMul i j) := by unfold CMul; infer_instance
instance (i j : Int) : Decidable (CDiv i j) := by unfold CDiv; infer_instance
instance (i j : Int) : Decidable (CPow i j) := by unfold CPow; infer_instance
@[simp] def pNeg : D → Option D
  | .int i => some (.int (-i))
  | _ => none
@[simp] def pSub := iop0 (· - ·)
@[simp] def pMul := iop CMul (· * ·)
@[simp] def pDiv := iop CDiv (· / ·)
@[simp] def pMod := iop (fun _ j => 0 < j) (· % ·)
def pPow := iop CPow (fun i j => i ^ j.toNat)
def sAdd : D → D → Option D
  | .str x, .str y => if x.length + y.length ≤ sizeLine then some (.str (x ++ y)) else none
  | _, _ => none
def pAdd : D → D → Option D
  | .int i, .int j => some (.int (i + j))
  | .str x, .str y => if x.length + y.length ≤ sizeLine then some (.str (x ++ y)) else none
  | _, _ => none
section
variable {X : Cx} {W : WX} {a b c : Expr} {f g : DEx} {pos : Pos}
theorem ans_sadd {K : PySem.W.Frag} {mg : Str → Option Value} : Ans2 K mg (fun x y H Q => ∃ i j, x = .str i ∧ y = .str j ∧ i.length + j.length ≤ sizeLine ∧ Q (.str (i ++ j)) H) sAdd := fun w x y d e z Q s rx ry q k => by
  unfold sAdd at q
  split at q
  · split at q
    · cases q; exact ⟨_, _, rx.str_inv, ry.str_inv, by assumption, k _ (fun _ _ => .str _)⟩
    · cases q
  · cases q
theorem de_bin {op : Operator} {r : R2} {p : D → D → Option D} (ho : OpR X (binaryOp op) r) (hr : Ans2 X.K X.mg r p) (ha : DE X W a f) (hb : DV X W b g) : DE X W (.BinOp a op b pos) (lift2 p f g) := by
  obtain ⟨ta, pa, ra⟩ := ha
  obtain ⟨tb, pb, rb⟩ := hb
  exact ⟨_, pe_op ho pa pb, ref_op hr ra rb⟩
theorem de_sub (ha : DE X W a f) (hb : DE X W b g) : DE X W (.BinOp a .Sub b pos) (lift2 pSub f g) := de_bin op_sub ans_iop0 ha hb.v
theorem de_mul (ha : DE X W a f) (hb : DE X W b g) : DE X W (.BinOp a .Mult b pos) (lift2 pMul f g) := de_bin op_mul ans_iop ha hb.v
theorem de_div (ha : DE X W a f) (hb : DE X W b g) : DE X W (.BinOp a .FloorDiv b pos) (lift2 pDiv f g) := de_bin op_fdiv ans_iop ha hb.v
theorem de_mod (ha : DE X W a f) (hb : DE X W b g) : DE X W (.BinOp a .Mod b pos) (lift2 pMod f g) := de_bin op_mod ans_iop ha hb.v
theorem de_pow (ha : DE X W a f) (hb : DE X W b g) : DE X W (.BinOp a .Pow b pos) (lift2 pPow f g) := de_bin op_pow ans_iop ha hb.v
theorem de_add (ha : DE X W a f) (hb : DE X W b g) : DE X W (.BinOp a .Add b pos) (lift2 pAdd f g) := by
  refine de_bin (opR_or op_add op_add_str) (Ans2.or fun d e z q => ?_) ha hb.v
  unfold pAdd at q
  split at q
  · exact ⟨iop0 (· + ·), q, .inl ans_iop0⟩
  · exact ⟨sAdd, q, .inr ans_sadd⟩
  · cases q
theorem de_neg (ha : DE X W a f) : DE X W (.UnaryOp .USub a pos) (lift1 pNeg f) := by
  obtain ⟨ta, pa, ra⟩ := ha
  refine ⟨_, pe_un un_neg pa, ref_un (fun w x d z Q s rx q k => ?_) ra.v⟩
  unfold pNeg at q
  split at q
  · cases q; exact ⟨_, rx.int_inv, k _ (fun _ _ => .int _)⟩
  · cases q
/-! ### comparisons of ints -/
theorem de_cmp {op : CmpOp} {r : R2} {p : D → D → Option D} (ho : OpR X (compareOp op) r) (hr : Ans2 X.K X.mg r p) (hm : behindInMarks op b = false) (ha : DE X W a f) (hb : DV X W b g) : DE X W (.Compare a [op] [b] pos) (lift2 p f g) := by
  obtain ⟨ta, pa, ra⟩ := ha
  obtain ⟨tb, pb, rb⟩ := hb
  exact ⟨_, pe_cmpR ho pa pb hm, ref_op hr ra rb⟩
end
/-! ### the same where nothing is changed -/
@[simp] def plift2 (p : D → D → Option D) (f g : DPx) : DPx := fun ρ st => match f ρ st, g ρ st with
  | some d, some e => p d e
  | _, _ => none
@[simp] def plift1 (p : D → Option D) (f : DPx) : DPx := fun ρ st => match f ρ st with
  | some d => p d
  | _ => none
section
variable {K : PySem.W.Frag} {mg : Str → Option Value}
theorem refP_op {r : R2} {p : D → D → Option D} {ta tb : TE} {f g : DPx} (hr : Ans2 K mg r p) (ha : RefPv K mg ta f) (hb : RefPv K mg tb g) : RefP K mg (tOp r ta tb) (plift2 p f g) := fun w Q z s h k => by
  unfold plift2 at h
  split at h
  · rename_i d e h1 h2
    exact ha w _ d s h1 fun x rx => hb w _ e s h2 fun y ry => hr w x y d e z Q s rx ry h fun v rv => k v (rv _ _)
  · cases h
theorem refP_un {r : V → Hp → VK → Prop} {p : D → Option D} {ta : TE} {f : DPx} (hr : Ans1 K mg r p) (ha : RefPv K mg ta f) : RefP K mg (tUn r ta) (plift1 p f) := fun w Q z s h k => by
  unfold plift1 at h
  split at h
  · rename_i d h1
    exact ha w _ d s h1 fun x rx => hr w x d z Q s rx h fun v rv => k v (rv _ _)
  · cases h
end
section
variable {X : Cx} {a b c : Expr} {f g : DPx} {pos : Pos}
theorem dp_bin {op : Operator} {r : R2} {p : D → D → Option D} (ho : OpR X (binaryOp op) r) (hr : Ans2 X.K X.mg r p) (ha : DPv X a f) (hb : DPv X b g) : DP X (.BinOp a op b pos) (plift2 p f g) := by
  obtain ⟨ta, pa, ra⟩ := ha
  obtain ⟨tb, pb, rb⟩ := hb
  exact ⟨_, pe_op ho pa pb, refP_op hr ra rb⟩
theorem dp_sub (ha : DP X a f) (hb : DP X b g) : DP X (.BinOp a .Sub b pos) (plift2 pSub f g) := dp_bin op_sub ans_iop0 ha.pv hb.pv
theorem dp_add (ha : DP X a f) (hb : DP X b g) : DP X (.BinOp a .Add b pos) (plift2 (iop0 (· + ·)) f g) := dp_bin op_add ans_iop0 ha.pv hb.pv
theorem dp_mod (ha : DP X a f) (hb : DP X b g) : DP X (.BinOp a .Mod b pos) (plift2 pMod f g) := dp_bin op_mod ans_iop ha.pv hb.pv
theorem dp_mul (ha : DP X a f) (hb : DP X b g) : DP X (.BinOp a .Mult b pos) (plift2 pMul f g) := dp_bin op_mul ans_iop ha.pv hb.pv
theorem dp_neg (ha : DP X a f) : DP X (.UnaryOp .USub a pos) (plift1 pNeg f) := by
  obtain ⟨ta, pa, ra⟩ := ha.pv
  refine ⟨_, pe_un un_neg pa, refP_un (fun w x d z Q s rx q k => ?_) ra⟩
  unfold pNeg at q
  split at q
  · cases q; exact ⟨_, rx.int_inv, k _ (fun _ _ => .int _)⟩
  · cases q
end
end DL
namespace DL
open PySem L2

/-! ### data that the library compares -/
mutual
def D.py : D → Option PyData
  | .non => some .none
  | .bl b => some (.bool b)
  | .int i => some (.int i)
  | .str s => some (.str s)
  | .tup ds => (pyAll ds).map .tuple
  | .lst ds => (pyAll ds).map .list
  | _ => none
def pyAll : List D → Option (List PyData)
  | [] => some []
  | d :: ds => match d.py, pyAll ds with
    | some p, some ps => some (p :: ps)
    | _, _ => none
end
section
variable {K : PySem.W.Frag} {mg : Str → Option Value} {G : Hp} {ι : List Addr}
mutual
theorem Rep.dp : ∀ {v : V} {d : D} {p : PyData}, Rep K mg G ι v d → d.py = some p → Dp K G v p
  | _, _, _, .non, h => by cases h; exact .non
  | _, _, _, .bl b, h => by cases h; exact .bl b
  | _, _, _, .int i, h => by cases h; exact .int i
  | _, _, _, .str x, h => by cases h; exact .str x
  | _, .lst ds, _, .lst hs _ r, h => by
    simp only [D.py, Option.map_eq_some_iff] at h
    obtain ⟨ps, e, rfl⟩ := h
    exact .lst (.inl (.inl hs)) (Reps.dp r e)
  | _, .tup ds, _, .tup hs _ r, h => by
    simp only [D.py, Option.map_eq_some_iff] at h
    obtain ⟨ps, e, rfl⟩ := h
    exact .tup hs (Reps.dp r e)
  | _, _, _, .lsk _ _ _, h => by simp [D.py] at h
  | _, _, _, .dct _ _, h => by simp [D.py] at h
  | _, _, _, .ins _ _ _ _, h => by simp [D.py] at h
  | _, _, _, .ref _, h => by simp [D.py] at h
  | _, _, _, .glb _ _, h => by simp [D.py] at h
  | _, _, _, .typ _, h => by simp [D.py] at h
theorem Reps.dp : ∀ {v : List V} {d : List D} {p : List PyData}, Reps K mg G ι v d → pyAll d = some p → DpAll K G v p
  | _, _, _, .nil, h => by simp only [pyAll, Option.some.injEq] at h; subst h; exact .nil
  | _, d :: ds, _, .cons r rs, h => by
    simp only [pyAll] at h
    split at h
    · rename_i p ps e1 e2
      cases h
      exact .cons (Rep.dp r e1) (Reps.dp rs e2)
    · cases h
end
mutual
theorem dp_mono {H H' : Hp} (e : Same H H') : ∀ {v : V} {p : PyData}, Dp K H v p → Dp K H' v p
  | _, _, .non => .non
  | _, _, .bl b => .bl b
  | _, _, .int i => .int i
  | _, _, .str x => .str x
  | _, _, .lst h r => .lst (SqL.mono e h) (dpAll_mono e r)
  | _, _, .tup h r => .tup (SqT.mono e h) (dpAll_mono e r)
theorem dpAll_mono {H H' : Hp} (e : Same H H') : ∀ {v : List V} {p : List PyData}, DpAll K H v p → DpAll K H' v p
  | _, _, .nil => .nil
  | _, _, .cons h r => .cons (dp_mono e h) (dpAll_mono e r)
end
end
/-- == of data -/
def pEqB (d e : D) : Option Bool := match d.py, e.py with
  | some p, some q => if SeqAt.shaped p = true ∧ SeqAt.shaped q = true then some (PyData.eqv p q) else none
  | _, _ => none
def pEq (d e : D) : Option D := (pEqB d e).map .bl
def pNe (d e : D) : Option D := (pEqB d e).map fun b => .bl (!b)
theorem pEqB_inv {d e : D} {b : Bool} (h : pEqB d e = some b) : ∃ p q, d.py = some p ∧ e.py = some q ∧ SeqAt.shaped p = true ∧ SeqAt.shaped q = true ∧ b = PyData.eqv p q := by
  unfold pEqB at h
  split at h
  · split at h
    · rename_i p q e1 e2 hh
      cases h
      exact ⟨p, q, e1, e2, hh.1, hh.2, rfl⟩
    · cases h
  · cases h
section
variable {K : PySem.W.Frag} {mg : Str → Option Value}
theorem ans_eq : Ans2 K mg (rEqD K) pEq := fun w x y d e z Q s rx ry q k => by
  obtain ⟨b, hb, rfl⟩ := Option.map_eq_some_iff.mp q
  obtain ⟨p, p', e1, e2, s1, s2, rfl⟩ := pEqB_inv hb
  exact ⟨p, p', (rx.h s).dp e1, (ry.h s).dp e2, s1, s2, k _ (fun _ _ => .bl _)⟩
theorem ans_ne : Ans2 K mg (rNeD K) pNe := fun w x y d e z Q s rx ry q k => by
  obtain ⟨b, hb, rfl⟩ := Option.map_eq_some_iff.mp q
  obtain ⟨p, p', e1, e2, s1, s2, rfl⟩ := pEqB_inv hb
  exact ⟨p, p', (rx.h s).dp e1, (ry.h s).dp e2, s1, s2, k _ (fun _ _ => .bl _)⟩
end
/-! ### in -/
def pInB : D → D → Option Bool
  | .str x, .str z => match x.cps.toList with
    | [c] => some (decide (c ∈ z.cps.toList))
    | _ => none
  | d, .lst ds => match d.py, pyAll ds with
    | some p, some ps => if SeqAt.shaped p = true ∧ SeqAt.shaped (.list ps) = true then some (ps.any fun z => PyData.eqv z p) else none
    | _, _ => none
  | d, .tup ds => match d.py, pyAll ds with
    | some p, some ps => if SeqAt.shaped p = true ∧ SeqAt.shaped (.list ps) = true then some (ps.any fun z => PyData.eqv z p) else none
    | _, _ => none
  | _, _ => none
def pIn (d e : D) : Option D := (pInB d e).map .bl
def pNotIn (d e : D) : Option D := (pInB d e).map fun b => .bl (!b)
/-- x in a tuple of any data -/
def rInT (K : PySem.W.Frag) (n : Bool) : R2 := fun x y H Q => ∃ d ds, Dp K H x d ∧ Dp K H y (.tuple ds) ∧ SeqAt.shaped d = true ∧ SeqAt.shaped (.list ds) = true ∧ Q (.bl (if n then !(ds.any fun z => PyData.eqv z d) else (ds.any fun z => PyData.eqv z d))) H
end DL
namespace DL
open PySem L2

/-! ### in, not in -/
section
variable {X : Cx}
theorem op_inT (hu : X.A.units + 65 < cLine) : OpR X (compareOp .In) (rInT X.K false) := by
  intro pins s σ H x y v u Q I rx ry h
  obtain ⟨d, ds, hd, he, sd, se, q⟩ := h
  obtain ⟨as, r1⟩ := Dp.reads I d x v hd rx
  obtain ⟨bs, r2⟩ := Dp.reads I (.tuple ds) y u he ry
  exact SeqAt.in_tuple_reads r2 r1 (SeqAt.canLay_of_shaped se) (SeqAt.canLay_of_shaped sd) (PyProof.Rows.room_in_shaped sd hu) ⟨.bl _, H, I, rfl, q⟩
theorem op_notInT (hu : X.A.units + 65 < cLine) : OpR X (compareOp .NotIn) (rInT X.K true) := by
  intro pins s σ H x y v u Q I rx ry h
  obtain ⟨d, ds, hd, he, sd, se, q⟩ := h
  obtain ⟨as, r1⟩ := Dp.reads I d x v hd rx
  obtain ⟨bs, r2⟩ := Dp.reads I (.tuple ds) y u he ry
  exact SeqAt.notIn_tuple_reads r2 r1 (SeqAt.canLay_of_shaped se) (SeqAt.canLay_of_shaped sd) (PyProof.Rows.room_in_shaped sd hu) ⟨.bl _, H, I, rfl, q⟩
end
/-- what in asks of two values: one sign in a text, data in a list, data in a tuple -/
def rInA (K : PySem.W.Frag) (n : Bool) : R2 := fun x y H Q =>
  (∃ (c : Nat) (z : Str), x = .str ⟨#[c]⟩ ∧ y = .str z ∧ Q (.bl (if n then !decide (c ∈ z.cps.toList) else decide (c ∈ z.cps.toList))) H) ∨
  (∃ d ds, Dp K H x d ∧ Dp K H y (.list ds) ∧ SeqAt.shaped d = true ∧ SeqAt.shaped (.list ds) = true ∧ Q (.bl (if n then !(ds.any fun z => PyData.eqv z d) else (ds.any fun z => PyData.eqv z d))) H) ∨
  rInT K n x y H Q
section
variable {X : Cx}
theorem op_inA (hu : X.A.units + 65 < cLine) : OpR X (compareOp .In) (rInA X.K false) := fun pins s σ H x y v u Q I rx ry q => by
  rcases q with q | q | q
  · exact op_in_sign pins s σ H x y v u Q I rx ry q
  · exact op_inD hu pins s σ H x y v u Q I rx ry q
  · exact op_inT hu pins s σ H x y v u Q I rx ry q
theorem op_notInA (hu : X.A.units + 65 < cLine) : OpR X (compareOp .NotIn) (rInA X.K true) := fun pins s σ H x y v u Q I rx ry q => by
  rcases q with q | q | q
  · exact op_notIn_sign pins s σ H x y v u Q I rx ry q
  · exact op_notInD hu pins s σ H x y v u Q I rx ry q
  · exact op_notInT hu pins s σ H x y v u Q I rx ry q
end
theorem str_of_one {x : Str} {c : Nat} (h : x.cps.toList = [c]) : x = ⟨#[c]⟩ := by
  cases x with
  | mk a =>
    cases a with
    | mk l => simp at h; subst h; rfl
section
variable {K : PySem.W.Frag} {mg : Str → Option Value}
theorem ans_in (n : Bool) : Ans2 K mg (rInA K n) (fun d e => (pInB d e).map fun b => .bl (if n then !b else b)) := fun w x y d e z Q s rx ry q k => by
  obtain ⟨b, hb, rfl⟩ := Option.map_eq_some_iff.mp q
  unfold pInB at hb
  split at hb
  · split at hb
    · rename_i c hc
      cases hb
      refine .inl ⟨c, _, by rw [rx.str_inv, str_of_one hc], ry.str_inv, k _ fun _ _ => .bl _⟩
    · cases hb
  · split at hb
    · split at hb
      · rename_i p ps e1 e2 hh
        cases hb
        refine .inr (.inl ⟨p, ps, (rx.h s).dp e1, (ry.h s).dp (by simp [D.py, e2]), hh.1, hh.2, k _ fun _ _ => .bl _⟩)
      · cases hb
    · cases hb
  · split at hb
    · split at hb
      · rename_i p ps e1 e2 hh
        cases hb
        refine .inr (.inr ⟨p, ps, (rx.h s).dp e1, (ry.h s).dp (by simp [D.py, e2]), hh.1, hh.2, k _ fun _ _ => .bl _⟩)
      · cases hb
    · cases hb
  · cases hb
/-- is None; is True, is False -/
@[simp] def pIsN : D → D → Option D
  | .non, .non => some (.bl true)
  | .bl _, .non | .int _, .non | .str _, .non | .tup _, .non | .lst _, .non | .dct _, .non | .ins _ _, .non | .ref _, .non => some (.bl false)
  | _, _ => none
@[simp] def pIsB : D → D → Option D
  | .bl a, .bl b => some (.bl (decide (a = b)))
  | _, _ => none
@[simp] def D.isNon : D → Option Bool
  | .non => some true
  | .bl _ | .int _ | .str _ | .tup _ | .lst _ | .lsk _ | .dct _ | .ins _ _ | .ref _ => some false
  | _ => none
theorem RepV.isNon {w : Ws} {v : V} {d : D} {b : Bool} (h : RepV K mg w v d) (q : d.isNon = some b) : decide (v = .non) = b := by
  rcases h with h | ⟨a, vs, ds, rfl, rfl, h1, h2, h3⟩ | ⟨a, vs, ds, rfl, rfl, h1, h3⟩
  · cases h <;> simp [D.isNon] at q <;> subst q <;> simp
  · simp [D.isNon] at q; subst q; simp
  · simp [D.isNon] at q; subst q; simp
@[simp] def pIs (n : Bool) : D → D → Option D
  | d, .non => d.isNon.map fun b => .bl (if n then !b else b)
  | _, _ => none
theorem ans_isN : Ans2 K mg (fun x y H Q => y = .non ∧ Q (.bl (decide (x = .non))) H) (pIs false) := fun w x y d e z Q s rx ry q k => by
  unfold pIs at q
  split at q
  · obtain ⟨b, hb, rfl⟩ := Option.map_eq_some_iff.mp q
    have := rx.isNon hb
    have hy : y = .non := by
      rcases ry with h | ⟨a, vs, ds, _, e, _⟩ | ⟨a, vs, ds, _, e, _⟩
      · exact h.non_inv
      · cases e
      · cases e
    exact ⟨hy, this ▸ k _ fun _ _ => .bl _⟩
  · cases q
theorem ans_notN : Ans2 K mg (fun x y H Q => y = .non ∧ Q (.bl (!decide (x = .non))) H) (pIs true) := fun w x y d e z Q s rx ry q k => by
  unfold pIs at q
  split at q
  · obtain ⟨b, hb, rfl⟩ := Option.map_eq_some_iff.mp q
    have := rx.isNon hb
    have hy : y = .non := by
      rcases ry with h | ⟨a, vs, ds, _, e, _⟩ | ⟨a, vs, ds, _, e, _⟩
      · exact h.non_inv
      · cases e
      · cases e
    refine ⟨hy, ?_⟩
    rw [this]
    exact k _ fun _ _ => .bl _
  · cases q
theorem ans_isB : Ans2 K mg (fun x y H Q => ∃ a b, x = .bl a ∧ y = .bl b ∧ Q (.bl (decide (a = b))) H) pIsB := fun w x y d e z Q s rx ry q k => by
  unfold pIsB at q
  split at q
  · cases q; exact ⟨_, _, rx.bl_inv, ry.bl_inv, k _ fun _ _ => .bl _⟩
  · cases q
end
/-! ### tests -/
@[simp] def notD (f : DEx) : DEx := fun ρ st => (f ρ st).bind fun d ρ st => match d with
  | .bl b => .ok (.bl (!b)) ρ st
  | _ => .bad
@[simp] def andD (f g : DEx) : DEx := fun ρ st => (f ρ st).bind fun d ρ st => match d with
  | .bl true => g ρ st
  | .bl false => .ok (.bl false) ρ st
  | _ => .bad
@[simp] def orD (f g : DEx) : DEx := fun ρ st => (f ρ st).bind fun d ρ st => match d with
  | .bl true => .ok (.bl true) ρ st
  | .bl false => g ρ st
  | _ => .bad
@[simp] def iteD (c f g : DEx) : DEx := fun ρ st => (c ρ st).bind fun d ρ st => match d with
  | .bl true => f ρ st
  | .bl false => g ρ st
  | _ => .bad
@[simp] def chainD (p p' : D → D → Option D) (f g h : DEx) : DEx := fun ρ st => (f ρ st).bind fun d ρ st => (g ρ st).bind fun e ρ st => match p d e with
  | some (.bl true) => (h ρ st).bind fun z ρ st => match p' e z with
    | some y => .ok y ρ st
    | none => .bad
  | some (.bl false) => .ok (.bl false) ρ st
  | _ => .bad
section
variable {K : PySem.W.Frag} {mg : Str → Option Value} {W : WX}
/-- a test by its value -/
theorem RefV.test {t : TE} {f : DEx} (h : RefV K mg W t f) : RefT K mg W (fun σ H Q => t σ H fun x H' => ∃ k, x = .bl k ∧ Q k H') f := fun w Q s q => by
  refine h w _ s ?_
  cases r : f w.ρ w.st with
  | ok d ρ st =>
    rw [r] at q
    cases d with
    | bl b => exact fun w' v h1 h2 h3 h4 h5 => ⟨b, h5.bl_inv, q w' h1 h2 h3 h4⟩
    | _ => exact q.elim
  | exc c ρ st => rw [r] at q; exact q
  | bad => rw [r] at q; exact q
theorem RefT.bind {t : TT} {f : DEx} (h : RefT K mg W t f) {w : Ws} {Q1 : Bool → Hp → Prop} {r : D → En → Store → R} (s : Sts K mg w) {P : R → Prop}
    (hP : P ((f w.ρ w.st).bind r)) (hd : ∀ d ρ st, (∀ b, d ≠ .bl b) → r d ρ st = .bad)
    (hx : ∀ c ρ st, P (.exc c ρ st) → ∀ (w' : Ws) (cls : Value) (dx : Option Addr), w'.ρ = ρ → w'.st = st → w'.σ = w.σ → Aft K mg w w' → ExcAt K mg w' c cls dx → W cls dx w'.σ w'.H)
    (hb : P .bad → False)
    (k : ∀ (w1 : Ws) (b : Bool), w1.σ = w.σ → Aft K mg w w1 → P (r (.bl b) w1.ρ w1.st) → Q1 b w1.H) : t w.σ w.H Q1 := by
  refine h w Q1 s ?_
  cases e : f w.ρ w.st with
  | ok d ρ st =>
    rw [e] at hP
    cases d with
    | bl b =>
      intro w' h1 h2 h3 h4
      subst h1; subst h2
      exact k w' b h3 h4 hP
    | _ =>
      refine (hb ?_).elim
      simp only [R.bind] at hP
      rw [hd _ ρ st (by intro b q; cases q)] at hP
      exact hP
  | exc c ρ st =>
    rw [e] at hP
    exact hx c ρ st hP
  | bad => rw [e] at hP; exact (hb hP).elim
theorem refT_not {t : TT} {f : DEx} (h : RefT K mg W t f) : RefT K mg W (tNot t) (notD f) := fun w Q s q => by
  refine h.bind (P := OkT K mg W w Q) s q (fun d ρ st n => by cases d <;> first | rfl | exact absurd rfl (n _)) (fun _ _ _ z => z) (fun z => z) fun w1 b e a z => ?_
  exact z w1 rfl rfl e a
theorem refT_and {t u : TT} {f g : DEx} (h : RefT K mg W t f) (h' : RefT K mg W u g) : RefT K mg W (tAnd t u) (andD f g) := fun w Q s q => by
  refine h.bind (P := OkT K mg W w Q) s q (fun d ρ st n => by cases d <;> first | rfl | exact absurd rfl (n _)) (fun _ _ _ z => z) (fun z => z) fun w1 b e a z => ?_
  cases b with
  | true =>
    refine iteT ?_
    rw [← e]
    exact h' w1 Q a.s (OkT.aft z a e)
  | false => exact iteF (z w1 rfl rfl e a)
theorem refT_or {t u : TT} {f g : DEx} (h : RefT K mg W t f) (h' : RefT K mg W u g) : RefT K mg W (tOr t u) (orD f g) := fun w Q s q => by
  refine h.bind (P := OkT K mg W w Q) s q (fun d ρ st n => by cases d <;> first | rfl | exact absurd rfl (n _)) (fun _ _ _ z => z) (fun z => z) fun w1 b e a z => ?_
  cases b with
  | false =>
    refine iteF ?_
    rw [← e]
    exact h' w1 Q a.s (OkT.aft z a e)
  | true => exact iteT (z w1 rfl rfl e a)
theorem refE_if {c : TT} {ta tb : TE} {h f g : DEx} (hc : RefT K mg W c h) (ha : RefE K mg W ta f) (hb : RefE K mg W tb g) : RefE K mg W (tIf c ta tb) (iteD h f g) := fun w Q s q => by
  refine hc.bind (P := OkR K mg W w Q) s q (fun d ρ st n => by cases d <;> first | rfl | exact absurd rfl (n _)) (fun _ _ _ z => z) (fun z => z) fun w1 b e a z => ?_
  cases b with
  | true =>
    refine iteT ?_
    rw [← e]
    exact ha w1 Q a.s (OkR.aft z a e)
  | false =>
    refine iteF ?_
    rw [← e]
    exact hb w1 Q a.s (OkR.aft z a e)
theorem refE_and {ta tb : TE} {f g : DEx} (ha : RefE K mg W ta f) (hb : RefE K mg W tb g) : RefE K mg W (tAndV ta tb) (andD f g) := fun w Q s q => by
  refine ha.bindR (Q := Q) s q fun w1 v d s1 e a r z => ?_
  cases d with
  | bl b =>
    refine ⟨b, r.bl_inv, ?_⟩
    cases b with
    | true => exact iteT (e ▸ hb w1 Q s1 z)
    | false => exact iteF (z w1 _ rfl rfl rfl (Aft.refl s1) (.bl _))
  | _ => exact z.elim
theorem refE_or {ta tb : TE} {f g : DEx} (ha : RefE K mg W ta f) (hb : RefE K mg W tb g) : RefE K mg W (tOrV ta tb) (orD f g) := fun w Q s q => by
  refine ha.bindR (Q := Q) s q fun w1 v d s1 e a r z => ?_
  cases d with
  | bl b =>
    refine ⟨b, r.bl_inv, ?_⟩
    cases b with
    | false => exact iteF (e ▸ hb w1 Q s1 z)
    | true => exact iteT (z w1 _ rfl rfl rfl (Aft.refl s1) (.bl _))
  | _ => exact z.elim
theorem refE_not {ta : TE} {f : DEx} (ha : RefE K mg W ta f) : RefE K mg W (tNotV ta) (notD f) := fun w Q s q => by
  refine ha.bindR (Q := Q) s q fun w1 v d s1 e a r z => ?_
  cases d with
  | bl b => exact ⟨b, r.bl_inv, z w1 _ rfl rfl rfl (Aft.refl s1) (.bl _)⟩
  | _ => exact z.elim
theorem refE_chain {r r' : R2} {p p' : D → D → Option D} {ta tb tc : TE} {f g h : DEx} (hr : Ans2 K mg r p) (hr' : Ans2 K mg r' p') (ha : RefE K mg W ta f) (hb : RefE K mg W tb g) (hc : RefV K mg W tc h) :
    RefE K mg W (tChain r r' ta tb tc) (chainD p p' f g h) := fun w Q s q => by
  refine ha.bindR (Q := Q) s q fun w1 x d s1 e1 a1 r1 q1 => ?_
  show tb w.σ w1.H _
  rw [← e1]
  refine hb.bindR (Q := Q) s1 q1 fun w2 y e s2 e2 a2 r2 q2 => ?_
  cases z : p d e with
  | none => simp only [z] at q2; exact q2.elim
  | some z0 =>
    simp only [z] at q2
    refine hr w2 x y d e z0 _ s2 (.inl (r1.mono a2.g a2.i)) (.inl r2) z fun v rv => ?_
    cases z0 with
    | bl b =>
      refine ⟨b, (rv w2.G w2.ι).bl_inv, ?_⟩
      cases b with
      | true =>
        refine iteT ?_
        rw [← e2]
        refine hc.bindR (Q := Q) s2 q2 fun w3 u e' s3 e3 a3 r3 q3 => ?_
        cases z' : p' e e' with
        | none => simp only [z'] at q3; exact q3.elim
        | some z1 =>
          simp only [z'] at q3
          exact hr' w3 y u e e' z1 Q s3 (.inl (r2.mono a3.g a3.i)) r3 z' fun v rv => q3 w3 v rfl rfl rfl (Aft.refl s3) (rv _ _)
      | false => exact iteF (q2 w2 _ rfl rfl rfl (Aft.refl s2) (.bl _))
    | _ => exact q2.elim
end
def DW (X : Cx) (W : WX) (e : Expr) (f : DEx) : Prop := ∃ t, PW X e t ∧ RefT X.K X.mg W t f
section
variable {X : Cx} {W : WX} {a b c : Expr} {f g h : DEx} {pos : Pos} {rest : List Expr}
theorem dt_cmp {op : CmpOp} {r : R2} {p : D → D → Option D} (ho : OpR X (compareOp op) r) (hr : Ans2 X.K X.mg r p) (hm : behindInMarks op b = false) (ha : DE X W a f) (hb : DV X W b g) : DT X W (.Compare a [op] [b] pos) (lift2 p f g) := by
  obtain ⟨ta, pa, ra⟩ := ha
  obtain ⟨tb, pb, rb⟩ := hb
  exact ⟨_, pt_cmpR ho pa pb hm, (ref_op hr ra rb).v.test⟩
theorem dt_val (ha : DE X W a f) (he : ∀ whole, isTrue a X.env whole = (do let v ← whole; standAt a.pos; holding [v] (truthy v)) := by intro _; rfl) : DT X W a f := by
  obtain ⟨ta, pa, ra⟩ := ha
  exact ⟨_, pt_val pa he, ra.v.test⟩
theorem dt_not (ha : DT X W a f) : DT X W (.UnaryOp .Not a pos) (notD f) := by
  obtain ⟨ta, pa, ra⟩ := ha
  exact ⟨_, pt_not pa, refT_not ra⟩
theorem dw_and1 (ha : DT X W a f) : DW X W (.BoolOp .And [a] pos) f := let ⟨_, p, r⟩ := ha; ⟨_, pw_and1 p, r⟩
theorem dw_or1 (ha : DT X W a f) : DW X W (.BoolOp .Or [a] pos) f := let ⟨_, p, r⟩ := ha; ⟨_, pw_or1 p, r⟩
theorem dw_and (ha : DT X W a f) (hb : DW X W (.BoolOp .And (b :: rest) pos) g) : DW X W (.BoolOp .And (a :: b :: rest) pos) (andD f g) := let ⟨_, p, r⟩ := ha; let ⟨_, p', r'⟩ := hb; ⟨_, pw_and p p', refT_and r r'⟩
theorem dw_or (ha : DT X W a f) (hb : DW X W (.BoolOp .Or (b :: rest) pos) g) : DW X W (.BoolOp .Or (a :: b :: rest) pos) (orD f g) := let ⟨_, p, r⟩ := ha; let ⟨_, p', r'⟩ := hb; ⟨_, pw_or p p', refT_or r r'⟩
theorem DW.t (h : DW X W a f) : DT X W a f := let ⟨_, p, r⟩ := h; ⟨_, p.pt, r⟩
theorem de_and (ha : DE X W a f) (hb : DE X W (.BoolOp .And (b :: rest) pos) g) : DE X W (.BoolOp .And (a :: b :: rest) pos) (andD f g) := let ⟨_, p, r⟩ := ha; let ⟨_, p', r'⟩ := hb; ⟨_, pe_and p p', refE_and r r'⟩
theorem de_or (ha : DE X W a f) (hb : DE X W (.BoolOp .Or (b :: rest) pos) g) : DE X W (.BoolOp .Or (a :: b :: rest) pos) (orD f g) := let ⟨_, p, r⟩ := ha; let ⟨_, p', r'⟩ := hb; ⟨_, pe_or p p', refE_or r r'⟩
theorem de_one {op : BoolOp} (ha : DE X W a f) : DE X W (.BoolOp op [a] pos) f := let ⟨_, p, r⟩ := ha; ⟨_, pe_one p, r⟩
theorem de_not (ha : DE X W a f) : DE X W (.UnaryOp .Not a pos) (notD f) := let ⟨_, p, r⟩ := ha; ⟨_, pe_not p, refE_not r⟩
theorem de_if (hc : DT X W c h) (ha : DE X W a f) (hb : DE X W b g) : DE X W (.IfExp c a b pos) (iteD h f g) := let ⟨_, p, r⟩ := hc; let ⟨_, p1, r1⟩ := ha; let ⟨_, p2, r2⟩ := hb; ⟨_, pe_ifExp p p1 p2, refE_if r r1 r2⟩
theorem de_chain {op op' : CmpOp} {r r' : R2} {p p' : D → D → Option D} (ho : OpR X (compareOp op) r) (hr : Ans2 X.K X.mg r p) (ho' : OpR X (compareOp op') r') (hr' : Ans2 X.K X.mg r' p') (ha : DE X W a f) (hb : DE X W b g) (hc : DV X W c h)
    (hm : lastMarks [op, op'] [b, c] = false := by with_unfolding_all rfl) : DE X W (.Compare a [op, op'] [b, c] pos) (chainD p p' f g h) := let ⟨_, p1, r1⟩ := ha; let ⟨_, p2, r2⟩ := hb; let ⟨_, p3, r3⟩ := hc; ⟨_, pe_chain ho ho' p1 p2 p3 hm, refE_chain hr hr' r1 r2 r3⟩
theorem dt_chain {op op' : CmpOp} {r r' : R2} {p p' : D → D → Option D} (ho : OpR X (compareOp op) r) (hr : Ans2 X.K X.mg r p) (ho' : OpR X (compareOp op') r') (hr' : Ans2 X.K X.mg r' p') (ha : DE X W a f) (hb : DE X W b g) (hc : DV X W c h)
    (hm : lastMarks [op, op'] [b, c] = false := by with_unfolding_all rfl) : DT X W (.Compare a [op, op'] [b, c] pos) (chainD p p' f g h) := let ⟨_, p1, r1⟩ := ha; let ⟨_, p2, r2⟩ := hb; let ⟨_, p3, r3⟩ := hc; ⟨_, pt_chain ho ho' p1 p2 p3 hm, (refE_chain hr hr' r1 r2 r3).v.test⟩
end
@[simp] def pLt := ibp (fun i j => decide (i < j))
@[simp] def pLe := ibp (fun i j => decide (i ≤ j))
@[simp] def pGt := ibp (fun i j => decide (j < i))
@[simp] def pGe := ibp (fun i j => decide (j ≤ i))
end DL
namespace DL
open PySem L2
/-! ### argument lists and displays -/
@[simp] def aNil : DEx := fun ρ st => .ok (.tup []) ρ st
@[simp] def aCons (f g : DEx) : DEx := fun ρ st => (f ρ st).bind fun d ρ st => (g ρ st).bind fun e ρ st => match e with
  | .tup ds => .ok (.tup (d :: ds)) ρ st
  | _ => .bad
/-- the arguments' values, so many -/
def DAn (X : Cx) (W : WX) (es : List Expr) (f : DEx) : Prop := DA X W es f ∧ ∀ ρ st d ρ' st', f ρ st = .ok d ρ' st' → ∃ ds, d = .tup ds ∧ ds.length = es.length
section
variable {K : PySem.W.Frag} {mg : Str → Option Value} {W : WX}
theorem RefA.bind {t : TA} {f : DEx} (h : RefA K mg W t f) {w : Ws} {Q1 : List V → Hp → Prop} {r : D → En → Store → R} (s : Sts K mg w) {P : R → Prop}
    (hP : P ((f w.ρ w.st).bind r)) (hd : ∀ d ρ st, (∀ b, d ≠ .tup b) → r d ρ st = .bad)
    (hx : ∀ c ρ st, P (.exc c ρ st) → ∀ (w' : Ws) (cls : Value) (dx : Option Addr), w'.ρ = ρ → w'.st = st → w'.σ = w.σ → Aft K mg w w' → ExcAt K mg w' c cls dx → W cls dx w'.σ w'.H)
    (hb : P .bad → False)
    (k : ∀ (w1 : Ws) (vs : List V) (ds : List D), w1.σ = w.σ → Aft K mg w w1 → Reps K mg w1.G w1.ι vs ds → f w.ρ w.st = .ok (.tup ds) w1.ρ w1.st → P (r (.tup ds) w1.ρ w1.st) → Q1 vs w1.H) : t w.σ w.H Q1 := by
  refine h w Q1 s ?_
  cases e : f w.ρ w.st with
  | ok d ρ st =>
    rw [e] at hP
    cases d with
    | tup b =>
      intro w' vs h1 h2 h3 h4 h5
      subst h1; subst h2
      exact k w' vs b h3 h4 h5 e hP
    | _ =>
      refine (hb ?_).elim
      simp only [R.bind] at hP
      rw [hd _ ρ st (by intro b q; cases q)] at hP
      exact hP
  | exc c ρ st =>
    rw [e] at hP
    exact hx c ρ st hP
  | bad => rw [e] at hP; exact (hb hP).elim
theorem refA_nil : RefA K mg W tNil aNil := fun w Q s q => q w [] rfl rfl rfl (Aft.refl s) .nil
theorem refA_cons {te : TE} {t : TA} {f g : DEx} (he : RefE K mg W te f) (ht : RefA K mg W t g) : RefA K mg W (tCons te t) (aCons f g) := fun w Q s q => by
  refine he.bind (P := OkA K mg W w Q) s q (fun _ _ _ z => z) (fun z => z) fun w1 v d e1 a1 r1 q1 => ?_
  show t w.σ w1.H _
  rw [← e1]
  refine ht.bind (P := OkA K mg W w1 Q) a1.s (q1.aft a1 e1) (fun d ρ st n => by cases d <;> first | rfl | exact absurd rfl (n _)) (fun _ _ _ z => z) (fun z => z) fun w2 vs ds e2 a2 r2 _ q2 => ?_
  exact q2 w2 (v :: vs) rfl rfl e2 a2 (.cons (r1.mono a2.g a2.i) r2)
end
section
variable {X : Cx} {W : WX} {e a b : Expr} {es : List Expr} {f g : DEx} {pos : Pos}
theorem da_nil : DAn X W [] aNil := ⟨⟨_, pa_nil, refA_nil⟩, fun ρ st d ρ' st' h => by cases h; exact ⟨[], rfl, rfl⟩⟩
theorem da_cons (he : DE X W e f) (ht : DAn X W es g) (hs : starEach (e :: es) X.env = (false, eval e X.env) :: starEach es X.env := by rfl) : DAn X W (e :: es) (aCons f g) := by
  obtain ⟨te, pe, re⟩ := he
  obtain ⟨⟨t, pt, rt⟩, hl⟩ := ht
  refine ⟨⟨_, pa_cons pe pt hs, refA_cons re rt⟩, fun ρ st d ρ' st' h => ?_⟩
  unfold aCons at h
  cases h1 : f ρ st with
  | ok d1 ρ1 st1 =>
    rw [h1] at h
    simp only [R.bind] at h
    cases h2 : g ρ1 st1 with
    | ok d2 ρ2 st2 =>
      rw [h2] at h
      obtain ⟨ds, rfl, l⟩ := hl _ _ _ _ _ h2
      cases h
      exact ⟨d1 :: ds, rfl, by simp [l]⟩
    | exc c ρ st => rw [h2] at h; cases h
    | bad => rw [h2] at h; cases h
  | exc c ρ st => rw [h1] at h; cases h
  | bad => rw [h1] at h; cases h
/-- (a, b, ..) -/
theorem de_tup {k : Nat} (ha : DAn X W es f) (hl : es.length ≤ sizeLine := by decide) : DE X W (.Tuple es k pos) f := by
  obtain ⟨⟨t, pt, rt⟩, hn⟩ := ha
  refine ⟨_, pe_tup pt, fun w Q s q => ?_⟩
  refine rt.bind (P := OkR X.K X.mg W w Q) (r := fun d ρ st => match d with | .tup ds => .ok (.tup ds) ρ st | _ => .bad) s ?_ ?_ (fun _ _ _ z => z) (fun z => z) fun w1 vs ds e1 a1 r1 e q1 => ?_
  · cases h : f w.ρ w.st with
    | ok d ρ st =>
      obtain ⟨ds, rfl, l⟩ := hn _ _ _ _ _ h
      rw [h] at q; exact q
    | exc c ρ st => rw [h] at q; exact q
    | bad => rw [h] at q; exact q
  · intro d ρ st n; cases d <;> first | rfl | exact absurd rfl (n _)
  · have l : vs.length ≤ sizeLine := by
      obtain ⟨ds', e', l⟩ := hn _ _ _ _ _ e
      cases e'
      rw [r1.len, l]; exact hl
    refine ⟨l, fun p hp => ?_⟩
    have A := Aft.alloc (o := .tup vs) a1.s hp
    exact q1 { w1 with G := upd w1.G p (.tup vs), H := upd w1.H p (.tup vs) } (.ref p) rfl rfl e1 (a1.trans A) (.tup (.inl (.inl upd_same)) l (r1.mono A.g A.i))
end
end DL
namespace DL
open PySem L2
abbrev Den := List D → Store → R
def WEx (E : XK) : WX := fun cls dx _ H => E cls dx H
/-- the promise of a def: its values are those of den -/
def spD (K : PySem.W.Frag) (mg : Str → Option Value) (n : Nat) (den : Den) : Sp := fun vs H Q E => vs.length = n ∧
  ∃ (w : Ws) (ds : List D), w.ρ = [] ∧ w.σ = [] ∧ w.H = H ∧ Sts K mg w ∧ Reps K mg w.G w.ι vs ds ∧ OkR K mg (WEx E) w Q (den ds w.st)
/-- a body's flow as a value -/
@[simp] def endR : Fl → R
  | .nx _ st => .ok .non [] st
  | .rt d _ st => .ok d [] st
  | .exc c _ st => .exc c [] st
  | _ => .bad
@[simp] def enter (n : Nat) (ds : List D) : En := ds.map .val ++ List.replicate (n - ds.length) .no
@[simp] def runD (n : Nat) (g : DSx) : Den := fun ds st => endR (g (enter n ds) st)
theorem enter_ml (n : Nat) (ds : List D) (i : Nat) (es : List D) : (enter n ds)[i]? ≠ some (.ml es) := by
  intro h
  have := List.mem_of_getElem? h
  unfold enter at this
  rcases List.mem_append.mp this with h | h
  · obtain ⟨d, _, e⟩ := List.mem_map.mp h; cases e
  · have := List.eq_of_mem_replicate h; cases this
section
variable {K : PySem.W.Frag} {mg : Str → Option Value}
theorem Sts.enter {w : Ws} {n : Nat} {N : List Str} {vs : List V} {ds : List D} (s : Sts K mg w) (hn : n = N.length) (r : Reps K mg w.G w.ι vs ds) : Sts K mg { w with ρ := enter n ds, σ := start N vs } where
  sub := s.sub
  ln := by unfold DL.enter L2.start; simp [r.len, hn]
  len := s.len
  cel := s.cel
  inj := s.inj
  slo := fun i x h => by
    show SlotAt K mg { w with ρ := DL.enter n ds, σ := start N vs } (start N vs)[i]? x
    have h' : (DL.enter n ds)[i]? = some x := h
    unfold DL.enter at h'
    by_cases q : i < ds.length
    · rw [List.getElem?_append_left (by simpa using q)] at h'
      rw [List.getElem?_map] at h'
      cases e : ds[i]? with
      | none => rw [e] at h'; cases h'
      | some d =>
        rw [e] at h'
        cases h'
        obtain ⟨v, e1, e2⟩ := r.get e
        refine ⟨v, ?_, e2⟩
        unfold L2.start
        rw [List.getElem?_append_left (by simpa [r.len] using q), List.getElem?_map, e1]
        rfl
    · rw [List.getElem?_append_right (by simpa using q)] at h'
      have := List.eq_of_mem_replicate (List.mem_of_getElem? h')
      subst this; trivial
  sep := fun i l a ⟨es, h, _⟩ _ => absurd h (enter_ml _ _ _ _)
  dis := fun i j a ⟨es, h, _⟩ _ => absurd h (enter_ml _ _ _ _)
theorem ws_strip {w : Ws} (h1 : w.ρ = []) (h2 : w.σ = []) : w.strip = w := by
  cases w; simp at h1 h2; subst h1; subst h2; rfl
end
/-- THE RULE of a def -/
theorem fn_D {P : Program} {wd : World} {K : PySem.W.Frag} {mg : Str → Option Value} {base : Heap} {x qual : Str} {st : Stmt} {f : Addr} {fd : FuncData} {N ps : List Str} {k n : Nat} {g : DSx} (F : Fun K x qual st f fd) (S : FnScope N ps (defScope st)) (hn : n = N.length)
    (hb : ∀ (cdv : Value) (A : Around) (outer : List Env) (s : Shared) (H : Hp) (E : XK), Room k (A.deeper (PyProof.Rows.envOfC qual (defScope st) s.heap.objs.size f cdv)) →
      DSs (cxOf (L2.CX P wd) P wd K mg base N qual (defScope st) f cdv A outer s H E) (WEx E) (defBody st) g) : FnOk P wd K mg base (L2.CX P wd) (k + 1) f fd ps (spD K mg ps.length (runD n g)) := by
  refine F.okX S (fun vs H Q E h => h.1) fun cdv A outer s H vs Q E hr h => ?_
  obtain ⟨hl, w, ds, hρ, hσ, rfl, sts, rp, ok⟩ := h
  obtain ⟨t, pt, rt⟩ := hb cdv A outer s w.H E hr
  refine ⟨t, pt, ?_⟩
  have sts' := sts.enter hn rp (N := N)
  have e0 : w.strip = w := ws_strip hρ hσ
  have s0 : Sts K mg w.strip := by rw [e0]; exact sts
  have out : ∀ w', Aft K mg { w with ρ := DL.enter n ds, σ := start N vs } w' → Aft K mg w w'.strip := fun w' A => by
    have := Aft.out (w := w) s0 (enter_ml n ds) A
    rwa [e0] at this
  refine rt { w with ρ := DL.enter n ds, σ := start N vs } { nx := fun _ H' => Q .non H', rt := Q } sts' ?_
  unfold runD at ok
  show OkF K mg (WEx E) _ _ (g (DL.enter n ds) w.st)
  cases e : g (DL.enter n ds) w.st with
  | nx ρ st' =>
    rw [e] at ok
    intro w' h1 h2 A
    exact ok w'.strip .non rfl h2 hσ.symm (out w' A) .non
  | rt d ρ st' =>
    rw [e] at ok
    intro w' v h1 h2 A r
    exact ok w'.strip v rfl h2 hσ.symm (out w' A) r
  | bk ρ st' => rw [e] at ok; exact ok.elim
  | ct ρ st' => rw [e] at ok; exact ok.elim
  | exc c ρ st' =>
    rw [e] at ok
    intro w' cls dx h1 h2 A r
    exact ok w'.strip cls dx rfl h2 hσ.symm (out w' A) r
  | bad => rw [e] at ok; exact ok.elim
/-- f(..) -/
@[simp] def callD (den : Den) (f : DEx) : DEx := fun ρ st => (f ρ st).bind fun d ρ st => match d with
  | .tup ds => match den ds st with
    | .ok r _ st' => .ok r ρ st'
    | .exc c _ st' => .exc c ρ st'
    | .bad => .bad
  | _ => .bad
section
variable {X : Cx} {W : WX} {k n : Nat} {f : Addr} {fd : FuncData} {ps : List Str} {den : Den} {x : Str} {p pos : Pos} {e : Expr} {es : List Expr} {fa : DEx}
/-- the promise, asked at a state -/
theorem sp_at {K : PySem.W.Frag} {mg : Str → Option Value} {w : Ws} {vs : List V} {ds : List D} {Q : VK} {σ : L2.St} (s : Sts K mg w) (hl : vs.length = n) (r : Reps K mg w.G w.ι vs ds) (hs : w.σ = σ)
    (q : OkR K mg W w Q (callD den (fun ρ st => .ok (.tup ds) ρ st) w.ρ w.st)) : spD K mg n den vs w.H Q (fun cls dx H => W cls dx σ H) := by
  subst hs
  refine ⟨hl, w.strip, ds, rfl, rfl, rfl, s.strip, r, ?_⟩
  show OkR K mg _ w.strip Q (den ds w.st)
  unfold callD at q
  simp only [R.bind] at q
  cases e : den ds w.st with
  | ok d ρ st =>
    rw [e] at q
    intro w' v h1 h2 h3 A rv
    exact q { w' with ρ := w.ρ, σ := w.σ } v rfl h2 rfl (Aft.back s A) rv
  | exc c ρ st =>
    rw [e] at q
    intro w' cls dx h1 h2 h3 A rv
    exact q { w' with ρ := w.ρ, σ := w.σ } cls dx rfl h2 rfl (Aft.back s A) rv
  | bad => rw [e] at q; exact q.elim
theorem de_call (F : FnOk X.prog X.w X.K X.mg X.base (L2.CX X.prog X.w) k f fd ps (spD X.K X.mg n den)) (hr : Room k X.A) (hg : Gl X x) (hm : X.mg x = some (.ref f)) (hk : PySem.W.keepIn X.K (.ref f) = true) (hb : Binds X.K fd ps []) (tk : Takes X W)
    (ha : DAn X W (e :: es) fa) (hn : (e :: es).length = n := by rfl) (hdb : (x == ("__debug__" : Str)) = false := by decide) (he : starEach (e :: es) X.env = (false, eval e X.env) :: starEach es X.env := by rfl) (hpl : (backTo pos (starEach es X.env)).any (·.1) = false := by rfl) :
    DE X W (.Call (.Name x p) (e :: es) [] pos) (callD den fa) := by
  obtain ⟨⟨t, pt, rt⟩, hl⟩ := ha
  refine ⟨_, pe_callS F hr hg hm hk hb (fun σ => passAt tk σ) pt hdb he hpl, fun w Q s q => ?_⟩
  refine rt.bind (P := OkR X.K X.mg W w Q) s q (fun d ρ st n => by cases d <;> first | rfl | exact absurd rfl (n _)) (fun _ _ _ z => z) (fun z => z) fun w1 vs ds e1 a1 r1 ee q1 => ?_
  have l : vs.length = n := by
    obtain ⟨ds', e', l⟩ := hl _ _ _ _ _ ee
    cases e'
    rw [r1.len, l]; exact hn
  exact sp_at a1.s l r1 e1 (OkR.aft q1 a1 e1)
end
end DL
namespace DL
open PySem L2
section
variable {K : PySem.W.Frag} {mg : Str → Option Value} {W : WX}
/-- behind an expression -/
theorem RefE.bindF {t : TE} {f : DEx} (h : RefE K mg W t f) {w : Ws} {E : Ends} {Q1 : VK} {r : D → En → Store → Fl} (s : Sts K mg w)
    (hP : OkF K mg W w E (match f w.ρ w.st with | .ok d ρ st => r d ρ st | .exc c ρ st => .exc c ρ st | .bad => .bad))
    (k : ∀ (w1 : Ws) (v : V) (d : D), Sts K mg w1 → w1.σ = w.σ → Aft K mg w w1 → Rep K mg w1.G w1.ι v d → OkF K mg W w1 E (r d w1.ρ w1.st) → Q1 v w1.H) : t w.σ w.H Q1 := by
  refine h w Q1 s ?_
  cases e : f w.ρ w.st with
  | ok d ρ st =>
    rw [e] at hP
    intro w' v h1 h2 h3 h4 h5
    subst h1; subst h2
    exact k w' v d h4.s h3 h4 h5 (OkF.aft hP h4)
  | exc c ρ st =>
    rw [e] at hP
    exact fun w' cls dx h1 h2 _ h4 h5 => hP w' cls dx h1 h2 h4 h5
  | bad => rw [e] at hP; exact hP
end
/-- what follows an expression -/
@[simp] def thenF (f : DEx) (r : D → En → Store → Fl) : DSx := fun ρ st => match f ρ st with
  | .ok d ρ st => r d ρ st
  | .exc c ρ st => .exc c ρ st
  | .bad => .bad
@[simp] def nxD : DSx := fun ρ st => .nx ρ st
@[simp] def seqD (g h : DSx) : DSx := fun ρ st => match g ρ st with
  | .nx ρ st => h ρ st
  | r => r
@[simp] def exprD (f : DEx) : DSx := thenF f fun _ ρ st => .nx ρ st
@[simp] def retD (f : DEx) : DSx := thenF f fun d ρ st => .rt d ρ st
@[simp] def retN : DSx := fun ρ st => .rt .non ρ st
@[simp] def ifD (c : DEx) (g h : DSx) : DSx := thenF c fun d ρ st => match d with
  | .bl true => g ρ st
  | .bl false => h ρ st
  | _ => .bad
@[simp] def brkD : DSx := fun ρ st => .bk ρ st
@[simp] def cntD : DSx := fun ρ st => .ct ρ st
section
variable {K : PySem.W.Frag} {mg : Str → Option Value} {W : WX}
theorem refS_nil : RefS K mg W tNext nxD := fun w E s q => q w rfl rfl (Aft.refl s)
theorem refS_cons {t u : TS} {g h : DSx} (ht : RefS K mg W t g) (hu : RefS K mg W u h) : RefS K mg W (tSeq t u) (seqD g h) := fun w E s q => by
  refine ht w _ s ?_
  unfold seqD at q
  cases e : g w.ρ w.st with
  | nx ρ st =>
    rw [e] at q
    intro w' h1 h2 A
    subst h1; subst h2
    exact hu w' E A.s (OkF.aft q A)
  | rt d ρ st => rw [e] at q; exact q
  | bk ρ st => rw [e] at q; exact q
  | ct ρ st => rw [e] at q; exact q
  | exc c ρ st => rw [e] at q; exact q
  | bad => rw [e] at q; exact q
theorem refS_expr {t : TE} {f : DEx} (h : RefE K mg W t f) : RefS K mg W (tDrop t) (exprD f) := fun w E s q =>
  h.bindF s q fun w1 v d s1 e1 a1 r1 q1 => by
    have := q1 w1 rfl rfl (Aft.refl s1)
    rw [e1] at this; exact this
theorem refS_ret {t : TE} {f : DEx} (h : RefE K mg W t f) : RefS K mg W (tRet t) (retD f) := fun w E s q =>
  h.bindF s q fun w1 v d s1 e1 a1 r1 q1 => q1 w1 v rfl rfl (Aft.refl s1) r1
theorem RefT.bindF {t : TT} {f : DEx} (h : RefT K mg W t f) {w : Ws} {E : Ends} {Q1 : Bool → Hp → Prop} {r : D → En → Store → Fl} (s : Sts K mg w) (hd : ∀ d ρ st, (∀ b, d ≠ .bl b) → r d ρ st = .bad)
    (hP : OkF K mg W w E (match f w.ρ w.st with | .ok d ρ st => r d ρ st | .exc c ρ st => .exc c ρ st | .bad => .bad))
    (k : ∀ (w1 : Ws) (b : Bool), Sts K mg w1 → w1.σ = w.σ → Aft K mg w w1 → OkF K mg W w1 E (r (.bl b) w1.ρ w1.st) → Q1 b w1.H) : t w.σ w.H Q1 := by
  refine h w Q1 s ?_
  cases e : f w.ρ w.st with
  | ok d ρ st =>
    rw [e] at hP
    cases d with
    | bl b =>
      intro w' h1 h2 h3 h4
      subst h1; subst h2
      exact k w' b h4.s h3 h4 (OkF.aft hP h4)
    | _ =>
      simp only at hP
      rw [hd _ ρ st (by intro b q; cases q)] at hP
      exact hP.elim
  | exc c ρ st =>
    rw [e] at hP
    exact fun w' cls dx h1 h2 _ h4 h5 => hP w' cls dx h1 h2 h4 h5
  | bad => rw [e] at hP; exact hP
theorem refS_if {c : TT} {t u : TS} {f : DEx} {g h : DSx} (hc : RefT K mg W c f) (ht : RefS K mg W t g) (hu : RefS K mg W u h) : RefS K mg W (tIfS c t u) (ifD f g h) := fun w E s q => by
  refine hc.bindF s (fun d ρ st n => by cases d <;> first | rfl | exact absurd rfl (n _)) q fun w1 b s1 e1 a1 q1 => ?_
  cases b with
  | true =>
    refine iteT ?_
    rw [← e1]; exact ht w1 E s1 q1
  | false =>
    refine iteF ?_
    rw [← e1]; exact hu w1 E s1 q1
end
section
variable {X : Cx} {W : WX} {st : Stmt} {rest : List Stmt} {a b : List Stmt} {e c : Expr} {f : DEx} {g h : DSx} {pos : Pos}
theorem dss_nil : DSs X W [] nxD := ⟨_, pss_nil, refS_nil⟩
theorem dss_cons (h1 : DS X W st g) (h2 : DSs X W rest h) : DSs X W (st :: rest) (seqD g h) := let ⟨_, p, r⟩ := h1; let ⟨_, p', r'⟩ := h2; ⟨_, pss_cons p p', refS_cons r r'⟩
theorem dss_one (h1 : DS X W st g) : DSs X W [st] g := let ⟨_, p, r⟩ := h1; ⟨_, pss_one p, r⟩
theorem ds_expr (he : DE X W e f) (hs : swapsWith e none pos.line X.env = pure false := by rfl) : DS X W (.Expr e pos) (exprD f) := let ⟨_, p, r⟩ := he; ⟨_, ps_expr p hs, refS_expr r⟩
theorem ds_ret (he : DE X W e f) : DS X W (.Return (some e) pos) (retD f) := let ⟨_, p, r⟩ := he; ⟨_, ps_ret p, refS_ret r⟩
theorem ds_retN : DS X W (.Return none pos) retN := ⟨_, ps_retN, fun w E s q => q w .non rfl rfl (Aft.refl s) .non⟩
theorem ds_pass : DS X W (.Pass pos) nxD := ⟨_, ps_pass, refS_nil⟩
theorem ds_break : DS X W (.Break pos) brkD := ⟨_, ps_break, fun w E s q => q w rfl rfl (Aft.refl s)⟩
theorem ds_continue : DS X W (.Continue pos) cntD := ⟨_, ps_continue, fun w E s q => q w rfl rfl (Aft.refl s)⟩
theorem ds_if (hc : DT X W c f) (ha : DSs X W a g) (hb : DSs X W b h) : DS X W (.If c a b pos) (ifD f g h) := let ⟨_, p, r⟩ := hc; let ⟨_, p1, r1⟩ := ha; let ⟨_, p2, r2⟩ := hb; ⟨_, ps_if p p1 p2, refS_if r r1 r2⟩
end
/-! ### targets -/
abbrev DGx := D → En → Option En
/-- a value is given to a target -/
def RefG (K : PySem.W.Frag) (mg : Str → Option Value) (is : List Nat) (t : TG) (g : DGx) : Prop :=
  ∀ (w : Ws) (v : V) (d : D) (ρ' : En) (Q : L2.St → Hp → Prop), Sts K mg w → Rep K mg w.G w.ι v d → g d w.ρ = some ρ' →
    (∀ σ', (∀ us : List Nat, (∀ i ∈ is, i ∈ us) → wipe σ' us = wipe w.σ us) → Aft K mg w { w with ρ := ρ', σ := σ' } → Q σ' w.H) → t v w.σ w.H Q
def RefGs (K : PySem.W.Frag) (mg : Str → Option Value) (is : List Nat) (t : TGs) (g : List D → En → Option En) : Prop :=
  ∀ (w : Ws) (vs : List V) (ds : List D) (ρ' : En) (Q : L2.St → Hp → Prop), Sts K mg w → Reps K mg w.G w.ι vs ds → g ds w.ρ = some ρ' →
    (∀ σ', (∀ us : List Nat, (∀ i ∈ is, i ∈ us) → wipe σ' us = wipe w.σ us) → Aft K mg w { w with ρ := ρ', σ := σ' } → Q σ' w.H) → t vs w.σ w.H Q
def DG (X : Cx) (e : Expr) (is : List Nat) (g : DGx) : Prop := ∃ t, PG X e t ∧ RefG X.K X.mg is t g
def DGs (X : Cx) (es : List Expr) (is : List Nat) (g : List D → En → Option En) : Prop := ∃ t, PGs X es t ∧ RefGs X.K X.mg is t g
theorem wipe_set {σ : L2.St} {i : Nat} {x : Option V} : ∀ {us : List Nat}, i ∈ us → wipe (σ.set i x) us = wipe σ us
  | [], h => by simp at h
  | u :: us, h => by
    show (wipe (σ.set i x) us).set u none = (wipe σ us).set u none
    by_cases e : i ∈ us
    · rw [wipe_set e]
    · have eu : i = u := by
        rcases List.mem_cons.mp h with h | h
        · exact h
        · exact absurd h e
      subst eu
      have : ∀ us : List Nat, i ∉ us → wipe (σ.set i x) us = (wipe σ us).set i x := by
        intro us
        induction us with
        | nil => intro _; rfl
        | cons v us ih =>
          intro hv
          have h1 : i ≠ v := fun q => hv (by simp [q])
          have h2 : i ∉ us := fun q => hv (by simp [q])
          show (wipe (σ.set i x) us).set v none = ((wipe σ us).set v none).set i x
          rw [ih h2, List.set_comm _ _ h1]
      rw [this us e, List.set_set]
@[simp] def gN (i : Nat) : DGx := fun d ρ => some (ρ.set i (.val d))
@[simp] def gsNil : List D → En → Option En := fun ds ρ => match ds with
  | [] => some ρ
  | _ => none
@[simp] def gsCons (g : DGx) (h : List D → En → Option En) : List D → En → Option En := fun ds ρ => match ds with
  | d :: r => match g d ρ with
    | some ρ => h r ρ
    | none => none
  | [] => none
@[simp] def gT (h : List D → En → Option En) : DGx := fun d ρ => match d with
  | .tup ds => h ds ρ
  | _ => none
section
variable {K : PySem.W.Frag} {mg : Str → Option Value} {W : WX}
theorem refG_name (i : Nat) : RefG K mg [i] (gName i) (gN i) := fun w v d ρ' Q s r e k => by
  cases e
  exact k _ (fun us h => wipe_set (h i (by simp))) (Aft.setVal s r)
theorem refGs_nil : RefGs K mg [] gNil gsNil := fun w vs ds ρ' Q s r e k => by
  cases r with
  | nil => cases e; exact ⟨rfl, k _ (fun _ _ => rfl) (Aft.refl s)⟩
  | cons r rs => cases e
theorem refGs_cons {is js : List Nat} {t : TG} {u : TGs} {g : DGx} {h : List D → En → Option En} (ht : RefG K mg is t g) (hu : RefGs K mg js u h) : RefGs K mg (is ++ js) (gCons t u) (gsCons g h) := fun w vs ds ρ' Q s r e k => by
  cases r with
  | nil => cases e
  | cons r rs =>
    rename_i v d vs ds
    unfold gsCons at e
    simp only at e
    split at e
    · rename_i ρ1 e1
      refine ⟨v, vs, rfl, ht w v d ρ1 _ s r e1 fun σ1 w1 A1 => ?_⟩
      exact hu { w with ρ := ρ1, σ := σ1 } vs ds ρ' Q A1.s (rs.mono A1.g A1.i) e fun σ2 w2 A2 => k σ2 (fun us h => (w2 us fun i hi => h i (by simp [hi])).trans (w1 us fun i hi => h i (by simp [hi]))) (A1.trans A2)
    · cases e
theorem refG_tup {is : List Nat} {n : Nat} {u : TGs} {h : List D → En → Option En} (hn : ∀ ds ρ ρ', h ds ρ = some ρ' → ds.length = n) (hu : RefGs K mg is u h) : RefG K mg is (gTup K n u) (gT h) := fun w v d ρ' Q s r e k => by
  unfold gT at e
  split at e
  · cases r with
    | tup hs hl rs =>
      exact ⟨_, _, rfl, SqT.mono s.sub hs, by rw [rs.len]; exact hn _ _ _ e, hu w _ _ ρ' Q s rs e k⟩
  · cases e
end
section
variable {X : Cx} {W : WX} {e tg : Expr} {es : List Expr} {f : DEx} {g : DGx} {h : List D → En → Option En} {pos : Pos}
theorem dg_name {i : Nat} {x : Str} (hN : X.N.Nodup) (hi : X.N[i]? = some x) (hx : Loc X.env.scope x) (hf : X.fn x = true ∨ X.env.scope.names.lookup x = some .local := by first | exact .inl rfl | exact .inr rfl | assumption) : DG X (.Name x pos) [i] (gN i) := ⟨_, pg_name hN hi hx hf, refG_name i⟩
@[simp] def setD (f : DEx) (g : DGx) : DSx := thenF f fun d ρ st => match g d ρ with
  | some ρ => .nx ρ st
  | none => .bad
theorem refS_set {K : PySem.W.Frag} {mg : Str → Option Value} {t : TE} {u : TG} {is : List Nat} (ht : RefE K mg W t f) (hu : RefG K mg is u g) : RefS K mg W (tAsg t u) (setD f g) := fun w E s q =>
  ht.bindF s q fun w1 v d s1 e1 a1 r1 q1 => by
    show u v w.σ w1.H E.nx
    cases z : g d w1.ρ with
    | none => simp only [z] at q1; exact q1.elim
    | some ρ' =>
      simp only [z] at q1
      rw [← e1]
      exact hu w1 v d ρ' _ s1 r1 z fun σ' _ A => q1 { w1 with ρ := ρ', σ := σ' } rfl rfl A
theorem ds_asg {is : List Nat} (he : DE X W e f) (hg : DG X tg is g) (hs : swapsWithSole [tg] e pos.line X.env = pure false := by rfl) (hw : swappedStores [tg] e X.env = pure none := by rfl) (h1 : (assignEach [tg] X.env).map (·.2) = [assign tg X.env] := by rfl) : DS X W (.Assign [tg] e pos) (setD f g) :=
  let ⟨_, p, r⟩ := he; let ⟨_, p', r'⟩ := hg; ⟨_, ps_asg p p' hs hw h1, refS_set r r'⟩
theorem ds_set {i : Nat} {x : Str} {pos' : Pos} (hN : X.N.Nodup) (hi : X.N[i]? = some x) (hx : Loc X.env.scope x) (he : DE X W e f) (hs : swapsWith e (some (.Name x pos')) pos.line X.env = pure false := by rfl) (hf : X.fn x = true ∨ X.env.scope.names.lookup x = some .local := by first | exact .inl rfl | exact .inr rfl | assumption) :
    DS X W (.Assign [.Name x pos'] e pos) (setD f (gN i)) := let ⟨_, p, r⟩ := he; ⟨_, ps_set hN hi hx p hs hf, refS_set r (refG_name i)⟩
end
theorem gsNil_len (ds : List D) (ρ ρ' : En) (h : gsNil ds ρ = some ρ') : ds.length = 0 := by
  cases ds with
  | nil => rfl
  | cons d ds => cases h
theorem gsCons_len {g : DGx} {h : List D → En → Option En} {n : Nat} (hn : ∀ ds ρ ρ', h ds ρ = some ρ' → ds.length = n) (ds : List D) (ρ ρ' : En) (e : gsCons g h ds ρ = some ρ') : ds.length = n + 1 := by
  unfold gsCons at e
  split at e
  · split at e
    · simp [hn _ _ _ e]
    · cases e
  · cases e
/-- targets of a tuple, so many -/
def DGn (X : Cx) (es : List Expr) (is : List Nat) (h : List D → En → Option En) : Prop := DGs X es is h ∧ ∀ ds ρ ρ', h ds ρ = some ρ' → ds.length = es.length
section
variable {X : Cx} {W : WX} {e tg iter c : Expr} {es : List Expr} {f : DEx} {g : DGx} {h : List D → En → Option En} {pos : Pos}
theorem dgs_nil : DGn X [] [] gsNil := ⟨⟨_, pgs_nil, refGs_nil⟩, gsNil_len⟩
theorem dgs_cons {is js : List Nat} (h1 : DG X e is g) (h2 : DGn X es js h) (hs : (assignEach (e :: es) X.env).map (·.2) = assign e X.env :: (assignEach es X.env).map (·.2) := by rfl) : DGn X (e :: es) (is ++ js) (gsCons g h) :=
  let ⟨_, p, r⟩ := h1; let ⟨⟨_, p', r'⟩, l⟩ := h2; ⟨⟨_, pgs_cons p p' hs, refGs_cons r r'⟩, gsCons_len l⟩
theorem dg_tup {is : List Nat} {k : Nat} (hc : X.calm = true) (h1 : DGn X es is h) (hn : (assignEach es X.env).length = es.length := by rfl) (hst : (assignEach es X.env).findIdx? (·.1) = none := by rfl) : DG X (.Tuple es k pos) is (gT h) :=
  let ⟨⟨_, p, r⟩, l⟩ := h1; ⟨_, pg_tup hc p hn hst, refG_tup l r⟩
end
/-! ### loops -/
def forD (g : DGx) (b : DSx) : List D → DSx
  | [] => fun ρ st => .nx ρ st
  | d :: ds => fun ρ st => match g d ρ with
    | none => .bad
    | some ρ => match b ρ st with
      | .nx ρ st => forD g b ds ρ st
      | .ct ρ st => forD g b ds ρ st
      | .bk ρ st => .nx ρ st
      | r => r
@[simp] def forE (f : DEx) (g : DGx) (b : DSx) : DSx := thenF f fun d ρ st => match d with
  | .lst ds => forD g b ds ρ st
  | _ => .bad
/-- an iterator over data: each turn gives the next -/
def IterOk (K : PySem.W.Frag) (mg : Str → Option Value) (w : Ws) (J : It) (ds : List D) : Prop := ∃ (Gd : Hp → Prop) (Y : Nat → Hp → V → Hp → Prop), Walk J ds.length Gd Y ∧ (∀ w2, Aft K mg w w2 → Gd w2.H) ∧
  ∀ (i : Nat) (w2 : Ws) (x : V) (H' : Hp) (d : D), ds[i]? = some d → Aft K mg w w2 → Y i w2.H x H' → ∃ G', Aft K mg w2 { w2 with G := G', H := H' } ∧ Rep K mg G' w2.ι x d
def OkI (K : PySem.W.Frag) (mg : Str → Option Value) (W : WX) (w : Ws) (Q : It → Hp → Prop) : R → Prop
  | .ok (.lst ds) ρ st => ∀ (w' : Ws) (J : It), w'.ρ = ρ → w'.st = st → w'.σ = w.σ → Aft K mg w w' → IterOk K mg w' J ds → Q J w'.H
  | .ok _ _ _ => False
  | .exc c ρ st => ∀ (w' : Ws) (cls : Value) (dx : Option Addr), w'.ρ = ρ → w'.st = st → w'.σ = w.σ → Aft K mg w w' → ExcAt K mg w' c cls dx → W cls dx w'.σ w'.H
  | .bad => False
def RefI (K : PySem.W.Frag) (mg : Str → Option Value) (W : WX) (t : TI) (f : DEx) : Prop :=
  ∀ (w : Ws) (Q : It → Hp → Prop), Sts K mg w → OkI K mg W w Q (f w.ρ w.st) → t w.σ w.H Q
def DI (X : Cx) (W : WX) (tg iter : Expr) (f : DEx) : Prop := ∃ t, PI X tg iter t ∧ RefI X.K X.mg W t f
section
variable {K : PySem.W.Frag} {mg : Str → Option Value} {W : WX}
theorem RefI.bindF {t : TI} {f : DEx} (h : RefI K mg W t f) {w : Ws} {E : Ends} {Q1 : It → Hp → Prop} {r : D → En → Store → Fl} (s : Sts K mg w) (hd : ∀ d ρ st, (∀ b, d ≠ .lst b) → r d ρ st = .bad)
    (hP : OkF K mg W w E (match f w.ρ w.st with | .ok d ρ st => r d ρ st | .exc c ρ st => .exc c ρ st | .bad => .bad))
    (k : ∀ (w1 : Ws) (J : It) (ds : List D), Sts K mg w1 → w1.σ = w.σ → Aft K mg w w1 → IterOk K mg w1 J ds → OkF K mg W w1 E (r (.lst ds) w1.ρ w1.st) → Q1 J w1.H) : t w.σ w.H Q1 := by
  refine h w Q1 s ?_
  cases e : f w.ρ w.st with
  | ok d ρ st =>
    rw [e] at hP
    cases d with
    | lst b =>
      intro w' J h1 h2 h3 h4 h5
      subst h1; subst h2
      exact k w' J b h4.s h3 h4 h5 (OkF.aft hP h4)
    | _ =>
      simp only at hP
      rw [hd _ ρ st (by intro b q; cases q)] at hP
      exact hP.elim
  | exc c ρ st =>
    rw [e] at hP
    exact fun w' cls dx h1 h2 _ h4 h5 => hP w' cls dx h1 h2 h4 h5
  | bad => rw [e] at hP; exact hP
theorem refS_for {wi : TI} {u : TG} {tb : TS} {f : DEx} {g : DGx} {b : DSx} {is : List Nat} (hi : RefI K mg W wi f) (hg : RefG K mg is u g) (hb : RefS K mg W tb b) : RefS K mg W (tFor wi u tb) (forE f g b) := fun w E s q => by
  refine hi.bindF s (fun d ρ st n => by cases d <;> first | rfl | exact absurd rfl (n _)) q fun w1 J ds s1 e1 a1 it q1 => ?_
  obtain ⟨Gd, Y, wk, hG, hY⟩ := it
  refine for_it wk (fun i σ H => ∃ w2, Aft K mg w1 w2 ∧ σ = w2.σ ∧ H = w2.H ∧ OkF K mg W w2 E (forD g b (ds.drop i) w2.ρ w2.st)) ⟨w1, Aft.refl s1, e1.symm, rfl, q1⟩ ?_ ?_ ?_
  · rintro i σ H _ ⟨w2, A, rfl, rfl, _⟩
    exact hG w2 A
  · rintro i x σ H H' hl ⟨w2, A, rfl, rfl, q2⟩ y
    have hd : ds[i]? = some ds[i] := List.getElem?_eq_getElem hl
    obtain ⟨G', A3, r3⟩ := hY i w2 x H' _ hd A y
    have ed : ds.drop i = ds[i] :: ds.drop (i + 1) := List.drop_eq_getElem_cons hl
    rw [ed] at q2
    unfold forD at q2
    cases z : g ds[i] w2.ρ with
    | none => simp only [z] at q2; exact q2.elim
    | some ρ' =>
      simp only [z] at q2
      refine hg { w2 with G := G', H := H' } x _ ρ' _ A3.s r3 z fun σ' _ A4 => ?_
      have A5 := A3.trans A4
      refine hb { w2 with ρ := ρ', σ := σ', G := G', H := H' } _ A5.s ?_
      show OkF K mg W _ _ (b ρ' w2.st)
      cases e : b ρ' w2.st with
      | nx ρ2 st2 =>
        rw [e] at q2
        intro w6 h1 h2 A6
        subst h1; subst h2
        exact ⟨w6, A.trans (A5.trans A6), rfl, rfl, OkF.aft q2 (A5.trans A6)⟩
      | ct ρ2 st2 =>
        rw [e] at q2
        intro w6 h1 h2 A6
        subst h1; subst h2
        exact ⟨w6, A.trans (A5.trans A6), rfl, rfl, OkF.aft q2 (A5.trans A6)⟩
      | bk ρ2 st2 =>
        rw [e] at q2
        intro w6 h1 h2 A6
        exact q2 w6 h1 h2 (A5.trans A6)
      | rt d ρ2 st2 =>
        rw [e] at q2
        intro w6 v h1 h2 A6 r6
        exact q2 w6 v h1 h2 (A5.trans A6) r6
      | exc c ρ2 st2 =>
        rw [e] at q2
        intro w6 cls dx h1 h2 A6 r6
        exact q2 w6 cls dx h1 h2 (A5.trans A6) r6
      | bad => rw [e] at q2; exact q2.elim
  · rintro σ H ⟨w2, A, rfl, rfl, q2⟩
    rw [List.drop_length] at q2
    exact q2 w2 rfl rfl (Aft.refl A.s)
end
section
variable {X : Cx} {W : WX} {tg iter c : Expr} {body : List Stmt} {f : DEx} {g : DGx} {b : DSx} {pos : Pos}
theorem ds_for (hp : PassesOwn (model X.prog X.w) X.A X.env X.xe) (hc : X.calm = true) {is : List Nat} (hi : DI X W tg iter f) (hg : DG X tg is g) (hb : DSs X W body b) (hs : ∀ x, foldedSetIterable iter X.env x = pure x := by intro _; rfl) :
    DS X W (.For tg iter body [] pos) (forE f g b) := let ⟨_, p, r⟩ := hi; let ⟨_, p1, r1⟩ := hg; let ⟨_, p2, r2⟩ := hb; ⟨_, ps_for hp hc p p1 p2 hs, refS_for r r1 r2⟩
end
/-! ### while -/
def runW (c : DEx) (b : DSx) : Nat → DSx
  | 0 => fun _ _ => .bad
  | n + 1 => fun ρ st => match c ρ st with
    | .ok (.bl true) ρ st => (match b ρ st with
      | .nx ρ st => runW c b n ρ st
      | .ct ρ st => runW c b n ρ st
      | .bk ρ st => .nx ρ st
      | r => r)
    | .ok (.bl false) ρ st => .nx ρ st
    | .ok _ _ _ => .bad
    | .exc x ρ st => .exc x ρ st
    | .bad => .bad
open Classical in
noncomputable def whileD (c : DEx) (b : DSx) : DSx := fun ρ st => if h : ∃ n, runW c b n ρ st ≠ .bad then runW c b (choose h) ρ st else .bad
section
variable {K : PySem.W.Frag} {mg : Str → Option Value} {W : WX}
theorem refS_while {tc : TT} {tb : TS} {c : DEx} {b : DSx} (hc : RefT K mg W tc c) (hb : RefS K mg W tb b) : RefS K mg W (tWhile tc tb) (whileD c b) := fun w E s q => by
  have : ∃ n, OkF K mg W w E (runW c b n w.ρ w.st) := by
    unfold whileD at q
    split at q
    · exact ⟨_, q⟩
    · exact q.elim
  obtain ⟨n, q⟩ := this
  refine ⟨fun m σ H => ∃ w2, Aft K mg w w2 ∧ σ = w2.σ ∧ H = w2.H ∧ OkF K mg W w2 E (runW c b m w2.ρ w2.st), ⟨n, w, Aft.refl s, rfl, rfl, q⟩, ?_⟩
  rintro m σ H ⟨w2, A, rfl, rfl, q2⟩
  cases m with
  | zero => exact q2.elim
  | succ m =>
    unfold runW at q2
    refine hc w2 _ A.s ?_
    cases e : c w2.ρ w2.st with
    | ok d ρ st =>
      rw [e] at q2
      cases d with
      | bl t =>
        intro w3 h1 h2 h3 A3
        subst h1; subst h2
        cases t with
        | false =>
          refine iteF ?_
          have := q2 w3 rfl rfl A3
          rw [h3] at this; exact this
        | true =>
          refine iteT ⟨fun σ' H' => ∃ w4, Aft K mg w w4 ∧ σ' = w4.σ ∧ H' = w4.H ∧ OkF K mg W w4 E (runW c b m w4.ρ w4.st), fun σ' H' h => ⟨m, Nat.lt_succ_self m, h⟩, ?_⟩
          rw [← h3]
          refine hb w3 _ A3.s ?_
          simp only at q2
          cases e4 : b w3.ρ w3.st with
          | nx ρ4 st4 =>
            rw [e4] at q2
            intro w4 h1 h2 A4
            subst h1; subst h2
            exact ⟨w4, A.trans (A3.trans A4), rfl, rfl, OkF.aft q2 (A3.trans A4)⟩
          | ct ρ4 st4 =>
            rw [e4] at q2
            intro w4 h1 h2 A4
            subst h1; subst h2
            exact ⟨w4, A.trans (A3.trans A4), rfl, rfl, OkF.aft q2 (A3.trans A4)⟩
          | bk ρ4 st4 =>
            rw [e4] at q2
            intro w4 h1 h2 A4
            exact q2 w4 h1 h2 (A3.trans A4)
          | rt d ρ4 st4 =>
            rw [e4] at q2
            intro w4 v h1 h2 A4 r4
            exact q2 w4 v h1 h2 (A3.trans A4) r4
          | exc x ρ4 st4 =>
            rw [e4] at q2
            intro w4 cls dx h1 h2 A4 r4
            exact q2 w4 cls dx h1 h2 (A3.trans A4) r4
          | bad => rw [e4] at q2; exact q2.elim
      | _ => exact q2.elim
    | exc x ρ st =>
      rw [e] at q2
      exact fun w' cls dx h1 h2 _ h4 h5 => q2 w' cls dx h1 h2 h4 h5
    | bad => rw [e] at q2; exact q2
end
/-- more turns allowed, the same end -/
theorem runW_more {c : DEx} {b : DSx} : ∀ {n : Nat} {ρ : En} {st : Store}, runW c b n ρ st ≠ .bad → ∀ m, n ≤ m → runW c b m ρ st = runW c b n ρ st
  | 0, _, _, h, _, _ => absurd rfl h
  | n + 1, ρ, st, h, 0, hm => absurd hm (by omega)
  | n + 1, ρ, st, h, m + 1, hm => by
    unfold runW at h ⊢
    cases e : c ρ st with
    | ok d ρ' st' =>
      rw [e] at h
      cases d with
      | bl t =>
        cases t with
        | true =>
          simp only at h ⊢
          cases e4 : b ρ' st' with
          | nx ρ4 st4 => rw [e4] at h; exact runW_more h m (by omega)
          | ct ρ4 st4 => rw [e4] at h; exact runW_more h m (by omega)
          | bk ρ4 st4 => rfl
          | rt d ρ4 st4 => rfl
          | exc x ρ4 st4 => rfl
          | bad => rfl
        | false => rfl
      | _ => rfl
    | exc x ρ' st' => rfl
    | bad => rfl
theorem whileD_of {c : DEx} {b : DSx} {n : Nat} {ρ : En} {st : Store} {r : Fl} (h : runW c b n ρ st = r) (hr : r ≠ .bad) : whileD c b ρ st = r := by
  have hx : ∃ n, runW c b n ρ st ≠ .bad := ⟨n, by rw [h]; exact hr⟩
  unfold whileD
  rw [dif_pos hx]
  have h1 := Classical.choose_spec hx
  by_cases q : Classical.choose hx ≤ n
  · rw [← runW_more h1 n q, h]
  · rw [runW_more (by rw [h]; exact hr) _ (by omega : n ≤ Classical.choose hx), h]
section
variable {X : Cx} {W : WX} {c : Expr} {body : List Stmt} {f : DEx} {b : DSx} {pos : Pos}
theorem ds_while (hp : PassesOwn (model X.prog X.w) X.A X.env X.xe) (hc : DT X W c f) (hb : DSs X W body b) : DS X W (.While c body [] pos) (whileD f b) :=
  let ⟨_, p, r⟩ := hc; let ⟨_, p2, r2⟩ := hb; ⟨_, ps_while hp p p2, refS_while r r2⟩
end
end DL
namespace DL
open PySem L2
/-! ### canonical readings: one for every context -/
def tOf (K : PySem.W.Frag) (mg : Str → Option Value) (W : WX) (f : DEx) : TE := fun σ H Q => ∃ w, w.σ = σ ∧ w.H = H ∧ Sts K mg w ∧ OkR K mg W w Q (f w.ρ w.st)
def ttOf (K : PySem.W.Frag) (mg : Str → Option Value) (W : WX) (f : DEx) : TT := fun σ H Q => ∃ w, w.σ = σ ∧ w.H = H ∧ Sts K mg w ∧ OkT K mg W w Q (f w.ρ w.st)
def gOf (K : PySem.W.Frag) (mg : Str → Option Value) (is : List Nat) (g : DGx) : TG := fun v σ H Q => ∃ w d ρ', w.σ = σ ∧ w.H = H ∧ Sts K mg w ∧ Rep K mg w.G w.ι v d ∧ g d w.ρ = some ρ' ∧
  ∀ σ', (∀ us : List Nat, (∀ i ∈ is, i ∈ us) → wipe σ' us = wipe w.σ us) → Aft K mg w { w with ρ := ρ', σ := σ' } → Q σ' w.H
section
variable {X : Cx} {W : WX} {e : Expr} {f : DEx} {g : DGx} {is : List Nat}
theorem DE.pe (h : DE X W e f) : PE X e (tOf X.K X.mg W f) := by
  obtain ⟨t, p, r⟩ := h
  refine ⟨fun pins s σ H Q I q => ?_⟩
  obtain ⟨w, rfl, rfl, sw, ok⟩ := q
  exact p.run pins s _ _ Q I (r w Q sw ok)
theorem DT.pt (h : DT X W e f) : PT X e (ttOf X.K X.mg W f) := by
  obtain ⟨t, p, r⟩ := h
  refine ⟨fun pins s σ H Q I q => ?_⟩
  obtain ⟨w, rfl, rfl, sw, ok⟩ := q
  exact p.run pins s _ _ Q I (r w Q sw ok)
theorem DG.pg (h : DG X e is g) : PG X e (gOf X.K X.mg is g) := by
  obtain ⟨t, p, r⟩ := h
  refine ⟨fun pins s σ H v u Q I rv q => ?_⟩
  obtain ⟨w, d, ρ', rfl, rfl, sw, rp, eg, ok⟩ := q
  exact p.run pins s _ _ v u Q I rv (r w v d ρ' Q sw rp eg ok)
end
def WF : WX := fun _ _ _ _ => False
/-- tests of a clause, one after another -/
def DTs (X : Cx) (ifs : List Expr) (f : DEx) : Prop := ∃ t, PTs X ifs t ∧ RefT X.K X.mg WF t f
theorem DTs.pts {X : Cx} {ifs : List Expr} {f : DEx} (h : DTs X ifs f) : PTs X ifs (ttOf X.K X.mg WF f) := by
  obtain ⟨t, p, r⟩ := h
  refine ⟨fun pins s σ H Q I q => ?_⟩
  obtain ⟨w, rfl, rfl, sw, ok⟩ := q
  exact p.run pins s _ _ Q I (r w Q sw ok)
def yesD : DEx := fun ρ st => .ok (.bl true) ρ st
@[simp] theorem yesD_s (ρ : En) (st : Store) : yesD ρ st = .ok (.bl true) ρ st := rfl
theorem dts_nil {X : Cx} : DTs X [] yesD := ⟨_, pts_nil, fun w Q s q => q w rfl rfl rfl (Aft.refl s)⟩
theorem dts_one {X : Cx} {c : Expr} {f : DEx} (h : DT X WF c f) : DTs X [c] f := let ⟨_, p, r⟩ := h; ⟨_, pts_one p, r⟩

/-! ### list comprehensions -/
@[simp] def wipeR (ρ : En) : List Nat → En
  | [] => ρ
  | v :: vs => (wipeR ρ vs).set v .no
def lcGo (g : DGx) (c f : DEx) (vs : List Nat) : List D → List D → En → Store → R
  | [], acc => fun ρ st => .ok (.lst acc) ρ st
  | d :: ds, acc => fun ρ st => match g d ρ with
    | none => .bad
    | some ρ => match c ρ st with
      | .ok (.bl true) ρ st => (match f ρ st with
        | .ok y ρ st => lcGo g c f vs ds (acc ++ [y]) (wipeR ρ vs) st
        | _ => .bad)
      | .ok (.bl false) ρ st => lcGo g c f vs ds acc (wipeR ρ vs) st
      | _ => .bad
@[simp] def lcD (fi : DEx) (g : DGx) (c f : DEx) (vs : List Nat) : DEx := fun ρ st => (fi ρ st).bind fun d ρ st => match d with
  | .lst ds => if ds.length ≤ sizeLine then lcGo g c f vs ds [] (wipeR ρ vs) st else .bad
  | _ => .bad
section
variable {K : PySem.W.Frag} {mg : Str → Option Value} {W : WX}
theorem Aft.wiped {w : Ws} (s : Sts K mg w) : ∀ vs : List Nat, Aft K mg w { w with ρ := wipeR w.ρ vs, σ := wipe w.σ vs }
  | [] => Aft.refl s
  | v :: vs => (Aft.wiped s vs).trans (Aft.setNo (i := v) (x := none) (Aft.wiped s vs).s)
theorem wipeR_get (ρ : En) {i : Nat} {s : Sl} : ∀ {vs : List Nat}, (wipeR ρ vs)[i]? = some s → s ≠ .no → i ∉ vs ∧ ρ[i]? = some s
  | [], h, _ => ⟨by simp, h⟩
  | v :: vs, h, n => by
    have h' : ((wipeR ρ vs).set v .no)[i]? = some s := h
    rcases getElem?_set_ite h' with ⟨_, e, _⟩ | ⟨ne, e⟩
    · exact absurd e n
    · obtain ⟨h1, h2⟩ := wipeR_get ρ e n
      exact ⟨by simp [ne, h1], h2⟩
theorem wipe_get_ne (σ : L2.St) {i : Nat} : ∀ {vs : List Nat}, i ∉ vs → (wipe σ vs)[i]? = σ[i]?
  | [], _ => rfl
  | v :: vs, h => by
    show ((wipe σ vs).set v none)[i]? = σ[i]?
    rw [List.getElem?_set_ne (fun e => h (by simp [e])), wipe_get_ne σ (fun q => h (by simp [q]))]
theorem wipeR_length (ρ : En) : ∀ vs : List Nat, (wipeR ρ vs).length = ρ.length
  | [] => rfl
  | v :: vs => by show ((wipeR ρ vs).set v .no).length = _; rw [List.length_set, wipeR_length ρ vs]
/-- back to the slots as they were ahead of the block -/
theorem Aft.unwipe {w0 w : Ws} {σ : L2.St} {ρ : En} {vs : List Nat} (A : Aft K mg w0 w) (h : w.σ = wipe σ vs) (hρ : w.ρ = wipeR ρ vs) : Aft K mg w0 { w with σ := σ } := by
  have sl : ∀ (i : Nat) s, w.ρ[i]? = some s → s ≠ .no → w.σ[i]? = σ[i]? := fun i s e n => by
    rw [hρ] at e
    rw [h, wipe_get_ne σ (wipeR_get ρ e n).1]
  have ow : ∀ i a, OwnS { w with σ := σ } i a → OwnS w i a := fun i a ⟨ds, h1, h2⟩ => ⟨ds, h1, by rw [sl i _ h1 (by simp)]; exact h2⟩
  have s := A.s
  refine ⟨⟨s.sub, by
      have := s.ln
      rw [h, wipe_length] at this
      exact this, s.len, s.cel, s.inj, fun i x e => ?_, fun i l a h1 h2 => s.sep i l a (ow i a h1) h2, fun i j a h1 h2 => s.dis i j a (ow i a h1) (ow j a h2)⟩, A.g, A.i, A.kp, fun a q => A.nw a ?_, A.gn, A.al⟩
  · have h1 := s.slo i x e
    cases x with
    | no => trivial
    | val d => rw [sl i _ e (by simp)] at h1; exact h1
    | ml ds => rw [sl i _ e (by simp)] at h1; exact h1
  · rcases q with q | ⟨i, q⟩
    · exact .inl q
    · exact .inr ⟨i, ow i a q⟩
/-- a loose list grows -/
theorem Aft.looseUpd {w0 w : Ws} (A : Aft K mg w0 w) {D : Addr} {o : HO} (hf : w0.H D = none) (hl : Loose w D) : Aft K mg w0 { w with H := upd w.H D o } where
  s := A.s.heap (G' := w.G) (H' := upd w.H D o) (Same.refl _) (fun b u e => by rw [upd_ne (fun q => by rw [q, hl.1] at e; cases e)]; exact A.s.sub _ _ e) fun a m => ⟨A.s.mtG m, fun u e => by rw [upd_ne (fun q : a = D => hl.2 (q ▸ m))]; exact e⟩
  g := A.g
  i := A.i
  kp := fun a u h n => by
    show upd w.H D o a = some u
    rw [upd_ne (fun q => by rw [q, hf] at h; cases h)]
    exact A.kp a u h n
  nw := A.nw
  gn := A.gn
  al := fun a h => by
    have h' : upd w.H D o a = none := h
    by_cases e : a = D
    · rw [e]; exact hf
    · rw [upd_ne e] at h'; exact A.al a h'
/-- what is loose stays loose -/
theorem Aft.still {w w' : Ws} (A : Aft K mg w w') {D : Addr} {o : HO} (hl : Loose w D) (h : w.H D = some o) : Loose w' D ∧ w'.H D = some o := by
  refine ⟨⟨?_, fun m => ?_⟩, A.kp D o h hl.2⟩
  · cases e : w'.G D with
    | none => rfl
    | some u =>
      rcases A.gn D (by rw [e]; simp) with q | q | q
      · exact absurd hl.1 q
      · exact absurd q hl.2
      · rw [h] at q; cases q
  · rcases A.nw D m with q | q
    · exact hl.2 q
    · rw [h] at q; cases q
theorem lcGo_isL {g : DGx} {c f : DEx} {vs : List Nat} : ∀ (ds acc : List D) (ρ : En) (st : Store) (d : D) (ρ' : En) (st' : Store), lcGo g c f vs ds acc ρ st = .ok d ρ' st' → ∃ es, d = .lst es
  | [], acc, ρ, st, d, ρ', st', h => by cases h; exact ⟨acc, rfl⟩
  | x :: ds, acc, ρ, st, d, ρ', st', h => by
    unfold lcGo at h
    split at h
    · cases h
    · split at h
      · split at h
        · exact lcGo_isL ds _ _ _ _ _ _ h
        · cases h
      · exact lcGo_isL ds _ _ _ _ _ _ h
      · cases h
theorem lcD_isL {fi : DEx} {g : DGx} {c f : DEx} {vs : List Nat} : IsL (lcD fi g c f vs) := fun ρ st d ρ' st' h => by
  unfold lcD at h
  cases e : fi ρ st with
  | ok d1 ρ1 st1 =>
    rw [e] at h
    simp only [R.bind] at h
    split at h
    · split at h
      · exact lcGo_isL _ _ _ _ _ _ _ h
      · cases h
    · cases h
  | exc x ρ1 st1 => rw [e] at h; cases h
  | bad => rw [e] at h; cases h
theorem RefI.bindO {t : TI} {f : DEx} (h : RefI K mg W t f) {w : Ws} {Q : VK} {Q1 : It → Hp → Prop} {r : D → En → Store → R} (s : Sts K mg w) (hd : ∀ d ρ st, (∀ b, d ≠ .lst b) → r d ρ st = .bad)
    (hP : OkO K mg W w Q ((f w.ρ w.st).bind r))
    (k : ∀ (w1 : Ws) (J : It) (ds : List D), w1.σ = w.σ → Aft K mg w w1 → IterOk K mg w1 J ds → OkO K mg W w Q (r (.lst ds) w1.ρ w1.st) → Q1 J w1.H) : t w.σ w.H Q1 := by
  refine h w Q1 s ?_
  cases e : f w.ρ w.st with
  | ok d ρ st =>
    rw [e] at hP
    cases d with
    | lst b =>
      intro w' J h1 h2 h3 h4 h5
      subst h1; subst h2
      exact k w' J b h3 h4 h5 hP
    | _ =>
      simp only [R.bind] at hP
      rw [hd _ ρ st (by intro b q; cases q)] at hP
      exact hP.elim
  | exc c ρ st =>
    rw [e] at hP
    exact hP
  | bad => rw [e] at hP; exact hP
theorem refO_lc {wi : TI} {is vs : List Nat} {fi : DEx} {g : DGx} {c f : DEx} (hi : RefI K mg W wi fi) (hsub : ∀ i ∈ is, i ∈ vs) :
    RefO K mg W (tLc wi (gOf K mg is g) (ttOf K mg WF c) (tOf K mg WF f) vs) (lcD fi g c f vs) := fun w Q s q => by
  refine hi.bindO s (fun d ρ st n => by cases d <;> first | rfl | exact absurd rfl (n _)) q fun w1 J ds e1 a1 it q1 => ?_
  have hz : ds.length ≤ sizeLine := by
    by_cases h : ds.length ≤ sizeLine
    · exact h
    · simp only [if_neg h] at q1; exact q1.elim
  simp only [if_pos hz] at q1
  obtain ⟨Gd, Y, wk, hG, hY⟩ := it
  intro D hD
  have fr : w.H D = none := a1.al D hD
  have A0 := Aft.loose (o := .lst []) a1.s hD
  have L0 := a1.s.looseAt (o := .lst []) hD
  refine lc_it wk (fun i H => ∃ (w2 : Ws) (ρ2 : En) (av : List V) (ad : List DL.D), Aft K mg w1 w2 ∧ w2.σ = wipe w.σ vs ∧ w2.ρ = wipeR ρ2 vs ∧ w2.H = H ∧ Loose w2 D ∧ w2.H D = some (.lst av) ∧ Reps K mg w2.G w2.ι av ad ∧ av.length ≤ i ∧
    OkO K mg W w Q (lcGo g c f vs (ds.drop i) ad w2.ρ w2.st)) ?_ ?_ ?_ ?_
  · have A1 := Aft.wiped A0.s vs
    refine ⟨{ w1 with H := upd w1.H D (.lst []), ρ := wipeR w1.ρ vs, σ := wipe w1.σ vs }, w1.ρ, [], [], A0.trans A1, by rw [← e1], rfl, rfl, (A1.still L0 upd_same).1, upd_same, .nil, Nat.le_refl _, q1⟩
  · rintro i H _ ⟨w2, _, _, _, A, _, _, rfl, _⟩
    exact hG w2 A
  · rintro i x H H' hl ⟨w2, ρ2, av, ad, A, hσ, hρ, rfl, hL, hav, hr, hle, q2⟩ y
    have hd : ds[i]? = some ds[i] := List.getElem?_eq_getElem hl
    obtain ⟨G', A3, r3⟩ := hY i w2 x H' _ hd A y
    have ed : ds.drop i = ds[i] :: ds.drop (i + 1) := List.drop_eq_getElem_cons hl
    rw [ed] at q2
    unfold lcGo at q2
    cases z : g ds[i] w2.ρ with
    | none => simp only [z] at q2; exact q2.elim
    | some ρ' =>
      simp only [z] at q2
      refine ⟨{ w2 with G := G', H := H' }, ds[i], ρ', hσ, rfl, A3.s, r3, z, fun σ' hw A4 => ⟨?_, ?_⟩⟩
      · have := hw vs hsub
        have e : ({ w2 with G := G', H := H' } : Ws).σ = wipe w.σ vs := hσ
        rw [this, e]
        have idem : ∀ (σ : L2.St) (us : List Nat), wipe (wipe σ us) us = wipe σ us := by
          intro σ us
          have : ∀ us' : List Nat, (∀ i ∈ us', i ∈ us) → wipe (wipe σ us') us = wipe σ us := by
            intro us'
            induction us' with
            | nil => intro _; rfl
            | cons v us' ih =>
              intro hh
              show wipe ((wipe σ us').set v none) us = _
              rw [wipe_set (hh v (by simp)), ih fun i hi => hh i (by simp [hi])]
          exact this us fun _ h => h
        exact idem _ _
      · have A5 := A3.trans A4
        have A15 := A.trans A5
        refine ⟨{ w2 with ρ := ρ', σ := σ', G := G', H := H' }, rfl, rfl, A5.s, ?_⟩
        have hwσ : wipe σ' vs = wipe w.σ vs := by
          have := hw vs hsub
          have e : ({ w2 with G := G', H := H' } : Ws).σ = wipe w.σ vs := hσ
          rw [this, e]
          have idem : ∀ (σ : L2.St) (us us' : List Nat), (∀ i ∈ us', i ∈ us) → wipe (wipe σ us') us = wipe σ us := by
            intro σ us us'
            induction us' with
            | nil => intro _; rfl
            | cons v us' ih =>
              intro hh
              show wipe ((wipe σ us').set v none) us = _
              rw [wipe_set (hh v (by simp)), ih fun i hi => hh i (by simp [hi])]
          exact idem _ _ _ fun _ h => h
        obtain ⟨L5, h5⟩ := A5.still hL hav
        show OkT K mg WF _ _ (c ρ' w2.st)
        cases ec : c ρ' w2.st with
        | ok d ρ6 st6 =>
          rw [ec] at q2
          cases d with
          | bl b =>
            intro w6 h1 h2 h3 A6
            subst h1; subst h2
            obtain ⟨L6, h6⟩ := A6.still L5 h5
            cases b with
            | false =>
              refine iteF ?_
              have A7 := Aft.wiped A6.s vs
              exact ⟨{ w6 with ρ := wipeR w6.ρ vs, σ := wipe w6.σ vs }, w6.ρ, av, ad, (A15.trans A6).trans A7, by rw [show w6.σ = σ' from h3]; exact hwσ, rfl, rfl, (A7.still L6 h6).1, h6, hr.mono (A5.g.trans A6.g) (A5.i.trans A6.i), Nat.le_succ_of_le hle, q2⟩
            | true =>
              refine iteT ?_
              refine ⟨w6, h3, rfl, A6.s, ?_⟩
              simp only at q2
              cases ef : f w6.ρ w6.st with
              | ok y' ρ8 st8 =>
                rw [ef] at q2
                intro w8 yv h1 h2 h3' A8 r8
                subst h1; subst h2
                obtain ⟨L8, h8⟩ := A8.still L6 h6
                refine ⟨av, h8, ?_, ?_⟩
                · have : i < ds.length := hl
                  omega
                · have A18 := A15.trans (A6.trans A8)
                  have A9 := A18.looseUpd (o := .lst (av ++ [yv])) hD L8
                  have L9 : Loose { w8 with H := upd w8.H D (.lst (av ++ [yv])) } D := L8
                  have A10 := Aft.wiped A9.s vs
                  refine ⟨{ w8 with H := upd w8.H D (.lst (av ++ [yv])), ρ := wipeR w8.ρ vs, σ := wipe w8.σ vs }, w8.ρ, av ++ [yv], ad ++ [y'], A9.trans A10, ?_, rfl, rfl, (A10.still L9 upd_same).1, upd_same, ?_, by simp; omega, q2⟩
                  · show wipe w8.σ vs = _
                    rw [h3', h3]; exact hwσ
                  · exact Reps.append (hr.mono (A5.g.trans (A6.g.trans A8.g)) (A5.i.trans (A6.i.trans A8.i))) (.cons r8 .nil)
              | exc x ρ8 st8 => rw [ef] at q2; exact q2.elim
              | bad => rw [ef] at q2; exact q2.elim
          | _ => exact q2.elim
        | exc x ρ6 st6 => rw [ec] at q2; exact q2.elim
        | bad => rw [ec] at q2; exact q2.elim
  · rintro H ⟨w2, ρ2, av, ad, A, hσ, hρ, rfl, hL, hav, hr, hle, q2⟩
    rw [List.drop_length] at q2
    have A2 := A.unwipe hσ hρ
    refine q2 { w2 with σ := w.σ } D av rfl rfl rfl (a1.trans A2) fr ?_ hav (by omega) hr
    refine ⟨hL.1, fun m => hL.2 ?_⟩
    rcases m with m | ⟨i, es, h1, h2⟩
    · exact .inl m
    · refine .inr ⟨i, es, h1, ?_⟩
      have h1' : w2.ρ[i]? = some (.ml es) := h1
      rw [hρ] at h1'
      rw [hσ, wipe_get_ne _ (wipeR_get ρ2 h1' (by simp)).1]
      exact h2
end
end DL
namespace DL
open PySem L2
/-! ### new lists: frozen, given to a slot, made a cell -/
section
variable {K : PySem.W.Frag} {mg : Str → Option Value} {W : WX}
theorem RefO.fz {t : TE} {f : DEx} (h : RefO K mg W t f) (hl : IsL f) : RefE K mg W t f := fun w Q s q => by
  refine h w Q s ?_
  cases e : f w.ρ w.st with
  | ok d ρ st =>
    rw [e] at q
    obtain ⟨ds, rfl⟩ := hl _ _ _ _ _ e
    intro w' a vs h1 h2 h3 A fr lo ha hz r
    have A' := A.freeze fr lo ha
    exact q { w' with G := upd w'.G a (.lst vs) } (.ref a) h1 h2 h3 A' (.lst upd_same hz (r.mono (same_upd lo.1) (LeI.refl _)))
  | exc c ρ st => rw [e] at q; exact q
  | bad => rw [e] at q; exact q
/-- a new list made behind an expression -/
theorem OkO.mk {w w1 : Ws} {Q : VK} {ds : List D} {vs : List V} {p : Addr} (A : Aft K mg w w1) (e1 : w1.σ = w.σ) (hp : w1.H p = none) (hz : vs.length ≤ sizeLine) (r : Reps K mg w1.G w1.ι vs ds)
    (q : OkO K mg W w Q (.ok (.lst ds) w1.ρ w1.st)) : Q (.ref p) (upd w1.H p (.lst vs)) :=
  q { w1 with H := upd w1.H p (.lst vs) } p vs rfl rfl e1 (A.trans (Aft.loose A.s hp)) (A.al p hp) (A.s.looseAt hp) upd_same hz r
end
@[simp] def lstD (f : DEx) : DEx := fun ρ st => (f ρ st).bind fun d ρ st => match d with
  | .tup ds => .ok (.lst ds) ρ st
  | _ => .bad
theorem lstD_isL {f : DEx} : IsL (lstD f) := fun ρ st d ρ' st' h => by
  unfold lstD at h
  cases e : f ρ st with
  | ok d1 ρ1 st1 =>
    rw [e] at h
    cases d1 <;> first | (cases h; done) | (cases h; exact ⟨_, rfl⟩)
  | exc c ρ1 st1 => rw [e] at h; cases h
  | bad => rw [e] at h; cases h
section
variable {X : Cx} {W : WX} {e a b : Expr} {es : List Expr} {f g : DEx} {pos : Pos}
theorem DO.fz (h : DO X W e f) : DE X W e f := let ⟨⟨t, p, r⟩, l⟩ := h; ⟨t, p, r.fz l⟩
theorem do_lst (ha : DAn X W es f) (hl : es.length ≤ sizeLine := by decide) : DO X W (.List es pos) (lstD f) := by
  obtain ⟨⟨t, pt, rt⟩, hn⟩ := ha
  refine ⟨⟨_, pe_lst pt, fun w Q s q => ?_⟩, lstD_isL⟩
  refine rt.bind (P := OkO X.K X.mg W w Q) s q (fun d ρ st n => by cases d <;> first | rfl | exact absurd rfl (n _)) (fun _ _ _ z => z) (fun z => z) fun w1 vs ds e1 a1 r1 ee q1 => ?_
  have l : vs.length ≤ sizeLine := by
    obtain ⟨ds', e', l⟩ := hn _ _ _ _ _ ee
    cases e'
    rw [r1.len, l]; exact hl
  exact ⟨l, fun p hp => OkO.mk a1 e1 hp l r1 q1⟩
/-- the slot alone holds the new list -/
@[simp] def setOD (f : DEx) (i : Nat) : DSx := thenF f fun d ρ st => match d with
  | .lst ds => .nx (ρ.set i (.ml ds)) st
  | _ => .bad
/-- a new cell, the slot refers to it -/
@[simp] def setCD (f : DEx) (i : Nat) : DSx := thenF f fun d ρ st => match d with
  | .lst ds => .nx (ρ.set i (.val (.ref st.length))) (st ++ [.lst ds])
  | _ => .bad
@[simp] def retCD (f : DEx) : DSx := thenF f fun d ρ st => match d with
  | .lst ds => .rt (.ref st.length) ρ (st ++ [.lst ds])
  | _ => .bad
theorem RefO.bindF {K : PySem.W.Frag} {mg : Str → Option Value} {t : TE} (h : RefO K mg W t f) (hl : IsL f) {w : Ws} {E : Ends} {Q1 : VK} {r : D → En → Store → Fl} (s : Sts K mg w)
    (hP : OkF K mg W w E (match f w.ρ w.st with | .ok d ρ st => r d ρ st | .exc c ρ st => .exc c ρ st | .bad => .bad))
    (k : ∀ (w1 : Ws) (a : Addr) (vs : List V) (ds : List D), w1.σ = w.σ → Aft K mg w w1 → w.H a = none → Loose w1 a → w1.H a = some (.lst vs) → vs.length ≤ sizeLine → Reps K mg w1.G w1.ι vs ds → OkF K mg W w E (r (.lst ds) w1.ρ w1.st) → Q1 (.ref a) w1.H) : t w.σ w.H Q1 := by
  refine h w Q1 s ?_
  cases e : f w.ρ w.st with
  | ok d ρ st =>
    rw [e] at hP
    obtain ⟨ds, rfl⟩ := hl _ _ _ _ _ e
    intro w' a vs h1 h2 h3 h4 h5 h6 h7 h8 h9
    subst h1; subst h2
    exact k w' a vs ds h3 h4 h5 h6 h7 h8 h9 hP
  | exc c ρ st =>
    rw [e] at hP
    exact fun w' cls dx h1 h2 _ h4 h5 => hP w' cls dx h1 h2 h4 h5
  | bad => rw [e] at hP; exact hP
theorem refS_setO {K : PySem.W.Frag} {mg : Str → Option Value} {t : TE} {i : Nat} (h : RefO K mg W t f) (hl : IsL f) : RefS K mg W (tAsg t (gName i)) (setOD f i) := fun w E s q =>
  h.bindF hl s q fun w1 a vs ds e1 A fr lo ha hz r q1 => by
    show E.nx (w.σ.set i (some (.ref a))) w1.H
    have := q1 { w1 with ρ := w1.ρ.set i (.ml ds), σ := w1.σ.set i (some (.ref a)) } rfl rfl (A.setMl fr lo ha hz r)
    rw [e1] at this; exact this
theorem cellRep {K : PySem.W.Frag} {mg : Str → Option Value} {w0 w1 : Ws} (A : Aft K mg w0 w1) {a : Addr} : Rep K mg w1.G (w1.ι ++ [a]) (.ref a) (.ref w1.st.length) := .ref (by rw [A.s.len]; simp)
theorem refS_setC {K : PySem.W.Frag} {mg : Str → Option Value} {t : TE} {i : Nat} (h : RefO K mg W t f) (hl : IsL f) : RefS K mg W (tAsg t (gName i)) (setCD f i) := fun w E s q =>
  h.bindF hl s q fun w1 a vs ds e1 A fr lo ha hz r q1 => by
    show E.nx (w.σ.set i (some (.ref a))) w1.H
    have A1 := A.newCell fr lo ha hz r
    have A2 := Aft.setVal A1.s (i := i) (v := .ref a) (d := .ref w1.st.length) (cellRep A)
    have := q1 _ rfl rfl (A1.trans A2)
    rw [← e1]; exact this
theorem refS_retC {K : PySem.W.Frag} {mg : Str → Option Value} {t : TE} (h : RefO K mg W t f) (hl : IsL f) : RefS K mg W (tRet t) (retCD f) := fun w E s q =>
  h.bindF hl s q fun w1 a vs ds e1 A fr lo ha hz r q1 => by
    have A1 := A.newCell fr lo ha hz r
    exact q1 { w1 with ι := w1.ι ++ [a], st := w1.st ++ [.lst ds] } (.ref a) rfl rfl A1 (cellRep A)
theorem ds_setO {i : Nat} {x : Str} {pos' : Pos} (hN : X.N.Nodup) (hi : X.N[i]? = some x) (hx : Loc X.env.scope x) (he : DO X W e f) (hs : swapsWith e (some (.Name x pos')) pos.line X.env = pure false := by rfl) (hf : X.fn x = true ∨ X.env.scope.names.lookup x = some .local := by first | exact .inl rfl | exact .inr rfl | assumption) :
    DS X W (.Assign [.Name x pos'] e pos) (setOD f i) := let ⟨⟨_, p, r⟩, l⟩ := he; ⟨_, ps_set hN hi hx p hs hf, refS_setO r l⟩
theorem ds_setC {i : Nat} {x : Str} {pos' : Pos} (hN : X.N.Nodup) (hi : X.N[i]? = some x) (hx : Loc X.env.scope x) (he : DO X W e f) (hs : swapsWith e (some (.Name x pos')) pos.line X.env = pure false := by rfl) (hf : X.fn x = true ∨ X.env.scope.names.lookup x = some .local := by first | exact .inl rfl | exact .inr rfl | assumption) :
    DS X W (.Assign [.Name x pos'] e pos) (setCD f i) := let ⟨⟨_, p, r⟩, l⟩ := he; ⟨_, ps_set hN hi hx p hs hf, refS_setC r l⟩
theorem ds_retC (he : DO X W e f) : DS X W (.Return (some e) pos) (retCD f) := let ⟨⟨_, p, r⟩, l⟩ := he; ⟨_, ps_ret p, refS_retC r l⟩
/-- return of a slot's own list: it is frozen -/
@[simp] def retMlD (i : Nat) : DSx := fun ρ st => match ρ[i]? with
  | some (.ml ds) => .rt (.lst ds) (ρ.set i .no) st
  | _ => .bad
/-- slot i's own list is frozen; its value is as it was -/
theorem Aft.fzMl {K : PySem.W.Frag} {mg : Str → Option Value} {w : Ws} (s : Sts K mg w) {i : Nat} {a : Addr} {ds : List D} {vs : List V} (h0 : w.ρ[i]? = some (.ml ds)) (h1 : w.σ[i]? = some (some (.ref a))) (ha : w.H a = some (.lst vs)) (hz : vs.length ≤ sizeLine) (r : Reps K mg w.G w.ι vs ds) :
    Aft K mg w { w with ρ := w.ρ.set i (.val (.lst ds)), G := upd w.G a (.lst vs) } := by
  have own : OwnS w i a := ⟨ds, h0, h1⟩
  have ga : w.G a = none := s.mtG own.mt
  have sg := same_upd (o := .lst vs) ga
  have ow : ∀ j b, OwnS { w with ρ := w.ρ.set i (.val (.lst ds)), G := upd w.G a (.lst vs) } j b → OwnS w j b ∧ b ≠ a := fun j b h => by
    obtain ⟨es, q1, q2⟩ := h
    rcases getElem?_set_ite q1 with ⟨_, e, _⟩ | ⟨ne, e⟩
    · cases e
    · refine ⟨⟨es, e, q2⟩, fun z => ne (s.dis j i b ⟨es, e, q2⟩ (z ▸ own))⟩
  have lv : ∀ l b, Liv w l b → b ≠ a := fun l b h z => s.sep i l a own (z ▸ h)
  have sub' : Same (upd w.G a (.lst vs)) w.H := fun b u e => by
    by_cases h : b = a
    · subst h; rw [upd_same] at e; rw [ha]; exact e
    · rw [upd_ne h] at e; exact s.sub _ _ e
  refine ⟨⟨sub', by simpa using s.ln, s.len, fun l c b q1 q2 => ?_, s.inj, fun j x h => ?_, fun j l b q1 q2 => s.sep j l b (ow j b q1).1 q2, fun j k b q1 q2 => s.dis j k b (ow j b q1).1 (ow k b q2).1⟩, sg, LeI.refl _, fun _ _ h _ => h, fun b h => ?_, fun b h => ?_, fun _ h => h⟩
  · exact (s.cel l c b q1 q2).keep (w' := { w with ρ := w.ρ.set i (.val (.lst ds)), G := upd w.G a (.lst vs) }) sg (LeI.refl _) (fun n => ⟨by
      show upd w.G a (.lst vs) b = none
      rw [upd_ne (lv l b ⟨c, q1, n, q2⟩)]; exact s.mtG (.inl ⟨l, c, q1, n, q2⟩), fun _ e => e⟩) sub'
  · rcases getElem?_set_ite h with ⟨e, e2, _⟩ | ⟨ne, e⟩
    · subst e; subst e2
      exact ⟨.ref a, h1, .lst upd_same hz (r.mono sg (LeI.refl _))⟩
    · refine (s.slo j x e).keep (w' := { w with ρ := w.ρ.set i (.val (.lst ds)), G := upd w.G a (.lst vs) }) sg (LeI.refl _) fun b ⟨es, e3⟩ h2 => ?_
      have o2 : OwnS w j b := ⟨es, by rw [e, e3], h2⟩
      refine ⟨?_, fun _ e => e⟩
      show upd w.G a (.lst vs) b = none
      rw [upd_ne (fun z : b = a => ne (s.dis j i b o2 (z ▸ own)))]
      exact s.mtG o2.mt
  · rcases h with h | ⟨j, h⟩
    · exact .inl (.inl h)
    · exact .inl (.inr ⟨j, (ow j b h).1⟩)
  · by_cases z : b = a
    · subst z; exact .inr (.inl own.mt)
    · have h' : upd w.G a (.lst vs) b ≠ none := h
      rw [upd_ne z] at h'; exact .inl h'
/-- a slot read for good: its own list is frozen by that -/
@[simp] def frzE (i : Nat) : DEx := fun ρ st => match ρ[i]? with
  | some (.ml ds) => .ok (.lst ds) (ρ.set i (.val (.lst ds))) st
  | some (.val d) => .ok d ρ st
  | _ => .bad
theorem ref_frz {K : PySem.W.Frag} {mg : Str → Option Value} (i : Nat) : RefE K mg W (tVar i) (frzE i) := fun w Q s h => by
  unfold frzE at h
  split at h
  · rename_i ds e
    obtain ⟨a, vs, e1, e2, e3, e4, e5⟩ := s.slo i _ e
    have A := Aft.fzMl s e e1 e3 e4 e5
    exact ⟨_, e1, h { w with ρ := w.ρ.set i (.val (.lst ds)), G := upd w.G a (.lst vs) } (.ref a) rfl rfl rfl A (.lst upd_same e4 (e5.mono A.g (LeI.refl _)))⟩
  · rename_i d e
    obtain ⟨v, e2, r⟩ := s.slo i _ e
    exact ⟨v, e2, h w v rfl rfl rfl (Aft.refl s) r⟩
  · exact h.elim
theorem de_frz (i : Nat) {x : Str} (hN : X.N[i]? = some x := by rfl) (hv : Vis X.env.scope x := by first | exact Or.inl rfl | exact Or.inr (Or.inl rfl) | exact Or.inr (Or.inr rfl)) (hd : (x == ("__debug__" : Str)) = false := by decide)
    (hcd : (x == ("__classdict__" : Str)) = false := by decide) : DE X W (.Name x pos) (frzE i) := ⟨_, pv i hN hv hd hcd, ref_frz i⟩
end
/-! ### comprehensions as expressions -/
section
variable {X : Cx} {W : WX} {elt tg iter : Expr} {ifs : List Expr} {scope : Scope} {own : List (Str × Nat)} {pos spos : Pos} {fi c f : DEx} {g : DGx} {is : List Nat}
theorem do_lc (hc : X.calm = true) (hN : X.N.Nodup) (hi : DI X W tg iter fi) (ok : BlkOk X.N X.env.scope scope own) (hsub : ∀ i ∈ is, i ∈ own.map (·.2))
    (hg : ∀ (s : Shared) (H : Hp) (C : Addr) (cl : List (Str × Addr)) (fp : List Addr), DG (X.blk s H scope (PySem.compEnvC scope cl C X.env) fp) tg is g)
    (ht : ∀ (s : Shared) (H : Hp) (C : Addr) (cl : List (Str × Addr)) (fp : List Addr), DTs (X.blk s H scope (PySem.compEnvC scope cl C X.env) fp) ifs c)
    (he : ∀ (s : Shared) (H : Hp) (C : Addr) (cl : List (Str × Addr)) (fp : List Addr), DE (X.blk s H scope (PySem.compEnvC scope cl C X.env) fp) WF elt f) (hs : ∀ x, foldedSetIterable iter X.env x = pure x := by intro _; rfl) :
    DO X W (.ListComp elt [⟨tg, iter, ifs, 0⟩] scope pos) (lcD fi g c f (own.map (·.2))) := by
  obtain ⟨wi, pi, ri⟩ := hi
  exact ⟨⟨_, pe_lc hc hN pi ok (fun s H C cl fp => (hg s H C cl fp).pg) (fun s H C cl fp => (ht s H C cl fp).pts) (fun s H C cl fp => (he s H C cl fp).pe) hs, refO_lc ri hsub⟩, lcD_isL⟩
/-- y = [..] on one line -/
theorem ps_lc {i : Nat} {y : Str} {py : Pos} (hc : X.calm = true) (hN : X.N.Nodup) (hy : X.N[i]? = some y) (hyl : X.env.scope.names.lookup y = some .local)
    (hsw : swapsWith (.ListComp elt [⟨tg, iter, ifs, 0⟩] scope pos) (some (.Name y py)) spos.line X.env = pure true) (hi : DI X W tg iter fi) (ok : BlkOk X.N X.env.scope scope own) (hsub : ∀ i ∈ is, i ∈ own.map (·.2))
    (hg : ∀ (s : Shared) (H : Hp) (C : Addr) (cl : List (Str × Addr)) (fp : List Addr), DG (X.blk s H scope (PySem.compEnvC scope cl C X.env) fp) tg is g)
    (ht : ∀ (s : Shared) (H : Hp) (C : Addr) (cl : List (Str × Addr)) (fp : List Addr), DTs (X.blk s H scope (PySem.compEnvC scope cl C X.env) fp) ifs c)
    (he : ∀ (s : Shared) (H : Hp) (C : Addr) (cl : List (Str × Addr)) (fp : List Addr), DE (X.blk s H scope (PySem.compEnvC scope cl C X.env) fp) WF elt f) (hs : ∀ x, foldedSetIterable iter X.env x = pure x := by intro _; rfl) :
    ∃ t, PS X (.Assign [.Name y py] (.ListComp elt [⟨tg, iter, ifs, 0⟩] scope pos) spos) (tAsg t (gName i)) ∧ RefO X.K X.mg W t (lcD fi g c f (own.map (·.2))) := by
  obtain ⟨wi, pi, ri⟩ := hi
  exact ⟨_, ps_setLc hc hN hy hyl hsw pi ok (fun s H C cl fp => (hg s H C cl fp).pg) (fun s H C cl fp => (ht s H C cl fp).pts) (fun s H C cl fp => (he s H C cl fp).pe) hs, refO_lc ri hsub⟩
theorem ds_lcF {i : Nat} {st : Stmt} (h : ∃ t, PS X st (tAsg t (gName i)) ∧ RefO X.K X.mg W t (lcD fi g c f (own.map (·.2)))) : DS X W st (setD (lcD fi g c f (own.map (·.2))) (gN i)) :=
  let ⟨_, p, r⟩ := h; ⟨_, p, refS_set (r.fz lcD_isL) (refG_name i)⟩
theorem ds_lcO {i : Nat} {st : Stmt} (h : ∃ t, PS X st (tAsg t (gName i)) ∧ RefO X.K X.mg W t (lcD fi g c f (own.map (·.2)))) : DS X W st (setOD (lcD fi g c f (own.map (·.2))) i) :=
  let ⟨_, p, r⟩ := h; ⟨_, p, refS_setO r lcD_isL⟩
end
end DL
namespace DL
open PySem L2
/-! ### what a for walks -/
theorem pi_or {X : Cx} {tg e : Expr} {t u : TI} (h : PI X tg e t) (h' : PI X tg e u) : PI X tg e (fun σ H R => t σ H R ∨ u σ H R) := by
  constructor
  intro pins s σ H R I q
  rcases q with q | q
  · exact h.run pins s σ H R I q
  · exact h'.run pins s σ H R I q
/-- the items of a sequence -/
@[simp] def D.items : D → Option (List D)
  | .lst ds => some ds
  | .tup ds => some ds
  | .lsk ds => some ds
  | .str z => some (z.cps.toList.map fun c => .str ⟨#[c]⟩)
  | _ => none
@[simp] def itD (f : DEx) : DEx := fun ρ st => (f ρ st).bind fun d ρ st => match d.items with
  | some ds => .ok (.lst ds) ρ st
  | none => .bad
section
variable {K : PySem.W.Frag} {mg : Str → Option Value} {W : WX}
theorem iter_list {w : Ws} (s : Sts K mg w) {a : Addr} {vs : List V} {ds : List D} (h : SqL K w.G a vs) (r : Reps K mg w.G w.ι vs ds) : IterOk K mg w (Itl K a) ds := by
  refine ⟨_, _, by rw [← r.len]; exact walk_list (xs := vs), fun w2 A => SqL.mono A.s.sub (SqL.mono A.g h), ?_⟩
  rintro i w2 x H' d hd A ⟨rfl, hx⟩
  obtain ⟨d', e, rp⟩ := r.getV hx
  rw [hd] at e; cases e
  exact ⟨w2.G, Aft.refl A.s, rp.mono A.g A.i⟩
theorem iter_tup {w : Ws} (s : Sts K mg w) {a : Addr} {vs : List V} {ds : List D} (h : SqT K w.G a vs) (r : Reps K mg w.G w.ι vs ds) : IterOk K mg w (Itt K a) ds := by
  refine ⟨_, _, by rw [← r.len]; exact walk_tup (xs := vs), fun w2 A => SqT.mono A.s.sub (SqT.mono A.g h), ?_⟩
  rintro i w2 x H' d hd A ⟨rfl, hx⟩
  obtain ⟨d', e, rp⟩ := r.getV hx
  rw [hd] at e; cases e
  exact ⟨w2.G, Aft.refl A.s, rp.mono A.g A.i⟩
theorem iter_str {w : Ws} (s : Sts K mg w) {z : Str} : IterOk K mg w (Its z) (z.cps.toList.map fun c => .str ⟨#[c]⟩) := by
  refine ⟨_, _, by simpa using walk_str (z := z), fun _ _ => trivial, ?_⟩
  rintro i w2 x H' d hd A ⟨rfl, c, hc, rfl⟩
  rw [List.getElem?_map, Array.getElem?_toList, hc] at hd
  cases hd
  exact ⟨w2.G, Aft.refl A.s, .str _⟩
def iSeq (K : PySem.W.Frag) (te : TE) : TI := fun σ H R => iList K te σ H R ∨ iTup K te σ H R ∨ iStr te σ H R
theorem refI_seq {te : TE} {f : DEx} (h : RefE K mg W te f) : RefI K mg W (iSeq K te) (itD f) := fun w Q s q => by
  unfold itD at q
  cases e : f w.ρ w.st with
  | ok d ρ st =>
    rw [e] at q
    simp only [R.bind] at q
    cases d with
    | lst ds =>
      refine .inl (h w _ s ?_)
      rw [e]
      intro w' v h1 h2 h3 A r
      cases r with
      | lst hs hl rs => exact ⟨_, rfl, ⟨_, SqL.of (A.s.sub _ _ hs)⟩, q w' _ h1 h2 h3 A (iter_list A.s (SqL.of hs) rs)⟩
    | lsk ds =>
      refine .inl (h w _ s ?_)
      rw [e]
      intro w' v h1 h2 h3 A r
      cases r with
      | lsk hs hl rs => exact ⟨_, rfl, ⟨_, SqL.mono A.s.sub hs⟩, q w' _ h1 h2 h3 A (iter_list A.s hs rs)⟩
    | tup ds =>
      refine .inr (.inl (h w _ s ?_))
      rw [e]
      intro w' v h1 h2 h3 A r
      cases r with
      | tup hs hl rs => exact ⟨_, rfl, ⟨_, SqT.mono A.s.sub hs⟩, q w' _ h1 h2 h3 A (iter_tup A.s hs rs)⟩
    | str z =>
      refine .inr (.inr (h w _ s ?_))
      rw [e]
      intro w' v h1 h2 h3 A r
      exact ⟨z, r.str_inv, q w' _ h1 h2 h3 A (iter_str A.s)⟩
    | _ => exact q.elim
  | exc c ρ st =>
    refine .inl (h w _ s ?_)
    rw [e] at q ⊢
    exact q
  | bad => rw [e] at q; exact q.elim
end
section
variable {X : Cx} {W : WX} {tg e e2 : Expr} {f f2 : DEx} {p pos : Pos}
theorem di_seq (h : DE X W e f) : DI X W tg e (itD f) := let ⟨_, pe, r⟩ := h; ⟨_, pi_or (pi_list pe) (pi_or (pi_tup pe) (pi_str pe)), refI_seq r⟩
/-! range -/
def rngItems (lo : Int) (n : Nat) : List D := (List.range n).map fun (i : Nat) => .int (lo + (i : Int))
theorem rngItems_get {lo : Int} {n i : Nat} {d : D} (h : (rngItems lo n)[i]? = some d) : d = .int (lo + (i : Int)) := by
  unfold rngItems at h
  rw [List.getElem?_map] at h
  cases e : (List.range n)[i]? with
  | none => rw [e] at h; cases h
  | some j =>
    rw [e] at h; cases h
    have := (List.getElem?_eq_some_iff.mp e).2
    simp at this; rw [this]
theorem iter_rng {K : PySem.W.Frag} {mg : Str → Option Value} {w : Ws} {lo : Int} {n : Nat} : IterOk K mg w (Itr lo n) (rngItems lo n) := by
  refine ⟨_, _, by simpa [rngItems] using walk_range (lo := lo) (n := n), fun _ _ => trivial, ?_⟩
  rintro i w2 x H' d hd A ⟨rfl, rfl⟩
  rw [rngItems_get hd]
  exact ⟨w2.G, Aft.refl A.s, .int _⟩
def Rg (j : Int) : Prop := -(2 ^ 62) ≤ j ∧ j < 2 ^ 62
noncomputable instance (j : Int) : Decidable (Rg j) := Classical.propDecidable _
theorem Rg.of {k : Int} (h1 : -1000000 ≤ k) (h2 : k ≤ 1000000) : Rg k := ⟨by omega, by omega⟩
def Rs (j : Int) : Prop := -(2 ^ 63) ≤ j ∧ j < 2 ^ 63
noncomputable instance (j : Int) : Decidable (Rs j) := Classical.propDecidable _
theorem Rs.of {k : Int} (h1 : -1000000 ≤ k) (h2 : k ≤ 1000000) : Rs k := ⟨by omega, by omega⟩
@[simp] noncomputable def rng1 (f : DEx) : DEx := fun ρ st => (f ρ st).bind fun d ρ st => match d with
  | .tup [.int j] => if Rg j then .ok (.lst (rngItems 0 j.toNat)) ρ st else .bad
  | _ => .bad
@[simp] noncomputable def rng2 (f : DEx) : DEx := fun ρ st => (f ρ st).bind fun d ρ st => match d with
  | .tup [.int i, .int j] => if Rg i ∧ Rg j then .ok (.lst (rngItems i (j - i).toNat)) ρ st else .bad
  | _ => .bad
theorem RefA.bindI {K : PySem.W.Frag} {mg : Str → Option Value} {t : TA} (h : RefA K mg W t f) {w : Ws} {Q : It → Hp → Prop} {Q1 : List V → Hp → Prop} {r : D → En → Store → R} (s : Sts K mg w) (hP : OkI K mg W w Q ((f w.ρ w.st).bind r)) (hd : ∀ d ρ st, (∀ b, d ≠ .tup b) → r d ρ st = .bad)
    (k : ∀ (w1 : Ws) (vs : List V) (ds : List D), w1.σ = w.σ → Aft K mg w w1 → Reps K mg w1.G w1.ι vs ds → OkI K mg W w Q (r (.tup ds) w1.ρ w1.st) → Q1 vs w1.H) : t w.σ w.H Q1 :=
  h.bind (P := OkI K mg W w Q) s hP hd (fun _ _ _ z => z) (fun z => z) fun w1 vs ds e A r _ q => k w1 vs ds e A r q
theorem Reps.inv1 {K : PySem.W.Frag} {mg : Str → Option Value} {G : Hp} {ι : List Addr} {vs : List V} {d : D} (h : Reps K mg G ι vs [d]) : ∃ v, vs = [v] ∧ Rep K mg G ι v d := by
  cases h with
  | cons r rs => cases rs; exact ⟨_, rfl, r⟩
theorem Reps.inv2 {K : PySem.W.Frag} {mg : Str → Option Value} {G : Hp} {ι : List Addr} {vs : List V} {d d' : D} (h : Reps K mg G ι vs [d, d']) : ∃ v v', vs = [v, v'] ∧ Rep K mg G ι v d ∧ Rep K mg G ι v' d' := by
  cases h with
  | cons r rs =>
    obtain ⟨v', rfl, r'⟩ := rs.inv1
    exact ⟨_, _, rfl, r, r'⟩
theorem di_range1 (hg : Gl X "range") (hm : X.mg "range" = none) (ha : DAn X W [e] f) (hs : starEach [e] X.env = [(false, eval e X.env)] := by rfl) : DI X W tg (.Call (.Name "range" p) [e] [] pos) (rng1 f) := by
  obtain ⟨⟨t, pt, rt⟩, _⟩ := ha
  refine ⟨_, pi_range1 hg hm pt hs, fun w Q s q => ?_⟩
  refine rt.bindI s q (fun d ρ st n => by cases d <;> first | rfl | exact absurd rfl (n _)) fun w1 vs ds e1 A r q1 => ?_
  split at q1
  · rename_i j hj
    cases hj
    split at q1
    · rename_i hh
      obtain ⟨v, rfl, rv⟩ := r.inv1
      exact ⟨j, by rw [rv.int_inv], hh.1, hh.2, q1 w1 _ rfl rfl e1 A iter_rng⟩
    · exact q1.elim
  · exact q1.elim
theorem di_range2 (hg : Gl X "range") (hm : X.mg "range" = none) (ha : DAn X W [e, e2] f) (hs : starEach [e, e2] X.env = [(false, eval e X.env), (false, eval e2 X.env)] := by rfl) (hs2 : starEach [e2] X.env = [(false, eval e2 X.env)] := by rfl) : DI X W tg (.Call (.Name "range" p) [e, e2] [] pos) (rng2 f) := by
  obtain ⟨⟨t, pt, rt⟩, _⟩ := ha
  refine ⟨_, pi_range2 hg hm pt hs hs2, fun w Q s q => ?_⟩
  refine rt.bindI s q (fun d ρ st n => by cases d <;> first | rfl | exact absurd rfl (n _)) fun w1 vs ds e1 A r q1 => ?_
  split at q1
  · rename_i i j hj
    cases hj
    split at q1
    · rename_i hh
      obtain ⟨v, v', rfl, rv, rv'⟩ := r.inv2
      exact ⟨i, j, by rw [rv.int_inv, rv'.int_inv], ⟨hh.1.1, hh.1.2, hh.2.1, hh.2.2⟩, q1 w1 _ rfl rfl e1 A iter_rng⟩
    · exact q1.elim
  · exact q1.elim
/-! pairs that are made turn by turn -/
theorem iter_pair {K : PySem.W.Frag} {mg : Str → Option Value} {w : Ws} {J : It} {n : Nat} {Gd : Hp → Prop} {xs ys : Nat → Option V} {ds : List D} (wk : Walk J n Gd (YPair xs ys)) (hn : n = ds.length) (hG : ∀ w2, Aft K mg w w2 → Gd w2.H)
    (h : ∀ i d, ds[i]? = some d → ∃ d1 d2, d = .tup [d1, d2] ∧ (∀ v, xs i = some v → Rep K mg w.G w.ι v d1) ∧ (∀ v, ys i = some v → Rep K mg w.G w.ι v d2)) : IterOk K mg w J ds := by
  subst hn
  refine ⟨_, _, wk, hG, ?_⟩
  rintro i w2 x H' d hd A ⟨T, v1, v2, rfl, hT, rfl, h1, h2⟩
  obtain ⟨d1, d2, rfl, r1, r2⟩ := h i d hd
  have A' := Aft.alloc (o := .tup [v1, v2]) A.s hT
  refine ⟨_, A', .tup (.inl (.inl upd_same)) (show 2 ≤ sizeLine by decide) ?_⟩
  exact .cons (((r1 v1 h1).mono A.g A.i).mono A'.g A'.i) (.cons (((r2 v2 h2).mono A.g A.i).mono A'.g A'.i) .nil)
def enumItems (ds : List D) : List D := ds.zipIdx.map fun p => .tup [.int (p.2 : Int), p.1]
@[simp] def enumD (f : DEx) : DEx := fun ρ st => (f ρ st).bind fun d ρ st => match d with
  | .tup [.lst ds] => .ok (.lst (enumItems ds)) ρ st
  | _ => .bad
theorem enumItems_get {ds : List D} {i : Nat} {d : D} (h : (enumItems ds)[i]? = some d) : ∃ x, ds[i]? = some x ∧ d = .tup [.int (i : Int), x] := by
  unfold enumItems at h
  rw [List.getElem?_map, List.getElem?_zipIdx] at h
  cases e : ds[i]? with
  | none => rw [e] at h; cases h
  | some x => rw [e] at h; cases h; exact ⟨x, rfl, by simp⟩
theorem di_enum {elts : List Expr} {kk : Nat} {tpos : Pos} (hg : Gl X "enumerate") (hm : X.mg "enumerate" = none) (ha : DAn X W [e] f) (hs : starEach [e] X.env = [(false, eval e X.env)] := by rfl) : DI X W (.Tuple elts kk tpos) (.Call (.Name "enumerate" p) [e] [] pos) (enumD f) := by
  obtain ⟨⟨t, pt, rt⟩, _⟩ := ha
  refine ⟨_, pi_enum hg hm pt hs, fun w Q s q => ?_⟩
  refine rt.bindI s q (fun d ρ st n => by cases d <;> first | rfl | exact absurd rfl (n _)) fun w1 vs ds e1 A r q1 => ?_
  split at q1
  · rename_i ds' hj
    cases hj
    obtain ⟨v, rfl, rv⟩ := r.inv1
    cases rv with
    | lst hs hl rs =>
      refine ⟨_, _, rfl, SqL.of (A.s.sub _ _ hs), q1 w1 _ rfl rfl e1 A ?_⟩
      refine iter_pair walk_enum (by simp [enumItems, rs.len]) (fun w2 A2 => SqL.of (A2.s.sub _ _ (A2.g _ _ hs))) fun i d hd => ?_
      obtain ⟨x, hx, rfl⟩ := enumItems_get hd
      refine ⟨_, _, rfl, fun v h => by cases h; exact .int _, fun v h => ?_⟩
      obtain ⟨d', e', rp⟩ := rs.getV h
      rw [hx] at e'; cases e'; exact rp
  · exact q1.elim
def zipItems (xs ys : List D) : List D := (xs.zip ys).map fun p => .tup [p.1, p.2]
@[simp] def zipD (f : DEx) : DEx := fun ρ st => (f ρ st).bind fun d ρ st => match d with
  | .tup [.lst xs, .lst ys] => .ok (.lst (zipItems xs ys)) ρ st
  | _ => .bad
theorem zipItems_get {xs ys : List D} {i : Nat} {d : D} (h : (zipItems xs ys)[i]? = some d) : ∃ x y, xs[i]? = some x ∧ ys[i]? = some y ∧ d = .tup [x, y] := by
  unfold zipItems at h
  rw [List.getElem?_map] at h
  cases e : (xs.zip ys)[i]? with
  | none => rw [e] at h; cases h
  | some q =>
    rw [e] at h; cases h
    obtain ⟨h1, h2⟩ := List.getElem?_zip_eq_some.mp e
    exact ⟨_, _, h1, h2, rfl⟩
theorem di_zip {elts : List Expr} {kk : Nat} {tpos : Pos} (hg : Gl X "zip") (hm : X.mg "zip" = none) (ha : DAn X W [e, e2] f) (hs : starEach [e, e2] X.env = (false, eval e X.env) :: starEach [e2] X.env := by rfl) (hpl : (backTo pos (starEach [e2] X.env)).any (·.1) = false := by rfl) : DI X W (.Tuple elts kk tpos) (.Call (.Name "zip" p) [e, e2] [] pos) (zipD f) := by
  obtain ⟨⟨t, pt, rt⟩, _⟩ := ha
  refine ⟨_, pi_zip hg hm pt hs hpl, fun w Q s q => ?_⟩
  refine rt.bindI s q (fun d ρ st n => by cases d <;> first | rfl | exact absurd rfl (n _)) fun w1 vs ds e1 A r q1 => ?_
  split at q1
  · rename_i xs ys hj
    cases hj
    obtain ⟨v, v', rfl, rv, rv'⟩ := r.inv2
    cases rv with
    | lst hs hl rs =>
      cases rv' with
      | lst hs' hl' rs' =>
        refine ⟨_, _, _, _, rfl, SqL.of (A.s.sub _ _ hs), SqL.of (A.s.sub _ _ hs'), q1 w1 _ rfl rfl e1 A ?_⟩
        refine iter_pair (walk_zip rfl) (by simp [zipItems, rs.len, rs'.len]) (fun w2 A2 => ⟨SqL.of (A2.s.sub _ _ (A2.g _ _ hs)), SqL.of (A2.s.sub _ _ (A2.g _ _ hs'))⟩) fun i d hd => ?_
        obtain ⟨x, y, hx, hy, rfl⟩ := zipItems_get hd
        refine ⟨_, _, rfl, fun v h => ?_, fun v h => ?_⟩
        · obtain ⟨d', e', rp⟩ := rs.getV h
          rw [hx] at e'; cases e'; exact rp
        · obtain ⟨d', e', rp⟩ := rs'.getV h
          rw [hy] at e'; cases e'; exact rp
  · exact q1.elim
@[simp] def revD (f : DEx) : DEx := fun ρ st => (f ρ st).bind fun d ρ st => match d with
  | .tup [.lst ds] => .ok (.lst ds.reverse) ρ st
  | _ => .bad
theorem di_rev (hg : Gl X "reversed") (hm : X.mg "reversed" = none) (ha : DAn X W [e] f) (hs : starEach [e] X.env = [(false, eval e X.env)] := by rfl) : DI X W tg (.Call (.Name "reversed" p) [e] [] pos) (revD f) := by
  obtain ⟨⟨t, pt, rt⟩, _⟩ := ha
  refine ⟨_, pi_reversed hg hm pt hs, fun w Q s q => ?_⟩
  refine rt.bindI s q (fun d ρ st n => by cases d <;> first | rfl | exact absurd rfl (n _)) fun w1 vs ds e1 A r q1 => ?_
  split at q1
  · rename_i ds' hj
    cases hj
    obtain ⟨v, rfl, rv⟩ := r.inv1
    cases rv with
    | lst hs hl rs =>
      refine ⟨_, _, rfl, SqL.of (A.s.sub _ _ hs), q1 w1 _ rfl rfl e1 A ?_⟩
      refine ⟨_, _, by rw [List.length_reverse, ← rs.len]; exact walk_rev, fun w2 A2 => SqL.of (A2.s.sub _ _ (A2.g _ _ hs)), ?_⟩
      rintro i w2 x H' d hd A2 ⟨rfl, hx⟩
      obtain ⟨d', e', rp⟩ := rs.getV hx
      have hl : i < ds'.length := by have := (List.getElem?_eq_some_iff.mp hd).1; simpa using this
      rw [List.getElem?_reverse hl] at hd
      rw [rs.len] at e'
      rw [hd] at e'; cases e'
      exact ⟨w2.G, Aft.refl A2.s, rp.mono A2.g A2.i⟩
  · exact q1.elim
end
end DL
namespace DL
open PySem L2
/-! ### built-ins of one argument that give a plain value -/
def AnsC (K : PySem.W.Frag) (mg : Str → Option Value) (r : List V → Hp → VK → Prop) (p : D → Option D) : Prop :=
  ∀ (w : Ws) (x : V) (d z : D) (Q : VK), Sts K mg w → RepV K mg w x d → p d = some z → (∀ v, (∀ G ι, Rep K mg G ι v z) → Q v w.H) → r [x] w.H Q
def AnsC2 (K : PySem.W.Frag) (mg : Str → Option Value) (r : List V → Hp → VK → Prop) (p : D → D → Option D) : Prop :=
  ∀ (w : Ws) (x y : V) (d e z : D) (Q : VK), Sts K mg w → RepV K mg w x d → RepV K mg w y e → p d e = some z → (∀ v, (∀ G ι, Rep K mg G ι v z) → Q v w.H) → r [x, y] w.H Q
section
variable {X : Cx} {W : WX} {e e2 : Expr} {f g : DEx} {q : DPx} {p pos : Pos} {x : Str} {id T : String} {r : List V → Hp → VK → Prop} {pp : D → Option D} {p2 : D → D → Option D}
theorem de_b1 (hc : CallR X (.builtin id) r) (hr : AnsC X.K X.mg r pp) (hg : Gl X x) (hm : X.mg x = none) (hv : bootBuiltins x = some (.builtin id)) (ha : DV X W e f) (hn : x ≠ "__name__" := by decide) (hdb : (x == ("__debug__" : Str)) = false := by decide)
    (he : starEach [e] X.env = (false, eval e X.env) :: starEach [] X.env := by rfl) (hpl : (backTo pos (starEach [] X.env)).any (·.1) = false := by rfl) : DE X W (.Call (.Name x p) [e] [] pos) (lift1 pp f) := by
  obtain ⟨te, pe, re⟩ := ha
  refine ⟨_, pe_callB hc hg hm hv (pa_cons pe pa_nil he) hn hdb he hpl, fun w Q s h => ?_⟩
  refine re.bindR (Q := Q) s h fun w1 x d s1 e1 a1 r1 h1 => ?_
  cases z : pp d with
  | none => simp only [z] at h1; exact h1.elim
  | some y =>
    simp only [z] at h1
    exact hr w1 x d y Q s1 r1 z fun v rv => h1 w1 v rfl rfl rfl (Aft.refl s1) (rv _ _)
theorem dp_b1 (hc : CallR X (.builtin id) r) (hr : AnsC X.K X.mg r pp) (hg : Gl X x) (hm : X.mg x = none) (hv : bootBuiltins x = some (.builtin id)) (ha : DPv X e q) (hn : x ≠ "__name__" := by decide) (hdb : (x == ("__debug__" : Str)) = false := by decide)
    (he : starEach [e] X.env = (false, eval e X.env) :: starEach [] X.env := by rfl) (hpl : (backTo pos (starEach [] X.env)).any (·.1) = false := by rfl) : DP X (.Call (.Name x p) [e] [] pos) (plift1 pp q) := by
  obtain ⟨te, pe, re⟩ := ha
  refine ⟨_, pe_callB hc hg hm hv (pa_cons pe pa_nil he) hn hdb he hpl, fun w Q z s h k => ?_⟩
  unfold plift1 at h
  split at h
  · rename_i d h1
    exact re w _ d s h1 fun x rx => hr w x d z Q s rx h fun v rv => k v (rv _ _)
  · cases h
theorem de_t1 (hc : CallR X (.type T) r) (hr : AnsC X.K X.mg r pp) (hg : Gl X x) (hm : X.mg x = none) (hv : bootBuiltins x = some (.type T)) (ha : DV X W e f) (hn : x ≠ "__name__" := by decide) (hdb : (x == ("__debug__" : Str)) = false := by decide)
    (he : starEach [e] X.env = (false, eval e X.env) :: starEach [] X.env := by rfl) (hpl : (backTo pos (starEach [] X.env)).any (·.1) = false := by rfl) : DE X W (.Call (.Name x p) [e] [] pos) (lift1 pp f) := by
  obtain ⟨te, pe, re⟩ := ha
  refine ⟨_, pe_callTy hc hg hm hv (pa_cons pe pa_nil he) hn hdb he hpl, fun w Q s h => ?_⟩
  refine re.bindR (Q := Q) s h fun w1 x d s1 e1 a1 r1 h1 => ?_
  cases z : pp d with
  | none => simp only [z] at h1; exact h1.elim
  | some y =>
    simp only [z] at h1
    exact hr w1 x d y Q s1 r1 z fun v rv => h1 w1 v rfl rfl rfl (Aft.refl s1) (rv _ _)
theorem de_b2 (hc : CallR X (.builtin id) r) (hr : AnsC2 X.K X.mg r p2) (hg : Gl X x) (hm : X.mg x = none) (hv : bootBuiltins x = some (.builtin id)) (ha : DE X W e f) (hb : DV X W e2 g) (hn : x ≠ "__name__" := by decide) (hdb : (x == ("__debug__" : Str)) = false := by decide)
    (he : starEach [e, e2] X.env = (false, eval e X.env) :: starEach [e2] X.env := by rfl) (he2 : starEach [e2] X.env = (false, eval e2 X.env) :: starEach [] X.env := by rfl) (hpl : (backTo pos (starEach [e2] X.env)).any (·.1) = false := by rfl) : DE X W (.Call (.Name x p) [e, e2] [] pos) (lift2 p2 f g) := by
  obtain ⟨te, pe, re⟩ := ha
  obtain ⟨te2, pe2, re2⟩ := hb
  refine ⟨_, pe_callB hc hg hm hv (pa_cons pe (pa_cons pe2 pa_nil he2) he) hn hdb he hpl, fun w Q s h => ?_⟩
  refine re.bindR (Q := Q) s h fun w1 x d s1 e1 a1 r1 h1 => ?_
  show te2 w.σ w1.H _
  rw [← e1]
  refine re2.bindR (Q := Q) s1 h1 fun w2 y e' s2 e2 a2 r2 h2 => ?_
  cases z : p2 d e' with
  | none => simp only [z] at h2; exact h2.elim
  | some y' =>
    simp only [z] at h2
    exact hr w2 x y d e' y' Q s2 (.inl (r1.mono a2.g a2.i)) r2 z fun v rv => h2 w2 v rfl rfl rfl (Aft.refl s2) (rv _ _)
end
/-! the answers -/
@[simp] def pLen : D → Option D
  | .str z => if z.length ≤ sizeLine then some (.int z.length) else none
  | .lst ds => some (.int ds.length)
  | .lsk ds => some (.int ds.length)
  | .tup ds => some (.int ds.length)
  | _ => none
@[simp] def pAbs : D → Option D
  | .int i => some (.int (if i < 0 then -i else i))
  | _ => none
@[simp] def pInt : D → Option D
  | .int i => some (.int i)
  | .bl b => some (.int (if b then 1 else 0))
  | _ => none
@[simp] def pMax : D → D → Option D
  | .int i, .int j => some (.int (if j > i then j else i))
  | _, _ => none
@[simp] def pMin : D → D → Option D
  | .int i, .int j => some (.int (if j < i then j else i))
  | _, _ => none
@[simp] def bools : List D → Option (List Bool)
  | [] => some []
  | .bl b :: ds => (bools ds).map (b :: ·)
  | _ :: _ => none
@[simp] def pAll : D → Option D
  | .lst ds => (bools ds).map fun bs => .bl (bs.all id)
  | _ => none
@[simp] def pAny : D → Option D
  | .lst ds => (bools ds).map fun bs => .bl (bs.any id)
  | _ => none
section
variable {K : PySem.W.Frag} {mg : Str → Option Value}
theorem bools_reps {G : Hp} {ι : List Addr} : ∀ {vs : List V} {ds : List D} {bs : List Bool}, Reps K mg G ι vs ds → bools ds = some bs → vs = bs.map V.bl
  | _, [], _, .nil, h => by cases h; rfl
  | _, d :: ds, bs, .cons r rs, h => by
    cases d with
    | bl b =>
      obtain ⟨bs', e, rfl⟩ := Option.map_eq_some_iff.mp h
      rw [r.bl_inv, bools_reps rs e]; rfl
    | _ => simp [bools] at h
theorem ansC_len : AnsC K mg (fun xs H Q => ∃ x n, xs = [x] ∧ LenV K x H n ∧ Q (.int n) H) pLen := fun w x d z Q s rx q k => by
  unfold pLen at q
  split at q
  · rename_i y
    split at q
    · rename_i hz
      cases q
      exact ⟨x, _, rfl, by rw [rx.str_inv]; exact ⟨hz, rfl⟩, k _ fun _ _ => .int _⟩
    · cases q
  · cases q
    obtain ⟨a, vs, rfl, h1, h2, h3⟩ := rx.lst_inv s
    exact ⟨_, vs.length, rfl, .inl ⟨vs, SqL.of h1, rfl⟩, by rw [h3.len]; exact k _ fun _ _ => .int _⟩
  · cases q
    obtain ⟨a, vs, rfl, h1, h2, h3⟩ := rx.lsk_inv s
    exact ⟨_, vs.length, rfl, .inl ⟨vs, h1, rfl⟩, by rw [h3.len]; exact k _ fun _ _ => .int _⟩
  · cases q
    obtain ⟨a, vs, rfl, h1, h2, h3⟩ := rx.tup_inv s
    exact ⟨_, vs.length, rfl, .inr ⟨vs, h1, rfl⟩, by rw [h3.len]; exact k _ fun _ _ => .int _⟩
  · cases q
theorem ansC_abs : AnsC K mg (fun xs H Q => ∃ i, xs = [.int i] ∧ Q (.int (if i < 0 then -i else i)) H) pAbs := fun w x d z Q s rx q k => by
  unfold pAbs at q
  split at q
  · cases q; exact ⟨_, by rw [rx.int_inv], k _ fun _ _ => .int _⟩
  · cases q
theorem ansC_int : AnsC K mg (fun xs H Q => (∃ i, xs = [.int i] ∧ Q (.int i) H) ∨ ∃ k, xs = [.bl k] ∧ Q (.int (if k then 1 else 0)) H) pInt := fun w x d z Q s rx q k => by
  unfold pInt at q
  split at q
  · cases q; exact .inl ⟨_, by rw [rx.int_inv], k _ fun _ _ => .int _⟩
  · cases q; exact .inr ⟨_, by rw [rx.bl_inv], k _ fun _ _ => .int _⟩
  · cases q
theorem ansC_max : AnsC2 K mg (fun xs H Q => ∃ i j, xs = [.int i, .int j] ∧ Q (.int (if j > i then j else i)) H) pMax := fun w x y d e z Q s rx ry q k => by
  unfold pMax at q
  split at q
  · cases q; exact ⟨_, _, by rw [rx.int_inv, ry.int_inv], k _ fun _ _ => .int _⟩
  · cases q
theorem ansC_min : AnsC2 K mg (fun xs H Q => ∃ i j, xs = [.int i, .int j] ∧ Q (.int (if j < i then j else i)) H) pMin := fun w x y d e z Q s rx ry q k => by
  unfold pMin at q
  split at q
  · cases q; exact ⟨_, _, by rw [rx.int_inv, ry.int_inv], k _ fun _ _ => .int _⟩
  · cases q
theorem ansC_all : AnsC K mg (rAll K) pAll := fun w x d z Q s rx q k => by
  unfold pAll at q
  split at q
  · obtain ⟨bs, e, rfl⟩ := Option.map_eq_some_iff.mp q
    obtain ⟨a, vs, rfl, h1, h2, h3⟩ := rx.lst_inv s
    exact ⟨a, bs, rfl, by rw [← bools_reps h3 e]; exact SqL.of h1, k _ fun _ _ => .bl _⟩
  · cases q
theorem ansC_any : AnsC K mg (rAny K) pAny := fun w x d z Q s rx q k => by
  unfold pAny at q
  split at q
  · obtain ⟨bs, e, rfl⟩ := Option.map_eq_some_iff.mp q
    obtain ⟨a, vs, rfl, h1, h2, h3⟩ := rx.lst_inv s
    exact ⟨a, bs, rfl, by rw [← bools_reps h3 e]; exact SqL.of h1, k _ fun _ _ => .bl _⟩
  · cases q
end
/-! ### subscripts -/
/-- an item of a sequence -/
@[simp] def pIx : D → D → Option D
  | .lst ds, .int i => atI ds i
  | .lsk ds, .int i => atI ds i
  | .tup ds, .int i => atI ds i
  | .str z, .int i => if z.length ≤ sizeLine then (atI z.cps.toList i).map fun c => .str ⟨#[c]⟩ else none
  | _, _ => none
section
variable {K : PySem.W.Frag} {mg : Str → Option Value}
theorem Reps.atI {G : Hp} {ι : List Addr} {vs : List V} {ds : List D} {i : Int} {d : D} (r : Reps K mg G ι vs ds) (h : L2.atI ds i = some d) : ∃ v, L2.atI vs i = some v ∧ Rep K mg G ι v d := by
  unfold L2.atI at h ⊢
  rw [r.len]
  cases e : ixN ds.length i with
  | none => rw [e] at h; cases h
  | some j =>
    rw [e] at h
    obtain ⟨v, h1, h2⟩ := r.get h
    exact ⟨v, h1, h2⟩
/-- the item is a value for good -/
theorem ans_ix (w : Ws) (x y : V) (d e z : D) (Q : VK) (s : Sts K mg w) (rx : RepV K mg w x d) (ry : RepV K mg w y e) (q : pIx d e = some z) (k : ∀ v, Rep K mg w.G w.ι v z → Q v w.H) : rIx K x y w.H Q := by
  unfold pIx at q
  split at q
  · obtain ⟨a, vs, rfl, h1, h2, h3⟩ := rx.lst_inv s
    obtain ⟨v, hv, rv⟩ := h3.atI q
    exact .inl ⟨a, vs, _, v, rfl, ry.int_inv, SqL.of h1, hv, k v rv⟩
  · obtain ⟨a, vs, rfl, h1, h2, h3⟩ := rx.lsk_inv s
    obtain ⟨v, hv, rv⟩ := h3.atI q
    exact .inl ⟨a, vs, _, v, rfl, ry.int_inv, h1, hv, k v rv⟩
  · obtain ⟨a, vs, rfl, h1, h2, h3⟩ := rx.tup_inv s
    obtain ⟨v, hv, rv⟩ := h3.atI q
    exact .inr (.inl ⟨a, vs, _, v, rfl, ry.int_inv, h1, hv, k v rv⟩)
  · split at q
    · rename_i hz
      obtain ⟨c, e, rfl⟩ := Option.map_eq_some_iff.mp q
      exact .inr (.inr ⟨_, _, c, rx.str_inv, ry.int_inv, hz, e, k _ (.str _)⟩)
    · cases q
  · cases q
end
section
variable {X : Cx} {W : WX} {a b : Expr} {f g : DEx} {p q : DPx} {pos : Pos}
theorem dp_ix (ha : DPv X a p) (hb : DP X b q) (hs : PlainIx b) : DP X (.Subscript a b pos) (plift2 pIx p q) := by
  obtain ⟨ta, pa, ra⟩ := ha
  obtain ⟨tb, pb, rb⟩ := hb
  refine ⟨_, pe_ix ix_seq pa pb hs, fun w Q z s h k => ?_⟩
  unfold plift2 at h
  split at h
  · rename_i d e h1 h2
    exact ra w _ d s h1 fun x rx => rb w _ e s h2 fun y ry => ans_ix w x y d e z Q s rx (.inl ry) h k
  · cases h
theorem de_ix (ha : DE X W a f) (hb : DE X W b g) (hs : PlainIx b) : DE X W (.Subscript a b pos) (lift2 pIx f g) := by
  obtain ⟨ta, pa, ra⟩ := ha
  obtain ⟨tb, pb, rb⟩ := hb
  refine ⟨_, pe_ix ix_seq pa pb hs, fun w Q s h => ?_⟩
  refine ra.bindR (Q := Q) s h fun w1 x d s1 e1 a1 r1 h1 => ?_
  show tb w.σ w1.H _
  rw [← e1]
  refine rb.bindR (Q := Q) s1 h1 fun w2 y e s2 e2 a2 r2 h2 => ?_
  cases z : pIx d e with
  | none => simp only [z] at h2; exact h2.elim
  | some y' =>
    simp only [z] at h2
    exact ans_ix w2 x y d e y' Q s2 (.inl (r1.mono a2.g a2.i)) (.inl r2) z fun v rv => h2 w2 v rfl rfl rfl (Aft.refl s2) rv
end
/-! ### slices -/
def cutD (ds : List D) (lo hi : Option Int) : List D := (ds.drop (HT.sIx ds.length 0 lo)).take (HT.sIx ds.length ds.length hi - HT.sIx ds.length 0 lo)
theorem Reps.cut {K : PySem.W.Frag} {mg : Str → Option Value} {G : Hp} {ι : List Addr} {vs : List V} {ds : List D} (lo hi : Option Int) (r : Reps K mg G ι vs ds) : Reps K mg G ι (cutV vs lo hi) (cutD ds lo hi) := by
  unfold cutV cutD
  rw [r.len]
  exact (r.drop _).take _
/-- a bound: nothing, or an int -/
@[simp] def bdN : DEx := fun ρ st => .ok .non ρ st
@[simp] def bd : D → Option (Option Int)
  | .non => some none
  | .int i => some (some i)
  | _ => none
def RefB (K : PySem.W.Frag) (mg : Str → Option Value) (W : WX) (t : TO) (f : DEx) : Prop := ∀ (w : Ws) (Q : Option Int → Hp → Prop) (P : R → Prop) (r : D → En → Store → R), Sts K mg w → P ((f w.ρ w.st).bind r) →
  (∀ c ρ st, P (.exc c ρ st) → ∀ (w' : Ws) (cls : Value) (dx : Option Addr), w'.ρ = ρ → w'.st = st → w'.σ = w.σ → Aft K mg w w' → ExcAt K mg w' c cls dx → W cls dx w'.σ w'.H) → (P .bad → False) → (∀ d ρ st, bd d = none → r d ρ st = .bad) →
  (∀ (w1 : Ws) (d : D) (b : Option Int), bd d = some b → w1.σ = w.σ → Aft K mg w w1 → P (r d w1.ρ w1.st) → Q b w1.H) → t w.σ w.H Q
def DB (X : Cx) (W : WX) (e : Option Expr) (f : DEx) : Prop := ∃ t, PO X e t ∧ RefB X.K X.mg W t f
theorem db_none {X : Cx} {W : WX} : DB X W none bdN := ⟨_, po_none, fun w Q P r s h hx hb hd k => k w .non none rfl rfl (Aft.refl s) h⟩
@[simp] def bdS (f : DEx) : DEx := fun ρ st => (f ρ st).bind fun d ρ st => match d with
  | .int i => .ok (.int i) ρ st
  | _ => .bad
theorem db_some {X : Cx} {W : WX} {e : Expr} {f : DEx} (h : DE X W e f) : DB X W (some e) (bdS f) := by
  obtain ⟨t, p, rf⟩ := h
  refine ⟨_, po_some p, fun w Q P r s h hx hb hd k => ?_⟩
  refine rf w _ s ?_
  unfold bdS at h
  cases e : f w.ρ w.st with
  | ok d ρ st =>
    rw [e] at h
    intro w' v h1 h2 h3 A rv
    subst h1; subst h2
    cases d with
    | int i => exact ⟨i, rv.int_inv, k w' _ _ rfl h3 A h⟩
    | _ => exact (hb h).elim
  | exc c ρ st => rw [e] at h; exact hx _ _ _ h
  | bad => rw [e] at h; exact (hb h).elim
/-- e[lo:hi]: k tells what is made -/
@[simp] def slX (k : D → Option Int → Option Int → Option D) (f l h : DEx) : DEx := fun ρ st => (f ρ st).bind fun d ρ st => (l ρ st).bind fun lo ρ st => match bd lo with
  | some lo => (h ρ st).bind fun hi ρ st => (match bd hi with
    | some hi => (match k d lo hi with
      | some z => .ok z ρ st
      | none => .bad)
    | none => .bad)
  | none => .bad
@[simp] def kSlL : D → Option Int → Option Int → Option D
  | .lst ds, lo, hi => some (.lst (cutD ds lo hi))
  | _, _, _ => none
@[simp] def kSlS : D → Option Int → Option Int → Option D
  | .str z, lo, hi => if z.length ≤ sizeLine then some (.str (cutS z lo hi)) else none
  | _, _, _ => none
/-- of a tuple, not the whole of it -/
@[simp] def kSlT : D → Option Int → Option Int → Option D
  | .tup ds, lo, hi => if HT.sIx ds.length 0 lo = 0 ∧ HT.sIx ds.length ds.length hi = ds.length then some (.tup ds) else some (.tup (cutD ds lo hi))
  | _, _, _ => none
theorem cutD_len (ds : List D) (lo hi : Option Int) : (cutD ds lo hi).length ≤ ds.length := by
  unfold cutD; simp; omega
section
variable {X : Cx} {W : WX} {e : Expr} {lo hi : Option Expr} {f l h : DEx} {p2 pos : Pos}
theorem slX_inv {k : D → Option Int → Option Int → Option D} {ρ ρ' : En} {st st' : Store} {d : D} (q : slX k f l h ρ st = .ok d ρ' st') : ∃ d0 lo hi, k d0 lo hi = some d := by
  unfold slX at q
  cases e1 : f ρ st with
  | ok d1 ρ1 st1 =>
    rw [e1] at q
    simp only [R.bind] at q
    cases e2 : l ρ1 st1 with
    | ok d2 ρ2 st2 =>
      rw [e2] at q
      simp only at q
      split at q
      · cases e3 : h ρ2 st2 with
        | ok d3 ρ3 st3 =>
          rw [e3] at q
          simp only at q
          split at q
          · split at q
            · cases q; exact ⟨_, _, _, by assumption⟩
            · cases q
          · cases q
        | exc c ρ3 st3 => rw [e3] at q; cases q
        | bad => rw [e3] at q; cases q
      · cases q
    | exc c ρ3 st3 => rw [e2] at q; cases q
    | bad => rw [e2] at q; cases q
  | exc c ρ3 st3 => rw [e1] at q; cases q
  | bad => rw [e1] at q; cases q
theorem slL_isL : IsL (slX kSlL f l h) := fun ρ st d ρ' st' q => by
  obtain ⟨d0, lo, hi, e⟩ := slX_inv q
  cases d0 <;> first | (cases e; done) | (cases e; exact ⟨_, rfl⟩)
theorem ref_sl {K : PySem.W.Frag} {mg : Str → Option Value} {k : D → Option Int → Option Int → Option D} {r : V → Option Int → Option Int → Hp → VK → Prop} {te : TE} {tl th : TO} {w : Ws} {Q : VK} {P : R → Prop} (s : Sts K mg w)
    (re : RefE K mg W te f) (rl : RefB K mg W tl l) (rh : RefB K mg W th h) (q : P (slX k f l h w.ρ w.st))
    (hx : ∀ c ρ st, P (.exc c ρ st) → ∀ (w' : Ws) (cls : Value) (dx : Option Addr), w'.ρ = ρ → w'.st = st → w'.σ = w.σ → Aft K mg w w' → ExcAt K mg w' c cls dx → W cls dx w'.σ w'.H) (hb : P .bad → False)
    (hr : ∀ (w3 : Ws) (v : V) (d z : D) (lo hi : Option Int), w3.σ = w.σ → Aft K mg w w3 → Rep K mg w3.G w3.ι v d → k d lo hi = some z → P (.ok z w3.ρ w3.st) → r v lo hi w3.H Q) : tSl r te tl th w.σ w.H Q := by
  refine re.bind (P := P) s q hx hb fun w1 v d e1 a1 r1 q1 => ?_
  show tl w.σ w1.H _
  rw [← e1]
  refine rl w1 _ P _ a1.s q1 (fun c ρ st z w' cls dx h1 h2 h3 A x => hx c ρ st z w' cls dx h1 h2 (h3.trans e1) (a1.trans A) x) hb (fun d' ρ st hb => by simp only [hb]) fun w2 dl bl hbl e2 a2 q2 => ?_
  simp only [hbl] at q2
  rw [← e2]
  have a12 := a1.trans a2
  have e12 := e2.trans e1
  refine rh w2 _ P _ a2.s q2 (fun c ρ st z w' cls dx h1 h2 h3 A x => hx c ρ st z w' cls dx h1 h2 (h3.trans e12) (a12.trans A) x) hb (fun d' ρ st hb => by simp only [hb]) fun w3 dh bh hbh e3 a3 q3 => ?_
  simp only [hbh] at q3
  cases z : k d bl bh with
  | none => simp only [z] at q3; exact (hb q3).elim
  | some y =>
    simp only [z] at q3
    exact hr w3 v d y bl bh (e3.trans e12) (a12.trans a3) (r1.mono (a2.g.trans a3.g) (a2.i.trans a3.i)) z q3
theorem do_slice (he : DE X W e f) (hl : DB X W lo l) (hh : DB X W hi h) : DO X W (.Subscript e (.Slice lo hi none p2) pos) (slX kSlL f l h) := by
  obtain ⟨te, pe, re⟩ := he
  obtain ⟨tl, pl, rl⟩ := hl
  obtain ⟨th, ph, rh⟩ := hh
  refine ⟨⟨_, pe_slice sl_list pe pl ph, fun w Q s q => ?_⟩, slL_isL⟩
  refine ref_sl (P := OkO X.K X.mg W w Q) (k := kSlL) s re rl rh q (fun _ _ _ z => z) (fun z => z) fun w3 v d z lo hi e3 a3 r3 hz q3 => ?_
  cases r3 with
  | lst hs hl rs =>
    cases hz
    refine ⟨_, _, rfl, SqL.of (a3.s.sub _ _ hs), fun p hp => OkO.mk a3 e3 hp ?_ (rs.cut lo hi) q3⟩
    exact Nat.le_trans (cutV_length _ _ _) hl
  | _ => cases hz
theorem de_sliceS (he : DE X W e f) (hl : DB X W lo l) (hh : DB X W hi h) : DE X W (.Subscript e (.Slice lo hi none p2) pos) (slX kSlS f l h) := by
  obtain ⟨te, pe, re⟩ := he
  obtain ⟨tl, pl, rl⟩ := hl
  obtain ⟨th, ph, rh⟩ := hh
  refine ⟨_, pe_slice sl_str pe pl ph, fun w Q s q => ?_⟩
  refine ref_sl (P := OkR X.K X.mg W w Q) (k := kSlS) s re rl rh q (fun _ _ _ z => z) (fun z => z) fun w3 v d z lo hi e3 a3 r3 hz q3 => ?_
  cases d with
  | str y =>
    have hz' : (if y.length ≤ sizeLine then some (D.str (cutS y lo hi)) else none) = some z := hz
    by_cases hh : y.length ≤ sizeLine
    · rw [if_pos hh] at hz'
      cases hz'
      exact ⟨y, r3.str_inv, hh, q3 w3 _ rfl rfl e3 a3 (.str _)⟩
    · rw [if_neg hh] at hz'; cases hz'
  | _ => cases hz
end
end DL
namespace DL
open PySem L2
/-! ### methods that change a list -/
abbrev MutK := List D → List D → Option (List D × D)
@[simp] def mutAt (i : Nat) (k : MutK) (args : List D) (ρ : En) (st : Store) : R := match ρ[i]? with
  | some (.ml ds) => (match k ds args with
    | some (ds', z) => .ok z (ρ.set i (.ml ds')) st
    | none => .bad)
  | some (.val (.ref l)) => (match st[l]? with
    | some (.lst ds) => (match k ds args with
      | some (ds', z) => .ok z ρ (st.set l (.lst ds'))
      | none => .bad)
    | _ => .bad)
  | _ => .bad
@[simp] def holdsL (i : Nat) (ρ : En) (st : Store) : Bool := match ρ[i]? with
  | some (.ml _) => true
  | some (.val (.ref l)) => (match st[l]? with
    | some (.lst _) => true
    | _ => false)
  | _ => false
@[simp] def mutD (i : Nat) (k : MutK) (f : DEx) : DEx := fun ρ st => match holdsL i ρ st with
  | true => (f ρ st).bind fun d ρ st => (match d with
    | .tup args => mutAt i k args ρ st
    | _ => .bad)
  | false => .bad
def AnsM (K : PySem.W.Frag) (mg : Str → Option Value) (r : V → List V → Hp → VK → Prop) (k : MutK) : Prop :=
  ∀ (G H : Hp) (ι : List Addr) (a : Addr) (vs xs : List V) (ds args ds' : List D) (z : D) (Q : VK), H a = some (.lst vs) → vs.length ≤ sizeLine → Reps K mg G ι vs ds → Reps K mg G ι xs args → k ds args = some (ds', z) →
    (∀ vs' v, vs'.length ≤ sizeLine → Reps K mg G ι vs' ds' → Rep K mg G ι v z → Q v (upd H a (.lst vs'))) → r (.ref a) xs H Q
section
variable {K : PySem.W.Frag} {mg : Str → Option Value} {W : WX}
/-- the list of slot i, its own or a cell -/
theorem mutAt_inv {w : Ws} {i : Nat} {k : MutK} {args : List D} {Q : VK} (s : Sts K mg w) (q : OkR K mg W w Q (mutAt i k args w.ρ w.st)) : ∃ a vs ds ds' z, w.σ[i]? = some (some (.ref a)) ∧ w.H a = some (.lst vs) ∧ vs.length ≤ sizeLine ∧ Reps K mg w.G w.ι vs ds ∧ k ds args = some (ds', z) ∧
    ∀ vs' v, vs'.length ≤ sizeLine → Reps K mg w.G w.ι vs' ds' → Rep K mg w.G w.ι v z → Q v (upd w.H a (.lst vs')) := by
  unfold mutAt at q
  split at q
  · rename_i ds e
    split at q
    · rename_i ds' z hk
      obtain ⟨a, vs, e1, e2, e3, e4, e5⟩ := s.slo i _ e
      refine ⟨a, vs, ds, ds', z, e1, e3, e4, e5, hk, fun vs' v hz r rv => ?_⟩
      exact q { w with ρ := w.ρ.set i (.ml ds'), H := upd w.H a (.lst vs') } v rfl rfl rfl (Aft.mutMl s e e1 hz r) rv
    · exact q.elim
  · rename_i l e
    split at q
    · rename_i ds hl
      split at q
      · rename_i ds' z hk
        obtain ⟨v0, e1, r0⟩ := s.slo i _ e
        cases r0 with
        | ref ha =>
          rename_i a
          obtain ⟨ga, vs, e3, e4, e5⟩ := s.cel l _ a hl ha
          refine ⟨a, vs, ds, ds', z, e1, e3, e4, e5, hk, fun vs' v hz r rv => ?_⟩
          exact q { w with H := upd w.H a (.lst vs'), st := w.st.set l (.lst ds') } v rfl rfl rfl (Aft.mutCell s hl (by simp) ha (by simp) ⟨ga, vs', upd_same, hz, r⟩) rv
      · exact q.elim
    · exact q.elim
  · exact q.elim
theorem holdsL_inv {w : Ws} {i : Nat} (s : Sts K mg w) (h : holdsL i w.ρ w.st = true) : ∃ a vs, w.σ[i]? = some (some (.ref a)) ∧ w.H a = some (.lst vs) := by
  unfold holdsL at h
  split at h
  · rename_i ds e
    obtain ⟨a, vs, e1, e2, e3, e4, e5⟩ := s.slo i _ e
    exact ⟨a, vs, e1, e3⟩
  · rename_i l e
    split at h
    · rename_i ds hl
      obtain ⟨v0, e1, r0⟩ := s.slo i _ e
      cases r0 with
      | ref ha =>
        rename_i a
        obtain ⟨ga, vs, e3, e4, e5⟩ := s.cel l _ a hl ha
        exact ⟨a, vs, e1, e3⟩
    · cases h
  · cases h
theorem refE_mut {t : TA} {f : DEx} {i : Nat} {k : MutK} {r : V → List V → Hp → VK → Prop} (ha : RefA K mg W t f) (hr : AnsM K mg r k) : RefE K mg W (tBM K "list" r (tVar i) t) (mutD i k f) := fun w Q s q => by
  unfold mutD at q
  split at q
  · rename_i hh
    obtain ⟨a, vs, e1, e2⟩ := holdsL_inv s hh
    refine ⟨_, e1, .inl ⟨rfl, vs, .inl (.inl e2)⟩, ?_⟩
    refine ha.bind (P := OkR K mg W w Q) s q (fun d ρ st n => by cases d <;> first | rfl | exact absurd rfl (n _)) (fun _ _ _ z => z) (fun z => z) fun w1 xs args e3 a1 r1 _ q1 => ?_
    obtain ⟨a', vs', ds, ds', z, h1, h2, h3, h4, h5, h6⟩ := mutAt_inv a1.s (OkR.aft q1 a1 e3)
    rw [e3, e1] at h1
    cases h1
    exact hr w1.G w1.H w1.ι a vs' xs ds args ds' z Q h2 h3 h4 r1 h5 h6
  · exact q.elim
theorem refE_mut0 {i : Nat} {k : MutK} {r : V → List V → Hp → VK → Prop} (hr : AnsM K mg r k) : RefE K mg W (tBM0 K "list" r (tVar i)) (mutD i k aNil) := fun w Q s q => by
  unfold mutD at q
  split at q
  · obtain ⟨a', vs', ds, ds', z, h1, h2, h3, h4, h5, h6⟩ := mutAt_inv s q
    refine ⟨_, h1, .inl ⟨rfl, vs', .inl (.inl h2)⟩, ?_⟩
    exact hr w.G w.H w.ι a' vs' [] ds [] ds' z Q h2 h3 h4 .nil h5 h6
  · exact q.elim
end
@[simp] def kApp : MutK := fun ds args => match args with
  | [d] => if ds.length < sizeLine then some (ds ++ [d], .non) else none
  | _ => none
@[simp] def kPop : MutK := fun ds args => match args with
  | [] => (match ds[ds.length - 1]? with
    | some d => some (ds.dropLast, d)
    | none => none)
  | _ => none
@[simp] noncomputable def kPopAt : MutK := fun ds args => match args with
  | [.int i] => if Rs i then (match seqIndex? i ds.length with
    | some k => (match ds[k]? with
      | some d => some (ds.eraseIdx k, d)
      | none => none)
    | none => none) else none
  | _ => none
@[simp] noncomputable def kIns : MutK := fun ds args => match args with
  | [.int i, d] => if ds.length < sizeLine ∧ 0 ≤ i ∧ Rs i then some (ds.take i.toNat ++ [d] ++ ds.drop i.toNat, .non) else none
  | _ => none
@[simp] def kClear : MutK := fun ds args => match args with
  | [] => some ([], .non)
  | _ => none
section
variable {K : PySem.W.Frag} {mg : Str → Option Value}
theorem Reps.dropLast {G : Hp} {ι : List Addr} {vs : List V} {ds : List D} (r : Reps K mg G ι vs ds) : Reps K mg G ι vs.dropLast ds.dropLast := by
  rw [List.dropLast_eq_take, List.dropLast_eq_take, r.len]; exact r.take _
theorem ansM_app : AnsM K mg rAppend kApp := fun G H ι a vs xs ds args ds' z Q h hz r rx hk q => by
  unfold kApp at hk
  split at hk
  · split at hk
    · rename_i d hl
      cases hk
      obtain ⟨v, rfl, rv⟩ := rx.inv1
      refine ⟨a, vs, v, rfl, rfl, h, by rw [r.len]; exact hl, q _ .non ?_ (r.append (.cons rv .nil)) .non⟩
      simp [r.len]; omega
    · cases hk
  · cases hk
theorem ansM_pop : AnsM K mg rPop kPop := fun G H ι a vs xs ds args ds' z Q h hz r rx hk q => by
  unfold kPop at hk
  split at hk
  · split at hk
    · rename_i d hl
      cases hk
      cases rx
      obtain ⟨v, hv, rv⟩ := r.get hl
      refine ⟨a, vs, v, rfl, rfl, h, by rw [r.len]; exact hv, q _ v ?_ r.dropLast rv⟩
      simp; omega
    · cases hk
  · cases hk
theorem ansM_popAt : AnsM K mg rPopAt kPopAt := fun G H ι a vs xs ds args ds' z Q h hz r rx hk q => by
  unfold kPopAt at hk
  split at hk
  · split at hk
    · rename_i i hb
      split at hk
      · rename_i k hi
        split at hk
        · rename_i d hd
          cases hk
          obtain ⟨v0, rfl, rv0⟩ := rx.inv1
          obtain ⟨v, hv, rv⟩ := r.get hd
          refine ⟨a, vs, i, k, v, rfl, by rw [rv0.int_inv], h, hb.1, hb.2, by rw [r.len]; exact hi, hv, q _ v ?_ (r.eraseIdx k) rv⟩
          rw [List.length_eraseIdx]; split <;> omega
        · cases hk
      · cases hk
    · cases hk
  · cases hk
theorem ansM_ins : AnsM K mg (fun x vs H Q => ∃ (l : Addr) (xs : List V) (i : Int) (y : V), x = .ref l ∧ vs = [.int i, y] ∧ H l = some (.lst xs) ∧ xs.length < sizeLine ∧ 0 ≤ i ∧ i < 2 ^ 63 ∧
    Q .non (upd H l (.lst (xs.take i.toNat ++ [y] ++ xs.drop i.toNat)))) kIns := fun G H ι a vs xs ds args ds' z Q h hz r rx hk q => by
  unfold kIns at hk
  split at hk
  · split at hk
    · rename_i i d hb
      cases hk
      obtain ⟨v0, v, rfl, rv0, rv⟩ := rx.inv2
      refine ⟨a, vs, i, v, rfl, by rw [rv0.int_inv], h, by rw [r.len]; exact hb.1, hb.2.1, hb.2.2.2, q _ .non ?_ (((r.take _).append (.cons rv .nil)).append (r.drop _)) .non⟩
      have := r.len
      simp; omega
    · cases hk
  · cases hk
theorem ansM_clear : AnsM K mg rClear kClear := fun G H ι a vs xs ds args ds' z Q h hz r rx hk q => by
  unfold kClear at hk
  split at hk
  · cases hk
    cases rx
    exact ⟨a, vs, rfl, rfl, h, q [] .non (Nat.zero_le _) .nil .non⟩
  · cases hk
end
section
variable {X : Cx} {W : WX} {o e : Expr} {es : List Expr} {f : DEx} {name x : Str} {np apos cpos : Pos} {id : String} {r : V → List V → Hp → VK → Prop} {k : MutK} {i : Nat}
theorem de_mut (slot : Slot "list" name id) (hty : typeOf (.builtin id) = pure (.type "method_descriptor")) (hm : MtR X id r) (hr : AnsM X.K X.mg r k) (ha : DAn X W (e :: es) f)
    (hN : X.N[i]? = some x := by rfl) (hv : Vis X.env.scope x := by first | exact Or.inl rfl | exact Or.inr (Or.inl rfl) | exact Or.inr (Or.inr rfl)) (hd : (x == ("__debug__" : Str)) = false := by decide) (hcd : (x == ("__classdict__" : Str)) = false := by decide)
    (hbase : attributeBase (.Name x np) name X.env (eval (.Name x np) X.env) = eval (.Name x np) X.env := by rfl)
    (hfew : ((backTo cpos (starEach (e :: es) X.env)).all (fun x => !x.1) && (backToKw cpos (keywordEach [] X.env)).all (fun x => x.1.isSome)
      && decide ((e :: es).length + ([] : List Keyword).length + (if ([] : List Keyword).isEmpty then 0 else 1) < 30)) = true := by rfl)
    (hline : (apos.endLine == cpos.line) = true := by rfl) (hs : starEach (e :: es) X.env = (false, eval e X.env) :: starEach es X.env := by rfl) (hplain : (backTo cpos (starEach es X.env)).any (·.1) = false := by rfl) :
    DE X W (.Call (.Attribute (.Name x np) name apos) (e :: es) [] cpos) (mutD i k f) := by
  obtain ⟨⟨t, pt, rt⟩, _⟩ := ha
  exact ⟨_, pe_bm PySem.F.plainAttrs_list slot hty hm (pv i hN hv hd hcd) pt hbase hfew hline hs hplain, refE_mut rt hr⟩
theorem de_mut0 (slot : Slot "list" name id) (hty : typeOf (.builtin id) = pure (.type "method_descriptor")) (hm : MtR X id r) (hr : AnsM X.K X.mg r k)
    (hN : X.N[i]? = some x := by rfl) (hv : Vis X.env.scope x := by first | exact Or.inl rfl | exact Or.inr (Or.inl rfl) | exact Or.inr (Or.inr rfl)) (hd : (x == ("__debug__" : Str)) = false := by decide) (hcd : (x == ("__classdict__" : Str)) = false := by decide)
    (hbase : attributeBase (.Name x np) name X.env (eval (.Name x np) X.env) = eval (.Name x np) X.env := by rfl) (hline : (apos.endLine == cpos.line) = true := by rfl) :
    DE X W (.Call (.Attribute (.Name x np) name apos) [] [] cpos) (mutD i k aNil) :=
  ⟨_, pe_bm0 PySem.F.plainAttrs_list slot hty hm (pv i hN hv hd hcd) hbase hline, refE_mut0 hr⟩
end
end DL
namespace DL
open PySem L2
/-! ### x[i] = e of a slot's list -/
@[simp] def kSet (j : D) : MutK := fun ds args => match args, j with
  | [d], .int k => (match ixN ds.length k with
    | some n => some (ds.set n d, .non)
    | none => none)
  | _, _ => none
@[simp] def subSetD (i : Nat) (p : DPx) (f : DEx) : DSx := thenF f fun d ρ st => match p ρ st with
  | some j => (match mutAt i (kSet j) [d] ρ st with
    | .ok _ ρ st => .nx ρ st
    | _ => .bad)
  | none => .bad
section
variable {X : Cx} {W : WX} {e j : Expr} {f : DEx} {p : DPx} {x : Str} {np pos tpos : Pos} {i : Nat}
theorem ds_sub (he : DE X W e f) (hj : DP X j p)
    (hN : X.N[i]? = some x := by rfl) (hv : Vis X.env.scope x := by first | exact Or.inl rfl | exact Or.inr (Or.inl rfl) | exact Or.inr (Or.inr rfl)) (hd : (x == ("__debug__" : Str)) = false := by decide) (hcd : (x == ("__classdict__" : Str)) = false := by decide)
    (ha : ∀ v, assign (.Subscript (.Name x np) j tpos) X.env v = (do
      let ov ← holding [v] (eval (.Name x np) X.env)
      let iv ← holding [v, ov] (eval j X.env)
      standAt tpos
      holding [v, ov, iv] (setItem ov iv v)
      release [v, ov, iv] []) := by intro _; rfl)
    (hs : swapsWithSole [.Subscript (.Name x np) j tpos] e pos.line X.env = pure false := by rfl) (hw : swappedStores [.Subscript (.Name x np) j tpos] e X.env = pure none := by rfl)
    (h1 : (assignEach [.Subscript (.Name x np) j tpos] X.env).map (·.2) = [assign (.Subscript (.Name x np) j tpos) X.env] := by rfl) : DS X W (.Assign [.Subscript (.Name x np) j tpos] e pos) (subSetD i p f) := by
  obtain ⟨te, pe, re⟩ := he
  obtain ⟨tj, pj, rj⟩ := hj
  refine ⟨_, ps_asg pe (pg_sub (pv i hN hv hd hcd) pj set_list ha) hs hw h1, fun w E s q => ?_⟩
  refine re.bindF s q fun w1 v d s1 e1 a1 r1 q1 => ?_
  cases z : p w1.ρ w1.st with
  | none => simp only [z] at q1; exact q1.elim
  | some jd =>
    simp only [z] at q1
    have q2 : OkR X.K X.mg W w1 (fun _ H => E.nx w1.σ H) (mutAt i (kSet jd) [d] w1.ρ w1.st) := by
      cases y : mutAt i (kSet jd) [d] w1.ρ w1.st with
      | ok d' ρ st =>
        rw [y] at q1
        intro w' v h1 h2 h3 A r
        have := q1 w' h1 h2 A
        rw [h3] at this; exact this
      | exc c ρ st => rw [y] at q1; exact q1.elim
      | bad => rw [y] at q1; exact q1.elim
    obtain ⟨a, vs, ds, ds', y, h1, h2, h3, h4, h5, h6⟩ := mutAt_inv s1 q2
    show gSub (tVar i) tj rSetL v w.σ w1.H E.nx
    refine ⟨.ref a, by rw [← e1]; exact h1, ?_⟩
    rw [← e1]
    refine rj w1 _ jd s1 z fun vj rvj => ?_
    unfold kSet at h5
    split at h5
    · split at h5
      · rename_i n hn
        cases h5
        rename_i heq _
        cases heq
        refine ⟨a, vs, _, n, rfl, rvj.int_inv, h2, by rw [h4.len]; exact hn, ?_⟩
        exact h6 (vs.set n v) .non (by simpa using h3) (h4.set r1 n) .non
      · cases h5
    · cases h5
end
/-! ### list(x), tuple(x) -/
@[simp] def kOf : D → Option (List D)
  | .lst ds => some ds
  | .tup ds => some ds
  | .lsk ds => some ds
  | _ => none
@[simp] def listD (f : DEx) : DEx := fun ρ st => (f ρ st).bind fun d ρ st => match kOf d with
  | some ds => .ok (.lst ds) ρ st
  | none => .bad
@[simp] def tupleD (f : DEx) : DEx := fun ρ st => (f ρ st).bind fun d ρ st => match kOf d with
  | some ds => .ok (.tup ds) ρ st
  | none => .bad
theorem listD_isL {f : DEx} : IsL (listD f) := fun ρ st d ρ' st' h => by
  unfold listD at h
  cases e : f ρ st with
  | ok d1 ρ1 st1 =>
    rw [e] at h
    simp only [R.bind] at h
    split at h
    · cases h; exact ⟨_, rfl⟩
    · cases h
  | exc c ρ1 st1 => rw [e] at h; cases h
  | bad => rw [e] at h; cases h
theorem RepV.seq {K : PySem.W.Frag} {mg : Str → Option Value} {w : Ws} {v : V} {d : D} {ds : List D} (s : Sts K mg w) (h : RepV K mg w v d) (k : kOf d = some ds) : ∃ a vs, v = .ref a ∧ (SqL K w.H a vs ∨ SqT K w.G a vs) ∧ vs.length ≤ sizeLine ∧ Reps K mg w.G w.ι vs ds := by
  cases d with
  | lst es => cases k; obtain ⟨a, vs, e, h1, h2, h3⟩ := h.lst_inv s; exact ⟨a, vs, e, .inl (SqL.of h1), h2, h3⟩
  | lsk es => cases k; obtain ⟨a, vs, e, h1, h2, h3⟩ := h.lsk_inv s; exact ⟨a, vs, e, .inl h1, h2, h3⟩
  | tup es =>
    cases k
    rcases h with h | ⟨a, vs, ds, rfl, e, h1, h2, h3⟩ | ⟨a, vs, ds, _, e, _⟩
    · cases h with
      | tup h l r => exact ⟨_, _, rfl, .inr h, l, r⟩
    · cases e
    · cases e
  | _ => cases k
theorem RefV.bindO {K : PySem.W.Frag} {mg : Str → Option Value} {W : WX} {t : TE} {f : DEx} (h : RefV K mg W t f) {w : Ws} {Q Q1 : VK} {r : D → En → Store → R} (s : Sts K mg w) (hP : OkO K mg W w Q ((f w.ρ w.st).bind r))
    (k : ∀ (w1 : Ws) (v : V) (d : D), w1.σ = w.σ → Aft K mg w w1 → RepV K mg w1 v d → OkO K mg W w Q (r d w1.ρ w1.st) → Q1 v w1.H) : t w.σ w.H Q1 :=
  h.bind (P := OkO K mg W w Q) s hP (fun _ _ _ z => z) (fun z => z) fun w1 v d e a rp q => k w1 v d e a rp q
section
variable {X : Cx} {W : WX} {e e2 a b : Expr} {f g : DEx} {p pos : Pos}
theorem do_list (hg : Gl X "list") (hm : X.mg "list" = none) (ha : DV X W e f) (he : starEach [e] X.env = (false, eval e X.env) :: starEach [] X.env := by rfl) (hpl : (backTo pos (starEach [] X.env)).any (·.1) = false := by rfl) : DO X W (.Call (.Name "list" p) [e] [] pos) (listD f) := by
  obtain ⟨te, pe, re⟩ := ha
  refine ⟨⟨_, pe_callTy call_list_of hg hm (by decide +kernel) (pa_cons pe pa_nil he) (by decide) (by decide) he hpl, fun w Q s q => ?_⟩, listD_isL⟩
  refine re.bindO s q fun w1 v d e1 a1 r1 q1 => ?_
  cases z : kOf d with
  | none => simp only [z] at q1; exact q1.elim
  | some ds =>
    simp only [z] at q1
    obtain ⟨a, vs, rfl, h1, h2, h3⟩ := r1.seq a1.s z
    refine ⟨a, vs, rfl, ?_, fun l hl => OkO.mk a1 e1 hl h2 h3 q1⟩
    rcases h1 with h1 | h1
    · exact .inl h1
    · exact .inr (SqT.mono a1.s.sub h1)
theorem de_tuple (hg : Gl X "tuple") (hm : X.mg "tuple" = none) (ha : DV X W e f) (he : starEach [e] X.env = (false, eval e X.env) :: starEach [] X.env := by rfl) (hpl : (backTo pos (starEach [] X.env)).any (·.1) = false := by rfl) : DE X W (.Call (.Name "tuple" p) [e] [] pos) (tupleD f) := by
  obtain ⟨te, pe, re⟩ := ha
  refine ⟨_, pe_callTy call_tuple_of hg hm (by decide +kernel) (pa_cons pe pa_nil he) (by decide) (by decide) he hpl, fun w Q s q => ?_⟩
  refine re.bindR (Q := Q) s q fun w1 v d s1 e1 a1 r1 q1 => ?_
  cases z : kOf d with
  | none => simp only [z] at q1; exact q1.elim
  | some ds =>
    simp only [z] at q1
    obtain ⟨a, vs, rfl, h1, h2, h3⟩ := r1.seq s1 z
    refine ⟨a, vs, rfl, ?_⟩
    rcases h1 with h1 | h1
    · refine .inl ⟨h1, fun l hl => ?_⟩
      have A := Aft.alloc (o := .tup vs) s1 hl
      exact q1 { w1 with G := upd w1.G l (.tup vs), H := upd w1.H l (.tup vs) } (.ref l) rfl rfl rfl A (.tup (.inl (.inl upd_same)) h2 (h3.mono A.g A.i))
    · exact .inr ⟨SqT.mono s1.sub h1, q1 w1 _ rfl rfl rfl (Aft.refl s1) (.tup h1 h2 h3)⟩
/-! ### lists joined, repeated -/
@[simp] def catD (f g : DEx) : DEx := fun ρ st => (f ρ st).bind fun d ρ st => (g ρ st).bind fun e ρ st => match d, e with
  | .lst xs, .lst ys => if xs.length + ys.length ≤ sizeLine then .ok (.lst (xs ++ ys)) ρ st else .bad
  | _, _ => .bad
@[simp] noncomputable def repD (f g : DEx) : DEx := fun ρ st => (f ρ st).bind fun d ρ st => (g ρ st).bind fun e ρ st => match d, e with
  | .lst xs, .int k => if Rs k ∧ xs.length * k.toNat ≤ sizeLine then .ok (.lst (List.replicate k.toNat xs).flatten) ρ st else .bad
  | _, _ => .bad
theorem bind2_isL {k : D → D → En → Store → R} (hk : ∀ d e ρ st z ρ' st', k d e ρ st = .ok z ρ' st' → ∃ ds, z = .lst ds) : IsL (fun ρ st => (f ρ st).bind fun d ρ st => (g ρ st).bind fun e ρ st => k d e ρ st) := fun ρ st d ρ' st' h => by
  cases e : f ρ st with
  | ok d1 ρ1 st1 =>
    simp only [e, R.bind] at h
    cases e2 : g ρ1 st1 with
    | ok d2 ρ2 st2 => simp only [e2] at h; exact hk _ _ _ _ _ _ _ h
    | exc c ρ2 st2 => simp only [e2] at h; cases h
    | bad => simp only [e2] at h; cases h
  | exc c ρ1 st1 => simp only [e, R.bind] at h; cases h
  | bad => simp only [e, R.bind] at h; cases h
theorem catD_isL : IsL (catD f g) := bind2_isL fun d e ρ st z ρ' st' h => by
  split at h
  · split at h
    · cases h; exact ⟨_, rfl⟩
    · cases h
  · cases h
theorem repD_isL : IsL (repD f g) := bind2_isL fun d e ρ st z ρ' st' h => by
  split at h
  · split at h
    · cases h; exact ⟨_, rfl⟩
    · cases h
  · cases h
theorem RefE.bindO {K : PySem.W.Frag} {mg : Str → Option Value} {t : TE} (h : RefE K mg W t f) {w w0 : Ws} {Q Q1 : VK} {r : D → En → Store → R} (s : Sts K mg w) (a0 : Aft K mg w0 w) (e0 : w.σ = w0.σ) (hP : OkO K mg W w0 Q ((f w.ρ w.st).bind r))
    (k : ∀ (w1 : Ws) (v : V) (d : D), w1.σ = w0.σ → Aft K mg w w1 → Aft K mg w0 w1 → Rep K mg w1.G w1.ι v d → OkO K mg W w0 Q (r d w1.ρ w1.st) → Q1 v w1.H) : t w.σ w.H Q1 :=
  h.bind (P := OkO K mg W w0 Q) s hP (fun c ρ st z w' cls dx h1 h2 h3 A x => z w' cls dx h1 h2 (h3.trans e0) (a0.trans A) x) (fun z => z) fun w1 v d e a rp q => k w1 v d (e.trans e0) a (a0.trans a) rp q
theorem do_cat (ha : DE X W a f) (hb : DE X W b g) : DO X W (.BinOp a .Add b pos) (catD f g) := by
  obtain ⟨ta, pa, ra⟩ := ha
  obtain ⟨tb, pb, rb⟩ := hb
  refine ⟨⟨_, pe_op op_cat pa pb, fun w Q s q => ?_⟩, catD_isL⟩
  refine ra.bindO s (Aft.refl s) rfl q fun w1 x d e1 a1 _ r1 q1 => ?_
  show tb w.σ w1.H _
  rw [← e1]
  refine rb.bindO a1.s a1 e1 q1 fun w2 y e e2 a2 a02 r2 q2 => ?_
  split at q2
  · split at q2
    · rename_i xs ys hz
      cases r1 with
      | lst h1 l1 s1 =>
        cases r2 with
        | lst h2 l2 s2 =>
          have hz' := hz
          rw [← s1.len, ← s2.len] at hz'
          refine ⟨_, _, _, _, rfl, rfl, a2.s.sub _ _ (a2.g _ _ h1), a2.s.sub _ _ h2, hz', fun p hp => OkO.mk a02 e2 hp (by rw [List.length_append]; exact hz') ((s1.mono a2.g a2.i).append s2) q2⟩
    · exact q2.elim
  · exact q2.elim
theorem Reps.rep {K : PySem.W.Frag} {mg : Str → Option Value} {G : Hp} {ι : List Addr} {vs : List V} {ds : List D} (r : Reps K mg G ι vs ds) : ∀ n : Nat, Reps K mg G ι (List.replicate n vs).flatten (List.replicate n ds).flatten
  | 0 => .nil
  | n + 1 => by simpa [List.replicate_succ] using r.append (Reps.rep r n)
theorem do_rep (ha : DE X W a f) (hb : DE X W b g) : DO X W (.BinOp a .Mult b pos) (repD f g) := by
  obtain ⟨ta, pa, ra⟩ := ha
  obtain ⟨tb, pb, rb⟩ := hb
  refine ⟨⟨_, pe_op op_rep pa pb, fun w Q s q => ?_⟩, repD_isL⟩
  refine ra.bindO s (Aft.refl s) rfl q fun w1 x d e1 a1 _ r1 q1 => ?_
  show tb w.σ w1.H _
  rw [← e1]
  refine rb.bindO a1.s a1 e1 q1 fun w2 y e e2 a2 a02 r2 q2 => ?_
  split at q2
  · split at q2
    · rename_i xs k hz
      cases r1 with
      | lst h1 l1 s1 =>
        refine ⟨_, k, _, rfl, r2.int_inv, a2.s.sub _ _ (a2.g _ _ h1), hz.1.1, hz.1.2, by rw [s1.len]; exact hz.2, fun p hp => OkO.mk a02 e2 hp ?_ ((s1.mono a2.g a2.i).rep _) q2⟩
        have := hz.2
        rw [← s1.len] at this
        simpa [Nat.mul_comm] using this
    · exact q2.elim
  · exact q2.elim
/-! ### join -/
@[simp] def strL : List D → Option (List Str)
  | [] => some []
  | .str x :: ds => (strL ds).map (x :: ·)
  | _ :: _ => none
theorem strL_reps {K : PySem.W.Frag} {mg : Str → Option Value} {G : Hp} {ι : List Addr} : ∀ {vs : List V} {ds : List D} {bs : List Str}, Reps K mg G ι vs ds → strL ds = some bs → vs = bs.map V.str
  | _, [], _, .nil, h => by cases h; rfl
  | _, d :: ds, bs, .cons r rs, h => by
    cases d with
    | str b =>
      obtain ⟨bs', e, rfl⟩ := Option.map_eq_some_iff.mp h
      rw [r.str_inv, strL_reps rs e]; rfl
    | _ => simp [strL] at h
@[simp] def pJoin : D → D → Option D
  | .str z, d => (match kOf d with
    | some ds => (match strL ds with
      | some ys => if (ys.map (·.length)).sum + ys.length * z.length ≤ 16777216 then some (.str (Txt.join z ys)) else none
      | none => none)
    | none => none)
  | _, _ => none
theorem de_join {o : Expr} {apos : Pos} (hco : ∀ ρ st, ∃ z, f ρ st = .ok (.str z) ρ st) (ho : DE X W o f) (he : DV X W e g) (hs : starEach [e] X.env = [(false, eval e X.env)] := by rfl) (hbase : attributeBase o "join" X.env (eval o X.env) = eval o X.env := by rfl) (hline : (apos.endLine == pos.line) = true := by rfl) :
    DE X W (.Call (.Attribute o "join" apos) [e] [] pos) (lift2 pJoin f g) := by
  obtain ⟨to, po, ro⟩ := ho
  obtain ⟨te, pe, re⟩ := he
  refine ⟨_, pe_join po pe hs hbase hline, fun w Q s q => ?_⟩
  obtain ⟨z0, hz0⟩ := hco w.ρ w.st
  refine ro w _ s ?_
  rw [hz0]
  intro w1 x h1 h2 e1 a1 r1
  unfold lift2 at q
  rw [hz0] at q
  simp only [R.bind] at q
  refine ⟨⟨z0, r1.str_inv⟩, ?_⟩
  rw [← e1]
  have q1 : OkR X.K X.mg W w1 Q ((g w1.ρ w1.st).bind fun e ρ st => match pJoin (.str z0) e with | some z => .ok z ρ st | none => .bad) := by
    rw [h1, h2]; exact OkR.aft q a1 e1
  refine re.bindR (Q := Q) a1.s q1 fun w2 y e' s2 e2 a2 r2 q2 => ?_
  cases z : pJoin (.str z0) e' with
  | none => simp only [z] at q2; exact q2.elim
  | some z1 =>
    simp only [z] at q2
    unfold pJoin at z
    simp only at z
    split at z
    · rename_i ds hk
      split at z
      · rename_i ys hy
        split at z
        · rename_i hz
          cases z
          obtain ⟨p, vs, rfl, h1, h2, h3⟩ := r2.seq s2 hk
          have ev := strL_reps h3 hy
          refine ⟨z0, p, ys, r1.str_inv, rfl, ?_, hz, q2 w2 _ rfl rfl rfl (Aft.refl s2) (.str _)⟩
          rw [← ev]
          rcases h1 with h1 | h1
          · exact .inl h1
          · exact .inr (SqT.mono s2.sub h1)
        · cases z
      · cases z
    · cases z
end
end DL
namespace DL
open PySem L2
/-! ### isinstance with built-in types -/
@[simp] def tyD : D → Option String
  | .non => some "NoneType"
  | .bl _ => some "bool"
  | .int _ => some "int"
  | .str _ => some "str"
  | .tup _ => some "tuple"
  | .lst _ => some "list"
  | .lsk _ => some "list"
  | .dct _ => some "dict"
  | _ => none
theorem RepV.ty {K : PySem.W.Frag} {mg : Str → Option Value} {w : Ws} {v : V} {d : D} {n : String} (s : Sts K mg w) (h : RepV K mg w v d) (k : tyD d = some n) : TyX K w.H v (.type n) := by
  have h' := h.h s
  clear h
  cases h' with
  | non => cases k; exact .base .non
  | bl b => cases k; exact .base (.bl b)
  | int i => cases k; exact .base (.int i)
  | str x => cases k; exact .base (.str x)
  | lst q l r => cases k; exact .base (.lst q)
  | lsk q l r =>
    cases k
    rcases q with (q | ⟨o, q⟩) | ⟨o, its, n, q1, q2, _⟩
    · exact .base (.lst q)
    · exact .base (.frz q)
    · exact .kList q1 q2
  | tup q l r =>
    cases k
    rcases q with (q | ⟨o, q⟩) | ⟨o, its, n, q1, q2, _⟩
    · exact .base (.tup q)
    · exact .fTuple q
    · exact .kTuple q1 q2
  | dct q r =>
    cases k
    rcases q with q | ⟨o, q⟩
    · exact .base (.dK q)
    · exact .fDict q
  | ins _ _ _ _ => cases k
  | ref _ => cases k
  | glb _ _ => cases k
  | typ _ => cases k
@[simp] def pIsi (T : String) (d : D) : Option D := match tyD d with
  | some n => (kitB n T).map .bl
  | none => none
@[simp] def isiAny (n : String) : List String → Option Bool
  | [] => some false
  | T :: r => match kitB n T with
    | some true => some true
    | some false => isiAny n r
    | none => none
@[simp] def pIsiT (Ts : List String) (d : D) : Option D := match tyD d with
  | some n => (isiAny n Ts).map .bl
  | none => none
theorem isiAny_kit {K : PySem.W.Frag} {n : String} : ∀ {Ts : List String} {b : Bool}, isiAny n Ts = some b → PySem.W.kitAny K (.type n) (Ts.map .type) = some b
  | [], b, h => by cases h; exact kitAny_nil
  | T :: r, b, h => by
    unfold isiAny at h
    split at h
    · rename_i e
      cases h
      exact kitAny_cons (kit_ty e) (fun h => by cases h) (fun _ => rfl)
    · rename_i e
      exact kitAny_cons (b := false) (kit_ty e) (fun _ => isiAny_kit h) (fun h => by cases h)
    · cases h
/-- names of built-in types -/
def Tys (X : Cx) (es : List Expr) (Ts : List String) : Prop := PA X es (fun _ H Q => Q (Ts.map V.ty) H)
theorem tys_nil {X : Cx} : Tys X [] [] := pa_nil
section
variable {X : Cx} {W : WX} {e : Expr} {es : List Expr} {f : DEx} {p np tpos pos : Pos} {x : Str} {T : String} {Ts : List String}
theorem tys_cons (hg : Gl X x) (hm : X.mg x = none) (hv : bootBuiltins x = some (.type T)) (ht : Tys X es Ts) (hn : x ≠ "__name__" := by decide) (hdb : (x == ("__debug__" : Str)) = false := by decide) (hs : starEach (.Name x np :: es) X.env = (false, eval (.Name x np) X.env) :: starEach es X.env := by rfl) : Tys X (.Name x np :: es) (T :: Ts) := by
  have := pa_cons (pe_bltn (v := .ty T) hg hm hv rfl hn hdb) ht hs
  exact this
theorem paired_ty : ∀ Ts : List String, Paired ClsV (Ts.map V.ty) (Ts.map Value.type)
  | [] => .nil
  | T :: r => .cons (.ty T) (paired_ty r)
theorem de_isi (hg : Gl X "isinstance") (hm : X.mg "isinstance" = none) (hgT : Gl X x) (hmT : X.mg x = none) (hvT : bootBuiltins x = some (.type T)) (ha : DV X W e f) (hn : x ≠ "__name__" := by decide) (hdb : (x == ("__debug__" : Str)) = false := by decide)
    (he : starEach [e, .Name x np] X.env = (false, eval e X.env) :: starEach [.Name x np] X.env := by rfl) (he2 : starEach [.Name x np] X.env = (false, eval (.Name x np) X.env) :: starEach [] X.env := by rfl) (hpl : (backTo pos (starEach [.Name x np] X.env)).any (·.1) = false := by rfl) :
    DE X W (.Call (.Name "isinstance" p) [e, .Name x np] [] pos) (lift1 (pIsi T) f) := by
  obtain ⟨te, pe, re⟩ := ha
  refine ⟨_, pe_callB call_isi hg hm (by decide +kernel) (pa_cons pe (pa_cons (pe_bltn (v := .ty T) hgT hmT hvT rfl hn hdb) pa_nil he2) he) (by decide) (by decide) he hpl, fun w Q s q => ?_⟩
  refine re.bindR (Q := Q) s q fun w1 v d s1 e1 a1 r1 q1 => ?_
  cases z : pIsi T d with
  | none => simp only [z] at q1; exact q1.elim
  | some y =>
    simp only [z] at q1
    unfold pIsi at z
    split at z
    · rename_i n hn
      obtain ⟨b, hb, rfl⟩ := Option.map_eq_some_iff.mp z
      exact ⟨v, .ty T, .type n, .type T, b, rfl, .ty T, r1.ty s1 hn, kit_ty hb, q1 w1 _ rfl rfl rfl (Aft.refl s1) (.bl _)⟩
    · cases z
theorem de_isiT {k : Nat} (hg : Gl X "isinstance") (hm : X.mg "isinstance" = none) (ht : Tys X es Ts) (ha : DE X W e f)
    (he : starEach [e, .Tuple es k tpos] X.env = (false, eval e X.env) :: starEach [.Tuple es k tpos] X.env := by rfl) (he2 : starEach [.Tuple es k tpos] X.env = (false, eval (.Tuple es k tpos) X.env) :: starEach [] X.env := by rfl) (hpl : (backTo pos (starEach [.Tuple es k tpos] X.env)).any (·.1) = false := by rfl)
    (hl : Ts.length ≤ sizeLine := by decide) : DE X W (.Call (.Name "isinstance" p) [e, .Tuple es k tpos] [] pos) (lift1 (pIsiT Ts) f) := by
  obtain ⟨te, pe, re⟩ := ha
  refine ⟨_, pe_callB call_isiT hg hm (by decide +kernel) (pa_cons pe (pa_cons (pe_tup ht) pa_nil he2) he) (by decide) (by decide) he hpl, fun w Q s q => ?_⟩
  refine re.bindR (Q := Q) s q fun w1 v d s1 e1 a1 r1 q1 => ?_
  refine ⟨by simpa using hl, fun l hp => ?_⟩
  have A := Aft.alloc (o := .tup (Ts.map V.ty)) s1 hp
  cases z : pIsiT Ts d with
  | none => simp only [z] at q1; exact q1.elim
  | some y =>
    simp only [z] at q1
    unfold pIsiT at z
    split at z
    · rename_i n hn
      obtain ⟨b, hb, rfl⟩ := Option.map_eq_some_iff.mp z
      refine ⟨v, l, Ts.map V.ty, .type n, Ts.map .type, b, rfl, upd_same, paired_ty Ts, RepV.ty A.s (.inl (r1.mono A.g A.i)) hn, isiAny_kit hb, ?_⟩
      exact q1 { w1 with G := upd w1.G l (.tup (Ts.map V.ty)), H := upd w1.H l (.tup (Ts.map V.ty)) } _ rfl rfl rfl A (.bl _)
    · cases z
end
/-! ### sorted -/
/-- the order of data: by the library's -/
def leD (d e : D) : Bool := PySem.W.dataLe false (fun d : D => d.py.getD .none) d e
def sortOk (ds : List D) : Prop := ∃ ps, pyAll ds = some ps ∧ PySem.W.AllAlike ps ∧ PySem.W.Sortable ps ∧ ∀ p ∈ ps, p.depth ≤ 64
def rSortD (K : PySem.W.Frag) : List V → Hp → VK → Prop := fun xs H Q => ∃ (a : Addr) (zs : List (V × PyData)), xs = [.ref a] ∧ SqL K H a (zs.map (·.1)) ∧ DpAll K H (zs.map (·.1)) (zs.map (·.2)) ∧ PySem.W.AllAlike (zs.map (·.2)) ∧ PySem.W.Sortable (zs.map (·.2)) ∧ (∀ z ∈ zs, z.2.depth ≤ 64) ∧
  ∀ l, H l = none → Q (.ref l) (upd H l (.lst ((zs.mergeSort (PySem.W.dataLe false (·.2))).map (·.1))))
section
variable {X : Cx} {pins : List (Addr × Obj)} {σ : L2.St} {H : Hp} {s : Shared}
theorem each_rel : ∀ {zs : List (V × PyData)} {us : List Value}, Vals (zs.map (·.1)) us → PySem.W.EachIs (fun u (z : V × PyData) => RelV z.1 u) us zs
  | [], [], _ => .nil
  | z :: zs, u :: us, h => by
    cases h with
    | cons r t => exact .cons r (each_rel t)
  | [], _ :: _, h => by cases h
  | _ :: _, [], h => by cases h
theorem rel_each : ∀ {zs : List (V × PyData)} {us : List Value}, PySem.W.EachIs (fun u (z : V × PyData) => RelV z.1 u) us zs → Vals (zs.map (·.1)) us
  | _, _, .nil => .nil
  | _, _, .cons r t => .cons r (rel_each t)
theorem each_reads (I : Inv X pins σ H s) : ∀ {zs : List (V × PyData)} {us : List Value}, DpAll X.K H (zs.map (·.1)) (zs.map (·.2)) → Vals (zs.map (·.1)) us → PySem.W.EachIs (fun u (z : V × PyData) => ∃ as, Reads s.heap u z.2 as) us zs
  | [], [], _, _ => .nil
  | z :: zs, u :: us, d, h => by
    cases h with
    | cons r t =>
      cases d with
      | cons d ds => exact .cons (Dp.reads I _ _ _ d r) (each_reads I ds t)
  | [], _ :: _, _, h => by cases h
  | _ :: _, [], _, h => by cases h
theorem cr_sortD (hu : X.A.units + 80 < cLine) : CallR X (.builtin "sorted") (rSortD X.K) := by
  intro pins s σ H xs us Q I r h
  obtain ⟨a, zs, rfl, hs, hd, hal, hso, hdp, q⟩ := h
  obtain ⟨u, rfl, ru⟩ := vals1 r
  cases ru
  obtain ⟨its, rv, pl, hz⟩ := I.list hs
  have hlen : zs.length ≤ sizeLine := by simpa using hz
  refine PySem.W.sorted_data (R := fun u (z : V × PyData) => RelV z.1 u) (enc := fun z : V × PyData => z.2) (bs := zs) pl.isList (each_rel rv) (each_reads I hd rv) hal hso hlen (fun z hz => by have := hdp z hz; omega) fun out ho eo => ?_
  obtain ⟨c, hc⟩ := PyProof.Rows.sortedAll_at s.heap its out.toArray
  have kp : ∀ b o, s.heap.get? b = some o → (PyProof.Rows.sortedAll s.heap its out.toArray).get? b = some o := fun _ _ => PyProof.Rows.sortedAll_old
  have hn : H (s.heap.objs.size + 1) = none := I.hok.fresh (Nat.le_succ _)
  have hl : ((zs.mergeSort (PySem.W.dataLe false (·.2))).map (·.1)).length ≤ sizeLine := by simpa using hlen
  exact ⟨.ref (s.heap.objs.size + 1), _, I.laid (t' := s.toks) kp (Nat.le_succ _) (show ObjOk X.prog X.w _ _ _ (.lst ((zs.mergeSort (PySem.W.dataLe false (·.2))).map (·.1))) from ⟨hl, out, c, rel_each eo, hc⟩), rfl, q _ hn⟩
end
open Classical in
noncomputable def sortD (f : DEx) : DEx := fun ρ st => (f ρ st).bind fun d ρ st => match d with
  | .lst ds => if sortOk ds then .ok (.lst (ds.mergeSort leD)) ρ st else .bad
  | _ => .bad
theorem sortD_isL {f : DEx} : IsL (sortD f) := fun ρ st d ρ' st' h => by
  unfold sortD at h
  cases e : f ρ st with
  | ok d1 ρ1 st1 =>
    rw [e] at h
    simp only [R.bind] at h
    split at h
    · split at h
      · cases h; exact ⟨_, rfl⟩
      · cases h
    · cases h
  | exc c ρ1 st1 => rw [e] at h; cases h
  | bad => rw [e] at h; cases h
theorem pyAll_map : ∀ {ds : List D} {ps : List PyData}, pyAll ds = some ps → ps = ds.map (fun d => d.py.getD .none)
  | [], ps, h => by simp only [pyAll, Option.some.injEq] at h; subst h; rfl
  | d :: ds, ps, h => by
    simp only [pyAll] at h
    split at h
    · rename_i p ps' e1 e2
      cases h
      simp [e1, ← pyAll_map e2]
    · cases h
theorem reps_zip {K : PySem.W.Frag} {mg : Str → Option Value} {G : Hp} {ι : List Addr} : ∀ {vs : List V} {ds : List D}, Reps K mg G ι vs ds → ∃ zs : List (V × D), zs.map (·.1) = vs ∧ zs.map (·.2) = ds ∧ ∀ z ∈ zs, Rep K mg G ι z.1 z.2
  | _, _, .nil => ⟨[], rfl, rfl, fun _ h => by simp at h⟩
  | _, _, .cons r rs => by
    obtain ⟨zs, e1, e2, h⟩ := reps_zip rs
    refine ⟨(_, _) :: zs, by simp [e1]; rfl, by simp [e2]; rfl, fun z hz => ?_⟩
    rcases List.mem_cons.mp hz with rfl | hz
    · exact r
    · exact h z hz
theorem zip_reps {K : PySem.W.Frag} {mg : Str → Option Value} {G : Hp} {ι : List Addr} : ∀ {zs : List (V × D)}, (∀ z ∈ zs, Rep K mg G ι z.1 z.2) → Reps K mg G ι (zs.map (·.1)) (zs.map (·.2))
  | [], _ => .nil
  | z :: zs, h => .cons (h z (by simp)) (zip_reps fun y hy => h y (by simp [hy]))
section
variable {X : Cx} {W : WX} {e : Expr} {f : DEx} {p pos : Pos}
theorem do_sorted (hu : X.A.units + 80 < cLine) (hg : Gl X "sorted") (hm : X.mg "sorted" = none) (ha : DV X W e f) (he : starEach [e] X.env = (false, eval e X.env) :: starEach [] X.env := by rfl) (hpl : (backTo pos (starEach [] X.env)).any (·.1) = false := by rfl) :
    DO X W (.Call (.Name "sorted" p) [e] [] pos) (sortD f) := by
  obtain ⟨te, pe, re⟩ := ha
  refine ⟨⟨_, pe_callB (cr_sortD hu) hg hm (by decide +kernel) (pa_cons pe pa_nil he) (by decide) (by decide) he hpl, fun w Q s q => ?_⟩, sortD_isL⟩
  refine re.bindO s q fun w1 v d e1 a1 r1 q1 => ?_
  split at q1
  · rename_i ds
    split at q1
    · rename_i hok
      obtain ⟨ps, hp, hal, hso, hdp⟩ := hok
      obtain ⟨a, vs, rfl, h1, h2, h3⟩ := r1.lst_inv a1.s
      obtain ⟨zs, rfl, rfl, hz⟩ := reps_zip h3
      have hm := pyAll_map hp
      have e2 : (zs.map fun z => (z.1, z.2.py.getD .none)).map (·.2) = ps := by
        rw [hm, List.map_map, List.map_map]; rfl
      have e3 : (zs.map fun z => (z.1, z.2.py.getD .none)).map (·.1) = zs.map (·.1) := by
        rw [List.map_map]; rfl
      refine ⟨a, zs.map fun z => (z.1, z.2.py.getD .none), rfl, by rw [e3]; exact SqL.of h1, ?_, by rw [e2]; exact hal, by rw [e2]; exact hso, fun z hz' => hdp z.2 (by rw [← e2]; exact List.mem_map_of_mem hz'), fun l hl => ?_⟩
      · rw [e2, e3]
        exact dpAll_mono a1.s.sub (h3.dp hp)
      · have em : ((zs.map fun z => (z.1, z.2.py.getD .none)).mergeSort (PySem.W.dataLe false (·.2))).map (·.1) = (zs.mergeSort (fun x y => leD x.2 y.2)).map (·.1) := by
          rw [← PySem.W.sort_maps (r := fun x y : V × D => leD x.2 y.2) (fun z : V × D => (z.1, z.2.py.getD .none)) (fun _ _ _ _ => rfl), List.map_map]; rfl
        rw [em]
        have ed : (zs.mergeSort (fun x y => leD x.2 y.2)).map (·.2) = (zs.map (·.2)).mergeSort leD := PySem.W.sort_maps _ (fun _ _ _ _ => rfl)
        refine OkO.mk a1 e1 hl (by simpa using h2) ?_ q1
        rw [← ed]
        exact zip_reps fun z hz' => hz z (List.mem_mergeSort.mp hz')
    · exact q1.elim
  · exact q1.elim
end
end DL
namespace DL
open PySem L2
theorem fz_lst {K : PySem.W.Frag} {mg : Str → Option Value} {w : Ws} (s : Sts K mg w) {p : Addr} (hp : w.H p = none) {vs : List V} {ds : List D} (hz : vs.length ≤ sizeLine) (r : Reps K mg w.G w.ι vs ds) :
    ∃ w' : Ws, w'.ρ = w.ρ ∧ w'.st = w.st ∧ w'.σ = w.σ ∧ w'.H = upd w.H p (.lst vs) ∧ Aft K mg w w' ∧ Rep K mg w'.G w'.ι (.ref p) (.lst ds) :=
  have A := Aft.alloc (o := .lst vs) s hp
  ⟨{ w with G := upd w.G p (.lst vs), H := upd w.H p (.lst vs) }, rfl, rfl, rfl, rfl, A, .lst upd_same hz (r.mono A.g A.i)⟩
theorem fz_tup {K : PySem.W.Frag} {mg : Str → Option Value} {w : Ws} (s : Sts K mg w) {p : Addr} (hp : w.H p = none) {vs : List V} {ds : List D} (hz : vs.length ≤ sizeLine) (r : Reps K mg w.G w.ι vs ds) :
    ∃ w' : Ws, w'.ρ = w.ρ ∧ w'.st = w.st ∧ w'.σ = w.σ ∧ w'.H = upd w.H p (.tup vs) ∧ Aft K mg w w' ∧ Rep K mg w'.G w'.ι (.ref p) (.tup ds) :=
  have A := Aft.alloc (o := .tup vs) s hp
  ⟨{ w with G := upd w.G p (.tup vs), H := upd w.H p (.tup vs) }, rfl, rfl, rfl, rfl, A, .tup (.inl (.inl upd_same)) hz (r.mono A.g A.i)⟩
/-! ### + of anything: ints, texts, lists, tuples -/
@[simp] def addK : D → D → Option D
  | .int i, .int j => some (.int (i + j))
  | .str x, .str y => if x.length + y.length ≤ sizeLine then some (.str (x ++ y)) else none
  | .lst xs, .lst ys => if xs.length + ys.length ≤ sizeLine then some (.lst (xs ++ ys)) else none
  | .tup xs, .tup ys => if xs ≠ [] ∧ xs.length + ys.length ≤ sizeLine then some (.tup (xs ++ ys)) else none
  | _, _ => none
/-- an operation that may make a frozen object -/
def AnsF (K : PySem.W.Frag) (mg : Str → Option Value) (r : R2) (p : D → D → Option D) : Prop :=
  ∀ (w : Ws) (x y : V) (d e z : D) (Q : VK), Sts K mg w → Rep K mg w.G w.ι x d → Rep K mg w.G w.ι y e → p d e = some z → (∀ (w' : Ws) v, w'.ρ = w.ρ → w'.st = w.st → w'.σ = w.σ → Aft K mg w w' → Rep K mg w'.G w'.ι v z → Q v w'.H) → r x y w.H Q
section
variable {K : PySem.W.Frag} {mg : Str → Option Value} {W : WX}
theorem ref_opF {r : R2} {p : D → D → Option D} {ta tb : TE} {f g : DEx} (hr : AnsF K mg r p) (ha : RefE K mg W ta f) (hb : RefE K mg W tb g) : RefE K mg W (tOp r ta tb) (lift2 p f g) := fun w Q s h => by
  refine ha.bindR (Q := Q) s h fun w1 x d s1 e1 a1 r1 h1 => ?_
  show tb w.σ w1.H _
  rw [← e1]
  refine hb.bindR (Q := Q) s1 h1 fun w2 y e s2 e2 a2 r2 h2 => ?_
  cases q : p d e with
  | none => simp only [q] at h2; exact h2.elim
  | some z =>
    simp only [q] at h2
    exact hr w2 x y d e z Q s2 (r1.mono a2.g a2.i) r2 q fun w' v h3 h4 h5 A rv => h2 w' v h3 h4 h5 A rv
theorem Ans2.f {r : R2} {p : D → D → Option D} (h : Ans2 K mg r p) : AnsF K mg r p := fun w x y d e z Q s rx ry q k => h w x y d e z Q s (.inl rx) (.inl ry) q fun v rv => k w v rfl rfl rfl (Aft.refl s) (rv _ _)
def pCat : D → D → Option D
  | .lst xs, .lst ys => if xs.length + ys.length ≤ sizeLine then some (.lst (xs ++ ys)) else none
  | _, _ => none
def pCatT : D → D → Option D
  | .tup xs, .tup ys => if xs ≠ [] ∧ xs.length + ys.length ≤ sizeLine then some (.tup (xs ++ ys)) else none
  | _, _ => none
theorem ansF_cat : AnsF K mg rCat pCat := fun w x y d e z Q s rx ry q k => by
  unfold pCat at q
  split at q
  · split at q
    · rename_i hz
      cases q
      cases rx with
      | lst h1 l1 s1 =>
        cases ry with
        | lst h2 l2 s2 =>
          have hz' := hz
          rw [← s1.len, ← s2.len] at hz'
          refine ⟨_, _, _, _, rfl, rfl, s.sub _ _ h1, s.sub _ _ h2, hz', fun p hp => ?_⟩
          obtain ⟨w', q1, q2, q3, q4, A, r⟩ := fz_lst s hp (by rw [List.length_append]; exact hz') (s1.append s2)
          rw [← q4]; exact k w' _ q1 q2 q3 A r
    · cases q
  · cases q
theorem ansF_catT : AnsF K mg (rCatT K) pCatT := fun w x y d e z Q s rx ry q k => by
  unfold pCatT at q
  split at q
  · split at q
    · rename_i hz
      cases q
      cases rx with
      | tup h1 l1 s1 =>
        cases ry with
        | tup h2 l2 s2 =>
          obtain ⟨hne, hz⟩ := hz
          have hz' := hz
          rw [← s1.len, ← s2.len] at hz'
          refine ⟨_, _, _, _, rfl, rfl, SqT.mono s.sub h1, SqT.mono s.sub h2, ?_, hz', fun h => ?_, fun _ p hp => ?_⟩
          · rintro rfl
            cases s1; exact hne rfl
          · subst h
            cases s2
            rw [List.append_nil] at k
            exact k w _ rfl rfl rfl (Aft.refl s) (.tup h1 l1 s1)
          · obtain ⟨w', q1, q2, q3, q4, A, r⟩ := fz_tup s hp (by rw [List.length_append]; exact hz') (s1.append s2)
            rw [← q4]; exact k w' _ q1 q2 q3 A r
    · cases q
  · cases q
theorem AnsF.or {r r' : R2} {p : D → D → Option D} (h : ∀ d e z, p d e = some z → ∃ (q : D → D → Option D), q d e = some z ∧ (AnsF K mg r q ∨ AnsF K mg r' q)) : AnsF K mg (fun x y H Q => r x y H Q ∨ r' x y H Q) p := fun w x y d e z Q s rx ry q k => by
  obtain ⟨q', h1, h2⟩ := h d e z q
  rcases h2 with h2 | h2
  · exact .inl (h2 w x y d e z Q s rx ry h1 k)
  · exact .inr (h2 w x y d e z Q s rx ry h1 k)
end
section
variable {X : Cx} {W : WX} {a b : Expr} {f g : DEx} {pos : Pos}
theorem de_opF {op : Operator} {r : R2} {p : D → D → Option D} (ho : OpR X (binaryOp op) r) (hr : AnsF X.K X.mg r p) (ha : DE X W a f) (hb : DE X W b g) : DE X W (.BinOp a op b pos) (lift2 p f g) := by
  obtain ⟨ta, pa, ra⟩ := ha
  obtain ⟨tb, pb, rb⟩ := hb
  exact ⟨_, pe_op ho pa pb, ref_opF hr ra rb⟩
theorem de_addX (ha : DE X W a f) (hb : DE X W b g) : DE X W (.BinOp a .Add b pos) (lift2 addK f g) := by
  refine de_opF (opR_or op_add (opR_or op_add_str (opR_or op_cat op_catT))) (AnsF.or fun d e z q => ?_) ha hb
  unfold addK at q
  split at q
  · exact ⟨iop0 (· + ·), q, .inl ans_iop0.f⟩
  · exact ⟨sAdd, q, .inr (AnsF.or fun d e z q => ⟨sAdd, q, .inl ans_sadd.f⟩)⟩
  · exact ⟨pCat, q, .inr (AnsF.or fun d e z q => ⟨pCat, q, .inr (AnsF.or fun d e z q => ⟨pCat, q, .inl ansF_cat⟩)⟩)⟩
  · exact ⟨pCatT, q, .inr (AnsF.or fun d e z q => ⟨pCatT, q, .inr (AnsF.or fun d e z q => ⟨pCatT, q, .inr ansF_catT⟩)⟩)⟩
  · cases q
end
def repS (x : Str) (n : Nat) : Str := ⟨(List.replicate n x.cps.toList).flatten.toArray⟩
/-! ### * of anything: ints, a list or a text and an int -/
@[simp] noncomputable def mulK : D → D → Option D
  | .int i, .int j => if CMul i j then some (.int (i * j)) else none
  | .lst xs, .int k => if Rs k ∧ xs.length * k.toNat ≤ sizeLine then some (.lst (List.replicate k.toNat xs).flatten) else none
  | .str x, .int k => if 0 < k ∧ k < 1000 ∧ x.length ≤ 1000 then some (.str (repS x k.toNat)) else none
  | _, _ => none
def pRepS : D → D → Option D
  | .str x, .int k => if 0 < k ∧ k < 1000 ∧ x.length ≤ 1000 then some (.str (repS x k.toNat)) else none
  | _, _ => none
noncomputable def pRep : D → D → Option D
  | .lst xs, .int k => if Rs k ∧ xs.length * k.toNat ≤ sizeLine then some (.lst (List.replicate k.toNat xs).flatten) else none
  | _, _ => none
theorem ansF_rep {K : PySem.W.Frag} {mg : Str → Option Value} : AnsF K mg rRep pRep := fun w x y d e z Q s rx ry q k => by
  unfold pRep at q
  split at q
  · split at q
    · rename_i hz
      cases q
      cases rx with
      | lst h1 l1 s1 =>
        refine ⟨_, _, _, rfl, ry.int_inv, s.sub _ _ h1, hz.1.1, hz.1.2, by rw [s1.len]; exact hz.2, fun p hp => ?_⟩
        have hl := hz.2
        rw [← s1.len] at hl
        obtain ⟨w', q1, q2, q3, q4, A, r⟩ := fz_lst s hp (by simpa [Nat.mul_comm] using hl) (s1.rep _)
        rw [← q4]; exact k w' _ q1 q2 q3 A r
    · cases q
  · cases q
theorem rep_eq (x : Str) (n : Nat) : (⟨(List.replicate n x.cps).foldl (· ++ ·) #[]⟩ : Str) = repS x n := by
  unfold repS
  congr 1
  have : ∀ (n : Nat) (acc : Array Nat), (List.replicate n x.cps).foldl (· ++ ·) acc = acc ++ (List.replicate n x.cps.toList).flatten.toArray := by
    intro n
    induction n with
    | zero => intro acc; simp
    | succ n ih =>
      intro acc
      rw [List.replicate_succ, List.foldl_cons, ih, List.replicate_succ, List.flatten_cons, Array.append_assoc]
      congr 1
      apply Array.ext'
      simp
  rw [this]; simp
theorem op_repS {X : Cx} : OpR X (binaryOp .Mult) (fun a b H Q => ∃ x k, a = .str x ∧ b = .int k ∧ (0 < k ∧ k < 1000 ∧ x.length ≤ 1000) ∧ Q (.str (repS x k.toNat)) H) := by
  intro pins s σ H a b v u Q I rx ry h
  obtain ⟨x, k, rfl, rfl, ⟨h1, h2, h3⟩, q⟩ := h
  obtain ⟨t, rfl⟩ := rx
  obtain ⟨t', rfl⟩ := ry
  refine PySem.P.mul_str (by simp; omega) (fun _ _ => ?_) (fun _ _ => ?_) ?_
  · have hk : (1000 : Int) ≤ (2 ^ 63 - 1) / k := Int.le_ediv_of_mul_le h1 (by omega)
    omega
  · have : x.length * k.toNat ≤ 1000 * 1000 := Nat.mul_le_mul h3 (by omega)
    have hs : sizeLine = 16777216 := sizeLine_eq
    simp only [Builtin.Str.tooLong]
    have : ¬ x.length * k.toNat > sizeLine := by omega
    simpa using this
  · rw [if_neg (by omega)]
    split
    · rename_i hh
      have : repS x k.toNat = x := by
        simp only [Bool.or_eq_true, beq_iff_eq] at hh
        unfold repS
        rcases hh with hh | hh
        · subst hh; simp
        · have : x.cps.toList = [] := by
            have : x.cps.toList.length = 0 := by
              have h' : x.cps.size = 0 := hh
              simpa using h'
            exact List.eq_nil_of_length_eq_zero this
          cases x with
          | mk c => simp at this; subst this; simp
      rw [this] at q
      exact ⟨.str x, H, I, ⟨_, rfl⟩, q⟩
    · rw [rep_eq]
      have hl : (repS x k.toNat).length ≤ sizeLine := by
        have e : (repS x k.toNat).length = k.toNat * x.length := by
          show ((List.replicate k.toNat x.cps.toList).flatten.toArray).size = _
          simp; rfl
        have : k.toNat * x.length ≤ 1000 * 1000 := Nat.mul_le_mul (by omega) h3
        have hs : sizeLine = 16777216 := sizeLine_eq
        omega
      exact ⟨hl, .str _, H, I.tok _, ⟨_, rfl⟩, q⟩
theorem ansF_repS {K : PySem.W.Frag} {mg : Str → Option Value} : Ans2 K mg (fun a b H Q => ∃ x k, a = .str x ∧ b = .int k ∧ (0 < k ∧ k < 1000 ∧ x.length ≤ 1000) ∧ Q (.str (repS x k.toNat)) H) pRepS := fun w x y d e z Q s rx ry q k => by
  unfold pRepS at q
  split at q
  · split at q
    · cases q; exact ⟨_, _, rx.str_inv, ry.int_inv, by assumption, k _ fun _ _ => .str _⟩
    · cases q
  · cases q
theorem de_mulX {X : Cx} {W : WX} {a b : Expr} {f g : DEx} {pos : Pos} (ha : DE X W a f) (hb : DE X W b g) : DE X W (.BinOp a .Mult b pos) (lift2 mulK f g) := by
  refine de_opF (opR_or op_mul (opR_or op_rep op_repS)) (AnsF.or fun d e z q => ?_) ha hb
  unfold mulK at q
  split at q
  · exact ⟨iop CMul (· * ·), q, .inl ans_iop.f⟩
  · exact ⟨pRep, q, .inr (AnsF.or fun d e z q => ⟨pRep, q, .inl ansF_rep⟩)⟩
  · exact ⟨pRepS, q, .inr (AnsF.or fun d e z q => ⟨pRepS, q, .inr ansF_repS.f⟩)⟩
  · cases q
/-! ### slices of anything -/
@[simp] def kSl : D → Option Int → Option Int → Option D
  | .lst ds, lo, hi => some (.lst (cutD ds lo hi))
  | .str z, lo, hi => if z.length ≤ sizeLine then some (.str (cutS z lo hi)) else none
  | .tup ds, lo, hi => if HT.sIx ds.length 0 lo = 0 ∧ HT.sIx ds.length ds.length hi = ds.length then none else some (.tup (cutD ds lo hi))
  | _, _, _ => none
theorem de_slice {X : Cx} {W : WX} {e : Expr} {lo hi : Option Expr} {f l h : DEx} {p2 pos : Pos} (he : DE X W e f) (hl : DB X W lo l) (hh : DB X W hi h) : DE X W (.Subscript e (.Slice lo hi none p2) pos) (slX kSl f l h) := by
  obtain ⟨te, pe, re⟩ := he
  obtain ⟨tl, pl, rl⟩ := hl
  obtain ⟨th, ph, rh⟩ := hh
  refine ⟨_, pe_slice (sl_list.or (sl_str.or sl_tup)) pe pl ph, fun w Q s q => ?_⟩
  refine ref_sl (P := OkR X.K X.mg W w Q) (k := kSl) s re rl rh q (fun _ _ _ z => z) (fun z => z) fun w3 v d z lo hi e3 a3 r3 hz q3 => ?_
  cases d with
  | lst ds =>
    cases hz
    cases r3 with
    | lst hs hl rs =>
      refine .inl ⟨_, _, rfl, SqL.of (a3.s.sub _ _ hs), fun p hp => ?_⟩
      obtain ⟨w', k1, k2, k3, k4, A, r⟩ := fz_lst a3.s hp (Nat.le_trans (cutV_length _ lo hi) hl) (rs.cut lo hi)
      rw [← k4]; exact q3 w' _ k1 k2 (k3.trans e3) (a3.trans A) r
  | str y =>
    have hz' : (if y.length ≤ sizeLine then some (D.str (cutS y lo hi)) else none) = some z := hz
    by_cases hh : y.length ≤ sizeLine
    · rw [if_pos hh] at hz'
      cases hz'
      exact .inr (.inl ⟨y, r3.str_inv, hh, q3 w3 _ rfl rfl e3 a3 (.str _)⟩)
    · rw [if_neg hh] at hz'; cases hz'
  | tup ds =>
    have hz' : (if HT.sIx ds.length 0 lo = 0 ∧ HT.sIx ds.length ds.length hi = ds.length then none else some (D.tup (cutD ds lo hi))) = some z := hz
    by_cases hh : HT.sIx ds.length 0 lo = 0 ∧ HT.sIx ds.length ds.length hi = ds.length
    · rw [if_pos hh] at hz'; cases hz'
    · rw [if_neg hh] at hz'
      cases hz'
      cases r3 with
      | tup hs hl rs =>
        refine .inr (.inr ⟨_, _, rfl, SqT.mono a3.s.sub hs, by rw [rs.len]; exact hh, fun p hp => ?_⟩)
        obtain ⟨w', k1, k2, k3, k4, A, r⟩ := fz_tup a3.s hp (Nat.le_trans (cutV_length _ lo hi) hl) (rs.cut lo hi)
        rw [← k4]; exact q3 w' _ k1 k2 (k3.trans e3) (a3.trans A) r
  | _ => cases hz
/-! ### for use by texts -/
theorem takesF {X : Cx} : Takes X WF := fun u s' h => by
  obtain ⟨_, _, _, _, _, _, _, _, _, _, _, _, _, _, _, _, h⟩ := h
  exact h.elim
theorem Room.u80 {k : Nat} {A : Around} (r : Room k A) : A.units + 80 < cLine := by have := r.un; omega
theorem Room.u65 {k : Nat} {A : Around} (r : Room k A) : A.units + 65 < cLine := by have := r.un; omega
/-- a def of the text, called by its name -/
def Cal (P : Program) (w : World) (K : PySem.W.Frag) (mg : Str → Option Value) (base : Heap) (k : Nat) (x : Str) (n : Nat) (den : Den) : Prop :=
  ∃ f fd ps, FnOk P w K mg base (L2.CX P w) k f fd ps (spD K mg n den) ∧ mg x = some (.ref f) ∧ PySem.W.keepIn K (.ref f) = true ∧ Binds K fd ps []
/-- where a def of the text stands -/
def Dfn (K : PySem.W.Frag) (mg : Str → Option Value) (x : Str) (ps : List Str) (st : Stmt) : Prop := ∃ f fd, Fun K x x st f fd ∧ mg x = some (.ref f) ∧ Binds K fd ps []
theorem Cal.call {X : Cx} {W : WX} {k k' n : Nat} {den : Den} {x : Str} {p pos : Pos} {e : Expr} {es : List Expr} {fa : DEx} (C : Cal X.prog X.w X.K X.mg X.base k x n den) (hr : Room k' X.A) (hk : k ≤ k') (hg : Gl X x) (tk : Takes X W)
    (ha : DAn X W (e :: es) fa) (hn : (e :: es).length = n := by rfl) (hdb : (x == ("__debug__" : Str)) = false := by decide) (he : starEach (e :: es) X.env = (false, eval e X.env) :: starEach es X.env := by rfl) (hpl : (backTo pos (starEach es X.env)).any (·.1) = false := by rfl) :
    DE X W (.Call (.Name x p) (e :: es) [] pos) (callD den fa) := by
  obtain ⟨f, fd, ps, F, hm, kp, hb⟩ := C
  exact de_call F (hr.mono hk) hg hm kp hb tk ha hn hdb he hpl
theorem Cal.of {P : Program} {wd : World} {K : PySem.W.Frag} {mg : Str → Option Value} {base : Heap} {x : Str} {st : Stmt} {N ps : List Str} {k n m : Nat} {g : DSx} (Df : Dfn K mg x ps st) (S : FnScope N ps (defScope st)) (hn : n = N.length) (hm : m = ps.length)
    (hb : ∀ (f : Addr) (cdv : Value) (A : Around) (outer : List Env) (s : Shared) (H : Hp) (E : XK), Room k (A.deeper (PyProof.Rows.envOfC x (defScope st) s.heap.objs.size f cdv)) →
      DSs (cxOf (L2.CX P wd) P wd K mg base N x (defScope st) f cdv A outer s H E) (WEx E) (defBody st) g) : Cal P wd K mg base (k + 1) x m (runD n g) := by
  obtain ⟨f, fd, F, hmg, hB⟩ := Df
  subst hm
  exact ⟨f, fd, ps, fn_D F S hn (hb f), hmg, F.kp, hB⟩
end DL
namespace DL
open PySem L2
section
variable {X : Cx} {W : WX} {x : Str} {pos : Pos}
theorem de_gintE {i : Int} (hg : Gl X x) (hm : ∃ t, X.mg x = some (.int i t)) (hdb : (x == ("__debug__" : Str)) = false := by decide) : DE X W (.Name x pos) (cst (.int i)) := let ⟨_, h⟩ := hm; de_gint hg h hdb
theorem de_gstrE {i : Str} (hg : Gl X x) (hm : ∃ t, X.mg x = some (.str i t)) (hdb : (x == ("__debug__" : Str)) = false := by decide) : DE X W (.Name x pos) (cst (.str i)) := let ⟨_, h⟩ := hm; de_gstr hg h hdb
end
theorem b_len : bootBuiltins "len" = some (.builtin "len") := by decide +kernel
theorem b_abs : bootBuiltins "abs" = some (.builtin "abs") := by decide +kernel
theorem b_max : bootBuiltins "max" = some (.builtin "max") := by decide +kernel
theorem b_min : bootBuiltins "min" = some (.builtin "min") := by decide +kernel
theorem b_all : bootBuiltins "all" = some (.builtin "all") := by decide +kernel
theorem b_any : bootBuiltins "any" = some (.builtin "any") := by decide +kernel
theorem b_int : bootBuiltins "int" = some (.type "int") := by decide +kernel
theorem b_str : bootBuiltins "str" = some (.type "str") := by decide +kernel
theorem b_bool : bootBuiltins "bool" = some (.type "bool") := by decide +kernel
theorem b_list : bootBuiltins "list" = some (.type "list") := by decide +kernel
theorem b_tuple : bootBuiltins "tuple" = some (.type "tuple") := by decide +kernel
theorem b_dict : bootBuiltins "dict" = some (.type "dict") := by decide +kernel
def pInX (n : Bool) (d e : D) : Option D := (pInB d e).map fun b => .bl (if n then !b else b)
end DL
namespace DL
open PySem L2
/-! ### powers of greater numbers -/
def CPow2 (i j : Int) : Prop := 0 ≤ j ∧ j ≤ 1000 ∧ i.natAbs < 2 ^ 1000
instance (i j : Int) : Decidable (CPow2 i j) := by unfold CPow2; infer_instance
theorem op_powW {X : Cx} : OpR X (binaryOp .Pow) (rI CPow2 fun i j => .int (i ^ j.toNat)) := opI fun i j _ _ _ _ _ hc q => by
  refine PyProof.Rows.pow_int hc.1 ?_ q
  have h1 : Builtin.Int.intBits i ≤ 1000 := PyProof.Rows.intBits_le hc.2.2
  have h2 := hc.1
  have h3 := hc.2.1
  have : (Builtin.Int.intBits i : Int) * j ≤ 1000 * 1000 := Int.mul_le_mul (by omega) h3 h2 (by omega)
  omega
@[simp] def pPowW := iop CPow2 (fun i j => i ^ j.toNat)
theorem de_powW {X : Cx} {W : WX} {a b : Expr} {f g : DEx} {pos : Pos} (ha : DE X W a f) (hb : DE X W b g) : DE X W (.BinOp a .Pow b pos) (lift2 pPowW f g) := de_bin op_powW ans_iop ha hb.v
/-! ### dicts as values -/
def putD (kvs : List (Key × D)) (k : Key) (d : D) : List (Key × D) :=
  if (kvs.any fun kv => decide (kv.1 = k)) = true then kvs.map (fun kv => if kv.1 = k then (kv.1, d) else kv) else kvs ++ [(k, d)]
def mergeD (kvs more : List (Key × D)) : List (Key × D) := more.foldl (fun acc kv => putD acc kv.1 kv.2) kvs
def getK (kvs : List (Key × D)) (k : Key) : Option D := (kvs.find? fun kv => decide (kv.1 = k)).map (·.2)
def dropD (kvs : List (Key × D)) (k : Key) : List (Key × D) := kvs.filter fun kv => decide (kv.1 ≠ k)
section
variable {K : PySem.W.Frag} {mg : Str → Option Value} {G : Hp} {ι : List Addr}
theorem RepK.any : ∀ {vs : List (Key × V)} {ds : List (Key × D)} (k : Key), RepK K mg G ι vs ds → (vs.any fun kv => decide (kv.1 = k)) = ds.any fun kv => decide (kv.1 = k)
  | _, _, _, .nil => rfl
  | _, _, k, .cons r rs => by simp only [List.any_cons, RepK.any k rs]
theorem RepK.mapSet {v : V} {d : D} (k : Key) (r : Rep K mg G ι v d) : ∀ {vs : List (Key × V)} {ds : List (Key × D)}, RepK K mg G ι vs ds → RepK K mg G ι (vs.map (fun kv => if kv.1 = k then (kv.1, v) else kv)) (ds.map (fun kv => if kv.1 = k then (kv.1, d) else kv))
  | _, _, .nil => .nil
  | _, _, .cons (k := k') (v := v') (d := d') r' rs => by
    simp only [List.map_cons]
    by_cases e : k' = k
    · simp only [e, if_true]; exact .cons r (RepK.mapSet k r rs)
    · simp only [e, if_false]; exact .cons r' (RepK.mapSet k r rs)
theorem RepK.append : ∀ {vs ws : List (Key × V)} {ds es : List (Key × D)}, RepK K mg G ι vs ds → RepK K mg G ι ws es → RepK K mg G ι (vs ++ ws) (ds ++ es)
  | _, _, _, _, .nil, s => s
  | _, _, _, _, .cons r t, s => .cons r (RepK.append t s)
theorem RepK.put {v : V} {d : D} {k : Key} {vs : List (Key × V)} {ds : List (Key × D)} (h : RepK K mg G ι vs ds) (r : Rep K mg G ι v d) : RepK K mg G ι (putK vs k v) (putD ds k d) := by
  unfold putK putD
  rw [h.any k]
  split
  · exact h.mapSet k r
  · exact h.append (.cons r .nil)
theorem RepK.merge : ∀ {more : List (Key × V)} {md : List (Key × D)} {vs : List (Key × V)} {ds : List (Key × D)}, RepK K mg G ι vs ds → RepK K mg G ι more md → RepK K mg G ι (mergeK vs more) (mergeD ds md)
  | _, _, _, _, h, .nil => h
  | _, _, vs, ds, h, .cons (k := k) (v := v) (d := d) r rs => by
    have h1 := RepK.put (k := k) h r
    exact RepK.merge (vs := putK vs k v) (ds := putD ds k d) h1 rs
theorem RepK.len : ∀ {vs : List (Key × V)} {ds : List (Key × D)}, RepK K mg G ι vs ds → vs.length = ds.length
  | _, _, .nil => rfl
  | _, _, .cons _ r => by simp [RepK.len r]
theorem RepK.get {k : Key} : ∀ {vs : List (Key × V)} {ds : List (Key × D)}, RepK K mg G ι vs ds → (∀ d, getK ds k = some d → ∃ v, valV vs k = some v ∧ Rep K mg G ι v d) ∧ (getK ds k = none → valV vs k = none)
  | _, _, .nil => ⟨fun d h => by simp [getK] at h, fun _ => rfl⟩
  | _, _, .cons (k := k') (v := v') (d := d') r' rs => by
    obtain ⟨h1, h2⟩ := RepK.get (k := k) rs
    by_cases e : k' = k
    · refine ⟨fun d h => ?_, fun h => ?_⟩
      · simp [getK, List.find?_cons, e] at h
        subst h
        exact ⟨v', valV_pos e, r'⟩
      · simp [getK, List.find?_cons, e] at h
    · refine ⟨fun d h => ?_, fun h => ?_⟩
      · rw [valV_neg e]
        exact h1 d (by simpa [getK, List.find?_cons, e] using h)
      · rw [valV_neg e]
        exact h2 (by simpa [getK, List.find?_cons, e] using h)
end
@[simp] def D.key : D → Option Key
  | .int i => some (.inl i)
  | .str s => some (.inr s)
  | _ => none
theorem Rep.key {K : PySem.W.Frag} {mg : Str → Option Value} {G : Hp} {ι : List Addr} {v : V} {d : D} {k : Key} (r : Rep K mg G ι v d) (h : d.key = some k) : v = kV k := by
  cases d with
  | int i => cases h; exact r.int_inv
  | str i => cases h; exact r.str_inv
  | _ => cases h
@[simp] def pairKs : List D → Option (List (Key × D))
  | [] => some []
  | k :: v :: r => match k.key, pairKs r with
    | some k, some kvs => some ((k, v) :: kvs)
    | _, _ => none
  | _ => none
@[simp] def dispD (f : DEx) : DEx := fun ρ st => (f ρ st).bind fun d ρ st => match d with
  | .tup ds => (match pairKs ds with
    | some kvs => if kvs.length ≤ 15 then .ok (.dct (mergeD [] kvs)) ρ st else .bad
    | none => .bad)
  | _ => .bad
inductive RepPr (K : PySem.W.Frag) (mg : Str → Option Value) (G : Hp) (ι : List Addr) : List (V × V) → List D → Prop
  | nil : RepPr K mg G ι [] []
  | cons {x y : V} {a b : D} {ps : List (V × V)} {ds : List D} : Rep K mg G ι x a → Rep K mg G ι y b → RepPr K mg G ι ps ds → RepPr K mg G ι ((x, y) :: ps) (a :: b :: ds)
theorem RepPr.mono {K : PySem.W.Frag} {mg : Str → Option Value} {G G' : Hp} {ι ι' : List Addr} (e : Same G G') (i : LeI ι ι') : ∀ {ps : List (V × V)} {ds : List D}, RepPr K mg G ι ps ds → RepPr K mg G' ι' ps ds
  | _, _, .nil => .nil
  | _, _, .cons a b r => .cons (a.mono e i) (b.mono e i) (RepPr.mono e i r)
theorem RepPr.keys {K : PySem.W.Frag} {mg : Str → Option Value} {G : Hp} {ι : List Addr} : ∀ {ps : List (V × V)} {ds : List D} {kvs : List (Key × D)}, RepPr K mg G ι ps ds → pairKs ds = some kvs → ∃ vs : List (Key × V), ps = vs.map (fun kv => (kV kv.1, kv.2)) ∧ RepK K mg G ι vs kvs
  | _, _, _, .nil, h => by cases h; exact ⟨[], rfl, .nil⟩
  | _, _, kvs, .cons a b r, h => by
    unfold pairKs at h
    split at h
    · rename_i k kv e1 e2
      cases h
      obtain ⟨vs, e, rk⟩ := RepPr.keys r e2
      exact ⟨(k, _) :: vs, by rw [a.key e1, e]; rfl, .cons b rk⟩
    · cases h
def OkPr (K : PySem.W.Frag) (mg : Str → Option Value) (W : WX) (w : Ws) (Q : List (V × V) → Hp → Prop) : R → Prop
  | .ok (.tup ds) ρ st => ∀ (w' : Ws) (ps : List (V × V)), w'.ρ = ρ → w'.st = st → w'.σ = w.σ → Aft K mg w w' → RepPr K mg w'.G w'.ι ps ds → Q ps w'.H
  | .ok _ _ _ => False
  | .exc c ρ st => ∀ (w' : Ws) (cls : Value) (dx : Option Addr), w'.ρ = ρ → w'.st = st → w'.σ = w.σ → Aft K mg w w' → ExcAt K mg w' c cls dx → W cls dx w'.σ w'.H
  | .bad => False
def RefPr (K : PySem.W.Frag) (mg : Str → Option Value) (W : WX) (trs : List (TE × TE)) (f : DEx) : Prop := ∀ (w : Ws) (Q : List (V × V) → Hp → Prop), Sts K mg w → OkPr K mg W w Q (f w.ρ w.st) → tPairs trs w.σ w.H Q
section
variable {K : PySem.W.Frag} {mg : Str → Option Value} {W : WX}
theorem OkPr.aft {Q : List (V × V) → Hp → Prop} {w w1 : Ws} {r : R} (h : OkPr K mg W w Q r) (a : Aft K mg w w1) (e : w1.σ = w.σ) : OkPr K mg W w1 Q r := by
  cases r with
  | ok d ρ st =>
    cases d with
    | tup ds => exact fun w' v h1 h2 h3 h4 h5 => h w' v h1 h2 (h3.trans e) (a.trans h4) h5
    | _ => exact h
  | exc c ρ st => exact fun w' cls dx h1 h2 h3 h4 h5 => h w' cls dx h1 h2 (h3.trans e) (a.trans h4) h5
  | bad => exact h
theorem refPr_nil : RefPr K mg W [] aNil := fun w Q s q => q w [] rfl rfl rfl (Aft.refl s) .nil
theorem refPr_cons {tk tv : TE} {trs : List (TE × TE)} {f g h : DEx} (hk : RefE K mg W tk f) (hv : RefE K mg W tv g) (hr : RefPr K mg W trs h) : RefPr K mg W ((tk, tv) :: trs) (aCons f (aCons g h)) := fun w Q s q => by
  refine hk.bind (P := OkPr K mg W w Q) s q (fun _ _ _ z => z) (fun z => z) fun w1 v1 d1 e1 a1 r1 q1 => ?_
  show tv w.σ w1.H _
  rw [← e1]
  unfold aCons at q1
  cases eg : g w1.ρ w1.st with
  | ok d2 ρ2 st2 =>
    rw [eg] at q1
    simp only [R.bind] at q1
    refine hv w1 _ a1.s ?_
    rw [eg]
    intro w2 v2 h1 h2 e2 a2 r2
    subst h1; subst h2
    rw [← e2]
    have a12 := a1.trans a2
    have e12 := e2.trans e1
    refine hr w2 _ a2.s ?_
    cases eh : h w2.ρ w2.st with
    | ok d3 ρ3 st3 =>
      rw [eh] at q1
      cases d3 with
      | tup ds =>
        intro w3 ps h1 h2 e3 a3 r3
        exact q1 w3 _ h1 h2 (e3.trans e12) (a12.trans a3) (.cons (r1.mono (a2.g.trans a3.g) (a2.i.trans a3.i)) (r2.mono a3.g a3.i) r3)
      | _ => exact q1.elim
    | exc c ρ3 st3 =>
      rw [eh] at q1
      exact fun w' cls dx h1 h2 h3 h4 h5 => q1 w' cls dx h1 h2 (h3.trans e12) (a12.trans h4) h5
    | bad => rw [eh] at q1; exact q1.elim
  | exc c ρ2 st2 =>
    rw [eg] at q1
    refine hv w1 _ a1.s ?_
    rw [eg]
    exact fun w' cls dx h1 h2 h3 h4 h5 => q1 w' cls dx h1 h2 (h3.trans e1) (a1.trans h4) h5
  | bad => rw [eg] at q1; exact q1.elim
end
def DPr (X : Cx) (W : WX) (pos : Pos) (keys : List (Option Expr)) (values : List Expr) (f : DEx) : Prop := ∃ trs, PPs X pos keys values trs ∧ RefPr X.K X.mg W trs f
section
variable {X : Cx} {W : WX} {k v : Expr} {ks : List (Option Expr)} {vs : List Expr} {f g h : DEx} {pos : Pos}
theorem dpr_nil : DPr X W pos [] [] aNil := ⟨_, pps_nil, refPr_nil⟩
theorem dpr_cons (hk : DE X W k f) (hv : DE X W v g) (hr : DPr X W pos ks vs h) : DPr X W pos (some k :: ks) (v :: vs) (aCons f (aCons g h)) :=
  let ⟨_, p1, r1⟩ := hk; let ⟨_, p2, r2⟩ := hv; let ⟨_, p3, r3⟩ := hr; ⟨_, pps_cons p1 p2 p3, refPr_cons r1 r2 r3⟩
/-- a frozen dict made -/
theorem fz_dct {K : PySem.W.Frag} {mg : Str → Option Value} {w0 w : Ws} (A : Aft K mg w0 w) {p : Addr} {o : HO} (hf : w0.H p = none) (hl : Loose w p) (ho : w.H p = some o) {kvs : List (Key × V)} {ds : List (Key × D)} (r : RepK K mg w.G w.ι kvs ds) :
    ∃ w' : Ws, w'.ρ = w.ρ ∧ w'.st = w.st ∧ w'.σ = w.σ ∧ w'.H = upd w.H p (.dK kvs) ∧ Aft K mg w0 w' ∧ Rep K mg w'.G w'.ι (.ref p) (.dct ds) := by
  have A1 := A.looseUpd (o := .dK kvs) hf hl
  have A2 := A1.freeze (a := p) (o := .dK kvs) hf hl upd_same
  exact ⟨{ w with H := upd w.H p (.dK kvs), G := upd w.G p (.dK kvs) }, rfl, rfl, rfl, rfl, A2, .dct (.inl upd_same) (r.mono (same_upd hl.1) (LeI.refl _))⟩
theorem de_dict0 : DE X W (.Dict [] [] pos) (cst (.dct [])) := ⟨_, pe_dnewK, fun w Q s q p hp => by
  have A := Aft.alloc (o := .dK []) s hp
  exact q { w with G := upd w.G p (.dK []), H := upd w.H p (.dK []) } (.ref p) rfl rfl rfl A (.dct (.inl upd_same) .nil)⟩
theorem de_dict (hp : DPr X W pos ks vs f) (hall : ks.all (·.isSome) = true := by rfl) (hl : ks.length = vs.length := by rfl) (h0 : ks ≠ [] := by intro z; cases z) (h15 : ks.length ≤ 15 := by decide) : DE X W (.Dict ks vs pos) (dispD f) := by
  obtain ⟨trs, pp, rp⟩ := hp
  refine ⟨_, pe_disp pp hall hl h0 h15, fun w Q s q p hp => ?_⟩
  have A0 := Aft.loose (o := .dK []) s hp
  have L0 := s.looseAt (o := .dK []) hp
  unfold dispD at q
  refine rp { w with H := upd w.H p (.dK []) } _ A0.s ?_
  show OkPr X.K X.mg W _ _ (f w.ρ w.st)
  cases e : f w.ρ w.st with
  | ok d ρ st =>
    rw [e] at q
    cases d with
    | tup ds =>
      intro w1 ps h1 h2 e1 a1 r1
      obtain ⟨L1, hp1⟩ := a1.still L0 upd_same
      refine ⟨hp1, ?_⟩
      simp only [R.bind] at q
      cases z : pairKs ds with
      | none => simp only [z] at q; exact q.elim
      | some kvs =>
        simp only [z] at q
        by_cases hz : kvs.length ≤ 15
        · simp only [if_pos hz] at q
          obtain ⟨vs', e', rk⟩ := r1.keys z
          obtain ⟨w', k1, k2, k3, k4, A, r⟩ := fz_dct (A0.trans a1) hp L1 hp1 (RepK.merge (ds := []) .nil rk)
          refine ⟨vs', e', by rw [rk.len]; exact hz, ?_⟩
          rw [← k4]
          exact q w' _ (k1.trans h1) (k2.trans h2) (k3.trans e1) A r
        · simp only [if_neg hz] at q; exact q.elim
    | _ => exact q.elim
  | exc c ρ st =>
    rw [e] at q
    exact fun w' cls dx h1 h2 h3 h4 h5 => q w' cls dx h1 h2 h3 (A0.trans h4) h5
  | bad => rw [e] at q; exact q.elim
end
/-! ### defs that call themselves -/
theorem Cal.none {P : Program} {wd : World} {K : PySem.W.Frag} {mg : Str → Option Value} {base : Heap} {x : Str} {st : Stmt} {ps : List Str} {k m : Nat} (Df : Dfn K mg x ps st) (hm : m = ps.length) : Cal P wd K mg base k x m (fun _ _ => .bad) := by
  obtain ⟨f, fd, F, hmg, hB⟩ := Df
  subst hm
  refine ⟨f, fd, ps, ⟨fun vs H Q E h => h.1, fun A outer s H args us vs Q E _ _ _ _ h => ?_⟩, hmg, F.kp, hB⟩
  obtain ⟨_, w, ds, _, _, _, _, _, ok⟩ := h
  exact ok.elim
end DL
namespace DL
open PySem L2
/-- the def law, at a known place -/
theorem Law.of {P : Program} {wd : World} {K : PySem.W.Frag} {mg : Str → Option Value} {base : Heap} {x : Str} {st : Stmt} {N : List Str} {k n : Nat} {g : DSx} (S : FnScope N [x] (defScope st)) (hn : n = N.length)
    (hb : ∀ (f : Addr) (cdv : Value) (A : Around) (outer : List Env) (s : Shared) (H : Hp) (E : XK), Room k (A.deeper (PyProof.Rows.envOfC "law" (defScope st) s.heap.objs.size f cdv)) →
      DSs (cxOf (L2.CX P wd) P wd K mg base N "law" (defScope st) f cdv A outer s H E) (WEx E) (defBody st) g) :
    ∀ {f : Addr} {fd : FuncData}, Fun K "law" "law" st f fd → FnOk P wd K mg base (L2.CX P wd) (k + 1) f fd [x] (spD K mg 1 (runD n g)) := fun F => fn_D F S hn (hb _)
/-- law's promise: a list of at most 63 ints is handed in, True comes out -/
def spLaw (K : PySem.W.Frag) : Sp := fun vs H Q _ => ∃ (a : Addr) (ns : List Int), vs = [.ref a] ∧ SqL K H a (ns.map V.int) ∧ ns.length ≤ 63 ∧ ∀ H', Q (.bl true) H'
theorem reps_ints {K : PySem.W.Frag} {mg : Str → Option Value} {G : Hp} {ι : List Addr} : ∀ ns : List Int, Reps K mg G ι (ns.map V.int) (ns.map D.int)
  | [] => .nil
  | n :: ns => .cons (.int n) (reps_ints ns)
theorem law_of {P : Program} {wd : World} {K : PySem.W.Frag} {mg : Str → Option Value} {base : Heap} {k : Nat} {f : Addr} {fd : FuncData} {x : Str} {den : Den} (F : FnOk P wd K mg base (L2.CX P wd) k f fd [x] (spD K mg 1 den))
    (hd : ∀ ns : List Int, ns.length ≤ 63 → ∃ st, den [.lsk (ns.map .int)] [] = .ok (.bl true) [] st) : FnOk P wd K mg base (L2.CX P wd) k f fd [x] (spLaw K) := by
  refine F.imp fun vs H Q E h => ?_
  obtain ⟨a, ns, rfl, hS, hl, q⟩ := h
  obtain ⟨st, e⟩ := hd ns hl
  have s : Sts K mg ⟨[], [], H, [], H, []⟩ := {
    sub := fun _ _ z => z
    ln := rfl
    len := rfl
    cel := fun i c a h => by cases h
    inj := fun i j a h => by obtain ⟨_, h, _⟩ := h; cases h
    slo := fun i x h => by cases h
    sep := fun i l a ⟨es, h, _⟩ => by cases h
    dis := fun i j a ⟨es, h, _⟩ => by cases h }
  have hsz : sizeLine = 16777216 := sizeLine_eq
  refine ⟨rfl, ⟨[], [], H, [], H, []⟩, [.lsk (ns.map .int)], rfl, rfl, rfl, s, .cons (.lsk hS (by rw [List.length_map]; omega) (reps_ints ns)) .nil, ?_⟩
  show OkR K mg (WEx E) _ Q (den [.lsk (ns.map .int)] [])
  rw [e]
  intro w' v h1 h2 h3 A r
  cases r
  exact q _
theorem law_walk {l : PySem.W.OpenLaw} {k : Nat} {x : Str} {q : Program} {loose : List Str} {XP : (Str → Option Value) → Heap → Prop} {YP : World → Heap → Prop} {d : DefRec} {K : Params → PySem.W.Frag} (hn : l.most = some 63) (hdf : d.params.defaults = []) (hr : Room k callerA)
    (hY : ∀ (w : World) (h : Heap), YP w h → (K w.params).In h)
    (F : ∀ (w : World) (mg : Str → Option Value) (fa : Addr) (h : Heap), (K w.params).In h → h.Ns mainGlobals mg → mg d.name = some (.ref fa) →
      ∃ fd : FuncData, (∀ (s : Shared) (u : Value), BindsTo s fd ⟨[u], []⟩ [(x, u)]) ∧ ∀ base : Heap, (K w.params).In base → base.Ns mainGlobals mg → FnOk l.prog w (K w.params) mg base (L2.CX l.prog w) k fa fd [x] (spLaw (K w.params))) :
    PySem.W.WalkO q loose XP YP l.row.toRowW d [] (fun f vs => PySem.call f vs) :=
  L2.walk_of (n := 63) (k := k) (x := x) (CX := fun w => L2.CX l.prog w) (sp := fun w => spLaw (K w.params)) hn (by decide) hdf hr hY F (fun _ _ a ns hl _ hS => ⟨a, ns, rfl, hS, hl, fun _ => rfl⟩) fun _ _ _ _ _ z => by
    obtain ⟨_, _, _, _, _, _, _, _, _, _, _, _, _, _, _, _, z⟩ := z
end DL
namespace DL
open PySem L2
@[simp] theorem kitB_NoneType_str : kitB "NoneType" "str" = some false := by decide
@[simp] theorem kitB_NoneType_list : kitB "NoneType" "list" = some false := by decide
@[simp] theorem kitB_NoneType_tuple : kitB "NoneType" "tuple" = some false := by decide
@[simp] theorem kitB_NoneType_bool : kitB "NoneType" "bool" = some false := by decide
@[simp] theorem kitB_NoneType_int : kitB "NoneType" "int" = some false := by decide
@[simp] theorem kitB_NoneType_dict : kitB "NoneType" "dict" = some false := by decide
@[simp] theorem kitB_bool_str : kitB "bool" "str" = some false := by decide
@[simp] theorem kitB_bool_list : kitB "bool" "list" = some false := by decide
@[simp] theorem kitB_bool_tuple : kitB "bool" "tuple" = some false := by decide
@[simp] theorem kitB_bool_bool : kitB "bool" "bool" = some true := by decide
@[simp] theorem kitB_bool_int : kitB "bool" "int" = some true := by decide
@[simp] theorem kitB_bool_dict : kitB "bool" "dict" = some false := by decide
@[simp] theorem kitB_int_str : kitB "int" "str" = some false := by decide
@[simp] theorem kitB_int_list : kitB "int" "list" = some false := by decide
@[simp] theorem kitB_int_tuple : kitB "int" "tuple" = some false := by decide
@[simp] theorem kitB_int_bool : kitB "int" "bool" = some false := by decide
@[simp] theorem kitB_int_int : kitB "int" "int" = some true := by decide
@[simp] theorem kitB_int_dict : kitB "int" "dict" = some false := by decide
@[simp] theorem kitB_str_str : kitB "str" "str" = some true := by decide
@[simp] theorem kitB_str_list : kitB "str" "list" = some false := by decide
@[simp] theorem kitB_str_tuple : kitB "str" "tuple" = some false := by decide
@[simp] theorem kitB_str_bool : kitB "str" "bool" = some false := by decide
@[simp] theorem kitB_str_int : kitB "str" "int" = some false := by decide
@[simp] theorem kitB_str_dict : kitB "str" "dict" = some false := by decide
@[simp] theorem kitB_tuple_str : kitB "tuple" "str" = some false := by decide
@[simp] theorem kitB_tuple_list : kitB "tuple" "list" = some false := by decide
@[simp] theorem kitB_tuple_tuple : kitB "tuple" "tuple" = some true := by decide
@[simp] theorem kitB_tuple_bool : kitB "tuple" "bool" = some false := by decide
@[simp] theorem kitB_tuple_int : kitB "tuple" "int" = some false := by decide
@[simp] theorem kitB_tuple_dict : kitB "tuple" "dict" = some false := by decide
@[simp] theorem kitB_list_str : kitB "list" "str" = some false := by decide
@[simp] theorem kitB_list_list : kitB "list" "list" = some true := by decide
@[simp] theorem kitB_list_tuple : kitB "list" "tuple" = some false := by decide
@[simp] theorem kitB_list_bool : kitB "list" "bool" = some false := by decide
@[simp] theorem kitB_list_int : kitB "list" "int" = some false := by decide
@[simp] theorem kitB_list_dict : kitB "list" "dict" = some false := by decide
@[simp] theorem kitB_dict_str : kitB "dict" "str" = some false := by decide
@[simp] theorem kitB_dict_list : kitB "dict" "list" = some false := by decide
@[simp] theorem kitB_dict_tuple : kitB "dict" "tuple" = some false := by decide
@[simp] theorem kitB_dict_bool : kitB "dict" "bool" = some false := by decide
@[simp] theorem kitB_dict_int : kitB "dict" "int" = some false := by decide
@[simp] theorem kitB_dict_dict : kitB "dict" "dict" = some true := by decide
end DL
namespace DL
open PySem L2
/-! ### loops -/
/-- a comprehension with no test, under an invariant of the store -/
theorem lcGo_inv {g : DGx} {c f : DEx} {vs : List Nat} {ρ : En} (I : Nat → Store → Prop) (P : Nat → D → Prop) : ∀ (ds acc : List D) (k : Nat) (st : Store),
    (∀ (i : Nat) d st, ds[i]? = some d → I (k + i) st → ∃ ρ1 ρ2 y st', g d ρ = some ρ1 ∧ c ρ1 st = .ok (.bl true) ρ1 st ∧ f ρ1 st = .ok y ρ2 st' ∧ wipeR ρ2 vs = ρ ∧ I (k + i + 1) st' ∧ P (k + i) y) → I k st →
    ∃ ys st', lcGo g c f vs ds acc ρ st = .ok (.lst (acc ++ ys)) ρ st' ∧ I (k + ds.length) st' ∧ ys.length = ds.length ∧ ∀ (i : Nat) y, ys[i]? = some y → P (k + i) y
  | [], acc, k, st, _, hi => ⟨[], st, by simp [lcGo], hi, rfl, by simp⟩
  | d :: ds, acc, k, st, h, hi => by
    obtain ⟨ρ1, ρ2, y, st1, h1, h2, h3, h4, h5, h6⟩ := h 0 d st rfl hi
    obtain ⟨ys, st2, q1, q2, q3, q4⟩ := lcGo_inv I P ds (acc ++ [y]) (k + 1) st1 (fun i d st hd hi => by
      have := h (i + 1) d st hd (by have e : k + (i + 1) = k + 1 + i := by omega
                                    rw [e]; exact hi)
      have e : k + (i + 1) = k + 1 + i := by omega
      rw [e] at this; exact this) h5
    refine ⟨y :: ys, st2, ?_, ?_, by simp [q3], fun i z hz => ?_⟩
    · simp only [lcGo, h1, h2, h3, h4, q1]; simp
    · have e : k + (d :: ds).length = k + 1 + ds.length := by simp; omega
      rw [e]; exact q2
    · cases i with
      | zero => cases hz; exact h6
      | succ i =>
        have := q4 i z hz
        have e : k + (i + 1) = k + 1 + i := by omega
        rw [e]; exact this
/-- a comprehension that is a filter and a map -/
theorem lcGo_fm {g : DGx} {c f : DEx} {vs : List Nat} {ρ : En} {st : Store} (B : D → Bool) (F : D → D) : ∀ (ds acc : List D),
    (∀ d ∈ ds, ∃ ρ1 ρ1', g d ρ = some ρ1 ∧ c ρ1 st = .ok (.bl (B d)) ρ1' st ∧ (B d = false → wipeR ρ1' vs = ρ) ∧ (B d = true → ∃ ρ2, f ρ1' st = .ok (F d) ρ2 st ∧ wipeR ρ2 vs = ρ)) →
    lcGo g c f vs ds acc ρ st = .ok (.lst (acc ++ (ds.filter B).map F)) ρ st
  | [], acc, _ => by simp [lcGo]
  | d :: ds, acc, h => by
    obtain ⟨ρ1, ρ1', h1, h2, h3, h4⟩ := h d (List.mem_cons_self ..)
    have ih := fun acc => lcGo_fm (g := g) (c := c) (f := f) (vs := vs) (ρ := ρ) (st := st) B F ds acc fun d hd => h d (List.mem_cons_of_mem _ hd)
    cases e : B d with
    | true =>
      obtain ⟨ρ2, h5, h6⟩ := h4 e
      rw [e] at h2
      simp only [lcGo, h1, h2, h5, h6, ih]; simp [e]
    | false =>
      rw [e] at h2
      simp only [lcGo, h1, h2, h3 e, ih]; simp [e]
/-- a map -/
theorem lcGo_map {g : DGx} {f : DEx} {vs : List Nat} {ρ : En} {st : Store} (F : D → D) (ds acc : List D) (h : ∀ d ∈ ds, ∃ ρ1 ρ2, g d ρ = some ρ1 ∧ f ρ1 st = .ok (F d) ρ2 st ∧ wipeR ρ2 vs = ρ) :
    lcGo g yesD f vs ds acc ρ st = .ok (.lst (acc ++ ds.map F)) ρ st := by
  have := lcGo_fm (g := g) (c := yesD) (f := f) (vs := vs) (ρ := ρ) (st := st) (fun _ => true) F ds acc fun d hd => by
    obtain ⟨ρ1, ρ2, h1, h2, h3⟩ := h d hd
    exact ⟨ρ1, ρ1, h1, rfl, by simp, fun _ => ⟨ρ2, h2, h3⟩⟩
  have e : ds.filter (fun _ => true) = ds := List.filter_eq_self.mpr fun _ _ => rfl
  rw [e] at this
  exact this
/-- a for loop under an invariant -/
theorem forD_inv {g : DGx} {b : DSx} (I : Nat → En → Store → Prop) : ∀ (ds : List D) (k : Nat) (ρ : En) (st : Store),
    (∀ (i : Nat) d ρ st, ds[i]? = some d → I (k + i) ρ st → ∃ ρ1 ρ2 st2, g d ρ = some ρ1 ∧ (b ρ1 st = .nx ρ2 st2 ∨ b ρ1 st = .ct ρ2 st2) ∧ I (k + i + 1) ρ2 st2) → I k ρ st →
    ∃ ρ' st', forD g b ds ρ st = .nx ρ' st' ∧ I (k + ds.length) ρ' st'
  | [], k, ρ, st, _, hi => ⟨ρ, st, rfl, hi⟩
  | d :: ds, k, ρ, st, h, hi => by
    obtain ⟨ρ1, ρ2, st2, h1, h2, h3⟩ := h 0 d ρ st rfl hi
    obtain ⟨ρ', st', q1, q2⟩ := forD_inv I ds (k + 1) ρ2 st2 (fun i d ρ st hd hi => by
      have e : k + (i + 1) = k + 1 + i := by omega
      have := h (i + 1) d ρ st hd (by rw [e]; exact hi)
      rw [e] at this; exact this) h3
    refine ⟨ρ', st', ?_, ?_⟩
    · rcases h2 with h2 | h2 <;> simp only [forD, h1, h2, q1]
    · have e : k + (d :: ds).length = k + 1 + ds.length := by simp; omega
      rw [e]; exact q2
/-! ### typed data -/
class Dt (α : Type) [DecidableEq α] where
  d : α → D
  py : α → PyData
  ok : α → Prop
  dep : Nat
  pyd : ∀ a, (d a).py = some (py a)
  eqv : ∀ a b, PyData.eqv (py a) (py b) = decide (a = b)
  lay : ∀ a, ok a → (py a).canLay0 = true
  dle : ∀ a, (py a).depth ≤ dep
def okS (s : Str) : Prop := ∀ c ∈ s.cps.toList, c < 0x110000
theorem okS_lay {s : Str} (h : okS s) : (PyData.str s).canLay0 = true := by
  simp only [PyData.canLay0, PySem.PyData.strOk]
  rw [Array.all_eq_true']
  intro c hc
  exact decide_eq_true (h c (by simpa using hc))
theorem dec_beq {α : Type} [BEq α] [LawfulBEq α] [DecidableEq α] (a b : α) : (a == b) = decide (a = b) := by rw [Bool.eq_iff_iff, beq_iff_eq, decide_eq_true_eq]
instance : Dt Int where
  d := .int
  py := .int
  ok _ := True
  dep := 0
  pyd _ := by simp [D.py]
  eqv a b := by simp only [PyData.eqv]; exact dec_beq a b
  lay _ _ := by simp [PyData.canLay0]
  dle _ := Nat.le_refl _
instance : Dt Bool where
  d := .bl
  py := .bool
  ok _ := True
  dep := 0
  pyd _ := by simp [D.py]
  eqv a b := by simp only [PyData.eqv]; exact dec_beq a b
  lay _ _ := by simp [PyData.canLay0]
  dle _ := Nat.le_refl _
instance : Dt Str where
  d := .str
  py := .str
  ok s := okS s
  dep := 0
  pyd _ := by simp [D.py]
  eqv a b := by simp only [PyData.eqv]; exact dec_beq a b
  lay _ h := okS_lay h
  dle _ := Nat.le_refl _
section
variable {α : Type} [DecidableEq α] [Dt α]
theorem pyAll_dt : ∀ xs : List α, pyAll (xs.map Dt.d) = some (xs.map Dt.py)
  | [] => by simp [pyAll]
  | x :: xs => by simp only [List.map_cons, pyAll, Dt.pyd, pyAll_dt xs]
theorem eqvAll_map : ∀ xs ys : List α, PyData.eqvAll (xs.map Dt.py) (ys.map Dt.py) = decide (xs = ys)
  | [], [] => by simp [PyData.eqvAll]
  | [], _ :: _ => by simp [PyData.eqvAll]
  | _ :: _, [] => by simp [PyData.eqvAll]
  | x :: xs, y :: ys => by
    rw [List.map_cons, List.map_cons, PyData.eqvAll, Dt.eqv x y, eqvAll_map xs ys, ← Bool.decide_and]
    exact decide_eq_decide.mpr (by rw [List.cons.injEq])
theorem layAll_map : ∀ xs : List α, (∀ x ∈ xs, Dt.ok x) → PyData.canLayAll0 (xs.map Dt.py) = true
  | [], _ => by simp [PyData.canLayAll0]
  | x :: xs, h => by simp [PyData.canLayAll0, Dt.lay x (h x (by simp)), layAll_map xs fun y hy => h y (by simp [hy])]
theorem depAll_map : ∀ xs : List α, PyData.depthAll (xs.map Dt.py) ≤ Dt.dep α
  | [] => Nat.zero_le _
  | x :: xs => by
    rw [List.map_cons, PyData.depthAll]
    exact Nat.max_le.mpr ⟨Dt.dle x, depAll_map xs⟩
instance : Dt (List α) where
  d xs := .lst (xs.map Dt.d)
  py xs := .list (xs.map Dt.py)
  ok xs := ∀ x ∈ xs, Dt.ok x
  dep := Dt.dep α + 1
  pyd xs := by simp [D.py, pyAll_dt]
  eqv xs ys := by simp only [PyData.eqv]; exact eqvAll_map xs ys
  lay xs h := by simp only [PyData.canLay0]; exact layAll_map xs h
  dle xs := by simp only [PyData.depth]; exact Nat.succ_le_succ (depAll_map xs)
theorem pEqB_dt {a b : α} (ha : Dt.ok a) (hb : Dt.ok b) (h : Dt.dep α ≤ 64 := by decide) : pEqB (Dt.d a) (Dt.d b) = some (decide (a = b)) := by
  have s1 : SeqAt.shaped (Dt.py a) = true := by unfold SeqAt.shaped; rw [Dt.lay a ha]; simpa using Nat.le_trans (Dt.dle a) h
  have s2 : SeqAt.shaped (Dt.py b) = true := by unfold SeqAt.shaped; rw [Dt.lay b hb]; simpa using Nat.le_trans (Dt.dle b) h
  simp [pEqB, Dt.pyd, s1, s2, Dt.eqv]
end
theorem pEqB_int (i j : Int) : pEqB (.int i) (.int j) = some (decide (i = j)) := pEqB_dt (a := i) (b := j) trivial trivial
theorem pEqB_bl (i j : Bool) : pEqB (.bl i) (.bl j) = some (decide (i = j)) := pEqB_dt (a := i) (b := j) trivial trivial
theorem pEqB_strs {xs ys : List Str} (hx : ∀ x ∈ xs, okS x) (hy : ∀ x ∈ ys, okS x) : pEqB (.lst (xs.map .str)) (.lst (ys.map .str)) = some (decide (xs = ys)) := pEqB_dt (a := xs) (b := ys) hx hy
@[simp] theorem pEq_int (i j : Int) : pEq (.int i) (.int j) = some (.bl (decide (i = j))) := by unfold pEq; rw [pEqB_int]; rfl
@[simp] theorem pNe_int (i j : Int) : pNe (.int i) (.int j) = some (.bl (!decide (i = j))) := by unfold pNe; rw [pEqB_int]; rfl
@[simp] theorem pEq_bl (i j : Bool) : pEq (.bl i) (.bl j) = some (.bl (decide (i = j))) := by unfold pEq; rw [pEqB_bl]; rfl
@[simp] theorem pNe_bl (i j : Bool) : pNe (.bl i) (.bl j) = some (.bl (!decide (i = j))) := by unfold pNe; rw [pEqB_bl]; rfl
theorem pEq_strs {xs ys : List Str} (hx : ∀ x ∈ xs, okS x) (hy : ∀ x ∈ ys, okS x) : pEq (.lst (xs.map .str)) (.lst (ys.map .str)) = some (.bl (decide (xs = ys))) := by unfold pEq; rw [pEqB_strs hx hy]; rfl
/-! ### texts as lists of code points -/
def mkS (cs : List Nat) : Str := ⟨cs.toArray⟩
theorem mkS_of (s : Str) : mkS s.cps.toList = s := by cases s; simp [mkS]
@[simp] theorem mkS_cps (cs : List Nat) : (mkS cs).cps.toList = cs := by simp [mkS]
@[simp] theorem mkS_len (cs : List Nat) : (mkS cs).length = cs.length := by simp [mkS, Str.length]
theorem mkS_inj {a b : List Nat} : mkS a = mkS b ↔ a = b := ⟨fun h => by have := congrArg (fun s => s.cps.toList) h; simpa using this, fun h => by rw [h]⟩
theorem mkS_app (a b : List Nat) : mkS a ++ mkS b = mkS (a ++ b) := by
  show (⟨a.toArray ++ b.toArray⟩ : Str) = ⟨(a ++ b).toArray⟩
  simp
theorem mkS_ext {a b : Str} (h : a.cps.toList = b.cps.toList) : a = b := by rw [← mkS_of a, ← mkS_of b, h]
theorem app_cps (a b : Str) : (a ++ b).cps.toList = a.cps.toList ++ b.cps.toList := by
  show (a.cps ++ b.cps).toList = _
  simp
theorem len_cps (a : Str) : a.length = a.cps.toList.length := by simp [Str.length]
theorem app_len (a b : Str) : (a ++ b).length = a.length + b.length := by rw [len_cps, app_cps, List.length_append, ← len_cps, ← len_cps]
theorem cutS_cps (z : Str) (lo hi : Option Int) : (cutS z lo hi).cps.toList = (z.cps.toList.drop (HT.sIx z.length 0 lo)).take (HT.sIx z.length z.length hi - HT.sIx z.length 0 lo) := by simp [cutS]
theorem repS_cps (z : Str) (n : Nat) : (repS z n).cps.toList = (List.replicate n z.cps.toList).flatten := by simp [repS]
@[simp] theorem strL_map (xs : List Str) : strL (xs.map .str) = some xs := by
  induction xs with
  | nil => rfl
  | cons x xs ih => simp [ih]
theorem join0_cps (cs : List Str) : (Txt.join "" cs).cps.toList = (cs.map (·.cps.toList)).flatten := by
  show (Builtin.Str.glued "" cs).cps.toList = _
  rw [StrLaws.glued_eq_join]
  induction cs with
  | nil => rfl
  | cons a r ih =>
    cases r with
    | nil => simp [Str.join]
    | cons b r =>
      show (a ++ "" ++ Str.join "" (b :: r)).cps.toList = _
      rw [app_cps, app_cps, ih]
      have : ("" : Str).cps.toList = [] := by decide
      simp [this]
@[simp] theorem bools_map {α : Type} (l : List α) (f : α → Bool) : bools (l.map fun x => .bl (f x)) = some (l.map f) := by
  induction l with
  | nil => rfl
  | cons x xs ih => simp [ih]
/-- one turn of a comprehension -/
@[simp] def lc1 (g : DGx) (f : DEx) (vs : List Nat) (d : D) (ρ : En) (st : Store) : R := match g d ρ with
  | none => .bad
  | some ρ => match f ρ st with
    | .ok y ρ st => .ok y (wipeR ρ vs) st
    | _ => .bad
theorem lc_inv {g : DGx} {f : DEx} {vs : List Nat} {ρ : En} (I : Nat → Store → Prop) (P : Nat → D → Prop) (ds : List D) (st : Store)
    (h : ∀ (i : Nat) d st, ds[i]? = some d → i < ds.length → I i st → ∃ y st', lc1 g f vs d ρ st = .ok y ρ st' ∧ I (i + 1) st' ∧ P i y) (h0 : I 0 st) :
    ∃ ys st', lcGo g yesD f vs ds [] ρ st = .ok (.lst ys) ρ st' ∧ I ds.length st' ∧ ys.length = ds.length ∧ ∀ (i : Nat) y, ys[i]? = some y → P i y := by
  obtain ⟨ys, st', q1, q2, q3, q4⟩ := lcGo_inv (g := g) (c := yesD) (f := f) (vs := vs) (ρ := ρ) I P ds [] 0 st (fun i d st hd hi => by
    rw [Nat.zero_add] at hi ⊢
    obtain ⟨y, st', e, h1, h2⟩ := h i d st hd (List.getElem?_eq_some_iff.mp hd).1 hi
    simp only [lc1] at e
    split at e
    · cases e
    · rename_i ρ1 e1
      split at e
      · rename_i y' ρ2 st2 e2
        cases e
        exact ⟨ρ1, ρ2, _, _, e1, rfl, e2, rfl, h1, h2⟩
      · cases e) h0
  refine ⟨ys, st', by simpa using q1, by simpa using q2, q3, fun i y hy => by simpa using q4 i y hy⟩
theorem lc_map {g : DGx} {f : DEx} {vs : List Nat} {ρ : En} {st : Store} (F : D → D) (ds : List D) (h : ∀ d ∈ ds, lc1 g f vs d ρ st = .ok (F d) ρ st) :
    lcGo g yesD f vs ds [] ρ st = .ok (.lst (ds.map F)) ρ st := by
  have := lcGo_map (g := g) (f := f) (vs := vs) (ρ := ρ) (st := st) F ds [] fun d hd => by
    have e := h d hd
    simp only [lc1] at e
    split at e
    · cases e
    · rename_i ρ1 e1
      split at e
      · rename_i y' ρ2 st2 e2
        simp only [R.ok.injEq] at e
        obtain ⟨rfl, h3, rfl⟩ := e
        exact ⟨ρ1, ρ2, e1, e2, h3⟩
      · cases e
  simpa using this
/-- the same with a test -/
@[simp] def lc2 (g : DGx) (c f : DEx) (vs : List Nat) (d : D) (ρ : En) (st : Store) : R := match g d ρ with
  | none => .bad
  | some ρ => match c ρ st with
    | .ok (.bl true) ρ st => (match f ρ st with
      | .ok y ρ st => .ok (.tup [y]) (wipeR ρ vs) st
      | _ => .bad)
    | .ok (.bl false) ρ st => .ok (.tup []) (wipeR ρ vs) st
    | _ => .bad
theorem lcGo_cons {g : DGx} {c f : DEx} {vs : List Nat} {ρ : En} {st : Store} {d : D} {ds acc : List D} {ys : List D} {ρ' : En} {st' : Store} (h : lc2 g c f vs d ρ st = .ok (.tup ys) ρ' st') : lcGo g c f vs (d :: ds) acc ρ st = lcGo g c f vs ds (acc ++ ys) ρ' st' := by
  unfold lc2 at h
  show (match g d ρ with
    | none => R.bad
    | some ρ => match c ρ st with
      | .ok (.bl true) ρ st => (match f ρ st with
        | .ok y ρ st => lcGo g c f vs ds (acc ++ [y]) (wipeR ρ vs) st
        | _ => .bad)
      | .ok (.bl false) ρ st => lcGo g c f vs ds acc (wipeR ρ vs) st
      | _ => .bad) = _
  cases e1 : g d ρ with
  | none => simp [e1] at h
  | some ρ1 =>
    simp only [e1] at h ⊢
    cases e2 : c ρ1 st with
    | ok b ρ2 st2 =>
      cases b with
      | bl b =>
        cases b with
        | true =>
          simp only [e2] at h ⊢
          cases e3 : f ρ2 st2 with
          | ok y ρ3 st3 =>
            simp only [e3, R.ok.injEq, D.tup.injEq] at h ⊢
            obtain ⟨rfl, rfl, rfl⟩ := h
            rfl
          | exc _ _ _ => simp [e3] at h
          | bad => simp [e3] at h
        | false =>
          simp only [e2, R.ok.injEq, D.tup.injEq] at h ⊢
          obtain ⟨rfl, rfl, rfl⟩ := h
          simp
      | _ => simp [e2] at h
    | exc _ _ _ => simp [e2] at h
    | bad => simp [e2] at h
theorem lc_fm' {g : DGx} {c f : DEx} {vs : List Nat} {ρ : En} {st : Store} (B : D → Bool) (F : D → D) : ∀ (ds acc : List D), (∀ d ∈ ds, lc2 g c f vs d ρ st = .ok (.tup (if B d then [F d] else [])) ρ st) →
    lcGo g c f vs ds acc ρ st = .ok (.lst (acc ++ (ds.filter B).map F)) ρ st
  | [], acc, _ => by simp [lcGo]
  | d :: ds, acc, h => by
    rw [lcGo_cons (h d (by simp)), lc_fm' B F ds _ fun d hd => h d (by simp [hd])]
    cases e : B d <;> simp [e]
theorem lc_fm {g : DGx} {c f : DEx} {vs : List Nat} {ρ : En} {st : Store} (B : D → Bool) (F : D → D) (ds : List D) (h : ∀ d ∈ ds, lc2 g c f vs d ρ st = .ok (.tup (if B d then [F d] else [])) ρ st) :
    lcGo g c f vs ds [] ρ st = .ok (.lst ((ds.filter B).map F)) ρ st := by simpa using lc_fm' B F ds [] h
theorem join_chars (cs : List Nat) : Txt.join "" (cs.map fun c => mkS [c]) = mkS cs := by
  apply mkS_ext
  rw [join0_cps, mkS_cps]
  induction cs with
  | nil => rfl
  | cons c cs ih => rw [List.map_cons, List.map_cons, List.flatten_cons, ih]; simp
theorem lens_chars (cs : List Nat) : ((cs.map fun c => mkS [c]).map (·.length)).sum = cs.length := by
  induction cs with
  | nil => rfl
  | cons c cs ih => rw [List.map_cons, List.map_cons, List.sum_cons, ih]; simp; omega
theorem of_all {α : Type} {f : α → D} {P : α → Prop} : ∀ {ys : List D}, (∀ y ∈ ys, ∃ c, P c ∧ y = f c) → ∃ cs : List α, ys = cs.map f ∧ ∀ c ∈ cs, P c
  | [], _ => ⟨[], rfl, fun _ h => by cases h⟩
  | y :: ys, h => by
    obtain ⟨c, hc, rfl⟩ := h y (List.mem_cons_self ..)
    obtain ⟨cs, e, h'⟩ := of_all (f := f) (P := P) fun y hy => h y (List.mem_cons_of_mem _ hy)
    refine ⟨c :: cs, by rw [e]; rfl, fun x hx => ?_⟩
    rcases List.mem_cons.mp hx with rfl | hx
    · exact hc
    · exact h' x hx
theorem all_of_get {ys : List D} {P : D → Prop} (h : ∀ (i : Nat) y, ys[i]? = some y → P y) : ∀ y ∈ ys, P y := fun y hy => by
  obtain ⟨i, hi, e⟩ := List.getElem_of_mem hy
  exact h i y (by rw [List.getElem?_eq_getElem hi, e])
theorem join_fit (cs : List Nat) (h : cs.length ≤ 1000000) : pJoin (.str "") (.lst (cs.map fun c => .str (mkS [c]))) = some (.str (mkS cs)) := by
  have e : (cs.map fun c => D.str (mkS [c])) = (cs.map fun c => mkS [c]).map D.str := by rw [List.map_map]; rfl
  have h0 : ("" : Str).length = 0 := by decide
  simp only [pJoin, kOf, e, strL_map, lens_chars, h0, join_chars]
  rw [if_pos (by omega)]
@[simp] theorem ixN_nat (n k : Nat) : ixN n (k : Int) = if k < n then some k else none := by
  unfold ixN
  rw [if_pos (by omega)]
  by_cases h : k < n
  · rw [if_pos h, if_pos (by omega)]; rfl
  · rw [if_neg h, if_neg (by omega)]
@[simp] theorem atI_nat {α : Type} (xs : List α) (k : Nat) : atI xs (k : Int) = xs[k]? := by
  unfold atI
  rw [ixN_nat]
  by_cases h : k < xs.length
  · simp [h]
  · simp [h]
@[simp] theorem atI_zero {α : Type} (xs : List α) : atI xs 0 = xs[0]? := atI_nat xs 0
@[simp] theorem atI_one {α : Type} (xs : List α) : atI xs 1 = xs[1]? := atI_nat xs 1
@[simp] theorem atI_2 {α : Type} (xs : List α) : atI xs 2 = xs[2]? := atI_nat xs 2
@[simp] theorem atI_3 {α : Type} (xs : List α) : atI xs 3 = xs[3]? := atI_nat xs 3
@[simp] theorem atI_4 {α : Type} (xs : List α) : atI xs 4 = xs[4]? := atI_nat xs 4
@[simp] theorem atI_5 {α : Type} (xs : List α) : atI xs 5 = xs[5]? := atI_nat xs 5
@[simp] theorem atI_6 {α : Type} (xs : List α) : atI xs 6 = xs[6]? := atI_nat xs 6
theorem lc2_of1 {g : DGx} {f : DEx} {vs : List Nat} {ρ ρ' : En} {st st' : Store} {d y : D} (h : lc1 g f vs d ρ st = .ok y ρ' st') : lc2 g yesD f vs d ρ st = .ok (.tup [y]) ρ' st' := by
  unfold lc1 at h
  unfold lc2
  cases e1 : g d ρ with
  | none => simp [e1] at h
  | some ρ1 =>
    simp only [e1, yesD_s] at h ⊢
    cases e3 : f ρ1 st with
    | ok y ρ3 st3 =>
      simp only [e3, R.ok.injEq] at h ⊢
      obtain ⟨rfl, rfl, rfl⟩ := h
      exact ⟨rfl, rfl, rfl⟩
    | exc _ _ _ => simp [e3] at h
    | bad => simp [e3] at h
theorem lc_fmC' {α : Type} {g : DGx} {c e : DEx} {vs : List Nat} {ρ : En} {st : Store} (f F : α → D) (B : α → Bool) : ∀ (cs : List α) (acc : List D), (∀ x ∈ cs, lc2 g c e vs (f x) ρ st = .ok (.tup (if B x then [F x] else [])) ρ st) →
    lcGo g c e vs (cs.map f) acc ρ st = .ok (.lst (acc ++ (cs.filter B).map F)) ρ st
  | [], acc, _ => by simp [lcGo]
  | d :: ds, acc, h => by
    rw [List.map_cons, lcGo_cons (h d (List.mem_cons_self ..)), lc_fmC' f F B ds _ fun d hd => h d (List.mem_cons_of_mem _ hd)]
    cases e : B d <;> simp [e]
theorem lc_fmC {α : Type} {g : DGx} {c e : DEx} {vs : List Nat} {ρ : En} {st : Store} (f F : α → D) (B : α → Bool) (cs : List α) (h : ∀ x ∈ cs, lc2 g c e vs (f x) ρ st = .ok (.tup (if B x then [F x] else [])) ρ st) :
    lcGo g c e vs (cs.map f) [] ρ st = .ok (.lst ((cs.filter B).map F)) ρ st := by simpa using lc_fmC' f F B cs [] h
theorem lc_mapC' {α : Type} {g : DGx} {e : DEx} {vs : List Nat} {ρ : En} {st : Store} (f F : α → D) : ∀ (cs : List α) (acc : List D), (∀ x ∈ cs, lc1 g e vs (f x) ρ st = .ok (F x) ρ st) →
    lcGo g yesD e vs (cs.map f) acc ρ st = .ok (.lst (acc ++ cs.map F)) ρ st
  | [], acc, _ => by simp [lcGo]
  | d :: ds, acc, h => by
    rw [List.map_cons, lcGo_cons (lc2_of1 (h d (List.mem_cons_self ..))), lc_mapC' f F ds _ fun d hd => h d (List.mem_cons_of_mem _ hd)]
    simp
theorem lc_mapC {α : Type} {g : DGx} {e : DEx} {vs : List Nat} {ρ : En} {st : Store} (f F : α → D) (cs : List α) (h : ∀ x ∈ cs, lc1 g e vs (f x) ρ st = .ok (F x) ρ st) :
    lcGo g yesD e vs (cs.map f) [] ρ st = .ok (.lst (cs.map F)) ρ st := by simpa using lc_mapC' f F cs [] h
@[simp] theorem pInX_char (n : Bool) (c : Nat) (z : Str) : pInX n (.str ⟨#[c]⟩) (.str z) = some (.bl (if n then !decide (c ∈ z.cps.toList) else decide (c ∈ z.cps.toList))) := by simp [pInX, pInB]
@[simp] theorem pAll_map {α : Type} (l : List α) (f : α → Bool) : pAll (.lst (l.map fun x => .bl (f x))) = some (.bl (l.all f)) := by
  simp only [pAll, bools_map, Option.map_some]
  congr 2
  induction l with
  | nil => rfl
  | cons x xs ih => simp
end DL
set_option maxRecDepth 100000
set_option maxHeartbeats 4000000
namespace LW
open PySem L2 DL
def top (i : Nat) : Stmt := PySem.Challenge.pw_allheard_k01_names_known.main.body.getD i (.Pass ⟨0, 0, 0, 0⟩)
structure Fx (K : PySem.W.Frag) (mg : Str → Option Value) : Prop where
  n_abs : mg "abs" = none
  n_all : mg "all" = none
  n_bool : mg "bool" = none
  n_int : mg "int" = none
  n_isinstance : mg "isinstance" = none
  n_len : mg "len" = none
  n_list : mg "list" = none
  n_max : mg "max" = none
  n_min : mg "min" = none
  n_range : mg "range" = none
  n_str : mg "str" = none
  n_tuple : mg "tuple" = none
  n_zip : mg "zip" = none
  c_LETTERS : ∃ t, mg "LETTERS" = some (.str "abcdefghijklmnopqrstuvwxyz" t)
  c_MOST_LETTERS : ∃ t, mg "MOST_LETTERS" = some (.int 8 t)
abbrev s__law_bag : Stmt := top 5
abbrev N__law_bag : List Str := ["_law_script", "_law_at", "_law_cell", "_law_far"]
theorem sc__law_bag : FnScope N__law_bag ["_law_script", "_law_at"] (defScope s__law_bag) := ⟨rfl, rfl, rfl, by decide +kernel, rfl, by decide +kernel, by decide +kernel⟩
noncomputable def b__law_bag : DSx :=
  (seqD (setD (cst (.int 0)) (gN 2))
  (seqD (ifD (lift2 pLt (vr 1) (lift1 pLen (pureE (pvw 0))))
    (setD (pureE (plift2 pIx (pvw 0) (pvr 1))) (gN 2))
    nxD)
  (seqD (setD (lift1 pAbs (pureE (pvw 2))) (gN 3))
  (retCD (lstD (aCons (lift2 mulK (vr 3) (lift1 pInt (lift2 pGe (vr 3) (lift2 pPowW (cst (.int 10)) (cst (.int 18)))))) (aCons (lift2 addK (lift2 addK (lift2 pMod (vr 2) (lift2 addK (lift2 pPowW (cst (.int 10)) (cst (.int 18))) (cst (.int 9)))) (lift2 mulK (cst (.int 7368787)) (vr 1))) (cst (.int 41))) (aCons (cst (.int 0)) aNil))))))))
noncomputable def d__law_bag : Den := runD 4 b__law_bag
theorem ok__law_bag {P : Program} {wd : World} {K : PySem.W.Frag} {mg : Str → Option Value} {base : Heap} (T : Fx K mg) (Df : Dfn K mg "_law_bag" ["_law_script", "_law_at"] s__law_bag)  : Cal P wd K mg base 1 "_law_bag" 2 d__law_bag :=
  have sc := sc__law_bag
  Cal.of (k := 0) Df sc__law_bag rfl rfl fun f cdv A outer s H E hr =>
  (dss_cons (ds_set (i := 2) sc.nd rfl (Or.inl rfl) de_int)
  (dss_cons (ds_if (dt_cmp op_lt ans_ibp (nomark _) (de_vr 1) (DE.v (de_b1 call_len ansC_len rfl T.n_len b_len (DPv.v (dp_vw 0)))))
    (dss_one (ds_set (i := 2) sc.nd rfl (Or.inl rfl) (DP.e (dp_ix (dp_vw 0) (dp_vr 1) (fun _ _ => rfl)))))
    dss_nil)
  (dss_cons (ds_set (i := 3) sc.nd rfl (Or.inl rfl) (de_b1 call_abs ansC_abs rfl T.n_abs b_abs (DPv.v (dp_vw 2))))
  (dss_one (ds_retC (do_lst (da_cons (de_mulX (de_vr 3) (de_t1 call_int1 ansC_int rfl T.n_int b_int (DE.v (de_cmp op_ge ans_ibp (nomark _) (de_vr 3) (DE.v (de_powW de_int de_int)))))) (da_cons (de_addX (de_addX (de_mod (de_vr 2) (de_addX (de_powW de_int de_int) de_int)) (de_mulX de_int (de_vr 1))) de_int) (da_cons de_int da_nil)))))))))
abbrev s__law_take : Stmt := top 6
abbrev N__law_take : List Str := ["_law_bag_here", "_law_many", "_law_digit", "_law_base", "_law_mixed"]
theorem sc__law_take : FnScope N__law_take ["_law_bag_here", "_law_many"] (defScope s__law_take) := ⟨rfl, rfl, rfl, by decide +kernel, rfl, by decide +kernel, by decide +kernel⟩
noncomputable def b__law_take : DSx :=
  (seqD (ifD (lift2 pGt (pureE (plift2 pIx (pvw 0) (pcst (.int 0)))) (cst (.int 0)))
    (seqD (setD (lift2 pMod (pureE (plift2 pIx (pvw 0) (pcst (.int 0)))) (vr 1)) (gN 2))
  (seqD (subSetD 0 (pcst (.int 0)) (lift2 pDiv (pureE (plift2 pIx (pvw 0) (pcst (.int 0)))) (vr 1)))
  (retD (vr 2))))
    nxD)
  (seqD (subSetD 0 (pcst (.int 2)) (lift2 addK (pureE (plift2 pIx (pvw 0) (pcst (.int 2)))) (cst (.int 1))))
  (seqD (setD (lift2 addK (lift2 addK (lift2 mulK (pureE (plift2 pIx (pvw 0) (pcst (.int 1)))) (lift2 addK (lift2 mulK (cst (.int 2)) (pureE (plift2 pIx (pvw 0) (pcst (.int 2))))) (cst (.int 1)))) (lift2 mulK (lift2 mulK (cst (.int 7919)) (pureE (plift2 pIx (pvw 0) (pcst (.int 2))))) (pureE (plift2 pIx (pvw 0) (pcst (.int 2)))))) (cst (.int 29))) (gN 3))
  (seqD (setD (lift2 pMod (lift2 pPowW (vr 3) (cst (.int 3))) (cst (.int 2147483587))) (gN 4))
  (retD (lift2 pMod (lift2 pDiv (lift2 pMod (lift2 mulK (vr 4) (lift2 addK (lift2 pDiv (vr 4) (cst (.int 4096))) (pureE (plift2 pIx (pvw 0) (pcst (.int 2)))))) (cst (.int 2147483549))) (cst (.int 16))) (vr 1)))))))
noncomputable def d__law_take : Den := runD 5 b__law_take
theorem ok__law_take {P : Program} {wd : World} {K : PySem.W.Frag} {mg : Str → Option Value} {base : Heap} (T : Fx K mg) (Df : Dfn K mg "_law_take" ["_law_bag_here", "_law_many"] s__law_take)  : Cal P wd K mg base 1 "_law_take" 2 d__law_take :=
  have sc := sc__law_take
  Cal.of (k := 0) Df sc__law_take rfl rfl fun f cdv A outer s H E hr =>
  (dss_cons (ds_if (dt_cmp op_gt ans_ibp (nomark _) (DP.e (dp_ix (dp_vw 0) dp_int (fun _ _ => rfl))) (DE.v de_int))
    (dss_cons (ds_set (i := 2) sc.nd rfl (Or.inl rfl) (de_mod (DP.e (dp_ix (dp_vw 0) dp_int (fun _ _ => rfl))) (de_vr 1)))
  (dss_cons (ds_sub (i := 0) (de_div (DP.e (dp_ix (dp_vw 0) dp_int (fun _ _ => rfl))) (de_vr 1)) dp_int)
  (dss_one (ds_ret (de_vr 2)))))
    dss_nil)
  (dss_cons (ds_sub (i := 0) (de_addX (DP.e (dp_ix (dp_vw 0) dp_int (fun _ _ => rfl))) de_int) dp_int)
  (dss_cons (ds_set (i := 3) sc.nd rfl (Or.inl rfl) (de_addX (de_addX (de_mulX (DP.e (dp_ix (dp_vw 0) dp_int (fun _ _ => rfl))) (de_addX (de_mulX de_int (DP.e (dp_ix (dp_vw 0) dp_int (fun _ _ => rfl)))) de_int)) (de_mulX (de_mulX de_int (DP.e (dp_ix (dp_vw 0) dp_int (fun _ _ => rfl)))) (DP.e (dp_ix (dp_vw 0) dp_int (fun _ _ => rfl))))) de_int))
  (dss_cons (ds_set (i := 4) sc.nd rfl (Or.inl rfl) (de_mod (de_powW (de_vr 3) de_int) de_int))
  (dss_one (ds_ret (de_mod (de_div (de_mod (de_mulX (de_vr 4) (de_addX (de_div (de_vr 4) de_int) (DP.e (dp_ix (dp_vw 0) dp_int (fun _ _ => rfl))))) de_int) de_int) (de_vr 1))))))))
abbrev s__law_name : Stmt := top 8
abbrev N__law_name : List Str := ["_law_bag_here", "_law_size", "_law_spot"]
theorem sc__law_name : FnScope N__law_name ["_law_bag_here"] (defScope s__law_name) := ⟨rfl, rfl, rfl, by decide +kernel, rfl, by decide +kernel, by decide +kernel⟩
noncomputable def e__law_name_1 : DEx :=
  (lift2 pIx (cst (.str "abcdefghijklmnopqrstuvwxyz")) (callD d__law_take (aCons (vr 0) (aCons (cst (.int 26)) aNil))))
noncomputable def b__law_name : DSx :=
  (seqD (setD (lift2 pIx (lstD (aCons (cst (.int 1)) (aCons (cst (.int 2)) (aCons (cst (.int 3)) (aCons (cst (.int 8)) aNil))))) (callD d__law_take (aCons (vr 0) (aCons (cst (.int 4)) aNil)))) (gN 1))
  (retD (lift2 pJoin (cst (.str "")) (lcD (rng1 (aCons (vr 1) aNil)) (gN 2) yesD e__law_name_1 [2]))))
noncomputable def d__law_name : Den := runD 3 b__law_name
theorem ok__law_name {P : Program} {wd : World} {K : PySem.W.Frag} {mg : Str → Option Value} {base : Heap} (T : Fx K mg) (Df : Dfn K mg "_law_name" ["_law_bag_here"] s__law_name) (C__law_take : Cal P wd K mg base 1 "_law_take" 2 d__law_take) : Cal P wd K mg base 2 "_law_name" 1 d__law_name :=
  have sc := sc__law_name
  Cal.of (k := 1) Df sc__law_name rfl rfl fun f cdv A outer s H E hr =>
  (dss_cons (ds_set (i := 1) sc.nd rfl (Or.inl rfl) (de_ix (DO.fz (do_lst (da_cons de_int (da_cons de_int (da_cons de_int (da_cons de_int da_nil)))))) (Cal.call C__law_take hr (by omega) rfl (takes_of rfl rfl rfl rfl) (da_cons (de_vr 0) (da_cons de_int da_nil))) (fun _ _ => rfl)))
  (dss_one (ds_ret (de_join (fun _ _ => ⟨_, rfl⟩) de_str (DE.v (DO.fz (do_lc (own := [("_law_spot", 2)]) rfl sc.nd (di_range1 rfl T.n_range (da_cons (de_vr 1) da_nil)) (blkOk_by rfl) (by decide) (fun _ _ _ _ _ => (dg_name (i := 2) sc.nd rfl (by first | exact Or.inl rfl | exact Or.inr rfl))) (fun _ _ _ _ _ => dts_nil) (fun _ _ _ _ _ => (de_ix de_str (Cal.call C__law_take hr (by omega) rfl takesF (da_cons (de_vr 0) (da_cons de_int da_nil))) (fun _ _ => rfl))))))))))
abbrev s__law_same : Stmt := top 7
abbrev N__law_same : List Str := ["_law_found", "_law_due_here", "_law_one", "_law_other"]
theorem sc__law_same : FnScope N__law_same ["_law_found", "_law_due_here"] (defScope s__law_same) := ⟨rfl, rfl, rfl, by decide +kernel, rfl, by decide +kernel, by decide +kernel⟩
noncomputable def e__law_same_1 (dn : Den) : DEx :=
  (callD dn (aCons (vr 2) (aCons (vr 3) aNil)))
noncomputable def b__law_same (dn : Den) : DSx :=
  (seqD (ifD (lift1 (pIsiT ["list", "tuple"]) (vr 1))
    (seqD (ifD (orD (lift2 pNe (lift1 (pIsi "list") (pureE (pvw 0))) (lift1 (pIsi "list") (pureE (pvw 1)))) (lift2 pNe (lift1 (pIsi "tuple") (pureE (pvw 0))) (lift1 (pIsi "tuple") (pureE (pvw 1)))))
    (retD (cst (.bl false)))
    nxD)
  (retD (andD (lift2 pEq (lift1 pLen (pureE (pvw 0))) (lift1 pLen (pureE (pvw 1)))) (lift1 pAll (lcD (zipD (aCons (vr 0) (aCons (vr 1) aNil))) (gT (gsCons (gN 2) (gsCons (gN 3) gsNil))) yesD (e__law_same_1 dn) [2, 3])))))
    nxD)
  (seqD (ifD (lift2 pNe (lift1 (pIsi "bool") (pureE (pvw 0))) (lift1 (pIsi "bool") (pureE (pvw 1))))
    (retD (cst (.bl false)))
    nxD)
  (retD (lift2 pEq (vr 0) (pureE (pvw 1))))))
noncomputable def d__law_same : Nat → Den
  | 0 => fun _ _ => .bad
  | n + 1 => runD 4 (b__law_same (d__law_same n))
theorem ok__law_same {P : Program} {wd : World} {K : PySem.W.Frag} {mg : Str → Option Value} {base : Heap} (T : Fx K mg) (Df : Dfn K mg "_law_same" ["_law_found", "_law_due_here"] s__law_same)  : ∀ n : Nat, Cal P wd K mg base (0 + n) "_law_same" 2 (d__law_same n)
  | 0 => Cal.none Df rfl
  | n + 1 =>
  have sc := sc__law_same
  have C__law_same := ok__law_same (P := P) (wd := wd) (base := base) T Df  n
  Cal.of (k := 0 + n) Df sc__law_same rfl rfl fun f cdv A outer s H E hr =>
  (dss_cons (ds_if (dt_val (de_isiT rfl T.n_isinstance (tys_cons rfl T.n_list b_list (tys_cons rfl T.n_tuple b_tuple tys_nil)) (de_vr 1)))
    (dss_cons (ds_if (DW.t (dw_or (dt_cmp (op_neD hr.units) ans_ne (nomark _) (de_isi rfl T.n_isinstance rfl T.n_list b_list (DPv.v (dp_vw 0))) (DE.v (de_isi rfl T.n_isinstance rfl T.n_list b_list (DPv.v (dp_vw 1))))) (dw_or1 (dt_cmp (op_neD hr.units) ans_ne (nomark _) (de_isi rfl T.n_isinstance rfl T.n_tuple b_tuple (DPv.v (dp_vw 0))) (DE.v (de_isi rfl T.n_isinstance rfl T.n_tuple b_tuple (DPv.v (dp_vw 1))))))))
    (dss_one (ds_ret de_bl))
    dss_nil)
  (dss_one (ds_ret (de_and (de_cmp (op_eqD hr.units) ans_eq (nomark _) (de_b1 call_len ansC_len rfl T.n_len b_len (DPv.v (dp_vw 0))) (DE.v (de_b1 call_len ansC_len rfl T.n_len b_len (DPv.v (dp_vw 1))))) (de_one (de_b1 (cr_all rfl) ansC_all rfl T.n_all b_all (DE.v (DO.fz (do_lc (own := [("_law_one", 2), ("_law_other", 3)]) rfl sc.nd (di_zip rfl T.n_zip (da_cons (de_vr 0) (da_cons (de_vr 1) da_nil))) (blkOk_by rfl) (by decide) (fun _ _ _ _ _ => (dg_tup rfl (dgs_cons (dg_name (i := 2) sc.nd rfl (by first | exact Or.inl rfl | exact Or.inr rfl)) (dgs_cons (dg_name (i := 3) sc.nd rfl (by first | exact Or.inl rfl | exact Or.inr rfl)) dgs_nil)))) (fun _ _ _ _ _ => dts_nil) (fun _ _ _ _ _ => (Cal.call C__law_same hr (by omega) rfl takesF (da_cons (de_vr 2) (da_cons (de_vr 3) da_nil)))))))))))))
    dss_nil)
  (dss_cons (ds_if (dt_cmp (op_neD hr.units) ans_ne (nomark _) (de_isi rfl T.n_isinstance rfl T.n_bool b_bool (DPv.v (dp_vw 0))) (DE.v (de_isi rfl T.n_isinstance rfl T.n_bool b_bool (DPv.v (dp_vw 1)))))
    (dss_one (ds_ret de_bl))
    dss_nil)
  (dss_one (ds_ret (de_cmp (op_eqD hr.units) ans_eq (nomark _) (de_vr 0) (DPv.v (dp_vw 1)))))))
abbrev s_is_name : Stmt := top 3
abbrev N_is_name : List Str := ["thing", "sign"]
theorem sc_is_name : FnScope N_is_name ["thing"] (defScope s_is_name) := ⟨rfl, rfl, rfl, by decide +kernel, rfl, by decide +kernel, by decide +kernel⟩
noncomputable def e_is_name_1 : DEx :=
  (lift2 (pInX false) (vr 1) (cst (.str "abcdefghijklmnopqrstuvwxyz")))
noncomputable def b_is_name : DSx :=
  (seqD (ifD (orD (notD (lift1 (pIsi "str") (pureE (pvw 0)))) (notD (chainD pLe pLe (cst (.int 1)) (lift1 pLen (pureE (pvw 0))) (cst (.int 8)))))
    (retD (cst (.bl false)))
    nxD)
  (retD (lift1 pAll (lcD (itD (vr 0)) (gN 1) yesD e_is_name_1 [1]))))
noncomputable def d_is_name : Den := runD 2 b_is_name
theorem ok_is_name {P : Program} {wd : World} {K : PySem.W.Frag} {mg : Str → Option Value} {base : Heap} (T : Fx K mg) (Df : Dfn K mg "is_name" ["thing"] s_is_name)  : Cal P wd K mg base 1 "is_name" 1 d_is_name :=
  have sc := sc_is_name
  Cal.of (k := 0) Df sc_is_name rfl rfl fun f cdv A outer s H E hr =>
  (dss_cons (ds_if (DW.t (dw_or (dt_not (dt_val (de_isi rfl T.n_isinstance rfl T.n_str b_str (DPv.v (dp_vw 0))))) (dw_or1 (dt_not (dt_chain op_le ans_ibp op_le ans_ibp de_int (de_b1 call_len ansC_len rfl T.n_len b_len (DPv.v (dp_vw 0))) (DE.v (de_gintE rfl T.c_MOST_LETTERS)))))))
    (dss_one (ds_ret de_bl))
    dss_nil)
  (dss_one (ds_ret (de_b1 (cr_all rfl) ansC_all rfl T.n_all b_all (DE.v (DO.fz (do_lc (own := [("sign", 1)]) rfl sc.nd (di_seq (de_vr 0)) (blkOk_by rfl) (by decide) (fun _ _ _ _ _ => (dg_name (i := 1) sc.nd rfl (by first | exact Or.inl rfl | exact Or.inr rfl))) (fun _ _ _ _ _ => dts_nil) (fun _ _ _ _ _ => (de_cmp (op_inA (Room.u65 hr)) (ans_in false) rfl (de_vr 1) (DE.v (de_gstrE rfl T.c_LETTERS)))))))))))
abbrev s__law_bent : Stmt := top 9
abbrev N__law_bent : List Str := ["_law_bag_here", "_law_name_here", "_law_signs", "_law_at", "_law_sign", "_law_kind"]
theorem sc__law_bent : FnScope N__law_bent ["_law_bag_here", "_law_name_here"] (defScope s__law_bent) := ⟨rfl, rfl, rfl, by decide +kernel, rfl, by decide +kernel, by decide +kernel⟩
noncomputable def b__law_bent : DSx :=
  (seqD (setD (cst (.str "abcxyzABZ019 _-.:;'~{}@`\n\t")) (gN 2))
  (seqD (setD (callD d__law_take (aCons (vr 0) (aCons (lift2 addK (lift1 pLen (pureE (pvw 1))) (cst (.int 1))) aNil))) (gN 3))
  (seqD (setD (lift2 pIx (vr 2) (callD d__law_take (aCons (vr 0) (aCons (lift1 pLen (pureE (pvw 2))) aNil)))) (gN 4))
  (seqD (setD (callD d__law_take (aCons (vr 0) (aCons (cst (.int 4)) aNil))) (gN 5))
  (seqD (ifD (lift2 pEq (vr 5) (cst (.int 0)))
    (retD (lift2 addK (lift2 addK (slX kSl (vr 1) bdN (bdS (vr 3))) (vr 4)) (slX kSl (vr 1) (bdS (vr 3)) bdN)))
    nxD)
  (seqD (ifD (lift2 pEq (vr 5) (cst (.int 1)))
    (retD (lift2 addK (slX kSl (vr 1) bdN (bdS (vr 3))) (slX kSl (vr 1) (bdS (lift2 addK (vr 3) (cst (.int 1)))) bdN)))
    nxD)
  (retD (lift2 addK (lift2 addK (slX kSl (vr 1) bdN (bdS (vr 3))) (vr 4)) (slX kSl (vr 1) (bdS (lift2 addK (vr 3) (cst (.int 1)))) bdN)))))))))
noncomputable def d__law_bent : Den := runD 6 b__law_bent
theorem ok__law_bent {P : Program} {wd : World} {K : PySem.W.Frag} {mg : Str → Option Value} {base : Heap} (T : Fx K mg) (Df : Dfn K mg "_law_bent" ["_law_bag_here", "_law_name_here"] s__law_bent) (C__law_take : Cal P wd K mg base 1 "_law_take" 2 d__law_take) : Cal P wd K mg base 2 "_law_bent" 2 d__law_bent :=
  have sc := sc__law_bent
  Cal.of (k := 1) Df sc__law_bent rfl rfl fun f cdv A outer s H E hr =>
  (dss_cons (ds_set (i := 2) sc.nd rfl (Or.inl rfl) de_str)
  (dss_cons (ds_set (i := 3) sc.nd rfl (Or.inl rfl) (Cal.call C__law_take hr (by omega) rfl (takes_of rfl rfl rfl rfl) (da_cons (de_vr 0) (da_cons (de_addX (de_b1 call_len ansC_len rfl T.n_len b_len (DPv.v (dp_vw 1))) de_int) da_nil))))
  (dss_cons (ds_set (i := 4) sc.nd rfl (Or.inl rfl) (de_ix (de_vr 2) (Cal.call C__law_take hr (by omega) rfl (takes_of rfl rfl rfl rfl) (da_cons (de_vr 0) (da_cons (de_b1 call_len ansC_len rfl T.n_len b_len (DPv.v (dp_vw 2))) da_nil))) (fun _ _ => rfl)))
  (dss_cons (ds_set (i := 5) sc.nd rfl (Or.inl rfl) (Cal.call C__law_take hr (by omega) rfl (takes_of rfl rfl rfl rfl) (da_cons (de_vr 0) (da_cons de_int da_nil))))
  (dss_cons (ds_if (dt_cmp (op_eqD hr.units) ans_eq (nomark _) (de_vr 5) (DE.v de_int))
    (dss_one (ds_ret (de_addX (de_addX (de_slice (de_vr 1) db_none (db_some (de_vr 3))) (de_vr 4)) (de_slice (de_vr 1) (db_some (de_vr 3)) db_none))))
    dss_nil)
  (dss_cons (ds_if (dt_cmp (op_eqD hr.units) ans_eq (nomark _) (de_vr 5) (DE.v de_int))
    (dss_one (ds_ret (de_addX (de_slice (de_vr 1) db_none (db_some (de_vr 3))) (de_slice (de_vr 1) (db_some (de_addX (de_vr 3) de_int)) db_none))))
    dss_nil)
  (dss_one (ds_ret (de_addX (de_addX (de_slice (de_vr 1) db_none (db_some (de_vr 3))) (de_vr 4)) (de_slice (de_vr 1) (db_some (de_addX (de_vr 3) de_int)) db_none))))))))))
abbrev s__law_due : Stmt := top 10
abbrev N__law_due : List Str := ["_law_text", "_law_sign"]
theorem sc__law_due : FnScope N__law_due ["_law_text"] (defScope s__law_due) := ⟨rfl, rfl, rfl, by decide +kernel, rfl, by decide +kernel, by decide +kernel⟩
noncomputable def t__law_due_1 : DEx :=
  (lift2 (pInX true) (vr 1) (cst (.str "abcdefghijklmnopqrstuvwxyz")))
noncomputable def b__law_due : DSx :=
  (retD (andD (chainD pLt pLt (cst (.int 0)) (lift1 pLen (pureE (pvw 0))) (cst (.int 9))) (lift2 pEq (lcD (itD (vr 0)) (gN 1) t__law_due_1 (vr 1) [1]) (lstD aNil))))
noncomputable def d__law_due : Den := runD 2 b__law_due
theorem ok__law_due {P : Program} {wd : World} {K : PySem.W.Frag} {mg : Str → Option Value} {base : Heap} (T : Fx K mg) (Df : Dfn K mg "_law_due" ["_law_text"] s__law_due)  : Cal P wd K mg base 1 "_law_due" 1 d__law_due :=
  have sc := sc__law_due
  Cal.of (k := 0) Df sc__law_due rfl rfl fun f cdv A outer s H E hr =>
  (dss_one (ds_ret (de_and (de_chain op_lt ans_ibp op_lt ans_ibp de_int (de_b1 call_len ansC_len rfl T.n_len b_len (DPv.v (dp_vw 0))) (DE.v de_int)) (de_one (de_cmp (op_eqD hr.units) ans_eq (nomark _) (DO.fz (do_lc (own := [("_law_sign", 1)]) rfl sc.nd (di_seq (de_vr 0)) (blkOk_by rfl) (by decide) (fun _ _ _ _ _ => (dg_name (i := 1) sc.nd rfl (by first | exact Or.inl rfl | exact Or.inr rfl))) (fun _ _ _ _ _ => (dts_one (dt_cmp (op_notInA (Room.u65 hr)) (ans_in true) rfl (de_vr 1) (DE.v de_str)))) (fun _ _ _ _ _ => (de_vr 1)))) (DE.v (DO.fz (do_lst da_nil))))))))
abbrev s_law : Stmt := top 11
abbrev N_law : List Str := ["_law_script", "_law_at", "_law_bag_here", "_law_name_here", "_law_text", "_law_odd", "_law_spot", "_law_one"]
theorem sc_law : FnScope N_law ["_law_script"] (defScope s_law) := ⟨rfl, rfl, rfl, by decide +kernel, rfl, by decide +kernel, by decide +kernel⟩
noncomputable def e_law_1 : DEx :=
  (callD d_is_name (aCons (vr 7) aNil))
noncomputable def e_law_2 : DEx :=
  (callD d__law_bent (aCons (vr 2) (aCons (vr 3) aNil)))
noncomputable def f_law_3 : DSx :=
  (ifD (notD (callD (d__law_same 8) (aCons (callD d_is_name (aCons (vr 4) aNil)) (aCons (callD d__law_due (aCons (vr 4) aNil)) aNil))))
    (retD (cst (.bl false)))
    nxD)
noncomputable def f_law_4 : DSx :=
  (seqD (setD (callD d__law_bag (aCons (vr 0) (aCons (vr 1) aNil))) (gN 2))
  (seqD (setD (callD d__law_name (aCons (vr 2) aNil)) (gN 3))
  (seqD (forE (itD (lift2 addK (lstD (aCons (vr 3) (aCons (lift2 addK (vr 3) (vr 3)) (aCons (lift2 mulK (vr 3) (cst (.int 9))) aNil)))) (lcD (rng1 (aCons (cst (.int 6)) aNil)) (gN 6) yesD e_law_2 [6]))) (gN 4)
    f_law_3)
  (seqD (setD (lstD (aCons (cst .non) (aCons (cst (.bl true)) (aCons (cst (.int 7)) (aCons (lstD (aCons (vr 3) aNil)) (aCons (aCons (vr 3) aNil) (aCons (cst (.dct [])) (aCons (dispD (aCons (vr 3) (aCons (vr 3) aNil))) (aCons (lstD aNil) (aCons aNil (aCons (lift1 pNeg (cst (.int 1))) (aCons (lstD (aCons (cst (.str "a")) (aCons (cst (.str "b")) aNil))) (aCons (aCons (aCons (cst (.str "a")) aNil) aNil) aNil))))))))))))) (gN 5))
  (ifD (notD (callD (d__law_same 8) (aCons (lcD (itD (vr 5)) (gN 7) yesD e_law_1 [7]) (aCons (lift2 mulK (lstD (aCons (cst (.bl false)) aNil)) (cst (.int 12))) aNil))))
    (retD (cst (.bl false)))
    nxD)))))
noncomputable def b_law : DSx :=
  (seqD (forE (rng1 (aCons (lift2 pMax (cst (.int 1)) (lift2 pMin (cst (.int 8)) (lift1 pLen (pureE (pvw 0))))) aNil)) (gN 1)
    f_law_4)
  (retD (andD (lift2 pIsB (callD d_is_name (aCons (cst (.str "")) aNil)) (cst (.bl false))) (andD (lift2 pIsB (callD d_is_name (aCons (cst (.str "abcdefgh")) aNil)) (cst (.bl true))) (lift2 pIsB (callD d_is_name (aCons (cst (.str "abcdefghi")) aNil)) (cst (.bl false)))))))
noncomputable def d_law : Den := runD 8 b_law
theorem ok_law {P : Program} {wd : World} {K : PySem.W.Frag} {mg : Str → Option Value} {base : Heap} (T : Fx K mg) (C_is_name : Cal P wd K mg base 1 "is_name" 1 d_is_name) (C__law_same : Cal P wd K mg base 8 "_law_same" 2 (d__law_same 8)) (C__law_bent : Cal P wd K mg base 2 "_law_bent" 2 d__law_bent) (C__law_due : Cal P wd K mg base 1 "_law_due" 1 d__law_due) (C__law_name : Cal P wd K mg base 2 "_law_name" 1 d__law_name) (C__law_bag : Cal P wd K mg base 1 "_law_bag" 2 d__law_bag) {f : Addr} {fd : FuncData} (F : Fun K "law" "law" s_law f fd) : FnOk P wd K mg base (L2.CX P wd) 9 f fd ["_law_script"] (spD K mg 1 d_law) :=
  have sc := sc_law
  Law.of (k := 8) sc_law rfl (fun f cdv A outer s H E hr =>
  (dss_cons (ds_for (passes_of rfl) rfl (di_range1 rfl T.n_range (da_cons (de_b2 (call_max2 rfl) ansC_max rfl T.n_max b_max de_int (DE.v (de_b2 (call_min2 rfl) ansC_min rfl T.n_min b_min de_int (DE.v (de_b1 call_len ansC_len rfl T.n_len b_len (DPv.v (dp_vw 0))))))) da_nil)) (dg_name (i := 1) sc.nd rfl (Or.inl rfl))
    (dss_cons (ds_set (i := 2) sc.nd rfl (Or.inr rfl) (Cal.call C__law_bag hr (by omega) rfl (takes_of rfl rfl rfl rfl) (da_cons (de_vr 0) (da_cons (de_vr 1) da_nil))))
  (dss_cons (ds_set (i := 3) sc.nd rfl (Or.inr rfl) (Cal.call C__law_name hr (by omega) rfl (takes_of rfl rfl rfl rfl) (da_cons (de_vr 2) da_nil)))
  (dss_cons (ds_for (passes_of rfl) rfl (di_seq (de_addX (DO.fz (do_lst (da_cons (de_vr 3) (da_cons (de_addX (de_vr 3) (de_vr 3)) (da_cons (de_mulX (de_vr 3) de_int) da_nil))))) (DO.fz (do_lc (own := [("_law_spot", 6)]) rfl sc.nd (di_range1 rfl T.n_range (da_cons de_int da_nil)) (blkOk_by rfl) (by decide) (fun _ _ _ _ _ => (dg_name (i := 6) sc.nd rfl (by first | exact Or.inl rfl | exact Or.inr rfl))) (fun _ _ _ _ _ => dts_nil) (fun _ _ _ _ _ => (Cal.call C__law_bent hr (by omega) rfl takesF (da_cons (de_vr 2) (da_cons (de_vr 3) da_nil)))))))) (dg_name (i := 4) sc.nd rfl (Or.inl rfl))
    (dss_one (ds_if (dt_not (dt_val (Cal.call C__law_same hr (by omega) rfl (takes_of rfl rfl rfl rfl) (da_cons (Cal.call C_is_name hr (by omega) rfl (takes_of rfl rfl rfl rfl) (da_cons (de_vr 4) da_nil)) (da_cons (Cal.call C__law_due hr (by omega) rfl (takes_of rfl rfl rfl rfl) (da_cons (de_vr 4) da_nil)) da_nil)))))
    (dss_one (ds_ret de_bl))
    dss_nil)))
  (dss_cons (ds_set (i := 5) sc.nd rfl (Or.inl rfl) (DO.fz (do_lst (da_cons de_non (da_cons de_bl (da_cons de_int (da_cons (DO.fz (do_lst (da_cons (de_vr 3) da_nil))) (da_cons (de_tup (da_cons (de_vr 3) da_nil)) (da_cons de_dict0 (da_cons (de_dict (dpr_cons (de_vr 3) (de_vr 3) dpr_nil)) (da_cons (DO.fz (do_lst da_nil)) (da_cons (de_tup da_nil) (da_cons (de_neg de_int) (da_cons (DO.fz (do_lst (da_cons de_str (da_cons de_str da_nil)))) (da_cons (de_tup (da_cons (de_tup (da_cons de_str da_nil)) da_nil)) da_nil)))))))))))))))
  (dss_one (ds_if (dt_not (dt_val (Cal.call C__law_same hr (by omega) rfl (takes_of rfl rfl rfl rfl) (da_cons (DO.fz (do_lc (own := [("_law_one", 7)]) rfl sc.nd (di_seq (de_vr 5)) (blkOk_by rfl) (by decide) (fun _ _ _ _ _ => (dg_name (i := 7) sc.nd rfl (by first | exact Or.inl rfl | exact Or.inr rfl))) (fun _ _ _ _ _ => dts_nil) (fun _ _ _ _ _ => (Cal.call C_is_name hr (by omega) rfl takesF (da_cons (de_vr 7) da_nil))))) (da_cons (de_mulX (DO.fz (do_lst (da_cons de_bl da_nil))) de_int) da_nil)))))
    (dss_one (ds_ret de_bl))
    dss_nil)))))))
  (dss_one (ds_ret (de_and (de_cmp op_is_bl ans_isB (nomark _) (Cal.call C_is_name hr (by omega) rfl (takes_of rfl rfl rfl rfl) (da_cons de_str da_nil)) (DE.v de_bl)) (de_and (de_cmp op_is_bl ans_isB (nomark _) (Cal.call C_is_name hr (by omega) rfl (takes_of rfl rfl rfl rfl) (da_cons de_str da_nil)) (DE.v de_bl)) (de_one (de_cmp op_is_bl ans_isB (nomark _) (Cal.call C_is_name hr (by omega) rfl (takes_of rfl rfl rfl rfl) (da_cons de_str da_nil)) (DE.v de_bl))))))))) F
/-- a bag: the number in front, the seed, the count of draws -/
def BagC (n : Nat) (c : Cell) : Prop := ∃ b0 b1 b2 : Int, c = .lst [.int b0, .int b1, .int b2] ∧ 0 ≤ b0 ∧ 0 ≤ b1 ∧ b1 < 2 ^ 62 ∧ 0 ≤ b2 ∧ b2 ≤ n
theorem BagC.mono {n m : Nat} {c : Cell} (h : BagC n c) (l : n ≤ m) : BagC m c := by
  obtain ⟨b0, b1, b2, e, h1, h2, h3, h4, h5⟩ := h
  exact ⟨b0, b1, b2, e, h1, h2, h3, h4, by omega⟩
theorem bag_spec (ns : List Int) (at' : Nat) (st : Store) (h : at' < 1000) :
    ∃ c, d__law_bag [.lsk (ns.map .int), .int at'] st = .ok (.ref st.length) [] (st ++ [c]) ∧ BagC 0 c := by
  have e18 : CPow2 10 18 := ⟨by decide, by decide, Nat.lt_of_lt_of_le (by decide : Int.natAbs 10 < 2 ^ 8) (Nat.pow_le_pow_right (by decide) (by decide))⟩
  have main : ∀ z : Int, ∀ b : Int, (b = 0 ∨ b = 1) → BagC 0 (.lst [.int ((if z < 0 then -z else z) * b), .int (z % (10 ^ 18 + 9) + 7368787 * at' + 41), .int 0]) := fun z b hb => by
    refine ⟨_, _, _, rfl, ?_, ?_, ?_, by omega, by simp⟩
    · rcases hb with rfl | rfl
      · simp
      · simp; split <;> omega
    · have := Int.emod_nonneg z (show (10 ^ 18 + 9 : Int) ≠ 0 by decide)
      omega
    · have := Int.emod_lt_of_pos z (show (0 : Int) < 10 ^ 18 + 9 by decide)
      omega
  have cm1 : ∀ (z b : Int), (b = 0 ∨ b = 1) → CMul z b := fun z b hb => by
    right; rcases hb with rfl | rfl <;> decide
  have cm2 : CMul 7368787 at' := by left; decide
  by_cases hlt : at' < ns.length
  · obtain ⟨z, hz⟩ : ∃ z, ns[at'] = z := ⟨_, rfl⟩
    obtain ⟨far, hf⟩ : ∃ far : Int, (if z < 0 then -z else z) = far := ⟨_, rfl⟩
    by_cases hb : (1000000000000000000 : Int) ≤ far
    · refine ⟨_, ?_, main z 1 (.inr rfl)⟩
      simp [d__law_bag, b__law_bag, hlt, hz, hf, e18, atI, ixN, cm2, hb, cm1]
    · refine ⟨_, ?_, main z 0 (.inl rfl)⟩
      simp [d__law_bag, b__law_bag, hlt, hz, hf, e18, atI, ixN, cm2, hb, cm1]
  · refine ⟨_, ?_, main 0 0 (.inl rfl)⟩
    simp [d__law_bag, b__law_bag, hlt, e18, cm2, cm1]
theorem take_spec {n : Nat} {c : Cell} {st : Store} {l : Nat} {many : Nat} (hl : st[l]? = some c) (hc : BagC n c) (hn : n < 1000000) (h0 : 0 < many) (h1 : many < 1000000) :
    ∃ (v : Nat) (c' : Cell), d__law_take [.ref l, .int many] st = .ok (.int v) [] (st.set l c') ∧ BagC (n + 1) c' ∧ v < many := by
  obtain ⟨b0, b1, b2, rfl, p0, p1, p2, p3, p4⟩ := hc
  have hm : (0 : Int) < many := by omega
  have hm2 : (many : Int) < 1073741824 := by omega
  obtain ⟨hll, hl'⟩ := List.getElem?_eq_some_iff.mp hl
  by_cases hb : 0 < b0
  · refine ⟨(b0 % many).toNat, .lst [.int (b0 / many), .int b1, .int b2], ?_, ⟨_, _, _, rfl, Int.ediv_nonneg p0 (by omega), p1, p2, p3, by omega⟩, ?_⟩
    · have hv : ((b0 % many).toNat : Int) = b0 % many := Int.toNat_of_nonneg (Int.emod_nonneg _ (by omega))
      have cd : ∀ i : Int, CDiv i many := fun _ => ⟨hm, hm2⟩
      simp [d__law_take, b__law_take, hl', hll, atI, ixN, hb, cd, hv, h0]
    · have := Int.emod_lt_of_pos b0 hm
      have := Int.emod_nonneg b0 (show (many : Int) ≠ 0 by omega)
      omega
  · have cd : ∀ i : Int, CDiv i 4096 ∧ CDiv i 16 := fun _ => ⟨⟨by decide, by decide⟩, ⟨by decide, by decide⟩⟩
    have b0 : b0 = 0 := by omega
    subst b0
    obtain ⟨base, hbase⟩ : ∃ base : Int, b1 * (2 * (b2 + 1) + 1) + 7919 * (b2 + 1) * (b2 + 1) + 29 = base := ⟨_, rfl⟩
    have q0 : 0 ≤ b1 * (2 * (b2 + 1) + 1) := Int.mul_nonneg p1 (by omega)
    have q0' : b1 * (2 * (b2 + 1) + 1) ≤ 2 ^ 62 * (2 ^ 22) := Int.mul_le_mul (by omega) (by omega) (by omega) (by omega)
    have q1 : 0 ≤ 7919 * (b2 + 1) * (b2 + 1) := Int.mul_nonneg (by omega) (by omega)
    have q1' : 7919 * (b2 + 1) * (b2 + 1) ≤ (7919 * 2 ^ 22) * 2 ^ 22 := Int.mul_le_mul (by omega) (by omega) (by omega) (by omega)
    have q2 : 0 ≤ base ∧ base < 2 ^ 90 := by omega
    have cp : CPow2 base 3 := ⟨by decide, by decide, Nat.lt_of_lt_of_le (by omega : base.natAbs < 2 ^ 90) (Nat.pow_le_pow_right (by decide) (by decide))⟩
    have c1 : CMul b1 (2 * (b2 + 1) + 1) := .inr ⟨by omega, by omega⟩
    have c2 : ∀ i : Int, CMul 2 i ∧ CMul 7919 i := fun _ => ⟨.inl (by decide), .inl (by decide)⟩
    have c3 : CMul (7919 * (b2 + 1)) (b2 + 1) := .inr ⟨by omega, by omega⟩
    obtain ⟨mx, hmx⟩ : ∃ mx : Int, base ^ 3 % 2147483587 = mx := ⟨_, rfl⟩
    have hmx0 : 0 ≤ mx := by rw [← hmx]; exact Int.emod_nonneg _ (by decide)
    have hmx1 : mx < 2147483587 := by rw [← hmx]; exact Int.emod_lt_of_pos _ (by decide)
    have c4 : CMul mx (mx / 4096 + (b2 + 1)) := .inl ⟨by omega, by omega⟩
    obtain ⟨v, hv⟩ : ∃ v : Int, mx * (mx / 4096 + (b2 + 1)) % 2147483549 / 16 % many = v := ⟨_, rfl⟩
    have v0 : 0 ≤ v := by rw [← hv]; exact Int.emod_nonneg _ (by omega)
    have v1 : v < many := by rw [← hv]; exact Int.emod_lt_of_pos _ (by omega)
    have hv' : (v.toNat : Int) = v := Int.toNat_of_nonneg v0
    refine ⟨v.toNat, .lst [.int 0, .int b1, .int (b2 + 1)], ?_, ⟨_, _, _, rfl, by decide, p1, p2, by omega, by omega⟩, by omega⟩
    simp [d__law_take, b__law_take, hl', hll, atI, ixN, cd, h0, c1, c2, c3, hbase, cp, hmx, c4, hv, hv']
abbrev LET : Str := "abcdefghijklmnopqrstuvwxyz"
theorem LET_len : LET.length = 26 := by decide
theorem LET_lens : LET.cps.toList.length = 26 := by decide
theorem LET_size : LET.cps.size = 26 := LET_len
theorem LET_sz : LET.length ≤ sizeLine := by rw [LET_len, sizeLine_eq]; omega
theorem LET_ok : ∀ c ∈ LET.cps.toList, c < 0x110000 := by decide
/-- a drawn name -/
structure NameS (s : Str) : Prop where
  lo : 1 ≤ s.length
  hi : s.length ≤ 8
  low : ∀ c ∈ s.cps.toList, c ∈ LET.cps.toList
theorem NameS.ok {s : Str} (h : NameS s) : okS s := fun c hc => LET_ok c (h.low c hc)
theorem name_lc {n k : Nat} {c1 : Cell} {st : Store} {l : Nat} (hll : l < st.length) (h1 : BagC (n + 1) c1) (hn : n < 900000) (hk8 : k ≤ 8) :
    ∃ (cs : List Nat) (c' : Cell), lcGo (gN 2) yesD e__law_name_1 [2] (rngItems 0 k) [] [.val (.ref l), .val (.int k), .no] (st.set l c1) =
      .ok (.lst (cs.map fun c => .str (mkS [c]))) [.val (.ref l), .val (.int k), .no] (st.set l c') ∧ BagC (n + 1 + k) c' ∧ cs.length = k ∧ ∀ c ∈ cs, c ∈ LET.cps.toList := by
  obtain ⟨ys, st', q1, q2, q3, q4⟩ := lc_inv (g := gN 2) (f := e__law_name_1) (vs := [2]) (ρ := [.val (.ref l), .val (.int k), .no])
    (fun i st' => ∃ c', st' = st.set l c' ∧ BagC (n + 1 + i) c') (fun i y => ∃ c, c ∈ LET.cps.toList ∧ y = .str (mkS [c])) (rngItems 0 k) (st.set l c1) (fun i d st' hd hi hI => by
      obtain ⟨c', rfl, hb⟩ := hI
      have hi8 : i < k := by simpa [rngItems] using hi
      obtain ⟨u, c2, e2, h2, hu⟩ := take_spec (st := st.set l c') (l := l) (c := c') (many := 26) (by simp [hll]) hb (by omega) (by decide) (by decide)
      have hu' : u < LET.cps.size := by rw [LET_size]; exact hu
      refine ⟨.str (mkS [LET.cps[u]]), (st.set l c').set l c2, ?_, ⟨c2, by simp, h2.mono (by omega)⟩, _, ?_, rfl⟩
      · simp at e2
        simp [e__law_name_1, e2, hu', LET_sz, mkS]
      · simp) ⟨c1, rfl, h1⟩
  obtain ⟨c', rfl, hb⟩ := q2
  have hlen : (rngItems 0 k).length = k := by simp [rngItems]
  rw [hlen] at hb q3
  obtain ⟨cs, rfl, hcs⟩ := of_all (f := fun c => .str (mkS [c])) (all_of_get q4)
  exact ⟨cs, c', q1, hb, by simpa using q3, hcs⟩
theorem name_spec {n : Nat} {c : Cell} {st : Store} {l : Nat} (hl : st[l]? = some c) (hc : BagC n c) (hn : n < 900000) :
    ∃ (s : Str) (c' : Cell), d__law_name [.ref l] st = .ok (.str s) [] (st.set l c') ∧ BagC (n + 9) c' ∧ NameS s := by
  obtain ⟨hll, _⟩ := List.getElem?_eq_some_iff.mp hl
  obtain ⟨v, c1, e1, h1, hv⟩ := take_spec (many := 4) hl hc (by omega) (by decide) (by decide)
  obtain ⟨k, hk, hk1, hk8⟩ : ∃ k : Nat, ([D.int 1, .int 2, .int 3, .int 8] : List D)[v]? = some (.int k) ∧ 1 ≤ k ∧ k ≤ 8 := by
    match v, hv with
    | 0, _ => exact ⟨1, rfl, by omega, by omega⟩
    | 1, _ => exact ⟨2, rfl, by omega, by omega⟩
    | 2, _ => exact ⟨3, rfl, by omega, by omega⟩
    | 3, _ => exact ⟨8, rfl, by omega, by omega⟩
  have hlen : (rngItems 0 k).length = k := by simp [rngItems]
  obtain ⟨cs, c', q1, hb, hcl, hcs⟩ := name_lc (k := k) hll h1 hn hk8
  have hjf := join_fit cs (by omega)
  refine ⟨mkS cs, c', ?_, hb.mono (by omega), ⟨by simp; omega, by simp; omega, by simpa using hcs⟩⟩
  simp at e1
  have hrk : Rg (k : Int) := .of (by omega) (by omega)
  have hsz : k ≤ sizeLine := by rw [sizeLine_eq]; omega
  simp only [d__law_name, b__law_name, runD, seqD, setD, thenF, lift2, callD, aCons, aNil, vr, cst, R.bind, enter]
  simp [-pJoin, e1, hk, hlen, hsz, hrk, q1, hjf]
def nameOk (s : Str) : Bool := decide (1 ≤ s.length) && decide (s.length ≤ 8) && s.cps.toList.all fun c => decide (c ∈ LET.cps.toList)
theorem is_name_spec (s : Str) (st : Store) (h : s.length ≤ 1000000) : d_is_name [.str s] st = .ok (.bl (nameOk s)) [] st := by
  have hsz : s.length ≤ sizeLine := by rw [sizeLine_eq]; omega
  have hsz' : s.cps.size ≤ sizeLine := hsz
  have q := lc_mapC (g := gN 1) (e := e_is_name_1) (vs := [1]) (ρ := [.val (.str s), .no]) (st := st) (fun c => .str ⟨#[c]⟩) (fun c => .bl (decide (c ∈ LET.cps.toList))) s.cps.toList (by
    intro c hc
    simp [e_is_name_1])
  by_cases h1 : 1 ≤ s.length
  · by_cases h2 : s.length ≤ 8
    · have h1' : (1 : Int) ≤ s.length := by omega
      have h2' : (s.length : Int) ≤ 8 := by omega
      simp [-pAll, -Array.mem_toList_iff, -Array.toList_map, d_is_name, b_is_name, hsz, hsz', h1', h2', q, nameOk, h1, h2]
    · have h2' : ¬ (s.length : Int) ≤ 8 := by omega
      have h1' : (1 : Int) ≤ s.length := by omega
      simp [d_is_name, b_is_name, hsz, h1', h2', nameOk, h2]
  · have h1' : ¬ (1 : Int) ≤ s.length := by omega
    simp [d_is_name, b_is_name, hsz, h1', nameOk, h1]
theorem due_spec (s : Str) (st : Store) (h : s.length ≤ 1000000) (ho : okS s) : d__law_due [.str s] st = .ok (.bl (nameOk s)) [] st := by
  have hsz : s.length ≤ sizeLine := by rw [sizeLine_eq]; omega
  have hsz' : s.cps.size ≤ sizeLine := hsz
  have q := lc_fmC (g := gN 1) (c := t__law_due_1) (e := vr 1) (vs := [1]) (ρ := [.val (.str s), .no]) (st := st) (fun c => .str ⟨#[c]⟩) (fun c => .str ⟨#[c]⟩) (fun c => !decide (c ∈ LET.cps.toList)) s.cps.toList (by
    intro c hc
    by_cases e : c ∈ LET.cps.toList
    · simp [-Array.mem_toList_iff, t__law_due_1, e]
    · simp [-Array.mem_toList_iff, t__law_due_1, e])
  have q2 : pEq (.lst (((s.cps.toList.filter fun c => !decide (c ∈ LET.cps.toList)).map fun c => (⟨#[c]⟩ : Str)).map D.str)) (.lst (([] : List Str).map D.str)) = some (.bl (s.cps.toList.all fun c => decide (c ∈ LET.cps.toList))) := by
    rw [pEq_strs]
    · congr 2
      rw [Bool.eq_iff_iff, decide_eq_true_iff, List.map_eq_nil_iff, List.filter_eq_nil_iff, List.all_eq_true]
      simp only [Bool.not_eq_true', decide_eq_false_iff_not, Classical.not_not, decide_eq_true_eq]
    · intro x hx
      obtain ⟨c, hc, rfl⟩ := List.mem_map.mp hx
      intro d hd
      have : d = c := by simpa using hd
      subst this
      exact ho d (List.mem_filter.mp hc).1
    · simp
  rw [List.map_map] at q2
  by_cases h1 : 1 ≤ s.length
  · by_cases h2 : s.length ≤ 8
    · have h1' : (0 : Int) < s.length := by omega
      have h2' : (s.length : Int) < 9 := by omega
      have h1'' : 0 < s.length := by omega
      simp [-Array.mem_toList_iff, -Array.toList_map, d__law_due, b__law_due, hsz, hsz', h1', h1'', h2', q, nameOk, h1, h2]
      rw [show (fun c => D.str (⟨#[c]⟩ : Str)) = (D.str ∘ fun c => (⟨#[c]⟩ : Str)) from rfl, show ([] : List D) = ([] : List Str).map D.str from rfl, q2]
      simp [-Array.mem_toList_iff]
    · have h2' : ¬ (s.length : Int) < 9 := by omega
      have h1' : (0 : Int) < s.length := by omega
      have h1'' : 0 < s.length := by omega
      simp [d__law_due, b__law_due, hsz, h1', h1'', h2', nameOk, h2]
  · have h1' : ¬ (0 : Int) < s.length := by omega
    have h1'' : ¬ 0 < s.length := by omega
    simp [d__law_due, b__law_due, hsz, h1', h1'', nameOk, h1]
theorem okS_app {a b : Str} (h1 : okS a) (h2 : okS b) : okS (a ++ b) := fun c hc => by
  rw [app_cps] at hc
  rcases List.mem_append.mp hc with h | h
  · exact h1 c h
  · exact h2 c h
theorem okS_cut {a : Str} (h1 : okS a) (lo hi : Option Int) : okS (cutS a lo hi) := fun c hc => by
  rw [cutS_cps] at hc
  exact h1 c (List.mem_of_mem_drop (List.mem_of_mem_take hc))
theorem cut_len (a : Str) (lo hi : Option Int) : (cutS a lo hi).length = min (HT.sIx a.length a.length hi - HT.sIx a.length 0 lo) (a.length - HT.sIx a.length 0 lo) := by
  rw [len_cps, cutS_cps, List.length_take, List.length_drop, ← len_cps]
theorem cut_le (a : Str) (lo hi : Option Int) : (cutS a lo hi).length ≤ a.length := by rw [cut_len]; omega
abbrev SIG : Str := "abcxyzABZ019 _-.:;'~{}@`\n\t"
theorem SIG_len : SIG.length = 26 := by decide
theorem SIG_size : SIG.cps.size = 26 := SIG_len
theorem SIG_sz : SIG.length ≤ sizeLine := by rw [SIG_len, sizeLine_eq]; omega
theorem SIG_ok : ∀ c ∈ SIG.cps.toList, c < 0x110000 := by decide
theorem bent_spec {n : Nat} {c : Cell} {st : Store} {l : Nat} {s : Str} (hl : st[l]? = some c) (hc : BagC n c) (hn : n < 900000) (hs : s.length ≤ 8) (ho : okS s) :
    ∃ (t : Str) (c' : Cell), d__law_bent [.ref l, .str s] st = .ok (.str t) [] (st.set l c') ∧ BagC (n + 3) c' ∧ t.length ≤ 17 ∧ okS t := by
  obtain ⟨hll, _⟩ := List.getElem?_eq_some_iff.mp hl
  have hsz : s.length ≤ sizeLine := by rw [sizeLine_eq]; omega
  obtain ⟨a, c1, e1, h1, ha⟩ := take_spec (many := s.length + 1) hl hc (by omega) (by omega) (by omega)
  obtain ⟨b, c2, e2, h2, hb⟩ := take_spec (st := st.set l c1) (l := l) (c := c1) (many := 26) (by simp [hll]) h1 (by omega) (by decide) (by decide)
  obtain ⟨k, c3, e3, h3, hk⟩ := take_spec (st := (st.set l c1).set l c2) (l := l) (c := c2) (many := 4) (by simp [hll]) h2 (by omega) (by decide) (by decide)
  have hb' : b < SIG.cps.size := by rw [SIG_size]; exact hb
  have h26 : 26 ≤ sizeLine := by rw [sizeLine_eq]; omega
  obtain ⟨ch, hE⟩ : ∃ ch, (⟨#[SIG.cps[b]]⟩ : Str) = ch := ⟨_, rfl⟩
  have hch : okS ch := fun x hx => by
    have : x = SIG.cps[b] := by rw [← hE] at hx; simpa using hx
    rw [this]; exact SIG_ok _ (by simp)
  have hcl : ch.length = 1 := by rw [← hE]; rfl
  have sl : ∀ lo hi, (cutS s lo hi).length ≤ 8 := fun lo hi => Nat.le_trans (cut_le s lo hi) hs
  have a1 : ∀ x y : Str, x.length ≤ 9 → y.length ≤ 8 → (x ++ y).length ≤ 17 ∧ x.length + y.length ≤ sizeLine := fun x y h h' => by rw [app_len, sizeLine_eq]; omega
  have a2 : ∀ x y : Str, x.length ≤ 8 → y.length = 1 → (x ++ y).length ≤ 9 ∧ x.length + y.length ≤ sizeLine := fun x y h h' => by rw [app_len, sizeLine_eq]; omega
  simp at e1 e2 e3
  have p1 := a2 (cutS s none (some a)) ch (sl _ _) hcl
  by_cases k0 : k = 0
  · subst k0
    have p2 := a1 _ (cutS s (some a) none) p1.1 (sl _ _)
    refine ⟨cutS s none (some a) ++ ch ++ cutS s (some a) none, c3, ?_, h3.mono (by omega), p2.1, okS_app (okS_app (okS_cut ho _ _) hch) (okS_cut ho _ _)⟩
    simp at e3
    simp [d__law_bent, b__law_bent, hsz, e1, e2, e3, SIG_sz, SIG_len, h26, hb', hE, p1.2, p2.2]
  · have k0' : ¬ (k : Int) = 0 := by omega
    have p2 := a1 _ (cutS s (some (a + 1)) none) p1.1 (sl _ _)
    by_cases k1 : k = 1
    · subst k1
      have p3 := a1 (cutS s none (some a)) (cutS s (some (a + 1)) none) (by have := sl none (some a); omega) (sl _ _)
      refine ⟨cutS s none (some a) ++ cutS s (some (a + 1)) none, c3, ?_, h3.mono (by omega), p3.1, okS_app (okS_cut ho _ _) (okS_cut ho _ _)⟩
      simp at e3
      simp [d__law_bent, b__law_bent, hsz, e1, e2, e3, SIG_sz, SIG_len, h26, hb', hE, p3.2]
    · have k1' : ¬ (k : Int) = 1 := by omega
      refine ⟨cutS s none (some a) ++ ch ++ cutS s (some (a + 1)) none, c3, ?_, h3.mono (by omega), p2.1, okS_app (okS_app (okS_cut ho _ _) hch) (okS_cut ho _ _)⟩
      simp [d__law_bent, b__law_bent, hsz, e1, e2, e3, SIG_sz, SIG_len, h26, hb', hE, p1.2, p2.2, k0, k0', k1, k1']
theorem same_bl (n : Nat) (a b : Bool) (st : Store) : d__law_same (n + 1) [.bl a, .bl b] st = .ok (.bl (decide (a = b))) [] st := by
  simp [d__law_same, b__law_same]
theorem same_bls (n : Nat) (as : List Bool) (st : Store) (h : as.length ≤ 1000) : d__law_same (n + 2) [.lst (as.map .bl), .lst (as.map .bl)] st = .ok (.bl true) [] st := by
  have hz : zipItems (as.map .bl) (as.map .bl) = as.map fun b => .tup [.bl b, .bl b] := by
    unfold zipItems
    induction as with
    | nil => rfl
    | cons x xs ih => simp at ih h ⊢; exact ih (by omega)
  have hl : as.length ≤ sizeLine := by rw [sizeLine_eq]; omega
  have q := lc_mapC (g := gT (gsCons (gN 2) (gsCons (gN 3) gsNil))) (e := e__law_same_1 (d__law_same (n + 1))) (vs := [2, 3]) (ρ := [.val (.lst (as.map .bl)), .val (.lst (as.map .bl)), .no, .no]) (st := st) (fun b => .tup [.bl b, .bl b]) (fun b => .bl true) as (by
    intro c hc
    simp [e__law_same_1, same_bl])
  have : ∀ n, d__law_same (n + 2) = runD 4 (b__law_same (d__law_same (n + 1))) := fun _ => rfl
  rw [this]
  simp [b__law_same, hz, hl, q]
theorem same8 (a b : Bool) (st : Store) : d__law_same 8 [.bl a, .bl b] st = .ok (.bl (decide (a = b))) [] st := same_bl 7 a b st
theorem f3_spec {a0 a1 a2 a3 a5 a6 a7 : Sl} {s : Str} (h : s.length ≤ 100) (ho : okS s) (st : Store) : f_law_3 [a0, a1, a2, a3, .val (.str s), a5, a6, a7] st = .nx [a0, a1, a2, a3, .val (.str s), a5, a6, a7] st := by
  simp [f_law_3, is_name_spec s st (by omega), due_spec s st (by omega) ho, same8]
theorem texts_spec {a0 a1 a2 a3 a4 a5 a6 a7 : Sl} (ts : List Str) (h : ∀ s ∈ ts, s.length ≤ 100 ∧ okS s) (st : Store) : ∃ x, forD (gN 4) f_law_3 (ts.map .str) [a0, a1, a2, a3, a4, a5, a6, a7] st = .nx [a0, a1, a2, a3, x, a5, a6, a7] st := by
  obtain ⟨ρ', st', e, x, rfl, rfl⟩ := forD_inv (g := gN 4) (b := f_law_3) (fun _ ρ' st' => ∃ x, ρ' = [a0, a1, a2, a3, x, a5, a6, a7] ∧ st' = st) (ts.map .str) 0 [a0, a1, a2, a3, a4, a5, a6, a7] st (by
    rintro i d ρ st' hd ⟨x, rfl, rfl⟩
    have hd' := List.mem_of_getElem? hd
    obtain ⟨s, hs, rfl⟩ := List.mem_map.mp hd'
    exact ⟨_, _, _, rfl, .inl (f3_spec (h s hs).1 (h s hs).2 _), _, rfl, rfl⟩) ⟨_, rfl, rfl⟩
  exact ⟨x, e⟩
theorem bents_spec {n : Nat} {c : Cell} {st : Store} {l : Nat} {s : Str} {a0 a1 a4 a5 a7 : Sl} (hll : l < st.length) (hc : BagC n c) (hn : n < 800000) (hs : s.length ≤ 8) (ho : okS s) :
    ∃ (ts : List Str) (c' : Cell), lcGo (gN 6) yesD e_law_2 [6] (rngItems 0 6) [] [a0, a1, .val (.ref l), .val (.str s), a4, a5, .no, a7] (st.set l c) = .ok (.lst (ts.map .str)) [a0, a1, .val (.ref l), .val (.str s), a4, a5, .no, a7] (st.set l c') ∧ ts.length = 6 ∧ (∀ t ∈ ts, t.length ≤ 100 ∧ okS t) ∧ BagC (n + 18) c' := by
  obtain ⟨ys, st', q1, ⟨c', rfl, q2⟩, q3, q4⟩ := lc_inv (g := gN 6) (f := e_law_2) (vs := [6]) (ρ := [a0, a1, .val (.ref l), .val (.str s), a4, a5, .no, a7])
    (fun i st' => ∃ c', st' = st.set l c' ∧ BagC (n + 3 * i) c') (fun i y => ∃ t : Str, (t.length ≤ 100 ∧ okS t) ∧ y = .str t) (rngItems 0 6) (st.set l c) (fun i d st' hd hi hI => by
      obtain ⟨c', rfl, hb⟩ := hI
      have hi6 : i < 6 := by simpa [rngItems] using hi
      obtain ⟨t, c2, e2, h2, h3, h4⟩ := bent_spec (st := st.set l c') (l := l) (c := c') (s := s) (by simp [hll]) hb (by omega) hs ho
      refine ⟨.str t, (st.set l c').set l c2, ?_, ⟨c2, by simp, h2.mono (by omega)⟩, t, ⟨by omega, h4⟩, rfl⟩
      simp at e2
      simp [e_law_2, e2]) ⟨c, rfl, hc⟩
  obtain ⟨ts, rfl, hts⟩ := of_all (f := D.str) (all_of_get q4)
  exact ⟨ts, c', q1, by simpa [rngItems] using q3, hts, q2.mono (by simp [rngItems])⟩
theorem rep_len (s : Str) (n : Nat) : (repS s n).length = n * s.length := by
  rw [len_cps, repS_cps]; simp [Str.length]
theorem okS_rep {s : Str} (h : okS s) (n : Nat) : okS (repS s n) := fun c hc => by
  rw [repS_cps] at hc
  obtain ⟨l, hl, hc⟩ := List.mem_flatten.mp hc
  rw [(List.mem_replicate.mp hl).2] at hc
  exact h c hc
def odds (s : Str) : List D := [.non, .bl true, .int 7, .lst [.str s], .tup [.str s], .dct [], .dct [(.inr s, .str s)], .lst [], .tup [], .int (-1), .lst [.str "a", .str "b"], .tup [.tup [.str "a"]]]
theorem odd_spec (s : Str) {a0 a1 a2 a3 a4 a5 a6 : Sl} (st : Store) : lcGo (gN 7) yesD e_law_1 [7] (odds s) [] [a0, a1, a2, a3, a4, a5, a6, .no] st = .ok (.lst ((List.replicate 12 false).map D.bl)) [a0, a1, a2, a3, a4, a5, a6, .no] st := by
  have := lc_map (g := gN 7) (f := e_law_1) (vs := [7]) (ρ := [a0, a1, a2, a3, a4, a5, a6, .no]) (st := st) (fun _ => .bl false) (odds s) (by
    intro d hd
    simp only [odds, List.mem_cons, List.not_mem_nil, or_false] at hd
    rcases hd with rfl | rfl | rfl | rfl | rfl | rfl | rfl | rfl | rfl | rfl | rfl | rfl <;> simp [e_law_1, d_is_name, b_is_name])
  rw [this]
  rfl
theorem turn_spec (ns : List Int) (k : Nat) (hk : k < 8) {a2 a3 a4 a5 : Sl} (st : Store) :
    ∃ b2 b3 b4 b5 st', f_law_4 [.val (.lsk (ns.map .int)), .val (.int k), a2, a3, a4, a5, .no, .no] st = .nx [.val (.lsk (ns.map .int)), .val (.int k), b2, b3, b4, b5, .no, .no] st' := by
  obtain ⟨c, e1, h1⟩ := bag_spec ns k st (by omega)
  obtain ⟨s, c2, e2, h2, hs⟩ := name_spec (st := st ++ [c]) (l := st.length) (c := c) (by simp) h1 (by omega)
  have e0 : (st ++ [c]).set st.length c2 = (st ++ [c2]).set st.length c2 := by simp
  rw [e0] at e2
  have hs8 := hs.hi
  obtain ⟨ts, c3, e3, htl, hts, h3⟩ := bents_spec (st := st ++ [c2]) (l := st.length) (c := c2) (s := s) (a0 := .val (.lsk (ns.map .int))) (a1 := .val (.int k)) (a4 := a4) (a5 := a5) (a7 := .no) (by simp) h2 (by omega) hs.hi hs.ok
  obtain ⟨x, e4⟩ := texts_spec (a0 := .val (.lsk (ns.map .int))) (a1 := .val (.int k)) (a2 := .val (.ref st.length)) (a3 := .val (.str s)) (a4 := a4) (a5 := a5) (a6 := .no) (a7 := .no) ([s, s ++ s, repS s 9] ++ ts) (by
    intro t ht
    rcases List.mem_append.mp ht with ht | ht
    · simp only [List.mem_cons, List.not_mem_nil, or_false] at ht
      rcases ht with rfl | rfl | rfl
      · exact ⟨by omega, hs.ok⟩
      · exact ⟨by rw [app_len]; omega, okS_app hs.ok hs.ok⟩
      · exact ⟨by rw [rep_len]; omega, okS_rep hs.ok 9⟩
    · exact hts t ht) ((st ++ [c2]).set st.length c3)
  have hsl : s.length + s.length ≤ sizeLine := by rw [sizeLine_eq]; omega
  have h1000 : s.length ≤ 1000 := by omega
  have hrg : Rg 6 := .of (by omega) (by omega)
  have h9 : 3 + ts.length ≤ sizeLine := by rw [sizeLine_eq]; omega
  have h6 : (rngItems 0 6).length ≤ sizeLine := by rw [sizeLine_eq]; simp [rngItems]
  simp at e1 e2 e3 e4
  have ho := odd_spec s (a0 := .val (.lsk (ns.map .int))) (a1 := .val (.int k)) (a2 := .val (.ref st.length)) (a3 := .val (.str s)) (a4 := x) (a5 := .val (.lst (odds s))) (a6 := .no) (st ++ [c3])
  have hsame : d__law_same 8 [.lst ((List.replicate 12 false).map D.bl), .lst ((List.replicate 12 false).map D.bl)] (st ++ [c3]) = .ok (.bl true) [] (st ++ [c3]) := same_bls 6 _ _ (by decide)
  have h12 : (List.replicate 12 false).map D.bl = [.bl false, .bl false, .bl false, .bl false, .bl false, .bl false, .bl false, .bl false, .bl false, .bl false, .bl false, .bl false] := rfl
  rw [h12] at ho hsame
  have hrs : Rs 12 := .of (by omega) (by omega)
  have h12s : 12 ≤ sizeLine := by rw [sizeLine_eq]; omega
  have hfl : (List.replicate 12 [D.bl false]).flatten = [.bl false, .bl false, .bl false, .bl false, .bl false, .bl false, .bl false, .bl false, .bl false, .bl false, .bl false, .bl false] := rfl
  have hm : mergeD [] [((.inr s : Key), D.str s)] = [(.inr s, .str s)] := rfl
  refine ⟨.val (.ref st.length), .val (.str s), x, .val (.lst (odds s)), st ++ [c3], ?_⟩
  simp [f_law_4, e1, e2, hsl, h1000, hrg, h6, e3, h9, e4, hm]
  have hod : [.non, .bl true, .int 7, .lst [.str s], .tup [.str s], .dct [], .dct [(.inr s, .str s)], .lst [], .tup [], .int (-1), .lst [.str "a", .str "b"], .tup [.tup [.str "a"]]] = odds s := rfl
  rw [hod]
  have hol : (odds s).length = 12 := rfl
  simp [ho, hol, h12s, hrs, hfl, hsame]
theorem hd : ∀ ns : List Int, ns.length ≤ 63 → ∃ st, d_law [.lsk (ns.map .int)] [] = .ok (.bl true) [] st := by
  intro ns hl
  obtain ⟨j, hj⟩ : ∃ j : Int, (if (ns.length : Int) < 8 then (ns.length : Int) else 8) = j := ⟨_, rfl⟩
  obtain ⟨m, hm, hm8⟩ : ∃ m : Nat, (if j > 1 then j else 1) = (m : Int) ∧ m ≤ 8 := by
    refine ⟨(if j > 1 then j else 1).toNat, ?_, ?_⟩
    · split <;> omega
    · split at hj <;> split <;> omega
  have hrg : Rg (m : Int) := .of (by omega) (by omega)
  obtain ⟨ρ', st', e, b1, b2, b3, b4, b5, rfl⟩ := forD_inv (g := gN 1) (b := f_law_4) (fun _ ρ' st' => ∃ b1 b2 b3 b4 b5, ρ' = [.val (.lsk (ns.map .int)), b1, b2, b3, b4, b5, .no, .no]) (rngItems 0 m) 0 [.val (.lsk (ns.map .int)), .no, .no, .no, .no, .no, .no, .no] [] (by
    rintro i d ρ st hd ⟨b1, b2, b3, b4, b5, rfl⟩
    have hi := (List.getElem?_eq_some_iff.mp hd).1
    rw [rngItems_get hd]
    have him : i < m := by simpa [rngItems] using hi
    obtain ⟨c2, c3, c4, c5, st2, e⟩ := turn_spec ns i (by omega) (a2 := b2) (a3 := b3) (a4 := b4) (a5 := b5) st
    refine ⟨_, _, st2, rfl, .inl ?_, .val (.int i), c2, c3, c4, c5, rfl⟩
    rw [Int.zero_add]
    exact e) ⟨_, _, _, _, _, rfl⟩
  have n1 : ∀ st, d_is_name [.str ""] st = .ok (.bl false) [] st := fun st => by
    rw [is_name_spec "" st (by decide)]; rfl
  have n2 : ∀ st, d_is_name [.str "abcdefgh"] st = .ok (.bl true) [] st := fun st => by
    rw [is_name_spec "abcdefgh" st (by decide), show nameOk "abcdefgh" = true by decide]
  have n3 : ∀ st, d_is_name [.str "abcdefghi"] st = .ok (.bl false) [] st := fun st => by
    rw [is_name_spec "abcdefghi" st (by decide), show nameOk "abcdefghi" = false by decide]
  refine ⟨st', ?_⟩
  simp [d_law, b_law, hj, hm, hrg, e, n1, n2, n3]
theorem all_mk {l : PySem.W.OpenLaw} {w : World} {K : PySem.W.Frag} {h : Heap} {mg : Str → Option Value} {fa : Addr} (hd : ∀ ns : List Int, ns.length ≤ 63 → ∃ st, d_law [.lsk (ns.map .int)] [] = .ok (.bl true) [] st) (X : K.In h) (G : h.Ns mainGlobals mg) (hfa : mg "law" = some (.ref fa))
    {f0 : Addr} {od0 an0 : Option Addr} {sl0 : Array (Option Value)} {oc0 kV0 dc0 pm0 cd0 ct0 : Value}
    {f1 : Addr} {od1 an1 : Option Addr} {sl1 : Array (Option Value)} {oc1 kV1 dc1 pm1 cd1 ct1 : Value}
    {f2 : Addr} {od2 an2 : Option Addr} {sl2 : Array (Option Value)} {oc2 kV2 dc2 pm2 cd2 ct2 : Value}
    {f3 : Addr} {od3 an3 : Option Addr} {sl3 : Array (Option Value)} {oc3 kV3 dc3 pm3 cd3 ct3 : Value}
    {f4 : Addr} {od4 an4 : Option Addr} {sl4 : Array (Option Value)} {oc4 kV4 dc4 pm4 cd4 ct4 : Value}
    {f5 : Addr} {od5 an5 : Option Addr} {sl5 : Array (Option Value)} {oc5 kV5 dc5 pm5 cd5 ct5 : Value}
    {f6 : Addr} {od6 an6 : Option Addr} {sl6 : Array (Option Value)} {oc6 kV6 dc6 pm6 cd6 ct6 : Value}
    {f7 : Addr} {od7 an7 : Option Addr} {sl7 : Array (Option Value)} {oc7 kV7 dc7 pm7 cd7 ct7 : Value}
    {u_LETTERS : _}
    {u_MOST_LETTERS : _}
    (a0 : PySem.W.nsIn K mainGlobals "_law_bag" = some (some (.ref f0))) (l0 : K.lookup f0 = some ⟨oc0, od0, .func (PySem.W.fnOf "_law_bag" "_law_bag" (defArgs s__law_bag) (defBody s__law_bag) (defScope s__law_bag) .none kV0 dc0 pm0 an0 cd0 ct0), sl0⟩) (c0 : PySem.W.codeIn K cd0 "_law_bag" = true) (k0 : PySem.W.keepIn K (.ref f0) = true)
    (a1 : PySem.W.nsIn K mainGlobals "_law_take" = some (some (.ref f1))) (l1 : K.lookup f1 = some ⟨oc1, od1, .func (PySem.W.fnOf "_law_take" "_law_take" (defArgs s__law_take) (defBody s__law_take) (defScope s__law_take) .none kV1 dc1 pm1 an1 cd1 ct1), sl1⟩) (c1 : PySem.W.codeIn K cd1 "_law_take" = true) (k1 : PySem.W.keepIn K (.ref f1) = true)
    (a2 : PySem.W.nsIn K mainGlobals "_law_name" = some (some (.ref f2))) (l2 : K.lookup f2 = some ⟨oc2, od2, .func (PySem.W.fnOf "_law_name" "_law_name" (defArgs s__law_name) (defBody s__law_name) (defScope s__law_name) .none kV2 dc2 pm2 an2 cd2 ct2), sl2⟩) (c2 : PySem.W.codeIn K cd2 "_law_name" = true) (k2 : PySem.W.keepIn K (.ref f2) = true)
    (a3 : PySem.W.nsIn K mainGlobals "_law_same" = some (some (.ref f3))) (l3 : K.lookup f3 = some ⟨oc3, od3, .func (PySem.W.fnOf "_law_same" "_law_same" (defArgs s__law_same) (defBody s__law_same) (defScope s__law_same) .none kV3 dc3 pm3 an3 cd3 ct3), sl3⟩) (c3 : PySem.W.codeIn K cd3 "_law_same" = true) (k3 : PySem.W.keepIn K (.ref f3) = true)
    (a4 : PySem.W.nsIn K mainGlobals "is_name" = some (some (.ref f4))) (l4 : K.lookup f4 = some ⟨oc4, od4, .func (PySem.W.fnOf "is_name" "is_name" (defArgs s_is_name) (defBody s_is_name) (defScope s_is_name) .none kV4 dc4 pm4 an4 cd4 ct4), sl4⟩) (c4 : PySem.W.codeIn K cd4 "is_name" = true) (k4 : PySem.W.keepIn K (.ref f4) = true)
    (a5 : PySem.W.nsIn K mainGlobals "_law_bent" = some (some (.ref f5))) (l5 : K.lookup f5 = some ⟨oc5, od5, .func (PySem.W.fnOf "_law_bent" "_law_bent" (defArgs s__law_bent) (defBody s__law_bent) (defScope s__law_bent) .none kV5 dc5 pm5 an5 cd5 ct5), sl5⟩) (c5 : PySem.W.codeIn K cd5 "_law_bent" = true) (k5 : PySem.W.keepIn K (.ref f5) = true)
    (a6 : PySem.W.nsIn K mainGlobals "_law_due" = some (some (.ref f6))) (l6 : K.lookup f6 = some ⟨oc6, od6, .func (PySem.W.fnOf "_law_due" "_law_due" (defArgs s__law_due) (defBody s__law_due) (defScope s__law_due) .none kV6 dc6 pm6 an6 cd6 ct6), sl6⟩) (c6 : PySem.W.codeIn K cd6 "_law_due" = true) (k6 : PySem.W.keepIn K (.ref f6) = true)
    (a7 : PySem.W.nsIn K mainGlobals "law" = some (some (.ref f7))) (l7 : K.lookup f7 = some ⟨oc7, od7, .func (PySem.W.fnOf "law" "law" (defArgs s_law) (defBody s_law) (defScope s_law) .none kV7 dc7 pm7 an7 cd7 ct7), sl7⟩) (c7 : PySem.W.codeIn K cd7 "law" = true) (k7 : PySem.W.keepIn K (.ref f7) = true)
    (z_abs : PySem.W.nsIn K mainGlobals "abs" = some none)
    (z_all : PySem.W.nsIn K mainGlobals "all" = some none)
    (z_bool : PySem.W.nsIn K mainGlobals "bool" = some none)
    (z_int : PySem.W.nsIn K mainGlobals "int" = some none)
    (z_isinstance : PySem.W.nsIn K mainGlobals "isinstance" = some none)
    (z_len : PySem.W.nsIn K mainGlobals "len" = some none)
    (z_list : PySem.W.nsIn K mainGlobals "list" = some none)
    (z_max : PySem.W.nsIn K mainGlobals "max" = some none)
    (z_min : PySem.W.nsIn K mainGlobals "min" = some none)
    (z_range : PySem.W.nsIn K mainGlobals "range" = some none)
    (z_str : PySem.W.nsIn K mainGlobals "str" = some none)
    (z_tuple : PySem.W.nsIn K mainGlobals "tuple" = some none)
    (z_zip : PySem.W.nsIn K mainGlobals "zip" = some none)
    (y_LETTERS : PySem.W.nsIn K mainGlobals "LETTERS" = some (some (.str "abcdefghijklmnopqrstuvwxyz" u_LETTERS)))
    (y_MOST_LETTERS : PySem.W.nsIn K mainGlobals "MOST_LETTERS" = some (some (.int 8 u_MOST_LETTERS))) :
    ∃ fd : FuncData, (∀ (s : Shared) (v : Value), BindsTo s fd ⟨[v], []⟩ [("_law_script", v)]) ∧ ∀ base : Heap, K.In base → base.Ns mainGlobals mg → FnOk l.prog w K mg base (L2.CX l.prog w) 9 fa fd ["_law_script"] (spLaw K) := by
  have e := hfa.symm.trans (PySem.W.mg_of X G a7)
  cases e
  have T : Fx K mg := ⟨PySem.W.mg_none_of X G z_abs, PySem.W.mg_none_of X G z_all, PySem.W.mg_none_of X G z_bool, PySem.W.mg_none_of X G z_int, PySem.W.mg_none_of X G z_isinstance, PySem.W.mg_none_of X G z_len, PySem.W.mg_none_of X G z_list, PySem.W.mg_none_of X G z_max, PySem.W.mg_none_of X G z_min, PySem.W.mg_none_of X G z_range, PySem.W.mg_none_of X G z_str, PySem.W.mg_none_of X G z_tuple, PySem.W.mg_none_of X G z_zip, ⟨_, PySem.W.mg_of X G y_LETTERS⟩, ⟨_, PySem.W.mg_of X G y_MOST_LETTERS⟩⟩
  have F0 := fun_mk (st := s__law_bag) l0 c0 k0
  have D0 : Dfn K mg "_law_bag" ["_law_script", "_law_at"] s__law_bag := ⟨_, _, F0, PySem.W.mg_of X G a0, F0.binds fun _ _ _ _ _ _ us hl => match us, hl with | [_, _], _ => rfl⟩
  have F1 := fun_mk (st := s__law_take) l1 c1 k1
  have D1 : Dfn K mg "_law_take" ["_law_bag_here", "_law_many"] s__law_take := ⟨_, _, F1, PySem.W.mg_of X G a1, F1.binds fun _ _ _ _ _ _ us hl => match us, hl with | [_, _], _ => rfl⟩
  have F2 := fun_mk (st := s__law_name) l2 c2 k2
  have D2 : Dfn K mg "_law_name" ["_law_bag_here"] s__law_name := ⟨_, _, F2, PySem.W.mg_of X G a2, F2.binds fun _ _ _ _ _ _ us hl => match us, hl with | [_], _ => rfl⟩
  have F3 := fun_mk (st := s__law_same) l3 c3 k3
  have D3 : Dfn K mg "_law_same" ["_law_found", "_law_due_here"] s__law_same := ⟨_, _, F3, PySem.W.mg_of X G a3, F3.binds fun _ _ _ _ _ _ us hl => match us, hl with | [_, _], _ => rfl⟩
  have F4 := fun_mk (st := s_is_name) l4 c4 k4
  have D4 : Dfn K mg "is_name" ["thing"] s_is_name := ⟨_, _, F4, PySem.W.mg_of X G a4, F4.binds fun _ _ _ _ _ _ us hl => match us, hl with | [_], _ => rfl⟩
  have F5 := fun_mk (st := s__law_bent) l5 c5 k5
  have D5 : Dfn K mg "_law_bent" ["_law_bag_here", "_law_name_here"] s__law_bent := ⟨_, _, F5, PySem.W.mg_of X G a5, F5.binds fun _ _ _ _ _ _ us hl => match us, hl with | [_, _], _ => rfl⟩
  have F6 := fun_mk (st := s__law_due) l6 c6 k6
  have D6 : Dfn K mg "_law_due" ["_law_text"] s__law_due := ⟨_, _, F6, PySem.W.mg_of X G a6, F6.binds fun _ _ _ _ _ _ us hl => match us, hl with | [_], _ => rfl⟩
  have FL := fun_mk (st := s_law) l7 c7 k7
  refine ⟨PySem.W.fnOf "law" "law" (defArgs s_law) (defBody s_law) (defScope s_law) .none kV7 dc7 pm7 an7 cd7 ct7, fun s v => .of_eq rfl, fun base _ _ => ?_⟩
  have C__law_bag := ok__law_bag (P := l.prog) (wd := w) (base := base) T D0 
  have C__law_take := ok__law_take (P := l.prog) (wd := w) (base := base) T D1 
  have C__law_name := ok__law_name (P := l.prog) (wd := w) (base := base) T D2 C__law_take
  have C__law_same := ok__law_same (P := l.prog) (wd := w) (base := base) T D3  8
  have C_is_name := ok_is_name (P := l.prog) (wd := w) (base := base) T D4 
  have C__law_bent := ok__law_bent (P := l.prog) (wd := w) (base := base) T D5 C__law_take
  have C__law_due := ok__law_due (P := l.prog) (wd := w) (base := base) T D6 
  exact law_of (ok_law T C_is_name C__law_same C__law_bent C__law_due C__law_name C__law_bag FL) hd
end LW
open PySem PySem.W PyProof.Rows
set_option maxRecDepth 100000 in
set_option maxHeartbeats 0 in
theorem PySem.Challenge.cw_allheard_k01_names_known_holds : PySem.Challenge.rw_allheard_k01_names_known.Holds := by
  w_on; o_law; k_head; (case hw => w_witness2)
  k_fill
  refine DL.law_walk (l := PySem.Challenge.rw_allheard_k01_names_known) (k := 9) (x := "_law_script") rfl rfl ⟨rfl, by decide, by decide⟩ (fun w h Y => PySem.W.kIn_of Y) ?F
  case F =>
    intro w mg fa h KX G hmg
    refine' LW.all_mk LW.hd KX G hmg ?a0 ?l0 ?c0 ?k0 ?a1 ?l1 ?c1 ?k1 ?a2 ?l2 ?c2 ?k2 ?a3 ?l3 ?c3 ?k3 ?a4 ?l4 ?c4 ?k4 ?a5 ?l5 ?c5 ?k5 ?a6 ?l6 ?c6 ?k6 ?a7 ?l7 ?c7 ?k7 ?z_abs ?z_all ?z_bool ?z_int ?z_isinstance ?z_len ?z_list ?z_max ?z_min ?z_range ?z_str ?z_tuple ?z_zip ?y_LETTERS ?y_MOST_LETTERS
    (case a0 => k_is)
    (case l0 => k_is)
    (case c0 => k_is)
    (case k0 => k_is)
    (case a1 => k_is)
    (case l1 => k_is)
    (case c1 => k_is)
    (case k1 => k_is)
    (case a2 => k_is)
    (case l2 => k_is)
    (case c2 => k_is)
    (case k2 => k_is)
    (case a3 => k_is)
    (case l3 => k_is)
    (case c3 => k_is)
    (case k3 => k_is)
    (case a4 => k_is)
    (case l4 => k_is)
    (case c4 => k_is)
    (case k4 => k_is)
    (case a5 => k_is)
    (case l5 => k_is)
    (case c5 => k_is)
    (case k5 => k_is)
    (case a6 => k_is)
    (case l6 => k_is)
    (case c6 => k_is)
    (case k6 => k_is)
    (case a7 => k_is)
    (case l7 => k_is)
    (case c7 => k_is)
    (case k7 => k_is)
    (case z_abs => k_is)
    (case z_all => k_is)
    (case z_bool => k_is)
    (case z_int => k_is)
    (case z_isinstance => k_is)
    (case z_len => k_is)
    (case z_list => k_is)
    (case z_max => k_is)
    (case z_min => k_is)
    (case z_range => k_is)
    (case z_str => k_is)
    (case z_tuple => k_is)
    (case z_zip => k_is)
    (case y_LETTERS => k_is)
    (case y_MOST_LETTERS => k_is)
#print axioms PySem.Challenge.cw_allheard_k01_names_known_holds
