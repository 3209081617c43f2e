import PyProof.Rows.All
import Wide.All
import OpenK.AllK
import Wide.FinOn
import HandS.ForMost
import HandS.ForExc
import HandS.Wide
import HandS.TupMul
import HandS.TupAny
import HandS.IsInst
import HandS.Flow
import HandS.Zip
import HandS.Property
import HandS.Defaults
import HandS.ClsMeth
import HandS.OwnEq
import HandS.SlotsOwn
import HandS.Style
import HandS.Text
import HandS.Head0
import HandS.Head1
import HandS.Head2
import HandS.HeadEnd
import HandS.HeadHook1
import HandS.HeadHook2
import PySem.Challenge.RW_carryrounds_k04_whole_rules_of_words
import KE.KStateDown
set_option Elab.async false
set_option linter.all false
set_option maxRecDepth 100000
set_option maxHeartbeats 400000
namespace DL
open PySem L2
/-! values without a heap, and what stands for them in the abstract heap -/
inductive D where
  | non | bl (b : Bool) | int (i : Int) | str (x : Str) | ty (n : String)
  | tup (xs : List D) | lst (xs : List D)
  | dic (ks : List Key) (xs : List D) | dct (ks : List (List Key)) (xs : List D)
  | ins (c : Nat) (xs : List D)
  | cls (c : Nat)
  | scr (ns : List Int)

/-- the classes: their addresses, the names of their fields in the order of their first stores; exception classes: address, field -/
structure G where
  cl : Nat → Addr
  xl : Nat → Addr
  ok : Nat → Bool
def nmT : Nat → List Str
  | 0 => ["radix", "amount", "row"]
  | 1 => ["content", "radix", "row", "times"]
  | 2 => ["lines", "straight"]
  | 3 => ["numbers"]
  | 4 => ["parts", "known", "maker"]
  | 5 => ["words", "signs", "here", "soonest", "awaited", "units", "sent"]
  | 6 => ["where", "start", "unit", "sources", "made", "extra", "awaited", "freed"]
  | 7 => ["machine", "code", "fault", "acts", "moments", "timed", "numbers", "truths", "is_over", "greatest"]
  | 8 => ["numbers"]
  | 9 => ["machine", "moment", "count", "inside", "timed", "numbers"]
  | 10 => ["entry", "is_removal"]
  | 11 => ["session", "known", "order", "done", "histories", "present"]
  | 12 => ["machine", "known", "order", "done", "histories", "present"]
  | 13 => ["session", "given"]
  | _ => []
/-- how many -/
def nmN : Nat → Nat
  | 0 => 3 | 1 => 4 | 2 => 2 | 3 => 1 | 4 => 3 | 5 => 7 | 6 => 8 | 7 => 10 | 8 => 1 | 9 => 6 | 10 => 2 | 11 => 6 | 12 => 6 | 13 => 2 | _ => 0
theorem nmN_eq (c : Nat) : (nmT c).length = nmN c := by
  unfold nmT nmN
  split <;> rfl
def xfT : Nat → Str
  | 8 => "line" | 9 => "limit" | 10 => "user" | 11 => "user" | _ => "value"

def Ex (H H' : Hp) : Prop := ∀ a o, H a = some o → H' a = some o
theorem Ex.refl (H : Hp) : Ex H H := fun _ _ h => h
theorem Ex.trans {H H1 H2 : Hp} (a : Ex H H1) (b : Ex H1 H2) : Ex H H2 := fun x o h => b x o (a x o h)
theorem Ex.new {H : Hp} {p : Addr} {o : HO} (h : H p = none) : Ex H (upd H p o) := fun a u e => by
  rw [upd_ne (ne_of_none e h)]
  exact e
theorem Ex.back {H H' : Hp} (e : Ex H H') {p : Addr} (h : H' p = none) : H p = none := by
  cases h1 : H p with
  | none => rfl
  | some o => rw [e p o h1] at h; cases h
theorem Ex.rd {H H' : Hp} {a : Addr} {u : HO} (e : Ex H H') (h : Rd H a u) : Rd H' a u := by
  rcases h with h | ⟨o, h⟩
  · exact Or.inl (e a _ h)
  · exact Or.inr ⟨o, e a _ h⟩
theorem Ex.l {K : PySem.W.Frag} {H H' : Hp} {a : Addr} {xs : List V} (e : Ex H H') (h : SqL K H a xs) : SqL K H' a xs := by
  rcases h with h | h
  · exact Or.inl (e.rd h)
  · exact Or.inr h
theorem Ex.t {K : PySem.W.Frag} {H H' : Hp} {a : Addr} {xs : List V} (e : Ex H H') (h : SqT K H a xs) : SqT K H' a xs := by
  rcases h with h | h
  · exact Or.inl (e.rd h)
  · exact Or.inr h

mutual
inductive Rep (K : PySem.W.Frag) (g : G) (H : Hp) : D → V → Prop
  | non : Rep K g H .non .non
  | bl (b : Bool) : Rep K g H (.bl b) (.bl b)
  | int (i : Int) : Rep K g H (.int i) (.int i)
  | str (x : Str) : Rep K g H (.str x) (.str x)
  | ty (n : String) : Rep K g H (.ty n) (.ty n)
  | cls (c : Nat) : Rep K g H (.cls c) (.ref (g.cl c))
  | tup {a : Addr} {ds : List D} {vs : List V} : SqT K H a vs → Reps K g H ds vs → Rep K g H (.tup ds) (.ref a)
  | lst {a : Addr} {ds : List D} {vs : List V} : H a = some (.lst vs) → Reps K g H ds vs → Rep K g H (.lst ds) (.ref a)
  | scr {a : Addr} {ns : List Int} : SqL K H a (ns.map V.int) → Rep K g H (.scr ns) (.ref a)
  | dic {a : Addr} {ks : List Key} {ds : List D} {vs : List V} : Rd H a (.dK (ks.zip vs)) → Reps K g H ds vs → ks.length = ds.length → Rep K g H (.dic ks ds) (.ref a)
  | dct {a : Addr} {ks : List (List Key)} {ds : List D} {vs : List V} : Rd H a (.dT (ks.zip vs)) → Reps K g H ds vs → ks.length = ds.length → Rep K g H (.dct ks ds) (.ref a)
  | ins {a dx : Addr} {c : Nat} {ds : List D} {vs : List V} : H a = some (.ins (g.cl c) dx ((nmT c).zip vs)) → Reps K g H ds vs → ds.length = (nmT c).length → g.ok c = true → Rep K g H (.ins c ds) (.ref a)
inductive Reps (K : PySem.W.Frag) (g : G) (H : Hp) : List D → List V → Prop
  | nil : Reps K g H [] []
  | cons {d : D} {ds : List D} {v : V} {vs : List V} : Rep K g H d v → Reps K g H ds vs → Reps K g H (d :: ds) (v :: vs)
end

section
variable {K : PySem.W.Frag} {g : G} {H H' : Hp}
mutual
theorem Rep.mono (e : Ex H H') : ∀ {d : D} {v : V}, Rep K g H d v → Rep K g H' d v
  | _, _, .non => .non
  | _, _, .bl b => .bl b
  | _, _, .int b => .int b
  | _, _, .str b => .str b
  | _, _, .ty b => .ty b
  | _, _, .cls b => .cls b
  | _, _, .tup h r => .tup (e.t h) (Reps.mono e r)
  | _, _, .lst h r => .lst (e _ _ h) (Reps.mono e r)
  | _, _, .scr h => .scr (e.l h)
  | _, _, .dic h r l => .dic (e.rd h) (Reps.mono e r) l
  | _, _, .dct h r l => .dct (e.rd h) (Reps.mono e r) l
  | _, _, .ins h r l k => .ins (e _ _ h) (Reps.mono e r) l k
theorem Reps.mono (e : Ex H H') : ∀ {d : List D} {v : List V}, Reps K g H d v → Reps K g H' d v
  | _, _, .nil => .nil
  | _, _, .cons a b => .cons (Rep.mono e a) (Reps.mono e b)
end
theorem Reps.len : ∀ {d : List D} {v : List V}, Reps K g H d v → d.length = v.length
  | _, _, .nil => rfl
  | _, _, .cons _ b => by rw [List.length_cons, List.length_cons, Reps.len b]
theorem Reps.append : ∀ {d e : List D} {v w : List V}, Reps K g H d v → Reps K g H e w → Reps K g H (d ++ e) (v ++ w)
  | _, _, _, _, .nil, h => h
  | _, _, _, _, .cons a b, h => .cons a (Reps.append b h)
theorem Reps.get : ∀ {d : List D} {v : List V} {i : Nat} {x : V}, Reps K g H d v → v[i]? = some x → ∃ y, d[i]? = some y ∧ Rep K g H y x
  | _, _, _, _, .nil, h => by simp at h
  | _, _, 0, _, .cons a b, h => by simp at h; subst h; exact ⟨_, rfl, a⟩
  | _, _, i + 1, _, .cons a b, h => by
    rw [List.getElem?_cons_succ] at h
    obtain ⟨y, h1, h2⟩ := Reps.get b h
    exact ⟨y, by rw [List.getElem?_cons_succ]; exact h1, h2⟩
theorem Reps.getD : ∀ {d : List D} {v : List V} {i : Nat} {y : D}, Reps K g H d v → d[i]? = some y → ∃ x, v[i]? = some x ∧ Rep K g H y x
  | _, _, _, _, .nil, h => by simp at h
  | _, _, 0, _, .cons a b, h => by simp at h; subst h; exact ⟨_, rfl, a⟩
  | _, _, i + 1, _, .cons a b, h => by
    rw [List.getElem?_cons_succ] at h
    obtain ⟨y, h1, h2⟩ := Reps.getD b h
    exact ⟨y, by rw [List.getElem?_cons_succ]; exact h1, h2⟩
theorem Reps.set : ∀ {d : List D} {v : List V} (i : Nat) {x : V} {y : D}, Reps K g H d v → Rep K g H y x → Reps K g H (d.set i y) (v.set i x)
  | _, _, _, _, _, .nil, _ => by simp; exact .nil
  | _, _, 0, _, _, .cons a b, h => .cons h b
  | _, _, i + 1, _, _, .cons a b, h => .cons a (Reps.set i b h)
theorem Reps.take : ∀ {d : List D} {v : List V} (i : Nat), Reps K g H d v → Reps K g H (d.take i) (v.take i)
  | _, _, 0, _ => .nil
  | _, _, _ + 1, .nil => .nil
  | _, _, i + 1, .cons a b => .cons a (Reps.take i b)
theorem Reps.drop : ∀ {d : List D} {v : List V} (i : Nat), Reps K g H d v → Reps K g H (d.drop i) (v.drop i)
  | _, _, 0, h => h
  | _, _, _ + 1, .nil => .nil
  | _, _, i + 1, .cons a b => Reps.drop i b
theorem Reps.reverse : ∀ {d : List D} {v : List V}, Reps K g H d v → Reps K g H d.reverse v.reverse
  | _, _, .nil => .nil
  | _, _, .cons a b => by
    rw [List.reverse_cons, List.reverse_cons]
    exact Reps.append (Reps.reverse b) (.cons a .nil)
end

/-- an object that its holder may change -/
inductive RepO (K : PySem.W.Frag) (g : G) (Hf : Hp) : D → HO → Prop
  | lst {ds : List D} {vs : List V} : Reps K g Hf ds vs → RepO K g Hf (.lst ds) (.lst vs)
  | dic {ks : List Key} {ds : List D} {vs : List V} : Reps K g Hf ds vs → ks.length = ds.length → RepO K g Hf (.dic ks ds) (.dK (ks.zip vs))
  | dct {ks : List (List Key)} {ds : List D} {vs : List V} : Reps K g Hf ds vs → ks.length = ds.length → RepO K g Hf (.dct ks ds) (.dT (ks.zip vs))
  | ins {c : Nat} {dx : Addr} {ds : List D} {vs : List V} : Reps K g Hf ds vs → ds.length ≤ (nmT c).length → g.ok c = true → RepO K g Hf (.ins c ds) (.ins (g.cl c) dx ((nmT c).zip vs))
theorem RepO.mono {K : PySem.W.Frag} {g : G} {H H' : Hp} (e : Ex H H') {d : D} {o : HO} (h : RepO K g H d o) : RepO K g H' d o := by
  cases h with
  | lst h => exact .lst (h.mono e)
  | dic h l => exact .dic (h.mono e) l
  | dct h l => exact .dct (h.mono e) l
  | ins h l k => exact .ins (h.mono e) l k
/-- made, and from now on not changed -/
def full : D → Bool
  | .ins c ds => ds.length == nmN c
  | _ => true
theorem RepO.rep {K : PySem.W.Frag} {g : G} {H : Hp} {a : Addr} {d : D} {o : HO} (h : RepO K g H d o) (e : H a = some o) (f : full d = true) : Rep K g H d (.ref a) := by
  cases h with
  | lst h => exact .lst e h
  | dic h l => exact .dic (Or.inl e) h l
  | dct h l => exact .dct (Or.inl e) h l
  | ins h l k => exact .ins e h (by rw [nmN_eq]; simpa [full] using f) k

/-! the names of a running def: nothing | a value | a value that only this name holds and may change | such a one, lent by the caller -/
inductive Sl where
  | no | sh (d : D) | ow (d : D) | pn (d : D)
abbrev En := List Sl
def Sl.mut : Sl → Option D
  | .ow d => some d
  | .pn d => some d
  | _ => none
def Sl.ok (K : PySem.W.Frag) (g : G) (Hf H : Hp) : Sl → Option V → Prop
  | .no, _ => True
  | .sh d, o => ∃ v, o = some v ∧ Rep K g Hf d v
  | .ow d, o => ∃ p u, o = some (.ref p) ∧ H p = some u ∧ Hf p = none ∧ RepO K g Hf d u
  | .pn d, o => ∃ p u, o = some (.ref p) ∧ H p = some u ∧ Hf p = none ∧ RepO K g Hf d u
theorem Sl.ok_mut {K : PySem.W.Frag} {g : G} {Hf H : Hp} : ∀ {s : Sl} {o : Option V} {d : D}, s.mut = some d → (s.ok K g Hf H o ↔ ∃ p u, o = some (.ref p) ∧ H p = some u ∧ Hf p = none ∧ RepO K g Hf d u)
  | .ow d, o, _, h => by cases h; exact Iff.rfl
  | .pn d, o, _, h => by cases h; exact Iff.rfl
  | .no, o, _, h => by cases h
  | .sh d, o, _, h => by cases h

def Own (env : En) (σ : L2.St) (a : Addr) : Prop := ∃ (i : Nat) (s : Sl) (d : D), env[i]? = some s ∧ s.mut = some d ∧ σ[i]? = some (some (V.ref a))
structure SR (K : PySem.W.Frag) (g : G) (env : En) (σ : L2.St) (Hf H : Hp) : Prop where
  ex : Ex Hf H
  len : σ.length = env.length
  sl : ∀ (i : Nat) (s : Sl) (o : Option V), env[i]? = some s → σ[i]? = some o → s.ok K g Hf H o
  ne : ∀ (i j : Nat) (s t : Sl) (d d' : D) (p : Addr), i ≠ j → env[i]? = some s → env[j]? = some t → s.mut = some d → t.mut = some d' → σ[i]? = some (some (V.ref p)) → σ[j]? ≠ some (some (V.ref p))
structure Step (K : PySem.W.Frag) (g : G) (env : En) (σ : L2.St) (Hf H : Hp) (env' : En) (σ' : L2.St) (Hf' H' : Hp) : Prop where
  f : Ex Hf Hf'
  sr : SR K g env' σ' Hf' H'
  kp : ∀ a u, H a = some u → Hf a = none → ¬ Own env σ a → H' a = some u ∧ Hf' a = none
  ow : ∀ a, Own env' σ' a → Own env σ a ∨ H a = none
  th : ∀ a, H' a = none → H a = none
  pn : ∀ (i : Nat) (d : D), env[i]? = some (Sl.pn d) → (∃ d', env'[i]? = some (Sl.pn d')) ∧ σ'[i]? = σ[i]?
  le : env'.length = env.length
section
variable {K : PySem.W.Frag} {g : G} {env env1 env2 : En} {σ σ1 σ2 : L2.St} {Hf H Hf1 H1 Hf2 H2 : Hp}
theorem Step.refl (s : SR K g env σ Hf H) : Step K g env σ Hf H env σ Hf H :=
  ⟨Ex.refl _, s, fun _ _ h h' _ => ⟨h, h'⟩, fun _ h => .inl h, fun _ h => h, fun _ d h => ⟨⟨d, h⟩, rfl⟩, rfl⟩
theorem Step.trans (a : Step K g env σ Hf H env1 σ1 Hf1 H1) (b : Step K g env1 σ1 Hf1 H1 env2 σ2 Hf2 H2) : Step K g env σ Hf H env2 σ2 Hf2 H2 where
  f := a.f.trans b.f
  sr := b.sr
  kp x u h h' n := by
    obtain ⟨h1, h2⟩ := a.kp x u h h' n
    refine b.kp x u h1 h2 fun o => ?_
    rcases a.ow x o with q | q
    · exact n q
    · rw [h] at q; cases q
  ow x o := by
    rcases b.ow x o with q | q
    · exact a.ow x q
    · exact .inr (a.th x q)
  th x h := a.th x (b.th x h)
  pn i d h := by
    obtain ⟨⟨d1, h1⟩, e1⟩ := a.pn i d h
    obtain ⟨h2, e2⟩ := b.pn i d1 h1
    exact ⟨h2, e2.trans e1⟩
  le := b.le.trans a.le
/-- only new objects: frozen ones in Hf1 -/
structure Grow (Hf H Hf' H' : Hp) : Prop where
  f : Ex Hf Hf'
  fh : Ex Hf' H'
  h : Ex H H'
  n : ∀ a u, H a = some u → Hf a = none → Hf' a = none
theorem Grow.refl (e : Ex Hf H) : Grow Hf H Hf H := ⟨Ex.refl _, e, Ex.refl _, fun _ _ _ h => h⟩
theorem Grow.trans {a : Grow Hf H Hf1 H1} (b : Grow Hf1 H1 Hf2 H2) : Grow Hf H Hf2 H2 :=
  ⟨a.f.trans b.f, b.fh, a.h.trans b.h, fun x u h h' => b.n x u (a.h x u h) (a.n x u h h')⟩
theorem Grow.new {p : Addr} {o : HO} (e : Ex Hf H) (h : H p = none) : Grow Hf H (upd Hf p o) (upd H p o) where
  f := Ex.new (e.back h)
  fh a u q := by
    by_cases c : a = p
    · subst c; rw [upd_same] at q ⊢; exact q
    · rw [upd_ne c] at q ⊢; exact e a u q
  h := Ex.new h
  n a u q q' := by rw [upd_ne (ne_of_none q h)]; exact q'
theorem SR.grow (s : SR K g env σ Hf H) (w : Grow Hf H Hf1 H1) : SR K g env σ Hf1 H1 where
  ex := w.fh
  len := s.len
  sl i x o h h' := by
    have q := s.sl i x o h h'
    cases x with
    | no => trivial
    | sh d => obtain ⟨v, e, r⟩ := q; exact ⟨v, e, r.mono w.f⟩
    | ow d => obtain ⟨p, u, e, h1, h2, r⟩ := q; exact ⟨p, u, e, w.h _ _ h1, w.n _ _ h1 h2, r.mono w.f⟩
    | pn d => obtain ⟨p, u, e, h1, h2, r⟩ := q; exact ⟨p, u, e, w.h _ _ h1, w.n _ _ h1 h2, r.mono w.f⟩
  ne := s.ne
theorem Grow.step (w : Grow Hf H Hf1 H1) (s : SR K g env σ Hf H) : Step K g env σ Hf H env σ Hf1 H1 :=
  ⟨w.f, s.grow w, fun a u h h' _ => ⟨w.h a u h, w.n a u h h'⟩, fun _ h => .inl h, fun _ h => w.h.back h, fun _ d h => ⟨⟨d, h⟩, rfl⟩, rfl⟩
/-- where a mutable slot stands -/
theorem SR.at_ (s : SR K g env σ Hf H) {i : Nat} {x : Sl} {d : D} (h : env[i]? = some x) (m : x.mut = some d) : ∃ p u, σ[i]? = some (some (V.ref p)) ∧ H p = some u ∧ Hf p = none ∧ RepO K g Hf d u := by
  have hi : i < σ.length := by rw [s.len]; exact (List.getElem?_eq_some_iff.mp h).1
  obtain ⟨p, u, e, h1, h2, h3⟩ := (Sl.ok_mut m).mp (s.sl i x _ h (List.getElem?_eq_getElem hi))
  exact ⟨p, u, by rw [List.getElem?_eq_getElem hi, e], h1, h2, h3⟩
theorem SR.sh_ (s : SR K g env σ Hf H) {i : Nat} {d : D} (h : env[i]? = some (.sh d)) : ∃ v, σ[i]? = some (some v) ∧ Rep K g Hf d v := by
  have hi : i < σ.length := by rw [s.len]; exact (List.getElem?_eq_some_iff.mp h).1
  obtain ⟨v, e, r⟩ := s.sl i _ _ h (List.getElem?_eq_getElem hi)
  exact ⟨v, by rw [List.getElem?_eq_getElem hi, e], r⟩
end
end DL

set_option Elab.async false
set_option linter.all false
set_option maxRecDepth 100000
set_option maxHeartbeats 400000
namespace DL
open PySem L2
/-! what a piece of a def comes to, by the names' values alone -/
inductive Rs (α : Type) where
  | ok (a : α) (e : En) | ex (c : Nat) (d : D) (e : En) | bad
abbrev M (α : Type) := En → Rs α
def bnd {α β : Type} (m : M α) (k : α → M β) : M β := fun e => match m e with
  | .ok a e' => k a e'
  | .ex c d e' => .ex c d e'
  | .bad => .bad
def ret {α : Type} (a : α) : M α := fun e => .ok a e
def lft {α : Type} (o : Option α) : M α := fun e => match o with
  | some a => .ok a e
  | none => .bad
/-- no exception leaves -/
def nox {α : Type} (m : M α) : M α := fun e => match m e with
  | .ex _ _ _ => .bad
  | r => r
inductive Ctl where
  | nx | bk | ct | rt (d : D) | rto (d : D)
section
variable (K : PySem.W.Frag) (g : G) (W : WX)
/-- an exception of the class c with the field d -/
def XGot (env : En) (σ : L2.St) (Hf H : Hp) (c : Nat) (d : D) (env' : En) : Prop :=
  ∀ dx v fs σ' Hf' H', Step K g env σ Hf H env' σ' Hf' H' → Rep K g Hf' d v → H' dx = some (.xd fs) → fs.lookup (xfT c) = some v → Hf' dx = none → ¬ Own env' σ' dx → H dx = none → W (.ref (g.xl c)) (some dx) σ' H'
def Aft {α : Type} (env : En) (σ : L2.St) (Hf H : Hp) (r : Rs α) (P : α → En → Hp → Hp → Prop) : Prop :=
  match r with
  | .ok a env' => ∀ Hf' H', Step K g env σ Hf H env' σ Hf' H' → P a env' Hf' H'
  | .ex c d env' => XGot K g W env σ Hf H c d env'
  | .bad => False
/-- a new object of ours at p -/
structure New (env : En) (σ : L2.St) (H : Hp) (Hf' H' : Hp) (d : D) (p : Addr) : Prop where
  at_ : ∃ u, H' p = some u ∧ RepO K g Hf' d u
  nf : Hf' p = none
  no : ¬ Own env σ p
  nw : H p = none
def EvM (te : TE) (m : M D) : Prop := ∀ env σ Hf H, SR K g env σ Hf H → ∀ Q : VK, Aft K g W env σ Hf H (m env) (fun d _ Hf' H' => ∀ v, Rep K g Hf' d v → Q v H') → te σ H Q
def EvF (te : TE) (m : M D) : Prop := ∀ env σ Hf H, SR K g env σ Hf H → ∀ Q : VK, Aft K g W env σ Hf H (m env) (fun d env' Hf' H' => ∀ p, New K g env' σ H Hf' H' d p → Q (.ref p) H') → te σ H Q
def EvB (tt : TT) (m : M Bool) : Prop := ∀ env σ Hf H, SR K g env σ Hf H → ∀ Q : Bool → Hp → Prop, Aft K g W env σ Hf H (m env) (fun b _ _ H' => Q b H') → tt σ H Q
def EvL (ta : TA) (m : M (List D)) : Prop := ∀ env σ Hf H, SR K g env σ Hf H → ∀ Q : List V → Hp → Prop, Aft K g W env σ Hf H (m env) (fun ds _ Hf' H' => ∀ vs, Reps K g Hf' ds vs → Q vs H') → ta σ H Q
/-- a two-place, a one-place operation on values, a call on values -/
def RvOk (r : R2) (f : D → D → Option D) : Prop := ∀ Hf H x y dx dy Q, Ex Hf H → Rep K g Hf dx x → Rep K g Hf dy y →
  (match f dx dy with
   | some z => ∀ v Hf' H', Grow Hf H Hf' H' → Rep K g Hf' z v → Q v H'
   | none => False) → r x y H Q
def RuOk (r : V → Hp → VK → Prop) (f : D → Option D) : Prop := ∀ Hf H x dx Q, Ex Hf H → Rep K g Hf dx x →
  (match f dx with
   | some z => ∀ v Hf' H', Grow Hf H Hf' H' → Rep K g Hf' z v → Q v H'
   | none => False) → r x H Q
def RcOk (r : List V → Hp → VK → Prop) (f : List D → Option D) : Prop := ∀ Hf H xs ds Q, Ex Hf H → Reps K g Hf ds xs →
  (match f ds with
   | some z => ∀ v Hf' H', Grow Hf H Hf' H' → Rep K g Hf' z v → Q v H'
   | none => False) → r xs H Q
/-- .. whose result is new and may be kept for oneself -/
def RcOkF (r : List V → Hp → VK → Prop) (f : List D → Option D) : Prop := ∀ Hf H xs ds Q, Ex Hf H → Reps K g Hf ds xs →
  (match f ds with
   | some z => ∀ p Hf' H' u, Grow Hf H Hf' H' → H p = none → H' p = some u → Hf' p = none → RepO K g Hf' z u → Q (.ref p) H'
   | none => False) → r xs H Q
end
section
variable {K : PySem.W.Frag} {g : G} {W : WX} {α β : Type} {env env1 env' : En} {σ σ' : L2.St} {Hf H Hf1 H1 Hf' H' : Hp}
theorem Aft.imp {r : Rs α} {P P' : α → En → Hp → Hp → Prop} (h : Aft K g W env σ Hf H r P) (k : ∀ a e Hf' H', r = .ok a e → Step K g env σ Hf H e σ Hf' H' → P a e Hf' H' → P' a e Hf' H') : Aft K g W env σ Hf H r P' := by
  cases r with
  | ok a e => exact fun Hf' H' s => k a e Hf' H' rfl s (h Hf' H' s)
  | ex c d e => exact h
  | bad => exact h
theorem XGot.after {c : Nat} {d : D} {e : En} (s : Step K g env σ Hf H env1 σ' Hf1 H1) (h : XGot K g W env σ Hf H c d e) : XGot K g W env1 σ' Hf1 H1 c d e := fun dx v fs σ2 Hf2 H2 s2 r e1 e2 e3 e4 e5 => h dx v fs σ2 Hf2 H2 (s.trans s2) r e1 e2 e3 e4 (s.th dx e5)
theorem Aft.bnd {m : M α} {k : α → M β} {P : β → En → Hp → Hp → Prop} (h : Aft K g W env σ Hf H (DL.bnd m k env) P) :
    Aft K g W env σ Hf H (m env) fun a env1 Hf1 H1 => Aft K g W env1 σ Hf1 H1 (k a env1) P := by
  unfold DL.bnd at h
  revert h
  cases m env with
  | ok a e =>
    intro h Hf1 H1 s
    show Aft K g W e σ Hf1 H1 (k a e) P
    revert h
    show Aft K g W env σ Hf H (k a e) P → _
    cases k a e with
    | ok b e2 => exact fun h Hf2 H2 s2 => h Hf2 H2 (s.trans s2)
    | ex c d e2 => exact fun h => XGot.after s h
    | bad => exact fun h => h
  | ex c d e => exact fun h => h
  | bad => exact fun h => h
theorem Aft.ret {a : α} {P : α → En → Hp → Hp → Prop} (s : SR K g env σ Hf H) (h : Aft K g W env σ Hf H (DL.ret a env) P) : P a env Hf H := h Hf H (Step.refl s)
theorem Aft.lft {o : Option α} {P : α → En → Hp → Hp → Prop} (s : SR K g env σ Hf H) (h : Aft K g W env σ Hf H (DL.lft o env) P) : ∃ a, o = some a ∧ ∀ Hf' H', Grow Hf H Hf' H' → P a env Hf' H' := by
  cases o with
  | none => exact h.elim
  | some a => exact ⟨a, rfl, fun Hf' H' w => h Hf' H' (w.step s)⟩
theorem Own.sub_set {i : Nat} {s : Sl} {v : Option V} {a : Addr} (h : Own (env.set i s) (σ.set i v) a) (hl : σ.length = env.length) : Own env σ a ∨ (s.mut.isSome = true ∧ v = some (.ref a)) := by
  obtain ⟨j, t, d, h1, h2, h3⟩ := h
  by_cases c : i = j
  · subst c
    by_cases hi : i < env.length
    · rw [List.getElem?_set_self hi] at h1
      rw [List.getElem?_set_self (by omega)] at h3
      cases h1
      exact .inr ⟨by rw [h2]; rfl, by injection h3⟩
    · rw [List.getElem?_eq_none (by rw [List.length_set]; omega)] at h1; cases h1
  · rw [List.getElem?_set_ne c] at h1 h3
    exact .inl ⟨j, t, d, h1, h2, h3⟩
/-- freezing an own thing: it joins what never changes -/
theorem grow_freeze {p : Addr} {u : HO} (e : Ex Hf H) (hp : H p = some u) (hn : Hf p = none) : Ex Hf (upd Hf p u) ∧ Ex (upd Hf p u) H :=
  ⟨Ex.new hn, fun a o q => by
    by_cases c : a = p
    · subst c; rw [upd_same] at q; rw [← q]; exact hp
    · rw [upd_ne c] at q; exact e a o q⟩
/-- a new thing, frozen at once -/
theorem New.freeze {d : D} {p : Addr} (s : Step K g env σ Hf H env' σ' Hf' H') (n : New K g env' σ' H Hf' H' d p) (f : full d = true) : ∃ Hf2, Step K g env σ Hf H env' σ' Hf2 H' ∧ Rep K g Hf2 d (.ref p) := by
  obtain ⟨u, hu, r⟩ := n.at_
  obtain ⟨e1, e2⟩ := grow_freeze s.sr.ex hu n.nf
  refine ⟨upd Hf' p u, ⟨s.f.trans e1, ⟨e2, s.sr.len, fun i x o h h' => ?_, s.sr.ne⟩, fun a v h h' no => ?_, s.ow, s.th, s.pn, s.le⟩, (r.mono e1).rep upd_same f⟩
  · have q := s.sr.sl i x o h h'
    cases x with
    | no => trivial
    | sh d => obtain ⟨v, e, r⟩ := q; exact ⟨v, e, r.mono e1⟩
    | ow d => obtain ⟨q, w, e, h1, h2, r⟩ := q; exact ⟨q, w, e, h1, by rw [upd_ne (fun c => n.no ⟨i, _, d, h, rfl, by rw [h', e, c]⟩)]; exact h2, r.mono e1⟩
    | pn d => obtain ⟨q, w, e, h1, h2, r⟩ := q; exact ⟨q, w, e, h1, by rw [upd_ne (fun c => n.no ⟨i, _, d, h, rfl, by rw [h', e, c]⟩)]; exact h2, r.mono e1⟩
  · obtain ⟨q1, q2⟩ := s.kp a v h h' no
    refine ⟨q1, ?_⟩
    rw [upd_ne (fun c => by rw [c, n.nw] at h; cases h)]
    exact q2
theorem RvOk.ev {r : R2} {f : D → D → Option D} {ta tb : TE} {ma mb : M D} (hr : RvOk K g r f) (ha : EvM K g W ta ma) (hb : EvM K g W tb mb) : EvM K g W (tOp r ta tb) (bnd ma fun x => bnd mb fun y => lft (f x y)) :=
  fun env σ Hf H s Q h => ha env σ Hf H s _ (h.bnd.imp fun x e1 Hf1 H1 _ s1 h1 v r1 => hb e1 σ Hf1 H1 s1.sr _ (h1.bnd.imp fun y e2 Hf2 H2 _ s2 h2 w r2 => by
    obtain ⟨z, hz, k⟩ := Aft.lft s2.sr h2
    refine hr Hf2 H2 v w x y Q s2.sr.ex (r1.mono s2.f) r2 ?_
    rw [hz]
    exact fun v Hf' H' w r => k Hf' H' w v r))
theorem RuOk.ev {r : V → Hp → VK → Prop} {f : D → Option D} {ta : TE} {ma : M D} (hr : RuOk K g r f) (ha : EvM K g W ta ma) : EvM K g W (tUn r ta) (bnd ma fun x => lft (f x)) :=
  fun env σ Hf H s Q h => ha env σ Hf H s _ (h.bnd.imp fun x e1 Hf1 H1 _ s1 h1 v r1 => by
    obtain ⟨z, hz, k⟩ := Aft.lft s1.sr h1
    refine hr Hf1 H1 v x Q s1.sr.ex r1 ?_
    rw [hz]
    exact fun v Hf' H' w r => k Hf' H' w v r)
theorem RcOk.ev {r : List V → Hp → VK → Prop} {f : List D → Option D} {ta : TA} {ma : M (List D)} (hr : RcOk K g r f) (ha : EvL K g W ta ma) : EvM K g W (tCB r ta) (bnd ma fun x => lft (f x)) :=
  fun env σ Hf H s Q h => ha env σ Hf H s _ (h.bnd.imp fun x e1 Hf1 H1 _ s1 h1 v r1 => by
    obtain ⟨z, hz, k⟩ := Aft.lft s1.sr h1
    refine hr Hf1 H1 v x Q s1.sr.ex r1 ?_
    rw [hz]
    exact fun v Hf' H' w r => k Hf' H' w v r)
theorem RcOkF.ev {r : List V → Hp → VK → Prop} {f : List D → Option D} {ta : TA} {ma : M (List D)} (hr : RcOkF K g r f) (ha : EvL K g W ta ma) : EvF K g W (tCB r ta) (bnd ma fun x => lft (f x)) :=
  fun env σ Hf H s Q h => ha env σ Hf H s _ (h.bnd.imp fun x e1 Hf1 H1 _ s1 h1 v r1 => by
    obtain ⟨z, hz, k⟩ := Aft.lft s1.sr h1
    refine hr Hf1 H1 v x Q s1.sr.ex r1 ?_
    rw [hz]
    refine fun p Hf' H' u w e1 e2 e3 e4 => k Hf' H' w p ⟨⟨u, e2, e4⟩, e3, fun o => ?_, s1.th p e1⟩
    obtain ⟨i, x, d, q1, q2, q3⟩ := o
    obtain ⟨p', u', c1, c2, _⟩ := s1.sr.at_ q1 q2
    rw [q3] at c1
    cases c1
    rw [e1] at c2
    cases c2)
/-- a fresh thing, shared at once -/
def frz (m : M D) : M D := fun env => match m env with
  | .ok d e => if full d = true then .ok d e else .bad
  | r => r
theorem EvF.ev {te : TE} {m : M D} (h : EvF K g W te m) : EvM K g W te (frz m) := by
  intro env σ Hf H s Q q
  refine h env σ Hf H s Q ?_
  revert q
  unfold frz
  cases m env with
  | ok d e =>
    dsimp only
    intro q Hf1 H1 s1 p n
    by_cases c : full d = true
    · rw [if_pos c] at q
      obtain ⟨Hf2, s2, r⟩ := n.freeze s1 c
      exact q Hf2 H1 s2 _ r
    · rw [if_neg c] at q
      exact q.elim
  | ex c d e => exact fun q => q
  | bad => exact fun q => q
end
end DL

set_option Elab.async false
set_option linter.all false
set_option maxRecDepth 100000
set_option maxHeartbeats 4000000
namespace DL
open PySem PySem.Spec PyProof.Rows L2
/-! ### tuple * int, the small cases: once is the tuple itself, never is the empty one -/
theorem tup_once (l : Addr) (items : Array Value) (n : Nat) (dd : Option Addr) (sl : Array (Option Value)) (x : Int) (u : Tok) (b0 : (decide (x < -(2 ^ 63)) || decide (x ≥ 2 ^ 63)) = false) (b1 : (items.isEmpty || x == 1) = true) :
    Meets (Builtin.«tuple.__mul__» ⟨[.ref l, .int x u], []⟩) (fun _ R s => s.heap.get? l = some { cls := .type "tuple", dict := dd, data := .seq items n, slots := sl } ∧ R (.ok (.ret (Value.ref l))) s) :=
  .of_wp fun prog w A R s h => by
    obtain ⟨hp, g, d, tk, os⟩ := s
    obtain ⟨hl, h⟩ := h
    have f1 := AutoSeq1.idx_int
    wp_walk using wpAny_loadPart' hl
    repeat (first
      | (refine wpAny_ite_false (decide_eq_false (by rw [b0]; exact Bool.false_ne_true)) ?_; wp_walk using wpAny_loadPart' hl)
      | (refine wpAny_ite_true (decide_eq_true b1) ?_; wp_walk using wpAny_loadPart' hl))
    exact ⟨_, rfl, h⟩
theorem tup_never (l : Addr) (items : Array Value) (n : Nat) (dd : Option Addr) (sl : Array (Option Value)) (x : Int) (u : Tok) (b0 : (decide (x < -(2 ^ 63)) || decide (x ≥ 2 ^ 63)) = false) (b1 : (items.isEmpty || x == 1) = false) (b2 : (decide (x ≤ 0) || items.isEmpty) = true) :
    Meets (Builtin.«tuple.__mul__» ⟨[.ref l, .int x u], []⟩) (fun _ R s => s.heap.get? l = some { cls := .type "tuple", dict := dd, data := .seq items n, slots := sl } ∧
      R (.ok (.ret (Value.ref s.heap.objs.size))) { s with heap := s.heap.push { cls := Value.type "tuple", data := Data.seq #[] }, toks := s.toks }) :=
  .of_wp fun prog w A R s h => by
    obtain ⟨hp, g, d, tk, os⟩ := s
    obtain ⟨hl, h⟩ := h
    have f1 := AutoSeq1.idx_int
    wp_walk using wpAny_loadPart' hl
    repeat (first
      | (refine wpAny_ite_false (decide_eq_false (by rw [b0]; exact Bool.false_ne_true)) ?_; wp_walk using wpAny_loadPart' hl)
      | (refine wpAny_ite_false (decide_eq_false (by rw [b1]; exact Bool.false_ne_true)) ?_; wp_walk using wpAny_loadPart' hl)
      | (refine wpAny_ite_true (decide_eq_true b2) ?_; wp_walk using wpAny_loadPart' hl))
    exact ⟨_, rfl, h⟩
def rRepS (K : PySem.W.Frag) : R2 := fun x y H Q => ∃ l k xs, x = .ref l ∧ y = .int k ∧ SqT K H l xs ∧ -1000 ≤ k ∧ ((k = 1 ∧ Q (.ref l) H) ∨ (xs ≠ [] ∧ k ≤ 0 ∧ ∀ p, H p = none → Q (.ref p) (upd H p (.tup []))))
theorem op_repS {X : Cx} : OpR X (binaryOp .Mult) (rRepS X.K) := by
  intro pins s σ H x y v u Q I rx ry h
  obtain ⟨l, k, xs, rfl, rfl, hT, hk, q⟩ := h
  cases rx
  obtain ⟨t, rfl⟩ := ry
  obtain ⟨its, r, ⟨⟨cls, dd, data, sl⟩, ho, hc, n, hd⟩, hs⟩ := I.tuple hT
  simp only at hc hd
  subst hc hd
  have b0 : (decide (k < -(2 ^ 63)) || decide (k ≥ 2 ^ 63)) = false := by
    have : k < 2 := by rcases q with ⟨e, _⟩ | ⟨_, e, _⟩ <;> omega
    rw [decide_eq_false (by omega), decide_eq_false (by omega)] <;> rfl
  have fin : ∀ {R : Value → Shared → Prop}, wpAny (model X.prog X.w) X.A (call (.builtin "tuple.__mul__") [.ref l, .int k t]) R X.xe s → (∀ v s', R v s' → (EP X pins σ Q) v s' ∧ v ≠ .notImplemented) → wpAny (model X.prog X.w) X.A (call (.builtin "tuple.__mul__") [.ref l, .int k t]) (EP X pins σ Q) X.xe s := fun h k => wpAny_mono h (fun v s' z => (k v s' z).1) fun _ _ z => z
  rcases q with ⟨k1, q⟩ | ⟨hne, k0, q⟩
  · have b1 : (its.toArray.isEmpty || k == 1) = true := by rw [beq_iff_eq.mpr k1, Bool.or_true]
    exact wpAny_binaryOp_repeat_ref (T := "tuple") (U := "int") (by decide) ⟨_, ho, rfl⟩ (fun s' => typeIs_int s' k t) noFill_tuple_mul F.fills_int_mul F.slot_int_rmul repeat_tuple F.slot_int_index.lookup
      (call_meets F.slot_int_rmul (typeIs_int s k t) F.entry_int_rmul (F.args_int_rmul_2 _ _) (int_rmul_tuple k t l its.toArray n dd sl)
        ⟨ho, rfl, ⟨_, ho, rfl⟩, call_meets F.slot_tuple_mul ⟨_, ho, rfl⟩ F.entry_tuple_mul (F.args_tuple_mul_2 _ _) (tup_once l its.toArray n dd sl k t b0 b1) ⟨ho, ⟨.ref l, H, I, rfl, q⟩⟩⟩)
  · have b1 : (its.toArray.isEmpty || k == 1) = false := by
      have e1 : its.toArray.isEmpty = false := by
        cases r with
        | nil => exact absurd rfl hne
        | cons a b => rfl
      rw [e1, Bool.false_or]
      exact beq_eq_false_iff_ne.mpr (by omega)
    have b2 : (decide (k ≤ 0) || its.toArray.isEmpty) = true := by rw [decide_eq_true k0, Bool.true_or]
    refine wpAny_binaryOp_repeat_ref (T := "tuple") (U := "int") (by decide) ⟨_, ho, rfl⟩ (fun s' => typeIs_int s' k t) noFill_tuple_mul F.fills_int_mul F.slot_int_rmul repeat_tuple F.slot_int_index.lookup
      (call_meets F.slot_int_rmul (typeIs_int s k t) F.entry_int_rmul (F.args_int_rmul_2 _ _) (int_rmul_tuple k t l its.toArray n dd sl)
        ⟨ho, rfl, ⟨_, ho, rfl⟩, call_meets F.slot_tuple_mul ⟨_, ho, rfl⟩ F.entry_tuple_mul (F.args_tuple_mul_2 _ _) (tup_never l its.toArray n dd sl k t b0 b1 b2) ⟨ho, ?_⟩⟩)
    refine ⟨.ref s.heap.objs.size, _, I.laid (t' := s.toks) (o := .tup []) (fun b ob q => Heap.get?_push_of_some _ q) (Nat.le_refl _) ?_, rfl, q _ (I.hok.fresh (Nat.le_refl _))⟩
    exact ⟨Nat.zero_le _, _, .nil, IsTup.new _ _⟩
end DL

set_option Elab.async false
set_option linter.all false
set_option maxRecDepth 100000
set_option maxHeartbeats 400000
namespace DL
open PySem L2
/-! expressions: a rule of the layer and what it comes to, in one -/
structure PEM (X : Cx) (g : G) (W : WX) (e : Expr) (m : M D) : Prop where
  ex : ∃ t, PE X e t ∧ EvM X.K g W t m
structure PEF (X : Cx) (g : G) (W : WX) (e : Expr) (m : M D) : Prop where
  ex : ∃ t, PE X e t ∧ EvF X.K g W t m
structure PTM (X : Cx) (g : G) (W : WX) (e : Expr) (m : M Bool) : Prop where
  ex : ∃ t, PT X e t ∧ EvB X.K g W t m
structure PWM (X : Cx) (g : G) (W : WX) (e : Expr) (m : M Bool) : Prop where
  ex : ∃ t, PW X e t ∧ EvB X.K g W t m
structure PAM (X : Cx) (g : G) (W : WX) (es : List Expr) (m : M (List D)) : Prop where
  ex : ∃ t, PA X es t ∧ EvL X.K g W t m

/-! ### new things -/
section
variable {K : PySem.W.Frag} {g : G} {W : WX} {env : En} {σ : L2.St} {Hf H : Hp} {p : Addr}
theorem new_lst {vs : List V} {ds : List D} (e : Ex Hf H) (hp : H p = none) (r : Reps K g Hf ds vs) : Grow Hf H (upd Hf p (.lst vs)) (upd H p (.lst vs)) ∧ Rep K g (upd Hf p (.lst vs)) (.lst ds) (.ref p) :=
  ⟨Grow.new e hp, .lst upd_same (r.mono (Ex.new (e.back hp)))⟩
theorem new_tup {vs : List V} {ds : List D} (e : Ex Hf H) (hp : H p = none) (r : Reps K g Hf ds vs) : Grow Hf H (upd Hf p (.tup vs)) (upd H p (.tup vs)) ∧ Rep K g (upd Hf p (.tup vs)) (.tup ds) (.ref p) :=
  ⟨Grow.new e hp, .tup (SqT.of upd_same) (r.mono (Ex.new (e.back hp)))⟩
/-- a new list kept for oneself -/
theorem own_new {u : HO} (e : Ex Hf H) (hp : H p = none) : Grow Hf H Hf (upd H p u) :=
  ⟨Ex.refl _, e.trans (Ex.new hp), Ex.new hp, fun _ _ _ h => h⟩
theorem Own.there (s : SR K g env σ Hf H) {a : Addr} (o : Own env σ a) : H a ≠ none := by
  obtain ⟨i, x, d, q1, q2, q3⟩ := o
  obtain ⟨p', u', c1, c2, _⟩ := s.at_ q1 q2
  rw [q3] at c1
  cases c1
  rw [c2]
  exact fun h => nomatch h
end
/-! ### names, constants -/
def mVar (i : Nat) : M D := fun env => match env[i]? with
  | some (.sh d) => .ok d env
  | some (.ow d) => if full d = true then .ok d (env.set i (.sh d)) else .bad
  | _ => .bad
section
variable {K : PySem.W.Frag} {g : G} {W : WX} {env : En} {σ : L2.St} {Hf H : Hp}
/-- a slot's own thing is shared from now on -/
theorem freeze_slot (s : SR K g env σ Hf H) {i : Nat} {d : D} (h : env[i]? = some (.ow d)) (f : full d = true) :
    ∃ p Hf', σ[i]? = some (some (.ref p)) ∧ Step K g env σ Hf H (env.set i (.sh d)) σ Hf' H ∧ Rep K g Hf' d (.ref p) := by
  obtain ⟨p, u, e1, e2, e3, r⟩ := s.at_ h rfl
  obtain ⟨x1, x2⟩ := grow_freeze s.ex e2 e3
  have hi : i < env.length := (List.getElem?_eq_some_iff.mp h).1
  have rr : Rep K g (upd Hf p u) d (.ref p) := (r.mono x1).rep upd_same f
  have set_ne : ∀ j (x : Sl), (env.set i (.sh d))[j]? = some x → (j = i ∧ x = .sh d) ∨ (j ≠ i ∧ env[j]? = some x) := fun j x q => by
    by_cases c : i = j
    · subst c
      rw [List.getElem?_set_self hi] at q
      exact .inl ⟨rfl, (Option.some.inj q).symm⟩
    · rw [List.getElem?_set_ne c] at q
      exact .inr ⟨fun z => c z.symm, q⟩
  have nep : ∀ (j : Nat) (x : Sl) (d' : D), j ≠ i → env[j]? = some x → x.mut = some d' → σ[j]? ≠ some (some (.ref p)) := fun j x d' c q m => s.ne i j _ x d d' p (fun z => c z.symm) h q rfl m e1
  refine ⟨p, upd Hf p u, e1, ⟨x1, ⟨x2, by rw [List.length_set]; exact s.len, fun j x o q q' => ?_, fun j k x y a b z n1 h1 h2 m1 m2 => ?_⟩, fun a v q q' no => ⟨q, ?_⟩, fun a o => ?_, fun a q => q, fun j z q => ?_, by rw [List.length_set]⟩, rr⟩
  · rcases set_ne j x q with ⟨rfl, rfl⟩ | ⟨c, q⟩
    · rw [e1] at q'
      cases q'
      exact ⟨_, rfl, rr⟩
    · have w := s.sl j x o q q'
      cases x with
      | no => trivial
      | sh d' => obtain ⟨v, e, r⟩ := w; exact ⟨v, e, r.mono x1⟩
      | ow d' => obtain ⟨z, w, e, h1, h2, r⟩ := w; exact ⟨z, w, e, h1, by rw [upd_ne (fun c' => nep j _ d' c q rfl (by rw [q', e, c']))]; exact h2, r.mono x1⟩
      | pn d' => obtain ⟨z, w, e, h1, h2, r⟩ := w; exact ⟨z, w, e, h1, by rw [upd_ne (fun c' => nep j _ d' c q rfl (by rw [q', e, c']))]; exact h2, r.mono x1⟩
  · rcases set_ne j x h1 with ⟨rfl, rfl⟩ | ⟨_, h1⟩
    · cases m1
    · rcases set_ne k y h2 with ⟨rfl, rfl⟩ | ⟨_, h2⟩
      · cases m2
      · exact s.ne j k x y a b z n1 h1 h2 m1 m2
  · rw [upd_ne (fun c => no ⟨i, _, d, h, rfl, by rw [e1, c]⟩)]
    exact q'
  · obtain ⟨j, x, d', q1, q2, q3⟩ := o
    rcases set_ne j x q1 with ⟨rfl, rfl⟩ | ⟨_, q1⟩
    · cases q2
    · exact .inl ⟨j, x, d', q1, q2, q3⟩
  · by_cases c : i = j
    · subst c
      rw [h] at q
      cases q
    · rw [List.getElem?_set_ne c]
      exact ⟨⟨z, q⟩, rfl⟩
theorem ev_var (i : Nat) : EvM K g W (tVar i) (mVar i) := by
  intro env σ Hf H s Q h
  unfold mVar at h
  revert h
  cases e : env[i]? with
  | none => exact fun h => h.elim
  | some x =>
    cases x with
    | no => exact fun h => h.elim
    | pn d => exact fun h => h.elim
    | sh d =>
      intro h
      obtain ⟨v, e1, r⟩ := s.sh_ e
      exact ⟨v, e1, h Hf H (Step.refl s) v r⟩
    | ow d =>
      dsimp only
      intro h
      by_cases c : full d = true
      · rw [if_pos c] at h
        obtain ⟨p, Hf', e1, st, r⟩ := freeze_slot s e c
        exact ⟨_, e1, h Hf' H st _ r⟩
      · rw [if_neg c] at h
        exact h.elim
theorem ev_c {d : D} {v : V} (r : ∀ Hf, Rep K g Hf d v) : EvM K g W (tC v) (ret d) := fun env σ Hf H s Q h => Aft.ret s h v (r Hf)
end
section
variable {X : Cx} {g : G} {W : WX}
theorem m_var (i : Nat) {x : Str} {pos : Pos} (hN : X.N[i]? = some x := by rfl) (hv : Vis X.env.scope x := by first | exact Or.inl rfl | exact Or.inr (Or.inl rfl) | exact Or.inr (Or.inr rfl)) (hd : (x == ("__debug__" : Str)) = false := by decide)
    (hcd : (x == ("__classdict__" : Str)) = false := by decide) : PEM X g W (.Name x pos) (mVar i) := ⟨_, pe_var hN hv hd hcd, ev_var i⟩
theorem m_int {i j pos} : PEM X g W (.Constant (.int i) j pos) (ret (.int i)) := ⟨_, pe_int, ev_c fun _ => .int i⟩
theorem m_bl {i j pos} : PEM X g W (.Constant (.bool i) j pos) (ret (.bl i)) := ⟨_, pe_bl, ev_c fun _ => .bl i⟩
theorem m_str {i j pos} : PEM X g W (.Constant (.str i) j pos) (ret (.str i)) := ⟨_, pe_str, ev_c fun _ => .str i⟩
theorem m_non {j pos} : PEM X g W (.Constant .none j pos) (ret .non) := ⟨_, pe_non, ev_c fun _ => .non⟩
/-- a name of the module: a number -/
theorem m_gint {x : Str} {i : Int} {pos : Pos} (hg : Gl X x) (hm : ∃ t, X.mg x = some (.int i t)) (hd : (x == ("__debug__" : Str)) = false := by decide) : PEM X g W (.Name x pos) (ret (.int i)) := by
  obtain ⟨t, hm⟩ := hm
  exact ⟨_, pe_glob (v := .int i) hg hm ⟨t, rfl⟩ hd, ev_c fun _ => .int i⟩
theorem m_gstr {x z : Str} {pos : Pos} (hg : Gl X x) (hm : ∃ t, X.mg x = some (.str z t)) (hd : (x == ("__debug__" : Str)) = false := by decide) : PEM X g W (.Name x pos) (ret (.str z)) := by
  obtain ⟨t, hm⟩ := hm
  exact ⟨_, pe_glob (v := .str z) hg hm ⟨t, rfl⟩ hd, ev_c fun _ => .str z⟩
end
/-! ### arithmetic -/
def addD : D → D → Option D
  | .int i, .int j => some (.int (i + j))
  | .str a, .str b => if a.length + b.length ≤ 16777216 then some (.str (a ++ b)) else none
  | .lst a, .lst b => if a.length + b.length ≤ 16777216 then some (.lst (a ++ b)) else none
  | .tup a, .tup b => if a.length + b.length ≤ 16777216 then some (.tup (a ++ b)) else none
  | _, _ => none
def subD : D → D → Option D
  | .int i, .int j => some (.int (i - j))
  | _, _ => none
def mulOk (i j : Int) : Bool := decide (i.natAbs.log2 + j.natAbs.log2 < 1000000)
def mulOk2 (i j : Int) : Bool := decide (i.natAbs < 2 ^ 64) || decide (j.natAbs < 2 ^ 64)
def mulD : D → D → Option D
  | .int i, .int j => if mulOk2 i j = true then some (.int (i * j)) else if mulOk i j = true then some (.int (i * j)) else none
  | .lst a, .int k => if -1000000 ≤ k ∧ k ≤ 1000000 ∧ a.length * k.toNat ≤ 16777216 then some (.lst (List.replicate k.toNat a).flatten) else none
  | .tup a, .int k => if k = 1 then some (.tup a) else if a ≠ [] ∧ -1000 ≤ k ∧ k ≤ 0 then some (.tup []) else if a ≠ [] ∧ 2 ≤ k ∧ k ≤ 1000 ∧ a.length ≤ 1000 then some (.tup (List.replicate k.toNat a).flatten) else none
  | _, _ => none
def divD : D → D → Option D
  | .int i, .int j => if 0 < j ∧ j.natAbs.log2 < 9000 then some (.int (i / j)) else none
  | _, _ => none
def modD : D → D → Option D
  | .int i, .int j => if 0 < j then some (.int (i % j)) else none
  | _, _ => none
def powD : D → D → Option D
  | .int i, .int j => if 0 ≤ j ∧ j ≤ 1000 ∧ i.natAbs < 2 ^ 64 then some (.int (i ^ j.toNat)) else none
  | _, _ => none
section
variable {K : PySem.W.Frag} {g : G} {W : WX}
def rAddU (K : PySem.W.Frag) : R2 := fun x y H Q => rI0 (fun i j => .int (i + j)) x y H Q ∨ ((∃ i j, x = .str i ∧ y = .str j ∧ i.length + j.length ≤ sizeLine ∧ Q (.str (i ++ j)) H) ∨ (rCat x y H Q ∨ rCatA K x y H Q))
theorem rv_add : RvOk K g (rAddU K) addD := by
  intro Hf H x y dx dy Q e rx ry h
  cases rx <;> cases ry <;> try exact (show False from h).elim
  case int.int i j => exact .inl ⟨i, j, rfl, rfl, h _ Hf H (Grow.refl e) (.int _)⟩
  case str.str a b =>
    dsimp only [addD] at h
    split at h
    · rename_i z hz
      split at hz
      · rename_i c
        cases hz
        exact .inr (.inl ⟨a, b, rfl, rfl, by rw [sizeLine_eq]; exact c, h _ Hf H (Grow.refl e) (.str _)⟩)
      · cases hz
    · exact h.elim
  case lst.lst a ds vs h1 r1 b es ws h2 r2 =>
    dsimp only [addD] at h
    split at h
    · rename_i z hz
      split at hz
      · rename_i c
        cases hz
        refine .inr (.inr (.inl ⟨_, _, _, _, rfl, rfl, e _ _ h1, e _ _ h2, by rw [sizeLine_eq, ← r1.len, ← r2.len]; exact c, fun p hp => ?_⟩))
        obtain ⟨w, r⟩ := new_lst e hp (r1.append r2)
        exact h _ _ _ w r
      · cases hz
    · exact h.elim
  case tup.tup a ds vs h1 r1 b es ws h2 r2 =>
    dsimp only [addD] at h
    split at h
    · rename_i z hz
      split at hz
      · rename_i c
        cases hz
        refine .inr (.inr (.inr ⟨_, _, _, _, rfl, rfl, e.t h1, e.t h2, by rw [sizeLine_eq, ← r1.len, ← r2.len]; exact c, fun q => ?_, fun _ q => ?_, fun _ _ p hp => ?_⟩))
        · subst q; cases r1
          rw [List.nil_append] at h
          exact h _ Hf H (Grow.refl e) (.tup h2 r2)
        · subst q; cases r2
          rw [List.append_nil] at h
          exact h _ Hf H (Grow.refl e) (.tup h1 r1)
        · obtain ⟨w, r⟩ := new_tup e hp (r1.append r2)
          exact h _ _ _ w r
      · cases hz
    · exact h.elim
theorem rv_sub : RvOk K g (rI0 fun i j => .int (i - j)) subD := by
  intro Hf H x y dx dy Q e rx ry h
  cases rx <;> cases ry <;> try exact (show False from h).elim
  case int.int i j => exact ⟨i, j, rfl, rfl, h _ Hf H (Grow.refl e) (.int _)⟩
theorem rv_intc {C : Int → Int → Prop} {f : Int → Int → Int} {c : Int → Int → Prop} [∀ i j, Decidable (c i j)] {F : D → D → Option D} (hc : ∀ i j, c i j → C i j)
    (h1 : ∀ i j, F (.int i) (.int j) = if c i j then some (.int (f i j)) else none) (h2 : ∀ a b z, F a b = some z → ∃ i j, a = .int i ∧ b = .int j) : RvOk K g (rI C fun i j => .int (f i j)) F := by
  intro Hf H x y dx dy Q e rx ry h
  cases hz : F dx dy with
  | none => rw [hz] at h; exact h.elim
  | some z =>
    obtain ⟨i, j, rfl, rfl⟩ := h2 _ _ _ hz
    rw [hz] at h
    rw [h1] at hz
    cases rx
    cases ry
    split at hz
    · rename_i q
      cases hz
      exact ⟨i, j, rfl, rfl, hc _ _ q, h _ Hf H (Grow.refl e) (.int _)⟩
    · cases hz
theorem rv_div : RvOk K g (rI CDivW fun i j => .int (i / j)) divD := rv_intc (c := fun i j => 0 < j ∧ j.natAbs.log2 < 9000) (fun _ _ h => h) (fun _ _ => rfl) fun a b z h => by
  cases a <;> cases b <;> simp [divD] at h <;> exact ⟨_, _, rfl, rfl⟩
theorem rv_mod : RvOk K g (rI (fun _ j => 0 < j) fun i j => .int (i % j)) modD := rv_intc (c := fun i j => 0 < j) (fun _ _ h => h) (fun _ _ => rfl) fun a b z h => by
  cases a <;> cases b <;> simp [modD] at h <;> exact ⟨_, _, rfl, rfl⟩
theorem rv_pow : RvOk K g (rI CPow fun i j => .int (i ^ j.toNat)) powD := rv_intc (c := fun i j => 0 ≤ j ∧ j ≤ 1000 ∧ i.natAbs < 2 ^ 64) (fun _ _ h => ⟨h.1, by have := h.2.1; omega, h.2.2⟩) (fun _ _ => rfl) fun a b z h => by
  cases a <;> cases b <;> simp [powD] at h <;> exact ⟨_, _, rfl, rfl⟩
theorem Reps.rep {Hf : Hp} {ds : List D} {vs : List V} (r : Reps K g Hf ds vs) : ∀ k : Nat, Reps K g Hf (List.replicate k ds).flatten (List.replicate k vs).flatten
  | 0 => .nil
  | k + 1 => by
    rw [List.replicate_succ, List.replicate_succ, List.flatten_cons, List.flatten_cons]
    exact r.append (Reps.rep r k)
def rMulU (K : PySem.W.Frag) : R2 := fun x y H Q => rI CMulW (fun i j => .int (i * j)) x y H Q ∨ (rI CMul (fun i j => .int (i * j)) x y H Q ∨ (rRep x y H Q ∨ (rRepT K x y H Q ∨ rRepS K x y H Q)))
theorem mulOk2_ok {i j : Int} (c : mulOk2 i j = true) : CMul i j := by
  unfold mulOk2 at c
  rw [Bool.or_eq_true] at c
  rcases c with c | c
  · have := of_decide_eq_true c
    exact .inl ⟨by omega, by omega⟩
  · have := of_decide_eq_true c
    exact .inr ⟨by omega, by omega⟩
theorem rv_mul : RvOk K g (rMulU K) mulD := by
  intro Hf H x y dx dy Q e rx ry h
  cases rx <;> cases ry <;> try exact (show False from h).elim
  case int.int i j =>
    dsimp only [mulD] at h
    by_cases c : mulOk2 i j = true
    · rw [if_pos c] at h
      exact .inr (.inl ⟨i, j, rfl, rfl, mulOk2_ok c, h _ Hf H (Grow.refl e) (.int _)⟩)
    · rw [if_neg c] at h
      by_cases c : mulOk i j = true
      · rw [if_pos c] at h
        exact .inl ⟨i, j, rfl, rfl, of_decide_eq_true (p := i.natAbs.log2 + j.natAbs.log2 < 1000000) c, h _ Hf H (Grow.refl e) (.int _)⟩
      · rw [if_neg c] at h
        exact h.elim
  case lst.int a ds vs h1 r1 k =>
    dsimp only [mulD] at h
    split at h
    · rename_i z hz
      split at hz
      · rename_i c
        cases hz
        refine .inr (.inr (.inl ⟨_, k, _, rfl, rfl, e _ _ h1, by omega, by omega, by rw [sizeLine_eq, ← r1.len]; exact c.2.2, fun p hp => ?_⟩))
        obtain ⟨w, r⟩ := new_lst e hp (r1.rep k.toNat)
        exact h _ _ _ w r
      · cases hz
    · exact h.elim
  case tup.int a ds vs h1 r1 k =>
    dsimp only [mulD] at h
    by_cases c : k = 1
    · rw [if_pos c] at h
      exact .inr (.inr (.inr (.inr ⟨_, k, _, rfl, rfl, e.t h1, by omega, .inl ⟨c, h _ Hf H (Grow.refl e) (.tup h1 r1)⟩⟩)))
    · rw [if_neg c] at h
      by_cases c0 : ds ≠ [] ∧ -1000 ≤ k ∧ k ≤ 0
      · rw [if_pos c0] at h
        refine .inr (.inr (.inr (.inr ⟨_, k, _, rfl, rfl, e.t h1, c0.2.1, .inr ⟨fun q => ?_, c0.2.2, fun p hp => ?_⟩⟩)))
        · subst q; cases r1; exact c0.1 rfl
        · obtain ⟨w, r⟩ := new_tup (K := K) (g := g) e hp .nil
          exact h _ _ _ w r
      · rw [if_neg c0] at h
        by_cases c : ds ≠ [] ∧ 2 ≤ k ∧ k ≤ 1000 ∧ ds.length ≤ 1000
        · rw [if_pos c] at h
          refine .inr (.inr (.inr (.inl ⟨_, k, _, rfl, rfl, e.t h1, fun q => ?_, c.2.1, c.2.2.1, by rw [← r1.len]; exact c.2.2.2, fun p hp => ?_⟩)))
          · subst q; cases r1; exact c.1 rfl
          · obtain ⟨w, r⟩ := new_tup e hp (r1.rep k.toNat)
            exact h _ _ _ w r
        · rw [if_neg c] at h
          exact h.elim
end
def mBin (f : D → D → Option D) (a b : M D) : M D := bnd a fun x => bnd b fun y => lft (f x y)
def mUn (f : D → Option D) (a : M D) : M D := bnd a fun x => lft (f x)
def negD : D → Option D
  | .int i => some (.int (-i))
  | _ => none
section
variable {X : Cx} {g : G} {W : WX} {a b : Expr} {ma mb : M D} {pos : Pos}
theorem m_bin {op : Operator} {r : R2} {f : D → D → Option D} (ho : OpR X (binaryOp op) r) (hr : RvOk X.K g r f) (ha : PEM X g W a ma) (hb : PEM X g W b mb) : PEM X g W (.BinOp a op b pos) (mBin f ma mb) := by
  obtain ⟨ta, h1, h2⟩ := ha
  obtain ⟨tb, h3, h4⟩ := hb
  exact ⟨_, pe_op ho h1 h3, hr.ev h2 h4⟩
theorem m_add (ha : PEM X g W a ma) (hb : PEM X g W b mb) : PEM X g W (.BinOp a .Add b pos) (mBin addD ma mb) := m_bin (op_add.or (op_add_str.or (op_cat.or op_catA))) rv_add ha hb
theorem m_sub (ha : PEM X g W a ma) (hb : PEM X g W b mb) : PEM X g W (.BinOp a .Sub b pos) (mBin subD ma mb) := m_bin op_sub rv_sub ha hb
theorem m_mul (ha : PEM X g W a ma) (hb : PEM X g W b mb) : PEM X g W (.BinOp a .Mult b pos) (mBin mulD ma mb) := m_bin (op_mulW.or (op_mul.or (op_rep.or (op_repT.or op_repS)))) rv_mul ha hb
theorem m_div (ha : PEM X g W a ma) (hb : PEM X g W b mb) : PEM X g W (.BinOp a .FloorDiv b pos) (mBin divD ma mb) := m_bin op_fdivW rv_div ha hb
theorem m_mod (ha : PEM X g W a ma) (hb : PEM X g W b mb) : PEM X g W (.BinOp a .Mod b pos) (mBin modD ma mb) := m_bin op_mod rv_mod ha hb
theorem m_pow (ha : PEM X g W a ma) (hb : PEM X g W b mb) : PEM X g W (.BinOp a .Pow b pos) (mBin powD ma mb) := m_bin op_pow rv_pow ha hb
theorem m_un {op : UnaryOp} {r : V → Hp → VK → Prop} {f : D → Option D} (ho : UnR X (unaryOp op) r) (hr : RuOk X.K g r f) (ha : PEM X g W a ma) : PEM X g W (.UnaryOp op a pos) (mUn f ma) := by
  obtain ⟨ta, h1, h2⟩ := ha
  exact ⟨_, pe_un ho h1, hr.ev h2⟩
theorem m_neg (ha : PEM X g W a ma) : PEM X g W (.UnaryOp .USub a pos) (mUn negD ma) := m_un un_neg (fun Hf H x dx Q e rx h => by
  cases rx <;> try exact (show False from h).elim
  case int i => exact ⟨i, rfl, h _ Hf H (Grow.refl e) (.int _)⟩) ha
end
end DL

set_option Elab.async false
set_option linter.all false
set_option maxRecDepth 100000
set_option maxHeartbeats 400000
namespace DL
open PySem L2
/-! ### lists of arguments, displays -/
def mNil : M (List D) := ret []
def mCons (a : M D) (b : M (List D)) : M (List D) := bnd a fun x => bnd b fun xs => ret (x :: xs)
def small (n : Nat) : Bool := decide (n ≤ 16777216)
def mTup (a : M (List D)) : M D := bnd a fun xs => lft (if small xs.length = true then some (.tup xs) else none)
def mLst (a : M (List D)) : M D := bnd a fun xs => lft (if small xs.length = true then some (.lst xs) else none)
section
variable {K : PySem.W.Frag} {g : G} {W : WX}
theorem ev_nil : EvL K g W tNil mNil := fun env σ Hf H s Q h => Aft.ret s h [] .nil
theorem ev_cons {ta : TE} {tr : TA} {a : M D} {b : M (List D)} (ha : EvM K g W ta a) (hb : EvL K g W tr b) : EvL K g W (tCons ta tr) (mCons a b) :=
  fun env σ Hf H s Q h => ha env σ Hf H s _ (h.bnd.imp fun x e1 Hf1 H1 _ s1 h1 v r1 => hb e1 σ Hf1 H1 s1.sr _ (h1.bnd.imp fun xs e2 Hf2 H2 _ s2 h2 vs r2 => Aft.ret s2.sr h2 (v :: vs) (.cons (r1.mono s2.f) r2)))
theorem small_le {n : Nat} (h : small n = true) : n ≤ sizeLine := by
  rw [sizeLine_eq]
  exact of_decide_eq_true h
theorem lft_if {α : Type} {c : Prop} [Decidable c] {z : α} {env : En} {σ : L2.St} {Hf H : Hp} {P : α → En → Hp → Hp → Prop} (s : SR K g env σ Hf H) (h : Aft K g W env σ Hf H (DL.lft (if c then some z else none) env) P) :
    c ∧ ∀ Hf' H', Grow Hf H Hf' H' → P z env Hf' H' := by
  obtain ⟨a, ha, k⟩ := Aft.lft s h
  split at ha
  · rename_i q
    cases ha
    exact ⟨q, k⟩
  · cases ha
theorem ev_tup {ta : TA} {a : M (List D)} (ha : EvL K g W ta a) : EvM K g W (tTup ta) (mTup a) :=
  fun env σ Hf H s Q h => ha env σ Hf H s _ (h.bnd.imp fun xs e1 Hf1 H1 _ s1 h1 vs r1 => by
    obtain ⟨c, k⟩ := lft_if s1.sr h1
    refine ⟨by rw [← r1.len]; exact small_le c, fun p hp => ?_⟩
    obtain ⟨w, r⟩ := new_tup s1.sr.ex hp r1
    exact k _ _ w _ r)
theorem ev_lst {ta : TA} {a : M (List D)} (ha : EvL K g W ta a) : EvM K g W (tLst ta) (mLst a) :=
  fun env σ Hf H s Q h => ha env σ Hf H s _ (h.bnd.imp fun xs e1 Hf1 H1 _ s1 h1 vs r1 => by
    obtain ⟨c, k⟩ := lft_if s1.sr h1
    refine ⟨by rw [← r1.len]; exact small_le c, fun p hp => ?_⟩
    obtain ⟨w, r⟩ := new_lst s1.sr.ex hp r1
    exact k _ _ w _ r)
theorem new_own {env e1 : En} {σ : L2.St} {Hf H Hf1 H1 : Hp} (s1 : Step K g env σ Hf H e1 σ Hf1 H1) {p : Addr} (hp : H1 p = none) {u : HO} {d : D} (r : RepO K g Hf1 d u) : New K g e1 σ H Hf1 (upd H1 p u) d p :=
  ⟨⟨u, upd_same, r⟩, s1.sr.ex.back hp, fun o => Own.there s1.sr o hp, s1.th p hp⟩
theorem evf_lst {ta : TA} {a : M (List D)} (ha : EvL K g W ta a) : EvF K g W (tLst ta) (mLst a) :=
  fun env σ Hf H s Q h => ha env σ Hf H s _ (h.bnd.imp fun xs e1 Hf1 H1 _ s1 h1 vs r1 => by
    obtain ⟨c, k⟩ := lft_if s1.sr h1
    refine ⟨by rw [← r1.len]; exact small_le c, fun p hp => ?_⟩
    exact k Hf1 _ (own_new s1.sr.ex hp) p (new_own s1 hp (.lst r1)))
end
section
variable {X : Cx} {g : G} {W : WX} {e : Expr} {es : List Expr} {a : M D} {b : M (List D)} {pos : Pos}
theorem a_nil : PAM X g W [] mNil := ⟨_, pa_nil, ev_nil⟩
theorem a_cons (ha : PEM X g W e a) (hb : PAM X g W es b) (hs : starEach (e :: es) X.env = (false, eval e X.env) :: starEach es X.env := by rfl) : PAM X g W (e :: es) (mCons a b) := by
  obtain ⟨t, h1, h2⟩ := ha
  obtain ⟨u, h3, h4⟩ := hb
  exact ⟨_, pa_cons h1 h3 hs, ev_cons h2 h4⟩
theorem m_tup {x1} (h : PAM X g W es b) : PEM X g W (.Tuple es x1 pos) (mTup b) := by
  obtain ⟨t, h1, h2⟩ := h
  exact ⟨_, pe_tup h1, ev_tup h2⟩
theorem m_lst (h : PAM X g W es b) : PEM X g W (.List es pos) (mLst b) := by
  obtain ⟨t, h1, h2⟩ := h
  exact ⟨_, pe_lst h1, ev_lst h2⟩
theorem f_lst (h : PAM X g W es b) : PEF X g W (.List es pos) (mLst b) := by
  obtain ⟨t, h1, h2⟩ := h
  exact ⟨_, pe_lst h1, evf_lst h2⟩
end
/-! ### tests -/
def mB (m : M D) : M Bool := bnd m fun x => lft (match x with
  | .bl b => some b
  | _ => none)
def mAnd (a b : M Bool) : M Bool := bnd a fun x => if x = true then b else ret false
def mOr (a b : M Bool) : M Bool := bnd a fun x => if x = true then ret true else b
def mNot (a : M Bool) : M Bool := bnd a fun x => ret (!x)
def mBv (m : M Bool) : M D := bnd m fun x => ret (.bl x)
def mIf (c : M Bool) (a b : M D) : M D := bnd c fun x => if x = true then a else b
/-- truth of any value -/
def truD : D → Option Bool
  | .non => some false
  | .bl b => some b
  | .int i => some (i != 0)
  | .str y => if small y.length = true then some ((y.length : Int) != 0) else none
  | .lst xs => some (!xs.isEmpty)
  | .tup xs => some (!xs.isEmpty)
  | _ => none
def mTru (m : M D) : M Bool := bnd m fun x => lft (truD x)
section
variable {K : PySem.W.Frag} {g : G} {W : WX}
theorem ev_B {te : TE} {m : M D} (h : EvM K g W te m) : EvB K g W (tB te) (mB m) :=
  fun env σ Hf H s Q q => h env σ Hf H s _ (q.bnd.imp fun x e1 Hf1 H1 _ s1 h1 v r1 => by
    obtain ⟨b, hb, k⟩ := Aft.lft s1.sr h1
    cases r1 <;> try (cases hb; done)
    case bl b' => cases hb; exact ⟨_, rfl, k Hf1 H1 (Grow.refl s1.sr.ex)⟩)
theorem ev_Test {te : TE} {m : M D} (h : EvM K g W te m) : EvB K g W (tTest te) (mB m) := ev_B h
theorem ev_and {t u : TT} {a b : M Bool} (ha : EvB K g W t a) (hb : EvB K g W u b) : EvB K g W (tAnd t u) (mAnd a b) :=
  fun env σ Hf H s Q q => ha env σ Hf H s _ (q.bnd.imp fun x e1 Hf1 H1 _ s1 h1 => by
    cases x with
    | true => exact hb e1 σ Hf1 H1 s1.sr Q h1
    | false => exact Aft.ret s1.sr h1)
theorem ev_or {t u : TT} {a b : M Bool} (ha : EvB K g W t a) (hb : EvB K g W u b) : EvB K g W (tOr t u) (mOr a b) :=
  fun env σ Hf H s Q q => ha env σ Hf H s _ (q.bnd.imp fun x e1 Hf1 H1 _ s1 h1 => by
    cases x with
    | true => exact Aft.ret s1.sr h1
    | false => exact hb e1 σ Hf1 H1 s1.sr Q h1)
theorem ev_not {t : TT} {a : M Bool} (ha : EvB K g W t a) : EvB K g W (tNot t) (mNot a) :=
  fun env σ Hf H s Q q => ha env σ Hf H s _ (q.bnd.imp fun x e1 Hf1 H1 _ s1 h1 => Aft.ret s1.sr h1)
theorem ev_if {t : TT} {ta tb : TE} {c : M Bool} {a b : M D} (hc : EvB K g W t c) (ha : EvM K g W ta a) (hb : EvM K g W tb b) : EvM K g W (tIf t ta tb) (mIf c a b) :=
  fun env σ Hf H s Q q => hc env σ Hf H s _ (q.bnd.imp fun x e1 Hf1 H1 _ s1 h1 => by
    cases x with
    | true => exact ha e1 σ Hf1 H1 s1.sr Q h1
    | false => exact hb e1 σ Hf1 H1 s1.sr Q h1)
/-- and, or as values of bools -/
theorem ev_andV {ta tb : TE} {a b : M D} (ha : EvM K g W ta a) (hb : EvM K g W tb b) : EvM K g W (tAndV ta tb) (bnd (mB a) fun x => if x = true then b else ret (.bl false)) :=
  fun env σ Hf H s Q q => ha env σ Hf H s _ ((q.bnd).bnd.imp fun x e1 Hf1 H1 _ s1 h1 v r1 => by
    obtain ⟨c, hb', k⟩ := Aft.lft s1.sr h1
    cases r1 <;> try (cases hb'; done)
    case bl b' =>
      cases hb'
      refine ⟨_, rfl, ?_⟩
      have z := k Hf1 H1 (Grow.refl s1.sr.ex)
      cases c with
      | true => exact hb e1 σ Hf1 H1 s1.sr Q z
      | false => exact Aft.ret s1.sr z _ (.bl false))
theorem ev_orV {ta tb : TE} {a b : M D} (ha : EvM K g W ta a) (hb : EvM K g W tb b) : EvM K g W (tOrV ta tb) (bnd (mB a) fun x => if x = true then ret (.bl true) else b) :=
  fun env σ Hf H s Q q => ha env σ Hf H s _ ((q.bnd).bnd.imp fun x e1 Hf1 H1 _ s1 h1 v r1 => by
    obtain ⟨c, hb', k⟩ := Aft.lft s1.sr h1
    cases r1 <;> try (cases hb'; done)
    case bl b' =>
      cases hb'
      refine ⟨_, rfl, ?_⟩
      have z := k Hf1 H1 (Grow.refl s1.sr.ex)
      cases c with
      | true => exact Aft.ret s1.sr z _ (.bl true)
      | false => exact hb e1 σ Hf1 H1 s1.sr Q z)
theorem ev_notV {ta : TE} {a : M D} (ha : EvM K g W ta a) : EvM K g W (tNotV ta) (mBv (mNot (mB a))) :=
  fun env σ Hf H s Q q => ha env σ Hf H s _ ((q.bnd).bnd.bnd.imp fun x e1 Hf1 H1 _ s1 h1 v r1 => by
    obtain ⟨c, hb', k⟩ := Aft.lft s1.sr h1
    cases r1 <;> try (cases hb'; done)
    case bl b' =>
      cases hb'
      have z := k Hf1 H1 (Grow.refl s1.sr.ex)
      exact ⟨_, rfl, Aft.ret s1.sr (Aft.ret s1.sr z) _ (.bl _)⟩)
theorem tru_of {Hf H : Hp} {d : D} {v : V} {b : Bool} (e : Ex Hf H) (r : Rep K g Hf d v) (h : truD d = some b) : TruV K v H b := by
  cases r <;> try (cases h; done)
  case non => cases h; rfl
  case bl => cases h; rfl
  case int => cases h; rfl
  case str y =>
    dsimp only [truD] at h
    split at h
    · rename_i c; cases h; exact ⟨small_le c, rfl⟩
    · cases h
  case lst a ds vs h1 r1 =>
    cases h
    refine .inl ⟨vs, SqL.of (e _ _ h1), ?_⟩
    cases r1 <;> rfl
  case tup a ds vs h1 r1 =>
    cases h
    refine .inr (.inl ⟨vs, e.t h1, ?_⟩)
    cases r1 <;> rfl
theorem ev_Tru {ta : TE} {a : M D} (ha : EvM K g W ta a) : EvB K g W (fun σ H Q => ta σ H fun x H' => ∃ k, TruV K x H' k ∧ Q k H') (mTru a) :=
  fun env σ Hf H s Q q => ha env σ Hf H s _ (q.bnd.imp fun x e1 Hf1 H1 _ s1 h1 v r1 => by
    obtain ⟨b, hb, k⟩ := Aft.lft s1.sr h1
    exact ⟨b, tru_of s1.sr.ex r1 hb, k Hf1 H1 (Grow.refl s1.sr.ex)⟩)
end
section
variable {X : Cx} {g : G} {W : WX} {a b c : Expr} {ma mb : M D} {ta tb : M Bool} {rest : List Expr} {pos : Pos}
theorem t_val {e : Expr} {m : M D} (h : PEM X g W e m) (he : ∀ whole, isTrue e X.env whole = (do let v ← whole; standAt e.pos; holding [v] (truthy v)) := by intro _; rfl) : PTM X g W e (mB m) := by
  obtain ⟨t, h1, h2⟩ := h
  exact ⟨_, pt_val h1 he, ev_B h2⟩
theorem t_tru {e : Expr} {m : M D} (h : PEM X g W e m) (he : ∀ whole, isTrue e X.env whole = (do let v ← whole; standAt e.pos; holding [v] (truthy v)) := by intro _; rfl) : PTM X g W e (mTru m) := by
  obtain ⟨t, h1, h2⟩ := h
  exact ⟨_, pt_truth h1 he, ev_Tru h2⟩
theorem t_cmp {op : CmpOp} {r : R2} {f : D → D → Option D} (ho : OpR X (compareOp op) r) (hr : RvOk X.K g r f) (ha : PEM X g W a ma) (hb : PEM X g W b mb) (hm : behindInMarks op b = false) : PTM X g W (.Compare a [op] [b] pos) (mB (mBin f ma mb)) := by
  obtain ⟨ta, h1, h2⟩ := ha
  obtain ⟨tb, h3, h4⟩ := hb
  exact ⟨_, pt_cmpR ho h1 h3 hm, ev_Test (hr.ev h2 h4)⟩
theorem m_cmp {op : CmpOp} {r : R2} {f : D → D → Option D} (ho : OpR X (compareOp op) r) (hr : RvOk X.K g r f) (ha : PEM X g W a ma) (hb : PEM X g W b mb) (hm : behindInMarks op b = false) : PEM X g W (.Compare a [op] [b] pos) (mBin f ma mb) := by
  obtain ⟨ta, h1, h2⟩ := ha
  obtain ⟨tb, h3, h4⟩ := hb
  exact ⟨_, pe_cmpR ho h1 h3 hm, hr.ev h2 h4⟩
theorem w_and1 (h : PTM X g W a ta) : PWM X g W (.BoolOp .And [a] pos) ta := by obtain ⟨t, h1, h2⟩ := h; exact ⟨_, pw_and1 h1, h2⟩
theorem w_or1 (h : PTM X g W a ta) : PWM X g W (.BoolOp .Or [a] pos) ta := by obtain ⟨t, h1, h2⟩ := h; exact ⟨_, pw_or1 h1, h2⟩
theorem w_and (h : PTM X g W a ta) (k : PWM X g W (.BoolOp .And (b :: rest) pos) tb) : PWM X g W (.BoolOp .And (a :: b :: rest) pos) (mAnd ta tb) := by
  obtain ⟨t, h1, h2⟩ := h
  obtain ⟨u, h3, h4⟩ := k
  exact ⟨_, pw_and h1 h3, ev_and h2 h4⟩
theorem w_or (h : PTM X g W a ta) (k : PWM X g W (.BoolOp .Or (b :: rest) pos) tb) : PWM X g W (.BoolOp .Or (a :: b :: rest) pos) (mOr ta tb) := by
  obtain ⟨t, h1, h2⟩ := h
  obtain ⟨u, h3, h4⟩ := k
  exact ⟨_, pw_or h1 h3, ev_or h2 h4⟩
theorem PWM.t {e : Expr} {m : M Bool} (h : PWM X g W e m) : PTM X g W e m := by obtain ⟨t, h1, h2⟩ := h; exact ⟨_, h1.pt, h2⟩
theorem t_not (h : PTM X g W a ta) : PTM X g W (.UnaryOp .Not a pos) (mNot ta) := by obtain ⟨t, h1, h2⟩ := h; exact ⟨_, pt_not h1, ev_not h2⟩
theorem m_not (h : PEM X g W a ma) : PEM X g W (.UnaryOp .Not a pos) (mBv (mNot (mB ma))) := by obtain ⟨t, h1, h2⟩ := h; exact ⟨_, pe_not h1, ev_notV h2⟩
theorem m_one {op} (h : PEM X g W a ma) : PEM X g W (.BoolOp op [a] pos) ma := by obtain ⟨t, h1, h2⟩ := h; exact ⟨_, pe_one h1, h2⟩
theorem m_and (h : PEM X g W a ma) (k : PEM X g W (.BoolOp .And (b :: rest) pos) mb) : PEM X g W (.BoolOp .And (a :: b :: rest) pos) (bnd (mB ma) fun x => if x = true then mb else ret (.bl false)) := by
  obtain ⟨t, h1, h2⟩ := h
  obtain ⟨u, h3, h4⟩ := k
  exact ⟨_, pe_and h1 h3, ev_andV h2 h4⟩
theorem m_or (h : PEM X g W a ma) (k : PEM X g W (.BoolOp .Or (b :: rest) pos) mb) : PEM X g W (.BoolOp .Or (a :: b :: rest) pos) (bnd (mB ma) fun x => if x = true then ret (.bl true) else mb) := by
  obtain ⟨t, h1, h2⟩ := h
  obtain ⟨u, h3, h4⟩ := k
  exact ⟨_, pe_or h1 h3, ev_orV h2 h4⟩
theorem m_ifx {e : Expr} {tc : M Bool} (hc : PTM X g W c tc) (ha : PEM X g W a ma) (hb : PEM X g W b mb) : PEM X g W (.IfExp c a b pos) (mIf tc ma mb) := by
  obtain ⟨t, h1, h2⟩ := hc
  obtain ⟨u, h3, h4⟩ := ha
  obtain ⟨w, h5, h6⟩ := hb
  exact ⟨_, pe_ifExp h1 h3 h5, ev_if h2 h4 h6⟩
end
/-! ### data, == -/
mutual
def toPD : D → Option PyData
  | .non => some .none
  | .bl b => some (.bool b)
  | .int i => some (.int i)
  | .str x => some (.str x)
  | .lst xs => (toPDs xs).map .list
  | .tup xs => (toPDs xs).map .tuple
  | _ => none
def toPDs : List D → Option (List PyData)
  | [] => some []
  | x :: xs => match toPD x, toPDs xs with
    | some y, some ys => some (y :: ys)
    | _, _ => none
end
section
variable {K : PySem.W.Frag} {g : G} {H H' : Hp}
mutual
theorem Rep.dp (e : Ex H H') : ∀ {d : D} {v : V} {p : PyData}, Rep K g H d v → toPD d = some p → Dp K H' v p
  | _, _, _, .non, h => by cases h; exact .non
  | _, _, _, .bl b, h => by cases h; exact .bl b
  | _, _, _, .int b, h => by cases h; exact .int b
  | _, _, _, .str b, h => by cases h; exact .str b
  | _, _, _, .lst (ds := ds) a r, h => by
    unfold toPD at h
    cases q : toPDs ds with
    | none => rw [q] at h; cases h
    | some ys => rw [q] at h; cases h; exact .lst (SqL.of (e _ _ a)) (Reps.dp e r q)
  | _, _, _, .tup (ds := ds) a r, h => by
    unfold toPD at h
    cases q : toPDs ds with
    | none => rw [q] at h; cases h
    | some ys => rw [q] at h; cases h; exact .tup (e.t a) (Reps.dp e r q)
  | _, _, _, .ty _, h => by cases h
  | _, _, _, .scr _, h => by cases h
  | _, _, _, .dic _ _ _, h => by cases h
  | _, _, _, .dct _ _ _, h => by cases h
  | _, _, _, .ins _ _ _ _, h => by cases h
theorem Reps.dp (e : Ex H H') : ∀ {d : List D} {v : List V} {p : List PyData}, Reps K g H d v → toPDs d = some p → DpAll K H' v p
  | _, _, _, .nil, h => by cases h; exact .nil
  | _, _, _, .cons (d := x) (ds := xs) a b, h => by
    unfold toPDs at h
    cases q1 : toPD x with
    | none => rw [q1] at h; cases h
    | some y =>
      cases q2 : toPDs xs with
      | none => rw [q1, q2] at h; cases h
      | some ys => rw [q1, q2] at h; cases h; exact .cons (Rep.dp e a q1) (Reps.dp e b q2)
end
end
def eqB (a b : D) : Option Bool := match toPD a, toPD b with
  | some x, some y => if SeqAt.shaped x = true ∧ SeqAt.shaped y = true then some (PyData.eqv x y) else none
  | _, _ => none
def eqD (a b : D) : Option D := (eqB a b).map .bl
def neD (a b : D) : Option D := (eqB a b).map fun k => .bl (!k)
def cmpD (f : Int → Int → Bool) : D → D → Option D
  | .int i, .int j => some (.bl (f i j))
  | _, _ => none
def isND (neg : Bool) : D → D → Option D
  | .non, .non => some (.bl (!neg))
  | .dic _ _, .non => none
  | .ty _, .non => some (.bl neg)
  | _, .non => some (.bl neg)
  | _, _ => none
section
variable {K : PySem.W.Frag} {g : G}
theorem eqB_some {a b : D} {k : Bool} (h : eqB a b = some k) : ∃ x y, toPD a = some x ∧ toPD b = some y ∧ SeqAt.shaped x = true ∧ SeqAt.shaped y = true ∧ k = PyData.eqv x y := by
  unfold eqB at h
  cases q1 : toPD a with
  | none => rw [q1] at h; cases h
  | some x =>
    cases q2 : toPD b with
    | none => rw [q1, q2] at h; cases h
    | some y =>
      rw [q1, q2] at h
      dsimp only at h
      split at h
      · rename_i c; cases h; exact ⟨x, y, rfl, rfl, c.1, c.2, rfl⟩
      · cases h
theorem rv_eq : RvOk K g (rEqD K) eqD := by
  intro Hf H x y dx dy Q e rx ry h
  unfold eqD at h
  cases q : eqB dx dy with
  | none => rw [q] at h; exact h.elim
  | some k =>
    rw [q] at h
    obtain ⟨a, b, h1, h2, h3, h4, rfl⟩ := eqB_some q
    exact ⟨a, b, rx.dp e h1, ry.dp e h2, h3, h4, h _ Hf H (Grow.refl e) (.bl _)⟩
theorem rv_ne : RvOk K g (rNeD K) neD := by
  intro Hf H x y dx dy Q e rx ry h
  unfold neD at h
  cases q : eqB dx dy with
  | none => rw [q] at h; exact h.elim
  | some k =>
    rw [q] at h
    obtain ⟨a, b, h1, h2, h3, h4, rfl⟩ := eqB_some q
    exact ⟨a, b, rx.dp e h1, ry.dp e h2, h3, h4, h _ Hf H (Grow.refl e) (.bl _)⟩
theorem rv_cmp (f : Int → Int → Bool) : RvOk K g (rI0 fun i j => .bl (f i j)) (cmpD f) := by
  intro Hf H x y dx dy Q e rx ry h
  cases rx <;> cases ry <;> try exact (show False from h).elim
  case int.int i j => exact ⟨i, j, rfl, rfl, h _ Hf H (Grow.refl e) (.bl _)⟩
theorem rv_isN : RvOk K g (fun x y H Q => y = .non ∧ Q (.bl (decide (x = .non))) H) (isND false) := by
  intro Hf H x y dx dy Q e rx ry h
  cases rx <;> cases ry <;> first
    | exact (show False from h).elim
    | exact ⟨rfl, h _ Hf H (Grow.refl e) (.bl _)⟩
theorem rv_notN : RvOk K g (fun x y H Q => y = .non ∧ Q (.bl (!decide (x = .non))) H) (isND true) := by
  intro Hf H x y dx dy Q e rx ry h
  cases rx <;> cases ry <;> first
    | exact (show False from h).elim
    | exact ⟨rfl, h _ Hf H (Grow.refl e) (.bl _)⟩
end
section
variable {X : Cx} {g : G} {W : WX} {a b c : Expr} {ma mb mc : M D} {pos : Pos} {k : Nat}
theorem t_eq (hr : Room k X.A) (ha : PEM X g W a ma) (hb : PEM X g W b mb) : PTM X g W (.Compare a [.Eq] [b] pos) (mB (mBin eqD ma mb)) := t_cmp (op_eqD hr.units) rv_eq ha hb (nomark _)
theorem t_ne (hr : Room k X.A) (ha : PEM X g W a ma) (hb : PEM X g W b mb) : PTM X g W (.Compare a [.NotEq] [b] pos) (mB (mBin neD ma mb)) := t_cmp (op_neD hr.units) rv_ne ha hb (nomark _)
theorem m_eq (hr : Room k X.A) (ha : PEM X g W a ma) (hb : PEM X g W b mb) : PEM X g W (.Compare a [.Eq] [b] pos) (mBin eqD ma mb) := m_cmp (op_eqD hr.units) rv_eq ha hb (nomark _)
theorem m_ne (hr : Room k X.A) (ha : PEM X g W a ma) (hb : PEM X g W b mb) : PEM X g W (.Compare a [.NotEq] [b] pos) (mBin neD ma mb) := m_cmp (op_neD hr.units) rv_ne ha hb (nomark _)
abbrev ltD := cmpD fun i j => decide (i < j)
abbrev leD := cmpD fun i j => decide (i ≤ j)
abbrev gtD := cmpD fun i j => decide (j < i)
abbrev geD := cmpD fun i j => decide (j ≤ i)
theorem t_lt (ha : PEM X g W a ma) (hb : PEM X g W b mb) : PTM X g W (.Compare a [.Lt] [b] pos) (mB (mBin ltD ma mb)) := t_cmp op_lt (rv_cmp _) ha hb (nomark _)
theorem t_le (ha : PEM X g W a ma) (hb : PEM X g W b mb) : PTM X g W (.Compare a [.LtE] [b] pos) (mB (mBin leD ma mb)) := t_cmp op_le (rv_cmp _) ha hb (nomark _)
theorem t_gt (ha : PEM X g W a ma) (hb : PEM X g W b mb) : PTM X g W (.Compare a [.Gt] [b] pos) (mB (mBin gtD ma mb)) := t_cmp op_gt (rv_cmp _) ha hb (nomark _)
theorem t_ge (ha : PEM X g W a ma) (hb : PEM X g W b mb) : PTM X g W (.Compare a [.GtE] [b] pos) (mB (mBin geD ma mb)) := t_cmp op_ge (rv_cmp _) ha hb (nomark _)
theorem m_lt (ha : PEM X g W a ma) (hb : PEM X g W b mb) : PEM X g W (.Compare a [.Lt] [b] pos) (mBin ltD ma mb) := m_cmp op_lt (rv_cmp _) ha hb (nomark _)
theorem m_le (ha : PEM X g W a ma) (hb : PEM X g W b mb) : PEM X g W (.Compare a [.LtE] [b] pos) (mBin leD ma mb) := m_cmp op_le (rv_cmp _) ha hb (nomark _)
theorem m_gt (ha : PEM X g W a ma) (hb : PEM X g W b mb) : PEM X g W (.Compare a [.Gt] [b] pos) (mBin gtD ma mb) := m_cmp op_gt (rv_cmp _) ha hb (nomark _)
theorem m_ge (ha : PEM X g W a ma) (hb : PEM X g W b mb) : PEM X g W (.Compare a [.GtE] [b] pos) (mBin geD ma mb) := m_cmp op_ge (rv_cmp _) ha hb (nomark _)
theorem t_isN (ha : PEM X g W a ma) (hb : PEM X g W b mb) : PTM X g W (.Compare a [.Is] [b] pos) (mB (mBin (isND false) ma mb)) := t_cmp op_isN rv_isN ha hb (nomark _)
theorem t_notN (ha : PEM X g W a ma) (hb : PEM X g W b mb) : PTM X g W (.Compare a [.IsNot] [b] pos) (mB (mBin (isND true) ma mb)) := t_cmp op_notN rv_notN ha hb (nomark _)
theorem m_isN (ha : PEM X g W a ma) (hb : PEM X g W b mb) : PEM X g W (.Compare a [.Is] [b] pos) (mBin (isND false) ma mb) := m_cmp op_isN rv_isN ha hb (nomark _)
theorem m_notN (ha : PEM X g W a ma) (hb : PEM X g W b mb) : PEM X g W (.Compare a [.IsNot] [b] pos) (mBin (isND true) ma mb) := m_cmp op_notN rv_notN ha hb (nomark _)
/-- a op b op' c -/
def mChain (f f' : D → D → Option D) (a b c : M D) : M D := bnd a fun x => bnd b fun y => bnd (lft (f x y)) fun z => match z with
  | .bl true => bnd c fun w => lft (f' y w)
  | .bl false => ret (.bl false)
  | _ => lft none
theorem cmpD_some {p : Int → Int → Bool} {x y z : D} (h : cmpD p x y = some z) : ∃ i j, x = .int i ∧ y = .int j ∧ z = .bl (p i j) := by
  cases x <;> cases y <;> simp [cmpD] at h <;> exact ⟨_, _, rfl, rfl, h.symm⟩
theorem m_chain {op op' : CmpOp} {p p' : Int → Int → Bool} (ho : OpR X (compareOp op) (rI0 fun i j => .bl (p i j))) (ho' : OpR X (compareOp op') (rI0 fun i j => .bl (p' i j))) (ha : PEM X g W a ma) (hb : PEM X g W b mb) (hc : PEM X g W c mc)
    (hm : lastMarks [op, op'] [b, c] = false := by with_unfolding_all rfl) : PEM X g W (.Compare a [op, op'] [b, c] pos) (mChain (cmpD p) (cmpD p') ma mb mc) := by
  obtain ⟨ta, h1, h2⟩ := ha
  obtain ⟨tb, h3, h4⟩ := hb
  obtain ⟨tc, h5, h6⟩ := hc
  refine ⟨_, pe_chain ho ho' h1 h3 h5 hm, fun env σ Hf H s Q h => h2 env σ Hf H s _ (h.bnd.imp fun x e1 Hf1 H1 _ s1 k1 v r1 => h4 e1 σ Hf1 H1 s1.sr _ (k1.bnd.imp fun y e2 Hf2 H2 _ s2 k2 w r2 => ?_))⟩
  obtain ⟨z, hz, k3⟩ := Aft.lft s2.sr k2.bnd
  have k4 := k3 Hf2 H2 (Grow.refl s2.sr.ex)
  obtain ⟨i, j, rfl, rfl, rfl⟩ := cmpD_some hz
  cases r1
  cases r2
  refine ⟨i, j, rfl, rfl, _, rfl, ?_⟩
  cases q : p i j with
  | true =>
    rw [q] at k4
    rw [if_pos rfl]
    refine h6 e2 σ Hf2 H2 s2.sr _ (k4.bnd.imp fun u e3 Hf3 H3 _ s3 k5 t r3 => ?_)
    obtain ⟨z, hz, k6⟩ := Aft.lft s3.sr k5
    obtain ⟨i', l, e', rfl, rfl⟩ := cmpD_some hz
    cases e'
    cases r3
    exact ⟨j, l, rfl, rfl, k6 Hf3 H3 (Grow.refl s3.sr.ex) _ (.bl _)⟩
  | false =>
    rw [q] at k4
    rw [if_neg (by decide)]
    exact Aft.ret s2.sr k4 _ (.bl false)
end
end DL

set_option Elab.async false
set_option linter.all false
set_option maxRecDepth 100000
set_option maxHeartbeats 400000
namespace DL
open PySem L2
/-! ### items -/
def ixD : D → D → Option D
  | .lst xs, .int i => atI xs i
  | .tup xs, .int i => atI xs i
  | .str z, .int i => if small z.length = true then (atI z.cps.toList i).map fun c => .str ⟨#[c]⟩ else none
  | .scr ns, .int i => (atI ns i).map .int
  | _, _ => none
section
variable {K : PySem.W.Frag} {g : G} {W : WX}
theorem atI_reps {Hf : Hp} {ds : List D} {vs : List V} {i : Int} {z : D} (r : Reps K g Hf ds vs) (h : atI ds i = some z) : ∃ v, atI vs i = some v ∧ Rep K g Hf z v := by
  unfold atI at h ⊢
  rw [← r.len]
  cases q : ixN ds.length i with
  | none => rw [q] at h; cases h
  | some j =>
    rw [q] at h
    exact Reps.getD r h
theorem rv_ix : RvOk K g (rIx K) ixD := by
  intro Hf H x y dx dy Q e rx ry h
  cases hz : ixD dx dy with
  | none => rw [hz] at h; exact h.elim
  | some z =>
    rw [hz] at h
    cases rx <;> cases ry <;> try (cases hz; done)
    case lst.int h1 r1 i =>
      obtain ⟨v, hv, r⟩ := atI_reps r1 hz
      exact .inl ⟨_, _, _, v, rfl, rfl, SqL.of (e _ _ h1), hv, h v Hf H (Grow.refl e) r⟩
    case tup.int h1 r1 i =>
      obtain ⟨v, hv, r⟩ := atI_reps r1 hz
      exact .inr (.inl ⟨_, _, _, v, rfl, rfl, e.t h1, hv, h v Hf H (Grow.refl e) r⟩)
    case str.int s i =>
      dsimp only [ixD] at hz
      split at hz
      · rename_i c
        cases q : atI s.cps.toList i with
        | none => rw [q] at hz; cases hz
        | some k =>
          rw [q] at hz
          cases hz
          exact .inr (.inr ⟨s, i, k, rfl, rfl, small_le c, q, h _ Hf H (Grow.refl e) (.str _)⟩)
      · cases hz
    case scr.int ns h1 i =>
      dsimp only [ixD] at hz
      cases q : atI ns i with
      | none => rw [q] at hz; cases hz
      | some k =>
        rw [q] at hz
        cases hz
        refine .inl ⟨_, _, _, .int k, rfl, rfl, e.l h1, ?_, h _ Hf H (Grow.refl e) (.int _)⟩
        unfold atI at q ⊢
        rw [List.length_map]
        cases w : ixN ns.length i with
        | none => rw [w] at q; cases q
        | some j =>
          rw [w] at q
          show (ns.map V.int)[j]? = some (.int k)
          have q' : ns[j]? = some k := q
          rw [List.getElem?_map, q']
          rfl
end
/-! ### what a name holds, read without taking it -/
def Sl.val : Sl → Option D
  | .sh d => some d
  | .ow d => some d
  | .pn d => some d
  | .no => none
def scl : D → Bool
  | .non => true | .bl _ => true | .int _ => true | .str _ => true | _ => false
def peek (i : Nat) : M D := fun env => match env[i]?.bind Sl.val with
  | some d => .ok d env
  | none => .bad
section
variable {K : PySem.W.Frag} {g : G} {W : WX} {env : En} {σ : L2.St} {Hf H : Hp}
/-- seen as if it were shared -/
theorem SR.view (s : SR K g env σ Hf H) {i : Nat} {d : D} (h : env[i]?.bind Sl.val = some d) (f : full d = true) : ∃ v Hf', σ[i]? = some (some v) ∧ Ex Hf Hf' ∧ Ex Hf' H ∧ Rep K g Hf' d v := by
  cases e : env[i]? with
  | none => rw [e] at h; cases h
  | some x =>
    rw [e] at h
    cases x with
    | no => cases h
    | sh d' => cases h; obtain ⟨v, e1, r⟩ := s.sh_ e; exact ⟨v, Hf, e1, Ex.refl _, s.ex, r⟩
    | ow d' => cases h; obtain ⟨p, u, e1, e2, e3, r⟩ := s.at_ e rfl; obtain ⟨x1, x2⟩ := grow_freeze s.ex e2 e3; exact ⟨_, _, e1, x1, x2, (r.mono x1).rep upd_same f⟩
    | pn d' => cases h; obtain ⟨p, u, e1, e2, e3, r⟩ := s.at_ e rfl; obtain ⟨x1, x2⟩ := grow_freeze s.ex e2 e3; exact ⟨_, _, e1, x1, x2, (r.mono x1).rep upd_same f⟩
theorem Rep.scl {H H' : Hp} {d : D} {v : V} (r : Rep K g H d v) (h : scl d = true) : Rep K g H' d v := by
  cases r <;> first | (cases h; done) | constructor
theorem Grow.sc {Hf' H' : Hp} (w : Grow Hf' H Hf' H') (e : Ex Hf H) : Grow Hf H Hf H' := ⟨Ex.refl _, e.trans w.h, w.h, fun _ _ _ h => h⟩
/-- f(x), a scalar comes back -/
def mPk1 (f : D → Option D) (i : Nat) : M D := bnd (peek i) fun d => lft (if full d = true then (f d).bind fun z => if scl z = true then some z else none else none)
/-- x op e -/
def mPk2 (f : D → D → Option D) (i : Nat) (b : M D) : M D := bnd (peek i) fun _ => bnd b fun y => bnd (peek i) fun d => lft (if full d = true then (f d y).bind fun z => if scl z = true then some z else none else none)
theorem peek_ok {i : Nat} {P : D → En → Hp → Hp → Prop} (s : SR K g env σ Hf H) (h : Aft K g W env σ Hf H (peek i env) P) : ∃ d, env[i]?.bind Sl.val = some d ∧ P d env Hf H := by
  unfold peek at h
  cases e : env[i]?.bind Sl.val with
  | none => rw [e] at h; exact h.elim
  | some d => rw [e] at h; exact ⟨d, rfl, h Hf H (Step.refl s)⟩
theorem sc_bind {o : Option D} {z : D} (h : (o.bind fun z => if DL.scl z = true then some z else none) = some z) : o = some z ∧ DL.scl z = true := by
  cases o with
  | none => cases h
  | some w =>
    by_cases c : DL.scl w = true
    · have h' : (if DL.scl w = true then some w else none) = some z := h
      rw [if_pos c] at h'
      cases h'
      exact ⟨rfl, c⟩
    · have h' : (if DL.scl w = true then some w else none) = some z := h
      rw [if_neg c] at h'
      cases h'
theorem ev_pk1 {r : List V → Hp → VK → Prop} {f : List D → Option D} (hr : RcOk K g r f) (i : Nat) : EvM K g W (tCB r (tCons (tVar i) tNil)) (mPk1 (fun d => f [d]) i) :=
  fun env σ Hf H s Q h => by
    obtain ⟨d, hd, h1⟩ := peek_ok s h.bnd
    obtain ⟨z, hz, k⟩ := Aft.lft s h1
    split at hz
    · rename_i c
      obtain ⟨h2, h3⟩ := sc_bind hz
      obtain ⟨v, Hf', e1, x1, x2, r1⟩ := s.view hd c
      refine ⟨v, e1, hr Hf' H [v] [d] Q x2 (.cons r1 .nil) ?_⟩
      rw [show f [d] = some z from h2]
      exact fun v Hf2 H2 w r => k Hf H2 ⟨Ex.refl _, s.ex.trans w.h, w.h, fun _ _ _ h => h⟩ v (r.scl h3)
    · cases hz
theorem SR.val_at (s : SR K g env σ Hf H) {i : Nat} {d : D} (h : env[i]?.bind Sl.val = some d) : ∃ v, σ[i]? = some (some v) := by
  cases e : env[i]? with
  | none => rw [e] at h; cases h
  | some x =>
    cases x with
    | no => rw [e] at h; cases h
    | sh d' => obtain ⟨v, e1, r⟩ := s.sh_ e; exact ⟨v, e1⟩
    | ow d' => obtain ⟨p, u, e1, _⟩ := s.at_ e rfl; exact ⟨_, e1⟩
    | pn d' => obtain ⟨p, u, e1, _⟩ := s.at_ e rfl; exact ⟨_, e1⟩
theorem ev_pk2 {r : R2} {f : D → D → Option D} {tb : TE} {b : M D} (hr : RvOk K g r f) (i : Nat) (hb : EvM K g W tb b) : EvM K g W (tOp r (tVar i) tb) (mPk2 f i b) :=
  fun env σ Hf H s Q h => by
    obtain ⟨d0, hd0, h0⟩ := peek_ok s h.bnd
    obtain ⟨v, hv⟩ := s.val_at hd0
    refine ⟨v, hv, hb env σ Hf H s _ (h0.bnd.imp fun y e1 Hf1 H1 _ s1 h1 w r1 => ?_)⟩
    obtain ⟨d, hd, h2⟩ := peek_ok s1.sr h1.bnd
    obtain ⟨z, hz, k⟩ := Aft.lft s1.sr h2
    split at hz
    · rename_i c
      obtain ⟨h2, h3⟩ := sc_bind hz
      obtain ⟨v', Hf', e1, x1, x2, r2⟩ := s1.sr.view hd c
      rw [hv] at e1
      cases e1
      refine hr Hf' H1 v w d y Q x2 r2 (r1.mono x1) ?_
      rw [h2]
      exact fun v Hf2 H2 w r => k Hf1 H2 ⟨Ex.refl _, s1.sr.ex.trans w.h, w.h, fun _ _ _ h => h⟩ v (r.scl h3)
    · cases hz
def mIxS (i : Nat) (b : M D) : M D := bnd (peek i) fun _ => bnd b fun y => bnd (peek i) fun d => lft (ixD d y)
theorem ev_ixS (i : Nat) {tb : TE} {b : M D} (hb : EvM K g W tb b) : EvM K g W (tOp (rIx K) (tVar i) tb) (mIxS i b) :=
  fun env σ Hf H s Q h => by
    obtain ⟨d0, hd0, h0⟩ := peek_ok s h.bnd
    obtain ⟨v, hv⟩ := s.val_at hd0
    refine ⟨v, hv, hb env σ Hf H s _ (h0.bnd.imp fun y e1 Hf1 H1 _ s1 h1 w r1 => ?_)⟩
    obtain ⟨d, hd, h2⟩ := peek_ok s1.sr h1.bnd
    obtain ⟨z, hz, k⟩ := Aft.lft s1.sr h2
    have own : ∀ x : Sl, e1[i]? = some x → x.mut = some d → rIx K v w H1 Q := fun x ex mx => by
      obtain ⟨p, u, c1, c2, c3, r⟩ := s1.sr.at_ ex mx
      rw [hv] at c1
      cases c1
      cases r with
      | lst r =>
        cases r1 <;> try (cases hz; done)
        case int j =>
          obtain ⟨v', hv', r'⟩ := atI_reps r hz
          exact .inl ⟨_, _, _, v', rfl, rfl, SqL.of c2, hv', k _ _ (Grow.refl s1.sr.ex) v' r'⟩
      | dic _ _ => cases r1 <;> cases hz
      | dct _ _ => cases r1 <;> cases hz
      | ins _ _ _ => cases r1 <;> cases hz
    cases e : e1[i]? with
    | none => rw [e] at hd; cases hd
    | some x =>
      cases x with
      | no => rw [e] at hd; cases hd
      | sh d' =>
        rw [e] at hd
        cases hd
        obtain ⟨v', e2, r2⟩ := s1.sr.sh_ e
        rw [hv] at e2
        cases e2
        refine rv_ix Hf1 H1 v w d y Q s1.sr.ex r2 r1 ?_
        rw [hz]
        exact fun v Hf2 H2 w r => k Hf2 H2 w v r
      | ow d' => rw [e] at hd; cases hd; exact own _ e rfl
      | pn d' => rw [e] at hd; cases hd; exact own _ e rfl
end
section
variable {X : Cx} {g : G} {W : WX} {a b : Expr} {ma mb : M D} {pos : Pos}
theorem m_ix (ha : PEM X g W a ma) (hb : PEM X g W b mb) (hs : PlainIx b := by exact fun _ _ => rfl) : PEM X g W (.Subscript a b pos) (mBin ixD ma mb) := by
  obtain ⟨ta, h1, h2⟩ := ha
  obtain ⟨tb, h3, h4⟩ := hb
  exact ⟨_, pe_ix ix_seq h1 h3 hs, rv_ix.ev h2 h4⟩
theorem m_ixS (i : Nat) {x : Str} {p2 : Pos} (hb : PEM X g W b mb) (hN : X.N[i]? = some x := by rfl) (hv : Vis X.env.scope x := by first | exact Or.inl rfl | exact Or.inr (Or.inl rfl) | exact Or.inr (Or.inr rfl))
    (hs : PlainIx b := by exact fun _ _ => rfl) (hd : (x == ("__debug__" : Str)) = false := by decide) (hcd : (x == ("__classdict__" : Str)) = false := by decide) : PEM X g W (.Subscript (.Name x p2) b pos) (mIxS i mb) := by
  obtain ⟨tb, h3, h4⟩ := hb
  exact ⟨_, pe_ix ix_seq (pe_var hN hv hd hcd) h3 hs, ev_ixS i h4⟩
/-- x op e, the name x only looked at -/
theorem m_cmpS (i : Nat) {op : CmpOp} {r : R2} {f : D → D → Option D} {x : Str} {p2 : Pos} (ho : OpR X (compareOp op) r) (hr : RvOk X.K g r f) (hb : PEM X g W b mb) (hm : behindInMarks op b = false) (hN : X.N[i]? = some x := by rfl)
    (hv : Vis X.env.scope x := by first | exact Or.inl rfl | exact Or.inr (Or.inl rfl) | exact Or.inr (Or.inr rfl)) (hd : (x == ("__debug__" : Str)) = false := by decide) (hcd : (x == ("__classdict__" : Str)) = false := by decide) : PEM X g W (.Compare (.Name x p2) [op] [b] pos) (mPk2 f i mb) := by
  obtain ⟨tb, h3, h4⟩ := hb
  exact ⟨_, pe_cmpR ho (pe_var hN hv hd hcd) h3 hm, ev_pk2 hr i h4⟩
theorem t_cmpS (i : Nat) {op : CmpOp} {r : R2} {f : D → D → Option D} {x : Str} {p2 : Pos} (ho : OpR X (compareOp op) r) (hr : RvOk X.K g r f) (hb : PEM X g W b mb) (hm : behindInMarks op b = false) (hN : X.N[i]? = some x := by rfl)
    (hv : Vis X.env.scope x := by first | exact Or.inl rfl | exact Or.inr (Or.inl rfl) | exact Or.inr (Or.inr rfl)) (hd : (x == ("__debug__" : Str)) = false := by decide) (hcd : (x == ("__classdict__" : Str)) = false := by decide) : PTM X g W (.Compare (.Name x p2) [op] [b] pos) (mB (mPk2 f i mb)) := by
  obtain ⟨tb, h3, h4⟩ := hb
  exact ⟨_, pt_cmpR ho (pe_var hN hv hd hcd) h3 hm, ev_Test (ev_pk2 hr i h4)⟩
theorem t_eqS {k : Nat} (i : Nat) {x : Str} {p2 : Pos} (hr : Room k X.A) (hb : PEM X g W b mb) (hN : X.N[i]? = some x := by rfl)
    (hv : Vis X.env.scope x := by first | exact Or.inl rfl | exact Or.inr (Or.inl rfl) | exact Or.inr (Or.inr rfl)) (hd : (x == ("__debug__" : Str)) = false := by decide) (hcd : (x == ("__classdict__" : Str)) = false := by decide) : PTM X g W (.Compare (.Name x p2) [.Eq] [b] pos) (mB (mPk2 eqD i mb)) :=
  t_cmpS i (op_eqD hr.units) rv_eq hb (nomark _) hN hv hd hcd
theorem t_neS {k : Nat} (i : Nat) {x : Str} {p2 : Pos} (hr : Room k X.A) (hb : PEM X g W b mb) (hN : X.N[i]? = some x := by rfl)
    (hv : Vis X.env.scope x := by first | exact Or.inl rfl | exact Or.inr (Or.inl rfl) | exact Or.inr (Or.inr rfl)) (hd : (x == ("__debug__" : Str)) = false := by decide) (hcd : (x == ("__classdict__" : Str)) = false := by decide) : PTM X g W (.Compare (.Name x p2) [.NotEq] [b] pos) (mB (mPk2 neD i mb)) :=
  t_cmpS i (op_neD hr.units) rv_ne hb (nomark _) hN hv hd hcd
end
/-! ### calls of built-ins -/
def mCb (f : List D → Option D) (a : M (List D)) : M D := bnd a fun xs => lft (f xs)
def lenD : List D → Option D
  | [.lst xs] => some (.int xs.length)
  | [.tup xs] => some (.int xs.length)
  | [.scr xs] => some (.int xs.length)
  | [.str x] => if small x.length = true then some (.int x.length) else none
  | _ => none
def listD : List D → Option D
  | [.lst xs] => some (.lst xs)
  | [.tup xs] => some (.lst xs)
  | _ => none
def tupleD : List D → Option D
  | [.lst xs] => some (.tup xs)
  | [.tup xs] => some (.tup xs)
  | _ => none
def absD : List D → Option D
  | [.int i] => some (.int (if i < 0 then -i else i))
  | _ => none
def intD : List D → Option D
  | [.int i] => some (.int i)
  | [.bl k] => some (.int (if k then 1 else 0))
  | _ => none
def boolD : List D → Option D
  | [.int i] => some (.bl (i != 0))
  | [.bl k] => some (.bl k)
  | _ => none
def max2D : List D → Option D
  | [.int i, .int j] => some (.int (if j > i then j else i))
  | _ => none
def min2D : List D → Option D
  | [.int i, .int j] => some (.int (if j < i then j else i))
  | _ => none
def asInts : List D → Option (List Int)
  | [] => some []
  | .int i :: r => (asInts r).map (i :: ·)
  | _ => none
def asBls : List D → Option (List Bool)
  | [] => some []
  | .bl i :: r => (asBls r).map (i :: ·)
  | _ => none
def maxL (ns : List Int) : Int := ns.foldl max (ns.headD 0)
def minL (ns : List Int) : Int := ns.foldl min (ns.headD 0)
def max1D : List D → Option D
  | [.lst xs] => (asInts xs).bind fun ns => if ns = [] then none else some (.int (maxL ns))
  | _ => none
def min1D : List D → Option D
  | [.lst xs] => (asInts xs).bind fun ns => if ns = [] then none else some (.int (minL ns))
  | _ => none
def sumD : List D → Option D
  | [.lst xs] => (asInts xs).map fun ns => .int ns.sum
  | _ => none
def allD : List D → Option D
  | [.lst xs] => (asBls xs).map fun ns => .bl (ns.all id)
  | _ => none
def anyD : List D → Option D
  | [.lst xs] => (asBls xs).map fun ns => .bl (ns.any id)
  | _ => none
section
variable {K : PySem.W.Frag} {g : G} {W : WX}
theorem asInts_reps : ∀ {Hf : Hp} {ds : List D} {vs : List V} {ns : List Int}, Reps K g Hf ds vs → asInts ds = some ns → vs = ns.map V.int
  | _, _, _, _, .nil, h => by cases h; rfl
  | _, _, _, _, .cons (d := d) (ds := ds) a b, h => by
    cases a <;> try (cases h; done)
    case int i =>
      unfold asInts at h
      cases q : asInts ds with
      | none => rw [q] at h; cases h
      | some r => rw [q] at h; cases h; rw [asInts_reps b q]; rfl
theorem asBls_reps : ∀ {Hf : Hp} {ds : List D} {vs : List V} {ns : List Bool}, Reps K g Hf ds vs → asBls ds = some ns → vs = ns.map V.bl
  | _, _, _, _, .nil, h => by cases h; rfl
  | _, _, _, _, .cons (d := d) (ds := ds) a b, h => by
    cases a <;> try (cases h; done)
    case bl i =>
      unfold asBls at h
      cases q : asBls ds with
      | none => rw [q] at h; cases h
      | some r => rw [q] at h; cases h; rw [asBls_reps b q]; rfl
theorem asInts_map (ns : List Int) : asInts (ns.map D.int) = some ns := by
  induction ns with
  | nil => rfl
  | cons a r ih => rw [List.map_cons]; unfold asInts; rw [ih]; rfl
theorem asBls_map (ns : List Bool) : asBls (ns.map D.bl) = some ns := by
  induction ns with
  | nil => rfl
  | cons a r ih => rw [List.map_cons]; unfold asBls; rw [ih]; rfl
theorem rc_of {r : List V → Hp → VK → Prop} {f : List D → Option D} (h : ∀ Hf H xs ds z Q, Ex Hf H → Reps K g Hf ds xs → f ds = some z → (∀ v Hf' H', Grow Hf H Hf' H' → Rep K g Hf' z v → Q v H') → r xs H Q) : RcOk K g r f := by
  intro Hf H xs ds Q e r1 q
  cases hz : f ds with
  | none => rw [hz] at q; exact q.elim
  | some z => rw [hz] at q; exact h Hf H xs ds z Q e r1 hz q
theorem rc_len : RcOk K g (fun xs H Q => ∃ x n, xs = [x] ∧ LenV K x H n ∧ Q (.int n) H) lenD := rc_of fun Hf H xs ds z Q e r h q => by
  cases r with
  | nil => cases h
  | cons a b =>
    cases b with
    | cons c d => cases a <;> cases h
    | nil =>
      cases a <;> try (cases h; done)
      case str x =>
        dsimp only [lenD] at h
        split at h
        · rename_i c
          cases h
          exact ⟨_, _, rfl, ⟨small_le c, rfl⟩, q _ Hf H (Grow.refl e) (.int _)⟩
        · cases h
      case lst h1 r1 => cases h; exact ⟨_, _, rfl, .inl ⟨_, SqL.of (e _ _ h1), r1.len⟩, q _ Hf H (Grow.refl e) (.int _)⟩
      case tup h1 r1 => cases h; exact ⟨_, _, rfl, .inr ⟨_, e.t h1, r1.len⟩, q _ Hf H (Grow.refl e) (.int _)⟩
      case scr h1 => cases h; exact ⟨_, _, rfl, .inl ⟨_, e.l h1, by rw [List.length_map]⟩, q _ Hf H (Grow.refl e) (.int _)⟩
theorem one_of {Hf : Hp} {xs : List V} {ds : List D} {f : List D → Option D} {z : D} (r : Reps K g Hf ds xs) (h : f ds = some z) (h0 : f [] = none) (h2 : ∀ a b c, f (a :: b :: c) = none) : ∃ d v, ds = [d] ∧ xs = [v] ∧ Rep K g Hf d v := by
  cases r with
  | nil => rw [h0] at h; cases h
  | cons a b =>
    cases b with
    | nil => exact ⟨_, _, rfl, rfl, a⟩
    | cons c d => rw [h2] at h; cases h
theorem rc_list : RcOk K g (fun xs H Q => ∃ p ys, xs = [.ref p] ∧ (SqL K H p ys ∨ SqT K H p ys) ∧ ∀ l, H l = none → Q (.ref l) (upd H l (.lst ys))) listD := rc_of fun Hf H xs ds z Q e r h q => by
  obtain ⟨d, v, rfl, rfl, r0⟩ := one_of r h rfl (fun a b c => by cases a <;> rfl)
  cases r0 <;> try (cases h; done)
  case lst h1 r1 => cases h; exact ⟨_, _, rfl, .inl (SqL.of (e _ _ h1)), fun l hl => q _ _ _ (new_lst e hl r1).1 (new_lst e hl r1).2⟩
  case tup h1 r1 => cases h; exact ⟨_, _, rfl, .inr (e.t h1), fun l hl => q _ _ _ (new_lst e hl r1).1 (new_lst e hl r1).2⟩
theorem rf_list : RcOkF K g (fun xs H Q => ∃ p ys, xs = [.ref p] ∧ (SqL K H p ys ∨ SqT K H p ys) ∧ ∀ l, H l = none → Q (.ref l) (upd H l (.lst ys))) listD := by
  intro Hf H xs ds Q e r q
  cases hz : listD ds with
  | none => rw [hz] at q; exact q.elim
  | some z =>
    rw [hz] at q
    obtain ⟨d, v, rfl, rfl, r0⟩ := one_of r hz rfl (fun a b c => by cases a <;> rfl)
    cases r0 <;> try (cases hz; done)
    case lst h1 r1 => cases hz; exact ⟨_, _, rfl, .inl (SqL.of (e _ _ h1)), fun l hl => q l Hf _ _ (own_new e hl) hl upd_same (e.back hl) (.lst r1)⟩
    case tup h1 r1 => cases hz; exact ⟨_, _, rfl, .inr (e.t h1), fun l hl => q l Hf _ _ (own_new e hl) hl upd_same (e.back hl) (.lst r1)⟩
theorem rc_tuple : RcOk K g (fun xs H Q => ∃ p ys, xs = [.ref p] ∧ ((SqL K H p ys ∧ ∀ l, H l = none → Q (.ref l) (upd H l (.tup ys))) ∨ (SqT K H p ys ∧ Q (.ref p) H))) tupleD := rc_of fun Hf H xs ds z Q e r h q => by
  obtain ⟨d, v, rfl, rfl, r0⟩ := one_of r h rfl (fun a b c => by cases a <;> rfl)
  cases r0 <;> try (cases h; done)
  case lst h1 r1 => cases h; exact ⟨_, _, rfl, .inl ⟨SqL.of (e _ _ h1), fun l hl => q _ _ _ (new_tup e hl r1).1 (new_tup e hl r1).2⟩⟩
  case tup h1 r1 => cases h; exact ⟨_, _, rfl, .inr ⟨e.t h1, q _ Hf H (Grow.refl e) (.tup h1 r1)⟩⟩
theorem rc_abs : RcOk K g (fun xs H Q => ∃ i, xs = [.int i] ∧ Q (.int (if i < 0 then -i else i)) H) absD := rc_of fun Hf H xs ds z Q e r h q => by
  obtain ⟨d, v, rfl, rfl, r0⟩ := one_of r h rfl (fun a b c => by cases a <;> rfl)
  cases r0 <;> try (cases h; done)
  case int i => cases h; exact ⟨i, rfl, q _ Hf H (Grow.refl e) (.int _)⟩
theorem rc_int : RcOk K g (fun xs H Q => (∃ i, xs = [.int i] ∧ Q (.int i) H) ∨ ∃ k, xs = [.bl k] ∧ Q (.int (if k then 1 else 0)) H) intD := rc_of fun Hf H xs ds z Q e r h q => by
  obtain ⟨d, v, rfl, rfl, r0⟩ := one_of r h rfl (fun a b c => by cases a <;> rfl)
  cases r0 <;> try (cases h; done)
  case int i => cases h; exact .inl ⟨i, rfl, q _ Hf H (Grow.refl e) (.int _)⟩
  case bl i => cases h; exact .inr ⟨i, rfl, q _ Hf H (Grow.refl e) (.int _)⟩
theorem rc_bool : RcOk K g (fun xs H Q => (∃ i, xs = [.int i] ∧ Q (.bl (i != 0)) H) ∨ ∃ k, xs = [.bl k] ∧ Q (.bl k) H) boolD := rc_of fun Hf H xs ds z Q e r h q => by
  obtain ⟨d, v, rfl, rfl, r0⟩ := one_of r h rfl (fun a b c => by cases a <;> rfl)
  cases r0 <;> try (cases h; done)
  case int i => cases h; exact .inl ⟨i, rfl, q _ Hf H (Grow.refl e) (.bl _)⟩
  case bl i => cases h; exact .inr ⟨i, rfl, q _ Hf H (Grow.refl e) (.bl _)⟩
theorem two_ints {Hf : Hp} {xs : List V} {ds : List D} {f : List D → Option D} {z : D} {F : Int → Int → D} (r : Reps K g Hf ds xs) (h : f ds = some z) (h1 : ∀ ds z, f ds = some z → ∃ i j, ds = [.int i, .int j] ∧ z = F i j) : ∃ i j, xs = [.int i, .int j] ∧ z = F i j := by
  obtain ⟨i, j, rfl, rfl⟩ := h1 ds z h
  cases r with
  | cons a b =>
    cases b with
    | cons c d =>
      cases d
      cases a
      cases c
      exact ⟨i, j, rfl, rfl⟩
theorem rc_max2 : RcOk K g (fun xs H Q => ∃ i j, xs = [.int i, .int j] ∧ Q (.int (if j > i then j else i)) H) max2D := rc_of fun Hf H xs ds z Q e r h q => by
  obtain ⟨i, j, rfl, rfl⟩ := two_ints (F := fun i j => .int (if j > i then j else i)) r h (fun ds z h => by
    unfold max2D at h
    split at h
    · cases h; exact ⟨_, _, rfl, rfl⟩
    · cases h)
  exact ⟨i, j, rfl, q _ Hf H (Grow.refl e) (.int _)⟩
theorem rc_min2 : RcOk K g (fun xs H Q => ∃ i j, xs = [.int i, .int j] ∧ Q (.int (if j < i then j else i)) H) min2D := rc_of fun Hf H xs ds z Q e r h q => by
  obtain ⟨i, j, rfl, rfl⟩ := two_ints (F := fun i j => .int (if j < i then j else i)) r h (fun ds z h => by
    unfold min2D at h
    split at h
    · cases h; exact ⟨_, _, rfl, rfl⟩
    · cases h)
  exact ⟨i, j, rfl, q _ Hf H (Grow.refl e) (.int _)⟩
theorem foldl_max (ns : List Int) : ∀ a : Int, (ns.foldl max a = a ∨ ns.foldl max a ∈ ns) ∧ a ≤ ns.foldl max a ∧ ∀ y ∈ ns, y ≤ ns.foldl max a := by
  induction ns with
  | nil => exact fun a => ⟨.inl rfl, Int.le_refl _, fun _ h => nomatch h⟩
  | cons x r ih =>
    intro a
    rw [List.foldl_cons]
    obtain ⟨h1, h2, h3⟩ := ih (max a x)
    refine ⟨?_, Int.le_trans (Int.le_max_left _ _) h2, fun y hy => ?_⟩
    · rcases h1 with h1 | h1
      · rw [h1]
        rcases Int.le_total a x with q | q
        · rw [Int.max_eq_right q]; exact .inr List.mem_cons_self
        · rw [Int.max_eq_left q]; exact .inl rfl
      · exact .inr (List.mem_cons_of_mem _ h1)
    · rcases List.mem_cons.mp hy with rfl | hy
      · exact Int.le_trans (Int.le_max_right _ _) h2
      · exact h3 y hy
theorem foldl_min (ns : List Int) : ∀ a : Int, (ns.foldl min a = a ∨ ns.foldl min a ∈ ns) ∧ ns.foldl min a ≤ a ∧ ∀ y ∈ ns, ns.foldl min a ≤ y := by
  induction ns with
  | nil => exact fun a => ⟨.inl rfl, Int.le_refl _, fun _ h => nomatch h⟩
  | cons x r ih =>
    intro a
    rw [List.foldl_cons]
    obtain ⟨h1, h2, h3⟩ := ih (min a x)
    refine ⟨?_, Int.le_trans h2 (Int.min_le_left _ _), fun y hy => ?_⟩
    · rcases h1 with h1 | h1
      · rw [h1]
        rcases Int.le_total a x with q | q
        · rw [Int.min_eq_left q]; exact .inl rfl
        · rw [Int.min_eq_right q]; exact .inr List.mem_cons_self
      · exact .inr (List.mem_cons_of_mem _ h1)
    · rcases List.mem_cons.mp hy with rfl | hy
      · exact Int.le_trans h2 (Int.min_le_right _ _)
      · exact h3 y hy
theorem maxL_ok {ns : List Int} (h : ns ≠ []) : maxL ns ∈ ns ∧ ∀ y ∈ ns, y ≤ maxL ns := by
  cases ns with
  | nil => exact absurd rfl h
  | cons a r =>
    obtain ⟨h1, h2, h3⟩ := foldl_max (a :: r) a
    refine ⟨?_, h3⟩
    rcases h1 with h1 | h1
    · show (a :: r).foldl max a ∈ _
      rw [h1]; exact List.mem_cons_self
    · exact h1
theorem minL_ok {ns : List Int} (h : ns ≠ []) : minL ns ∈ ns ∧ ∀ y ∈ ns, minL ns ≤ y := by
  cases ns with
  | nil => exact absurd rfl h
  | cons a r =>
    obtain ⟨h1, h2, h3⟩ := foldl_min (a :: r) a
    refine ⟨?_, h3⟩
    rcases h1 with h1 | h1
    · show (a :: r).foldl min a ∈ _
      rw [h1]; exact List.mem_cons_self
    · exact h1
theorem rc_max1 : RcOk K g (rMax K) max1D := rc_of fun Hf H xs ds z Q e r h q => by
  obtain ⟨d, v, rfl, rfl, r0⟩ := one_of r h rfl (fun a b c => by cases a <;> rfl)
  cases r0 <;> try (cases h; done)
  case lst ds vs h1 r1 =>
    dsimp only [max1D] at h
    cases c : asInts ds with
    | none => rw [c] at h; cases h
    | some ns =>
      rw [c] at h
      have h' : (if ns = [] then none else some (D.int (maxL ns))) = some z := h
      split at h'
      · cases h'
      · rename_i hn
        cases h'
        have := asInts_reps r1 c
        subst this
        refine ⟨_, ns, rfl, SqL.of (e _ _ h1), List.length_pos_iff.mpr hn, fun m hm hle => ?_⟩
        have em : m = maxL ns := Int.le_antisymm ((maxL_ok hn).2 m hm) (hle _ (maxL_ok hn).1)
        rw [em]
        exact q _ Hf H (Grow.refl e) (.int _)
theorem rc_min1 : RcOk K g (rMin K) min1D := rc_of fun Hf H xs ds z Q e r h q => by
  obtain ⟨d, v, rfl, rfl, r0⟩ := one_of r h rfl (fun a b c => by cases a <;> rfl)
  cases r0 <;> try (cases h; done)
  case lst ds vs h1 r1 =>
    dsimp only [min1D] at h
    cases c : asInts ds with
    | none => rw [c] at h; cases h
    | some ns =>
      rw [c] at h
      have h' : (if ns = [] then none else some (D.int (minL ns))) = some z := h
      split at h'
      · cases h'
      · rename_i hn
        cases h'
        have := asInts_reps r1 c
        subst this
        refine ⟨_, ns, rfl, SqL.of (e _ _ h1), List.length_pos_iff.mpr hn, fun m hm hle => ?_⟩
        have em : m = minL ns := Int.le_antisymm (hle _ (minL_ok hn).1) ((minL_ok hn).2 m hm)
        rw [em]
        exact q _ Hf H (Grow.refl e) (.int _)
theorem rc_sum : RcOk K g (rSum K) sumD := rc_of fun Hf H xs ds z Q e r h q => by
  obtain ⟨d, v, rfl, rfl, r0⟩ := one_of r h rfl (fun a b c => by cases a <;> rfl)
  cases r0 <;> try (cases h; done)
  case lst ds vs h1 r1 =>
    dsimp only [sumD] at h
    cases c : asInts ds with
    | none => rw [c] at h; cases h
    | some ns =>
      rw [c] at h
      cases h
      have := asInts_reps r1 c
      subst this
      exact ⟨_, ns, rfl, SqL.of (e _ _ h1), q _ Hf H (Grow.refl e) (.int _)⟩
theorem rc_all : RcOk K g (rAll K) allD := rc_of fun Hf H xs ds z Q e r h q => by
  obtain ⟨d, v, rfl, rfl, r0⟩ := one_of r h rfl (fun a b c => by cases a <;> rfl)
  cases r0 <;> try (cases h; done)
  case lst ds vs h1 r1 =>
    dsimp only [allD] at h
    cases c : asBls ds with
    | none => rw [c] at h; cases h
    | some ns =>
      rw [c] at h
      cases h
      have := asBls_reps r1 c
      subst this
      exact ⟨_, ns, rfl, SqL.of (e _ _ h1), q _ Hf H (Grow.refl e) (.bl _)⟩
theorem rc_any : RcOk K g (rAny K) anyD := rc_of fun Hf H xs ds z Q e r h q => by
  obtain ⟨d, v, rfl, rfl, r0⟩ := one_of r h rfl (fun a b c => by cases a <;> rfl)
  cases r0 <;> try (cases h; done)
  case lst ds vs h1 r1 =>
    dsimp only [anyD] at h
    cases c : asBls ds with
    | none => rw [c] at h; cases h
    | some ns =>
      rw [c] at h
      cases h
      have := asBls_reps r1 c
      subst this
      exact ⟨_, ns, rfl, SqL.of (e _ _ h1), q _ Hf H (Grow.refl e) (.bl _)⟩
end
section
variable {X : Cx} {g : G} {W : WX} {x : Str} {p pos : Pos} {e : Expr} {es : List Expr} {ma : M (List D)} {id T : String} {r : List V → Hp → VK → Prop} {f : List D → Option D}
theorem m_cb (hc : CallR X (.builtin id) r) (hr : RcOk X.K g r f) (hm : X.mg x = none) (hv : bootBuiltins x = some (.builtin id)) (ha : PAM X g W (e :: es) ma) (hg : Gl X x := by rfl) (hn : x ≠ "__name__" := by decide) (hdb : (x == ("__debug__" : Str)) = false := by decide)
    (he : starEach (e :: es) X.env = (false, eval e X.env) :: starEach es X.env := by rfl) (hpl : (backTo pos (starEach es X.env)).any (·.1) = false := by rfl) : PEM X g W (.Call (.Name x p) (e :: es) [] pos) (mCb f ma) := by
  obtain ⟨t, h1, h2⟩ := ha
  exact ⟨_, pe_callB hc hg hm hv h1 hn hdb he hpl, hr.ev h2⟩
theorem m_ct (hc : CallR X (.type T) r) (hr : RcOk X.K g r f) (hm : X.mg x = none) (hv : bootBuiltins x = some (.type T)) (ha : PAM X g W (e :: es) ma) (hg : Gl X x := by rfl) (hn : x ≠ "__name__" := by decide) (hdb : (x == ("__debug__" : Str)) = false := by decide)
    (he : starEach (e :: es) X.env = (false, eval e X.env) :: starEach es X.env := by rfl) (hpl : (backTo pos (starEach es X.env)).any (·.1) = false := by rfl) : PEM X g W (.Call (.Name x p) (e :: es) [] pos) (mCb f ma) := by
  obtain ⟨t, h1, h2⟩ := ha
  exact ⟨_, pe_callTy hc hg hm hv h1 hn hdb he hpl, hr.ev h2⟩
theorem f_ct (hc : CallR X (.type T) r) (hr : RcOkF X.K g r f) (hm : X.mg x = none) (hv : bootBuiltins x = some (.type T)) (ha : PAM X g W (e :: es) ma) (hg : Gl X x := by rfl) (hn : x ≠ "__name__" := by decide) (hdb : (x == ("__debug__" : Str)) = false := by decide)
    (he : starEach (e :: es) X.env = (false, eval e X.env) :: starEach es X.env := by rfl) (hpl : (backTo pos (starEach es X.env)).any (·.1) = false := by rfl) : PEF X g W (.Call (.Name x p) (e :: es) [] pos) (mCb f ma) := by
  obtain ⟨t, h1, h2⟩ := ha
  exact ⟨_, pe_callTy hc hg hm hv h1 hn hdb he hpl, hr.ev h2⟩
/-- f(x), the name x only looked at -/
theorem m_cbS (i : Nat) {y : Str} {p3 : Pos} (hc : CallR X (.builtin id) r) (hr : RcOk X.K g r f) (hm : X.mg x = none) (hv : bootBuiltins x = some (.builtin id)) (hN : X.N[i]? = some y := by rfl)
    (hvi : Vis X.env.scope y := by first | exact Or.inl rfl | exact Or.inr (Or.inl rfl) | exact Or.inr (Or.inr rfl)) (hg : Gl X x := by rfl) (hn : x ≠ "__name__" := by decide) (hdb : (x == ("__debug__" : Str)) = false := by decide) (hd : (y == ("__debug__" : Str)) = false := by decide) (hcd : (y == ("__classdict__" : Str)) = false := by decide)
    (he : starEach [.Name y p3] X.env = (false, eval (.Name y p3) X.env) :: starEach [] X.env := by rfl) (hpl : (backTo pos (starEach [] X.env)).any (·.1) = false := by rfl) : PEM X g W (.Call (.Name x p) [.Name y p3] [] pos) (mPk1 (fun d => f [d]) i) :=
  ⟨_, pe_callB hc hg hm hv (pa_cons (pe_var hN hvi hd hcd) pa_nil he) hn hdb he hpl, ev_pk1 hr i⟩
end
end DL

set_option Elab.async false
set_option linter.all false
set_option maxRecDepth 100000
set_option maxHeartbeats 400000
namespace DL
open PySem L2
/-! ### statements -/
abbrev S := M Ctl
section
variable (K : PySem.W.Frag) (g : G) (W : WX)
/-- what is behind a statement -/
def Out (env : En) (σ : L2.St) (Hf H : Hp) (r : Rs Ctl) (Z : Ends) : Prop :=
  match r with
  | .ok .nx env' => ∀ σ' Hf' H', Step K g env σ Hf H env' σ' Hf' H' → Z.nx σ' H'
  | .ok .bk env' => ∀ σ' Hf' H', Step K g env σ Hf H env' σ' Hf' H' → Z.bk σ' H'
  | .ok .ct env' => ∀ σ' Hf' H', Step K g env σ Hf H env' σ' Hf' H' → Z.ct σ' H'
  | .ok (.rt d) env' => ∀ σ' Hf' H', Step K g env σ Hf H env' σ' Hf' H' → ∀ v, Rep K g Hf' d v → Z.rt v H'
  | .ok (.rto d) env' => ∀ σ' Hf' H', Step K g env σ Hf H env' σ' Hf' H' → ∀ p, New K g env' σ' H Hf' H' d p → Z.rt (.ref p) H'
  | .ex c d env' => XGot K g W env σ Hf H c d env'
  | .bad => False
def EvS (ts : TS) (m : S) : Prop := ∀ env σ Hf H, SR K g env σ Hf H → ∀ Z : Ends, Out K g W env σ Hf H (m env) Z → ts Z σ H
end
def sSeq (a b : S) : S := fun e => match a e with
  | .ok .nx e' => b e'
  | r => r
def sNx : S := ret .nx
def sIf (c : M Bool) (a b : S) : S := bnd c fun x => if x = true then a else b
def sRet (m : M D) : S := bnd m fun d => ret (.rt d)
def sRetF (m : M D) : S := bnd m fun d => ret (.rto d)
def sDrop (m : M D) : S := bnd m fun _ => ret .nx
/-- a name is stored -/
def sto (i : Nat) (x : Sl) : S := fun env => match env[i]? with
  | some (.pn _) => .bad
  | some _ => .ok .nx (env.set i x)
  | none => .bad
def sSet (i : Nat) (m : M D) : S := bnd m fun d => sto i (.sh d)
def sSetF (i : Nat) (m : M D) : S := bnd m fun d => sto i (.ow d)
section
variable {K : PySem.W.Frag} {g : G} {W : WX} {env env1 env' : En} {σ σ1 σ' : L2.St} {Hf H Hf1 H1 Hf' H' : Hp}
theorem Out.after {r : Rs Ctl} {Z : Ends} (s : Step K g env σ Hf H env1 σ1 Hf1 H1) (h : Out K g W env σ Hf H r Z) : Out K g W env1 σ1 Hf1 H1 r Z := by
  cases r with
  | bad => exact h
  | ex c d e => exact XGot.after s h
  | ok x e =>
    cases x with
    | nx => exact fun σ2 Hf2 H2 s2 => h σ2 Hf2 H2 (s.trans s2)
    | bk => exact fun σ2 Hf2 H2 s2 => h σ2 Hf2 H2 (s.trans s2)
    | ct => exact fun σ2 Hf2 H2 s2 => h σ2 Hf2 H2 (s.trans s2)
    | rt d => exact fun σ2 Hf2 H2 s2 => h σ2 Hf2 H2 (s.trans s2)
    | rto d => exact fun σ2 Hf2 H2 s2 p n => h σ2 Hf2 H2 (s.trans s2) p ⟨n.at_, n.nf, n.no, s.th p n.nw⟩
theorem Out.bnd {α : Type} {m : M α} {k : α → S} {Z : Ends} (h : Out K g W env σ Hf H (DL.bnd m k env) Z) :
    Aft K g W env σ Hf H (m env) fun a env1 Hf1 H1 => Out K g W env1 σ Hf1 H1 (k a env1) Z := by
  unfold DL.bnd at h
  revert h
  cases m env with
  | ok a e => exact fun h Hf1 H1 s => Out.after s h
  | ex c d e => exact fun h => h
  | bad => exact fun h => h
/-- weakening what is wanted -/
theorem Out.imp {r : Rs Ctl} {Z Z' : Ends} (h : Out K g W env σ Hf H r Z)
    (hn : ∀ e σ' Hf' H', r = .ok .nx e → Step K g env σ Hf H e σ' Hf' H' → Z.nx σ' H' → Z'.nx σ' H')
    (hb : ∀ e σ' Hf' H', r = .ok .bk e → Step K g env σ Hf H e σ' Hf' H' → Z.bk σ' H' → Z'.bk σ' H')
    (hc : ∀ e σ' Hf' H', r = .ok .ct e → Step K g env σ Hf H e σ' Hf' H' → Z.ct σ' H' → Z'.ct σ' H')
    (hr : ∀ v H', Z.rt v H' → Z'.rt v H') : Out K g W env σ Hf H r Z' := by
  cases r with
  | bad => exact h
  | ex c d e => exact h
  | ok x e =>
    cases x with
    | nx => exact fun σ2 Hf2 H2 s2 => hn e σ2 Hf2 H2 rfl s2 (h σ2 Hf2 H2 s2)
    | bk => exact fun σ2 Hf2 H2 s2 => hb e σ2 Hf2 H2 rfl s2 (h σ2 Hf2 H2 s2)
    | ct => exact fun σ2 Hf2 H2 s2 => hc e σ2 Hf2 H2 rfl s2 (h σ2 Hf2 H2 s2)
    | rt d => exact fun σ2 Hf2 H2 s2 v r => hr _ _ (h σ2 Hf2 H2 s2 v r)
    | rto d => exact fun σ2 Hf2 H2 s2 p n => hr _ _ (h σ2 Hf2 H2 s2 p n)
theorem ev_seq {t u : TS} {a b : S} (ha : EvS K g W t a) (hb : EvS K g W u b) : EvS K g W (tSeq t u) (sSeq a b) := by
  intro env σ Hf H s Z h
  refine ha env σ Hf H s { Z with nx := u Z } ?_
  unfold sSeq at h
  revert h
  cases a env with
  | bad => exact fun h => h
  | ex c d e => exact fun h => h
  | ok x e =>
    cases x with
    | nx => exact fun h σ1 Hf1 H1 s1 => hb e σ1 Hf1 H1 s1.sr Z (Out.after s1 h)
    | bk => exact fun h => h
    | ct => exact fun h => h
    | rt d => exact fun h => h
    | rto d => exact fun h => h
theorem ev_next : EvS K g W tNext sNx := fun env σ Hf H s Z h => h σ Hf H (Step.refl s)
theorem ev_break : EvS K g W tBreak (ret .bk) := fun env σ Hf H s Z h => h σ Hf H (Step.refl s)
theorem ev_cont : EvS K g W tCont (ret .ct) := fun env σ Hf H s Z h => h σ Hf H (Step.refl s)
theorem ev_never : EvS K g W tNever (fun _ => .bad) := fun env σ Hf H s Z h => h
theorem ev_drop {te : TE} {m : M D} (he : EvM K g W te m) : EvS K g W (tDrop te) (sDrop m) :=
  fun env σ Hf H s Z h => he env σ Hf H s _ (h.bnd.imp fun x e1 Hf1 H1 _ s1 h1 v _ => h1 σ Hf1 H1 (Step.refl s1.sr))
theorem ev_ret {te : TE} {m : M D} (he : EvM K g W te m) : EvS K g W (tRet te) (sRet m) :=
  fun env σ Hf H s Z h => he env σ Hf H s _ (h.bnd.imp fun x e1 Hf1 H1 _ s1 h1 v r => h1 σ Hf1 H1 (Step.refl s1.sr) v r)
theorem ev_retF {te : TE} {m : M D} (he : EvF K g W te m) : EvS K g W (tRet te) (sRetF m) := by
  intro env σ Hf H s Z h
  refine he env σ Hf H s _ ?_
  unfold sRetF DL.bnd at h
  revert h
  cases m env with
  | bad => exact fun h => h
  | ex c d e => exact fun h => h
  | ok x e => exact fun h Hf1 H1 s1 p n => h σ Hf1 H1 s1 p n
theorem ev_retN : EvS K g W tRetN (ret (.rt .non)) := fun env σ Hf H s Z h => h σ Hf H (Step.refl s) _ .non
theorem ev_ifS {tc : TT} {t u : TS} {c : M Bool} {a b : S} (hc : EvB K g W tc c) (ha : EvS K g W t a) (hb : EvS K g W u b) : EvS K g W (tIfS tc t u) (sIf c a b) :=
  fun env σ Hf H s Z h => hc env σ Hf H s _ (h.bnd.imp fun x e1 Hf1 H1 _ s1 h1 => by
    cases x with
    | true => exact ha e1 σ Hf1 H1 s1.sr Z h1
    | false => exact hb e1 σ Hf1 H1 s1.sr Z h1)
/-! storing -/
theorem Own.at_set {i : Nat} {x : Sl} {v : V} {a : Addr} (h : Own (env.set i x) (σ.set i (some v)) a) : (∃ d, x.mut = some d ∧ v = .ref a) ∨ (∃ j s d, j ≠ i ∧ env[j]? = some s ∧ s.mut = some d ∧ σ[j]? = some (some (.ref a))) := by
  obtain ⟨j, t, d, h1, h2, h3⟩ := h
  by_cases c : i = j
  · subst c
    have hi : i < env.length := by
      have := (List.getElem?_eq_some_iff.mp h1).1
      rwa [List.length_set] at this
    have hj : i < σ.length := by
      have := (List.getElem?_eq_some_iff.mp h3).1
      rwa [List.length_set] at this
    rw [List.getElem?_set_self hi] at h1
    rw [List.getElem?_set_self hj] at h3
    cases h1
    exact .inl ⟨d, h2, Option.some.inj (Option.some.inj h3)⟩
  · rw [List.getElem?_set_ne c] at h1 h3
    exact .inr ⟨j, t, d, fun z => c z.symm, h1, h2, h3⟩
/-- a slot gets a value: what it must be -/
theorem store_step {i : Nat} {x y : Sl} {v : V} (s : SR K g env σ Hf H) (hy : env[i]? = some y) (hp : ∀ d, y ≠ .pn d) (ok : x.ok K g Hf H (some v)) (hnew : ∀ p, x.mut.isSome = true → v = .ref p → ¬ Own env σ p) (hpn : ∀ d, x ≠ .pn d)
    (s0 : Step K g env1 σ1 Hf1 H1 env σ Hf H) (hn : ∀ p, x.mut.isSome = true → v = .ref p → H1 p = none) : Step K g env1 σ1 Hf1 H1 (env.set i x) (σ.set i (some v)) Hf H := by
  have hi : i < env.length := (List.getElem?_eq_some_iff.mp hy).1
  have hj : i < σ.length := by rw [s.len]; exact hi
  refine ⟨s0.f, ⟨s.ex, by rw [List.length_set, List.length_set]; exact s.len, fun j z o q q' => ?_, fun j k z w a b p n1 h1 h2 m1 m2 e1 e2 => ?_⟩, fun a u q q' no => s0.kp a u q q' no, fun a o => ?_, s0.th, fun j d q => ?_, by rw [List.length_set]; exact s0.le⟩
  · by_cases c : i = j
    · subst c
      rw [List.getElem?_set_self hi] at q
      rw [List.getElem?_set_self hj] at q'
      cases q
      cases q'
      exact ok
    · rw [List.getElem?_set_ne c] at q q'
      exact s.sl j z o q q'
  · by_cases c : i = j
    · subst c
      rw [List.getElem?_set_self hi] at h1
      rw [List.getElem?_set_self hj] at e1
      rw [List.getElem?_set_ne n1] at h2 e2
      cases h1
      cases e1
      exact hnew p (by rw [m1]; rfl) rfl ⟨k, w, b, h2, m2, e2⟩
    · by_cases c' : i = k
      · subst c'
        rw [List.getElem?_set_self hi] at h2
        rw [List.getElem?_set_self hj] at e2
        rw [List.getElem?_set_ne c] at h1 e1
        cases h2
        cases e2
        exact hnew p (by rw [m2]; rfl) rfl ⟨j, z, a, h1, m1, e1⟩
      · rw [List.getElem?_set_ne c] at h1 e1
        rw [List.getElem?_set_ne c'] at h2 e2
        exact s.ne j k z w a b p n1 h1 h2 m1 m2 e1 e2
  · rcases Own.at_set o with ⟨d, m, rfl⟩ | ⟨j, t, d, _, h1, h2, h3⟩
    · exact .inr (hn a (by rw [m]; rfl) rfl)
    · exact s0.ow a ⟨j, t, d, h1, h2, h3⟩
  · obtain ⟨⟨d', h'⟩, e'⟩ := s0.pn j d q
    have c : i ≠ j := fun c => by
      subst c
      rw [hy] at h'
      cases h'
      exact hp d' rfl
    exact ⟨⟨d', by rw [List.getElem?_set_ne c]; exact h'⟩, by rw [List.getElem?_set_ne c]; exact e'⟩
theorem sto_ok {i : Nat} {x : Sl} {Z : Ends} (h : Out K g W env σ Hf H (sto i x env) Z) : ∃ y, env[i]? = some y ∧ (∀ d, y ≠ .pn d) ∧ ∀ σ' Hf' H', Step K g env σ Hf H (env.set i x) σ' Hf' H' → Z.nx σ' H' := by
  unfold sto at h
  cases e : env[i]? with
  | none => rw [e] at h; exact h.elim
  | some y =>
    rw [e] at h
    cases y with
    | pn d => exact h.elim
    | no => exact ⟨_, rfl, (fun d q => nomatch q), h⟩
    | sh d => exact ⟨_, rfl, (fun d q => nomatch q), h⟩
    | ow d => exact ⟨_, rfl, (fun d q => nomatch q), h⟩
theorem ev_set {i : Nat} {te : TE} {m : M D} (he : EvM K g W te m) : EvS K g W (tAsg te (gName i)) (sSet i m) :=
  fun env σ Hf H s Z h => he env σ Hf H s _ (h.bnd.imp fun x e1 Hf1 H1 _ s1 h1 v r => by
    obtain ⟨y, hy, hp, k⟩ := sto_ok h1
    exact k _ Hf1 H1 (store_step s1.sr hy hp ⟨v, rfl, r⟩ (fun p q => nomatch q) (fun d q => nomatch q) (Step.refl s1.sr) (fun p q => nomatch q)))
theorem ev_setF {i : Nat} {te : TE} {m : M D} (he : EvF K g W te m) : EvS K g W (tAsg te (gName i)) (sSetF i m) := by
  intro env σ Hf H s Z h
  refine he env σ Hf H s _ ?_
  unfold sSetF DL.bnd at h
  revert h
  cases m env with
  | bad => exact fun h => h
  | ex c d e => exact fun h => h
  | ok d e =>
    intro h Hf1 H1 s1 p n
    dsimp only at h
    unfold sto at h
    obtain ⟨u, hu, ru⟩ := n.at_
    cases q : e[i]? with
    | none => rw [q] at h; exact h.elim
    | some y =>
      rw [q] at h
      cases y with
      | pn d => exact h.elim
      | _ => exact h _ Hf1 H1 (store_step s1.sr q (fun d z => nomatch z) ⟨p, u, rfl, hu, n.nf, ru⟩ (fun p' _ z => by cases z; exact n.no) (fun d z => nomatch z) s1 (fun p' _ z => by cases z; exact n.nw))
end
/-! rules -/
structure PSM (X : Cx) (g : G) (W : WX) (st : Stmt) (m : S) : Prop where
  ex : ∃ t, PS X st t ∧ EvS X.K g W t m
structure PSsM (X : Cx) (g : G) (W : WX) (st : List Stmt) (m : S) : Prop where
  ex : ∃ t, PSs X st t ∧ EvS X.K g W t m
section
variable {X : Cx} {g : G} {W : WX} {st : Stmt} {rest : List Stmt} {a b : S} {e : Expr} {m : M D} {pos : Pos}
theorem ss_nil : PSsM X g W [] sNx := ⟨_, pss_nil, ev_next⟩
theorem ss_cons (h : PSM X g W st a) (k : PSsM X g W rest b) : PSsM X g W (st :: rest) (sSeq a b) := by
  obtain ⟨t, h1, h2⟩ := h
  obtain ⟨u, h3, h4⟩ := k
  exact ⟨_, pss_cons h1 h3, ev_seq h2 h4⟩
theorem ss_one (h : PSM X g W st a) : PSsM X g W [st] a := by
  obtain ⟨t, h1, h2⟩ := h
  exact ⟨_, pss_one h1, h2⟩
theorem s_pass : PSM X g W (.Pass pos) sNx := ⟨_, ps_pass, ev_next⟩
theorem s_break : PSM X g W (.Break pos) (ret .bk) := ⟨_, ps_break, ev_break⟩
theorem s_cont : PSM X g W (.Continue pos) (ret .ct) := ⟨_, ps_continue, ev_cont⟩
theorem s_never : PSM X g W st (fun _ => .bad) := ⟨_, ps_never, ev_never⟩
theorem s_expr (he : PEM X g W e m) (hs : swapsWith e none pos.line X.env = pure false := by rfl) : PSM X g W (.Expr e pos) (sDrop m) := by
  obtain ⟨t, h1, h2⟩ := he
  exact ⟨_, ps_expr h1 hs, ev_drop h2⟩
theorem s_ret (he : PEM X g W e m) : PSM X g W (.Return (some e) pos) (sRet m) := by
  obtain ⟨t, h1, h2⟩ := he
  exact ⟨_, ps_ret h1, ev_ret h2⟩
theorem s_retF (he : PEF X g W e m) : PSM X g W (.Return (some e) pos) (sRetF m) := by
  obtain ⟨t, h1, h2⟩ := he
  exact ⟨_, ps_ret h1, ev_retF h2⟩
theorem s_retN : PSM X g W (.Return none pos) (ret (.rt .non)) := ⟨_, ps_retN, ev_retN⟩
theorem s_if {c : Expr} {x y : List Stmt} {tc : M Bool} (hc : PTM X g W c tc) (ha : PSsM X g W x a) (hb : PSsM X g W y b) : PSM X g W (.If c x y pos) (sIf tc a b) := by
  obtain ⟨t, h1, h2⟩ := hc
  obtain ⟨u, h3, h4⟩ := ha
  obtain ⟨w, h5, h6⟩ := hb
  exact ⟨_, ps_if h1 h3 h5, ev_ifS h2 h4 h6⟩
theorem s_set {i : Nat} {x : Str} {pos' : Pos} (he : PEM X g W e m) (hN : X.N.Nodup) (hi : X.N[i]? = some x := by rfl) (hx : Loc X.env.scope x := by first | exact Or.inl rfl | exact Or.inr rfl)
    (hs : swapsWith e (some (.Name x pos')) pos.line X.env = pure false := by rfl) (hf : X.fn x = true ∨ X.env.scope.names.lookup x = some .local := by first | exact .inl rfl | exact .inr rfl | assumption) : PSM X g W (.Assign [.Name x pos'] e pos) (sSet i m) := by
  obtain ⟨t, h1, h2⟩ := he
  exact ⟨_, ps_set hN hi hx h1 hs hf, ev_set h2⟩
theorem s_setF {i : Nat} {x : Str} {pos' : Pos} (he : PEF X g W e m) (hN : X.N.Nodup) (hi : X.N[i]? = some x := by rfl) (hx : Loc X.env.scope x := by first | exact Or.inl rfl | exact Or.inr rfl)
    (hs : swapsWith e (some (.Name x pos')) pos.line X.env = pure false := by rfl) (hf : X.fn x = true ∨ X.env.scope.names.lookup x = some .local := by first | exact .inl rfl | exact .inr rfl | assumption) : PSM X g W (.Assign [.Name x pos'] e pos) (sSetF i m) := by
  obtain ⟨t, h1, h2⟩ := he
  exact ⟨_, ps_set hN hi hx h1 hs hf, ev_setF h2⟩
end
end DL

set_option Elab.async false
set_option linter.all false
set_option maxRecDepth 100000
set_option maxHeartbeats 400000
namespace DL
open PySem L2
/-! ### targets -/
def stE (i : Nat) (x : Sl) (env : En) : Option En := match env[i]? with
  | some (.pn _) => none
  | some _ => some (env.set i x)
  | none => none
abbrev Tg := D → En → Option En
abbrev Tgs := List D → En → Option En
def tgName (i : Nat) : Tg := fun d => stE i (.sh d)
def tgNil : Tgs := fun ds env => match ds with
  | [] => some env
  | _ => none
def tgCons (t : Tg) (u : Tgs) : Tgs := fun ds env => match ds with
  | d :: r => (t d env).bind (u r)
  | [] => none
def tgTup (n : Nat) (t : Tgs) : Tg := fun d env => match d with
  | .tup ds => if ds.length = n then t ds env else none
  | _ => none
def tgLst (n : Nat) (t : Tgs) : Tg := fun d env => match d with
  | .lst ds => if ds.length = n then t ds env else none
  | _ => none
section
variable (K : PySem.W.Frag) (g : G)
def EvG (gt : TG) (t : Tg) (ts : List Nat) : Prop := ∀ env σ Hf H v d, SR K g env σ Hf H → Rep K g Hf d v → ∀ Q : L2.St → Hp → Prop,
  (match t d env with
   | some env' => ∀ σ' Hf' H', Step K g env σ Hf H env' σ' Hf' H' → (∀ j, j ∉ ts → σ'[j]? = σ[j]?) → Q σ' H'
   | none => False) → gt v σ H Q
def EvGs (gt : TGs) (t : Tgs) (ts : List Nat) : Prop := ∀ env σ Hf H vs ds, SR K g env σ Hf H → Reps K g Hf ds vs → ∀ Q : L2.St → Hp → Prop,
  (match t ds env with
   | some env' => ∀ σ' Hf' H', Step K g env σ Hf H env' σ' Hf' H' → (∀ j, j ∉ ts → σ'[j]? = σ[j]?) → Q σ' H'
   | none => False) → gt vs σ H Q
end
section
variable {K : PySem.W.Frag} {g : G} {env env1 env' : En} {σ σ1 σ' : L2.St} {Hf H Hf1 H1 Hf' H' : Hp}
theorem evg_name (i : Nat) : EvG K g (gName i) (tgName i) [i] := by
  intro env σ Hf H v d s r Q h
  unfold tgName stE at h
  have set_out : ∀ j, j ∉ [i] → (σ.set i (some v))[j]? = σ[j]? := fun j hj => by
    rw [List.getElem?_set_ne (fun c => hj (by rw [c]; exact List.mem_singleton.mpr rfl))]
  cases q : env[i]? with
  | none => rw [q] at h; exact h.elim
  | some y =>
    rw [q] at h
    cases y with
    | pn d => exact h.elim
    | _ => exact h _ Hf H (store_step s q (fun d z => nomatch z) ⟨v, rfl, r⟩ (fun p z => nomatch z) (fun d z => nomatch z) (Step.refl s) (fun p z => nomatch z)) set_out
theorem evg_nil : EvGs K g gNil tgNil [] := by
  intro env σ Hf H vs ds s r Q h
  cases r with
  | nil => exact ⟨rfl, h σ Hf H (Step.refl s) fun _ _ => rfl⟩
  | cons a b => exact h.elim
theorem evg_cons {t : TG} {u : TGs} {a : Tg} {b : Tgs} {ts us : List Nat} (ha : EvG K g t a ts) (hb : EvGs K g u b us) : EvGs K g (gCons t u) (tgCons a b) (ts ++ us) := by
  intro env σ Hf H vs ds s r Q h
  cases r with
  | nil => exact h.elim
  | @cons d ds v vs r1 r2 =>
    refine ⟨v, vs, rfl, ha env σ Hf H v d s r1 _ ?_⟩
    change (match (a d env).bind (b ds) with
      | some env' => ∀ σ' Hf' H', Step K g env σ Hf H env' σ' Hf' H' → (∀ j, j ∉ ts ++ us → σ'[j]? = σ[j]?) → Q σ' H'
      | none => False) at h
    cases q : a d env with
    | none => rw [q] at h; exact h.elim
    | some e =>
      rw [q] at h
      intro σ1 Hf1 H1 s1 o1
      refine hb e σ1 Hf1 H1 vs ds s1.sr (r2.mono s1.f) Q ?_
      revert h
      show (match b ds e with
        | some env' => ∀ σ' Hf' H', Step K g env σ Hf H env' σ' Hf' H' → (∀ j, j ∉ ts ++ us → σ'[j]? = σ[j]?) → Q σ' H'
        | none => False) → _
      cases b ds e with
      | none => exact fun h => h
      | some e2 => exact fun h σ2 Hf2 H2 s2 o2 => h σ2 Hf2 H2 (s1.trans s2) fun j hj => (o2 j fun c => hj (List.mem_append_right _ c)).trans (o1 j fun c => hj (List.mem_append_left _ c))
theorem evg_tup {u : TGs} {b : Tgs} {us : List Nat} {n : Nat} (hb : EvGs K g u b us) : EvG K g (gTup K n u) (tgTup n b) us := by
  intro env σ Hf H v d s r Q h
  cases r <;> try exact (show False from h).elim
  case tup a ds vs h1 r1 =>
    dsimp only [tgTup] at h
    by_cases c : ds.length = n
    · rw [if_pos c] at h
      exact ⟨a, vs, rfl, s.ex.t h1, by rw [← r1.len]; exact c, hb env σ Hf H vs ds s r1 Q h⟩
    · rw [if_neg c] at h
      exact h.elim
theorem evg_lst {u : TGs} {b : Tgs} {us : List Nat} {n : Nat} (hb : EvGs K g u b us) : EvG K g (gLst K n u) (tgLst n b) us := by
  intro env σ Hf H v d s r Q h
  cases r <;> try exact (show False from h).elim
  case lst a ds vs h1 r1 =>
    dsimp only [tgLst] at h
    by_cases c : ds.length = n
    · rw [if_pos c] at h
      exact ⟨a, vs, rfl, SqL.of (s.ex _ _ h1), by rw [← r1.len]; exact c, hb env σ Hf H vs ds s r1 Q h⟩
    · rw [if_neg c] at h
      exact h.elim
end
structure PGM (X : Cx) (g : G) (e : Expr) (t : Tg) (ts : List Nat) : Prop where
  ex : ∃ u, PG X e u ∧ EvG X.K g u t ts
structure PGsM (X : Cx) (g : G) (e : List Expr) (t : Tgs) (ts : List Nat) : Prop where
  ex : ∃ u, PGs X e u ∧ EvGs X.K g u t ts
section
variable {X : Cx} {g : G} {W : WX} {e : Expr} {es : List Expr} {t : Tg} {u : Tgs} {ts us : List Nat} {pos : Pos} {m : M D}
theorem g_name (i : Nat) {x : Str} (hN : X.N.Nodup) (hi : X.N[i]? = some x := by rfl) (hx : Loc X.env.scope x := by first | exact Or.inl rfl | exact Or.inr rfl) (hf : X.fn x = true ∨ X.env.scope.names.lookup x = some .local := by first | exact .inl rfl | exact .inr rfl | assumption) :
    PGM X g (.Name x pos) (tgName i) [i] := ⟨_, pg_name hN hi hx hf, evg_name i⟩
theorem gs_nil : PGsM X g [] tgNil [] := ⟨_, pgs_nil, evg_nil⟩
theorem gs_cons (h : PGM X g e t ts) (k : PGsM X g es u us) (hs : (assignEach (e :: es) X.env).map (·.2) = assign e X.env :: (assignEach es X.env).map (·.2) := by rfl) : PGsM X g (e :: es) (tgCons t u) (ts ++ us) := by
  obtain ⟨a, h1, h2⟩ := h
  obtain ⟨b, h3, h4⟩ := k
  exact ⟨_, pgs_cons h1 h3 hs, evg_cons h2 h4⟩
theorem g_tup {k n : Nat} (h : PGsM X g es u us) (hc : X.calm = true := by rfl) (hn : (assignEach es X.env).length = n := by rfl) (hst : (assignEach es X.env).findIdx? (·.1) = none := by rfl) : PGM X g (.Tuple es k pos) (tgTup n u) us := by
  obtain ⟨a, h1, h2⟩ := h
  exact ⟨_, pg_tup hc h1 hn hst, evg_tup h2⟩
theorem g_lst {k n : Nat} (h : PGsM X g es u us) (hc : X.calm = true := by rfl) (hn : (assignEach es X.env).length = n := by rfl) (hst : (assignEach es X.env).findIdx? (·.1) = none := by rfl) : PGM X g (.Tuple es k pos) (tgLst n u) us := by
  obtain ⟨a, h1, h2⟩ := h
  exact ⟨_, pg_lst hc h1 hn hst, evg_lst h2⟩
/-- target = e -/
def sAsg (m : M D) (t : Tg) : S := bnd m fun d env => match t d env with
  | some e => .ok .nx e
  | none => .bad
theorem ev_asg {K : PySem.W.Frag} {te : TE} {gt : TG} (he : EvM K g W te m) (hg : EvG K g gt t ts) : EvS K g W (tAsg te gt) (sAsg m t) :=
  fun env σ Hf H s Z h => he env σ Hf H s _ (h.bnd.imp fun d e1 Hf1 H1 _ s1 h1 v r => by
    refine hg e1 σ Hf1 H1 v d s1.sr r Z.nx ?_
    cases q : t d e1 with
    | none => rw [q] at h1; exact h1
    | some e2 => rw [q] at h1; exact fun σ2 Hf2 H2 s2 _ => h1 σ2 Hf2 H2 s2)
theorem s_asg {tg : Expr} (he : PEM X g W e m) (hg : PGM X g tg t ts) (hs : swapsWithSole [tg] e pos.line X.env = pure false := by rfl) (hw : swappedStores [tg] e X.env = pure none := by rfl)
    (h1 : (assignEach [tg] X.env).map (·.2) = [assign tg X.env] := by rfl) : PSM X g W (.Assign [tg] e pos) (sAsg m t) := by
  obtain ⟨a, k1, k2⟩ := he
  obtain ⟨b, k3, k4⟩ := hg
  exact ⟨_, ps_asg k1 k3 hs hw h1, ev_asg k2 k4⟩
end
end DL

set_option Elab.async false
set_option linter.all false
set_option maxRecDepth 100000
set_option maxHeartbeats 400000
namespace DL
open PySem L2
/-! ### what a loop walks -/
section
variable (K : PySem.W.Frag) (g : G) (W : WX)
def Yl (J : It) (ds : List D) (Hf0 : Hp) : Prop := ∀ (i : Nat) (Hf H : Hp), Ex Hf0 Hf → Ex Hf H →
  (∀ d, ds[i]? = some d → J.go i H ∧ ∀ x H', J.yld i H x H' → ∃ Hf', Grow Hf H Hf' H' ∧ Rep K g Hf' d x) ∧ (ds.length = i → J.stop i H)
def EvI (wi : TI) (mi : M (List D)) : Prop := ∀ env σ Hf H, SR K g env σ Hf H → ∀ R : It → Hp → Prop,
  Aft K g W env σ Hf H (mi env) (fun ds _ Hf' H' => ∀ J, Yl K g J ds Hf' → R J H') → wi σ H R
end
structure PIM (X : Cx) (g : G) (W : WX) (tg e : Expr) (mi : M (List D)) : Prop where
  ex : ∃ t, PI X tg e t ∧ EvI X.K g W t mi
/-- a list, a tuple or a text -/
def iSeq (K : PySem.W.Frag) (tl : TE) : TI := fun σ H R => tl σ H fun x H1 => (∃ a, x = .ref a ∧ (∃ xs, SqL K H1 a xs) ∧ R (Itl K a) H1) ∨ (∃ a, x = .ref a ∧ (∃ xs, SqT K H1 a xs) ∧ R (Itt K a) H1) ∨ ∃ z, x = .str z ∧ R (Its z) H1
section
variable {X : Cx} {tg : Expr}
theorem pi_seq {l : Expr} {tl : TE} (hl : PE X l tl) : PI X tg l (iSeq X.K tl) := by
  refine ⟨fun pins s σ H R I h => ?_⟩
  refine thn (hl.run pins s σ H _ I h) fun v s1 ⟨x, H1, I1, r1, q1⟩ => ?_
  rcases q1 with ⟨a, e, ⟨xs, hq⟩, q⟩ | ⟨a, e, ⟨xs, hq⟩, q⟩ | ⟨z, e, q⟩
  · subst e
    cases r1
    obtain ⟨its, rv, p, hz⟩ := I1.list hq
    refine wpAny_pyIter_list p.isList ?_
    refine ⟨s1.heap.objs.size, [s1.heap.objs.size], _, _, H1, rfl, I1.kept (t' := s1.toks) fun b o e => Heap.get?_push_of_some _ e, turn_list a _, ⟨_, Heap.get?_push_size _ rfl, rfl, rfl⟩, fun b hb => ?_, q⟩
    have e : b = s1.heap.objs.size := by simpa using hb
    subst e
    exact I1.fpOk (Nat.le_refl _) (I1.hok.fresh (Nat.le_refl _))
  · subst e
    cases r1
    obtain ⟨its, rv, p, hz⟩ := I1.tuple hq
    refine wpAny_pyIter_tuple (show s1.heap.IsTuple a its.toArray from p) ?_
    refine ⟨s1.heap.objs.size, [s1.heap.objs.size], _, _, H1, rfl, I1.kept (t' := s1.toks) fun b o e => Heap.get?_push_of_some _ e, turn_tuple a _, ⟨_, Heap.get?_push_size _ rfl, rfl, rfl⟩, fun b hb => ?_, q⟩
    have e : b = s1.heap.objs.size := by simpa using hb
    subst e
    exact I1.fpOk (Nat.le_refl _) (I1.hok.fresh (Nat.le_refl _))
  · subst e
    obtain ⟨t, rfl⟩ := r1
    cases ha : z.cps.all (· < 128)
    · exact wpAny_pyIter_wide ha (pi_one (tk := s1.toks) I1 _ (turn_str _ z t "str_iterator" (.inr rfl)) ⟨_, Heap.get?_push_size _ rfl, rfl, rfl⟩ q)
    · exact wpAny_pyIter_ascii ha (pi_one (tk := s1.toks) I1 _ (turn_str _ z t "str_ascii_iterator" (.inl rfl)) ⟨_, Heap.get?_push_size _ rfl, rfl, rfl⟩ q)
end
def itemsD : D → Option (List D)
  | .lst xs => some xs
  | .tup xs => some xs
  | .str z => some (z.cps.toList.map fun c => .str ⟨#[c]⟩)
  | _ => none
def iItm (m : M D) : M (List D) := bnd m fun d => lft (itemsD d)
def enuL : Nat → List D → List D
  | _, [] => []
  | n, x :: xs => .tup [.int (n : Int), x] :: enuL (n + 1) xs
def enuD : List D → Option (List D)
  | [.lst xs] => some (enuL 0 xs)
  | _ => none
def zipL : List D → List D → List D
  | x :: xs, y :: ys => .tup [x, y] :: zipL xs ys
  | _, _ => []
def zipD : List D → Option (List D)
  | [.lst xs, .lst ys] => some (zipL xs ys)
  | [.tup xs, .tup ys] => some (zipL xs ys)
  | _ => none
theorem enuL_get : ∀ (xs : List D) (n i : Nat), (enuL n xs)[i]? = (xs[i]?).map fun x => .tup [.int ((n + i : Nat) : Int), x]
  | [], n, i => by simp [enuL]
  | x :: xs, n, 0 => by simp [enuL]
  | x :: xs, n, i + 1 => by
    rw [enuL, List.getElem?_cons_succ, List.getElem?_cons_succ, enuL_get xs (n + 1) i]
    congr 1
    funext y
    rw [show n + 1 + i = n + (i + 1) by omega]
theorem enuL_len : ∀ (xs : List D) (n : Nat), (enuL n xs).length = xs.length
  | [], n => rfl
  | x :: xs, n => by rw [enuL, List.length_cons, List.length_cons, enuL_len]
theorem zipL_get : ∀ (xs ys : List D) (i : Nat) (d : D), (zipL xs ys)[i]? = some d → ∃ x y, xs[i]? = some x ∧ ys[i]? = some y ∧ d = .tup [x, y]
  | [], ys, i, d, h => by simp [zipL] at h
  | x :: xs, [], i, d, h => by simp [zipL] at h
  | x :: xs, y :: ys, 0, d, h => by simp [zipL] at h; exact ⟨x, y, rfl, rfl, h.symm⟩
  | x :: xs, y :: ys, i + 1, d, h => by
    rw [zipL, List.getElem?_cons_succ] at h
    obtain ⟨a, b, h1, h2, h3⟩ := zipL_get xs ys i d h
    exact ⟨a, b, by rw [List.getElem?_cons_succ]; exact h1, by rw [List.getElem?_cons_succ]; exact h2, h3⟩
theorem zipL_len : ∀ (xs ys : List D), (zipL xs ys).length = min xs.length ys.length
  | [], ys => by simp [zipL]
  | x :: xs, [] => by simp [zipL]
  | x :: xs, y :: ys => by rw [zipL, List.length_cons, List.length_cons, List.length_cons, zipL_len]; omega
section
variable {K : PySem.W.Frag} {g : G} {W : WX} {Hf0 : Hp}
theorem yl_list {a : Addr} {vs : List V} {ds : List D} (h : Hf0 a = some (.lst vs)) (r : Reps K g Hf0 ds vs) : Yl K g (Itl K a) ds Hf0 := fun i Hf H e1 e2 => by
  have hs : SqL K H a vs := SqL.of (e2 _ _ (e1 _ _ h))
  refine ⟨fun d hd => ?_, fun q => ⟨vs, hs, by rw [← r.len, q]; exact Nat.le_refl _⟩⟩
  obtain ⟨v, hv, rv⟩ := Reps.getD r hd
  refine ⟨⟨vs, v, hs, hv⟩, fun x H' hx => ?_⟩
  obtain ⟨rfl, hx⟩ := hx
  have := hx vs hs
  rw [hv] at this
  cases this
  exact ⟨Hf, Grow.refl e2, rv.mono e1⟩
theorem yl_tup {a : Addr} {vs : List V} {ds : List D} (h : SqT K Hf0 a vs) (r : Reps K g Hf0 ds vs) : Yl K g (Itt K a) ds Hf0 := fun i Hf H e1 e2 => by
  have hs : SqT K H a vs := e2.t (e1.t h)
  refine ⟨fun d hd => ?_, fun q => ⟨vs, hs, by rw [← r.len, q]; exact Nat.le_refl _⟩⟩
  obtain ⟨v, hv, rv⟩ := Reps.getD r hd
  refine ⟨⟨vs, v, hs, hv⟩, fun x H' hx => ?_⟩
  obtain ⟨rfl, hx⟩ := hx
  have := hx vs hs
  rw [hv] at this
  cases this
  exact ⟨Hf, Grow.refl e2, rv.mono e1⟩
theorem yl_str {z : Str} : Yl K g (Its z) (z.cps.toList.map fun c => .str ⟨#[c]⟩) Hf0 := fun i Hf H e1 e2 => by
  refine ⟨fun d hd => ?_, fun q => ?_⟩
  · rw [List.getElem?_map] at hd
    cases c : z.cps.toList[i]? with
    | none => rw [c] at hd; cases hd
    | some k =>
      rw [c] at hd
      cases hd
      have hi : z.cps[i]? = some k := by rw [← Array.getElem?_toList]; exact c
      refine ⟨(Array.getElem?_eq_some_iff.mp hi).1, fun x H' hx => ?_⟩
      obtain ⟨rfl, k', hk, rfl⟩ := hx
      rw [hi] at hk
      cases hk
      exact ⟨Hf, Grow.refl e2, .str _⟩
  · rw [List.length_map, Array.length_toList] at q
    exact Nat.le_of_eq q
theorem evi_seq {tl : TE} {m : M D} (h : EvM K g W tl m) : EvI K g W (iSeq K tl) (iItm m) :=
  fun env σ Hf H s R q => h env σ Hf H s _ (q.bnd.imp fun d e1 Hf1 H1 _ s1 h1 v r => by
    obtain ⟨ds, hd, k⟩ := Aft.lft s1.sr h1
    have k' := k Hf1 H1 (Grow.refl s1.sr.ex)
    cases r <;> try (cases hd; done)
    case lst e r _ => cases hd; exact .inl ⟨_, rfl, ⟨_, SqL.of (s1.sr.ex _ _ e)⟩, k' _ (yl_list e r)⟩
    case tup e r _ => cases hd; exact .inr (.inl ⟨_, rfl, ⟨_, s1.sr.ex.t e⟩, k' _ (yl_tup e r)⟩)
    case str _ => cases hd; exact .inr (.inr ⟨_, rfl, k' _ yl_str⟩))
theorem yl_range (a : Int) (n : Nat) : Yl K g (Itr a n) ((List.range n).map fun i => .int (a + ((i : Nat) : Int))) Hf0 := fun i Hf H e1 e2 => by
  refine ⟨fun d hd => ?_, fun q => ?_⟩
  · rw [List.getElem?_map] at hd
    cases c : (List.range n)[i]? with
    | none => rw [c] at hd; cases hd
    | some k =>
      rw [c] at hd
      cases hd
      have hi := (List.getElem?_eq_some_iff.mp c)
      obtain ⟨hi, hk⟩ := hi
      rw [List.getElem_range] at hk
      subst hk
      rw [List.length_range] at hi
      refine ⟨hi, fun x H' hx => ?_⟩
      obtain ⟨rfl, rfl⟩ := hx
      exact ⟨Hf, Grow.refl e2, .int _⟩
  · rw [List.length_map, List.length_range] at q
    exact Nat.le_of_eq q
theorem yl_range0 (n : Nat) : Yl K g (Itr 0 n) ((List.range n).map fun i => .int ((i : Nat) : Int)) Hf0 := by
  have h := yl_range (K := K) (g := g) (Hf0 := Hf0) 0 n
  simpa using h
def rng1D : List D → Option (List D)
  | [.int n] => if n ≤ 1000000 ∧ -1000000 ≤ n then some ((List.range n.toNat).map fun i => .int ((i : Nat) : Int)) else none
  | _ => none
def rng2D : List D → Option (List D)
  | [.int a, .int b] => if -1000000 ≤ a ∧ a ≤ 1000000 ∧ -1000000 ≤ b ∧ b ≤ 1000000 then some ((List.range (b - a).toNat).map fun i => .int (a + ((i : Nat) : Int))) else none
  | _ => none
def iArg (f : List D → Option (List D)) (m : M (List D)) : M (List D) := bnd m fun d => lft (f d)
theorem evi_rng1 {ta : TA} {m : M (List D)} (h : EvL K g W ta m) : EvI K g W (iRng1 ta) (iArg rng1D m) :=
  fun env σ Hf H s R q => h env σ Hf H s _ (q.bnd.imp fun ds e1 Hf1 H1 _ s1 h1 vs r => by
    obtain ⟨z, hz, k⟩ := Aft.lft s1.sr h1
    have k' := k Hf1 H1 (Grow.refl s1.sr.ex)
    unfold rng1D at hz
    split at hz
    · rename_i n _
      split at hz
      · rename_i c
        cases hz
        cases r with
        | cons a b =>
          cases b
          cases a
          exact ⟨n, rfl, by omega, by omega, k' _ (yl_range0 _)⟩
      · cases hz
    · cases hz)
theorem evi_rng2 {ta : TA} {m : M (List D)} (h : EvL K g W ta m) : EvI K g W (iRng2 ta) (iArg rng2D m) :=
  fun env σ Hf H s R q => h env σ Hf H s _ (q.bnd.imp fun ds e1 Hf1 H1 _ s1 h1 vs r => by
    obtain ⟨z, hz, k⟩ := Aft.lft s1.sr h1
    have k' := k Hf1 H1 (Grow.refl s1.sr.ex)
    unfold rng2D at hz
    split at hz
    · rename_i n m _
      split at hz
      · rename_i c
        cases hz
        cases r with
        | cons a b =>
          cases b with
          | cons b c' =>
            cases c'
            cases a
            cases b
            exact ⟨n, m, rfl, by omega, k' _ (yl_range _ _)⟩
      · cases hz
    · cases hz)
theorem yl_enum {a : Addr} {vs : List V} {ds : List D} (h : Hf0 a = some (.lst vs)) (r : Reps K g Hf0 ds vs) : Yl K g (Ite K a) (enuL 0 ds) Hf0 := fun i Hf H e1 e2 => by
  have hs : SqL K H a vs := SqL.of (e2 _ _ (e1 _ _ h))
  refine ⟨fun d hd => ?_, fun q => ⟨vs, hs, by rw [← r.len, ← q, enuL_len]; exact Nat.le_refl _⟩⟩
  rw [enuL_get] at hd
  cases c : ds[i]? with
  | none => rw [c] at hd; cases hd
  | some y =>
    rw [c] at hd
    cases hd
    obtain ⟨v, hv, rv⟩ := Reps.getD r c
    refine ⟨⟨vs, v, hs, hv⟩, fun x H' hx => ?_⟩
    obtain ⟨T, z, rfl, hT, rfl, hz⟩ := hx
    have := hz vs hs
    rw [hv] at this
    cases this
    obtain ⟨w, rr⟩ := new_tup (vs := [.int ((i : Nat) : Int), v]) (ds := [.int ((i : Nat) : Int), y]) e2 hT (.cons (.int _) (.cons (rv.mono e1) .nil))
    exact ⟨_, w, by rw [Nat.zero_add]; exact rr⟩
theorem evi_enum {ta : TA} {m : M (List D)} (h : EvL K g W ta m) : EvI K g W (iEnum K ta) (iArg enuD m) :=
  fun env σ Hf H s R q => h env σ Hf H s _ (q.bnd.imp fun ds e1 Hf1 H1 _ s1 h1 vs r => by
    obtain ⟨z, hz, k⟩ := Aft.lft s1.sr h1
    have k' := k Hf1 H1 (Grow.refl s1.sr.ex)
    unfold enuD at hz
    split at hz
    · cases hz
      cases r with
      | cons a b =>
        cases b
        cases a with
        | lst e r => exact ⟨_, _, rfl, SqL.of (s1.sr.ex _ _ e), k' _ (yl_enum e r)⟩
    · cases hz)
theorem yl_zip {a b : Addr} {vs ws : List V} {ds es : List D} (h : Hf0 a = some (.lst vs)) (r : Reps K g Hf0 ds vs) (h' : Hf0 b = some (.lst ws)) (r' : Reps K g Hf0 es ws) : Yl K g (Itz K a b) (zipL ds es) Hf0 := fun i Hf H e1 e2 => by
  have hs : SqL K H a vs := SqL.of (e2 _ _ (e1 _ _ h))
  have hs' : SqL K H b ws := SqL.of (e2 _ _ (e1 _ _ h'))
  refine ⟨fun d hd => ?_, fun q => ⟨vs, ws, hs, hs', by rw [← r.len, ← r'.len, ← q, zipL_len]; omega⟩⟩
  obtain ⟨x, y, hx, hy, rfl⟩ := zipL_get _ _ _ _ hd
  obtain ⟨v, hv, rv⟩ := Reps.getD r hx
  obtain ⟨w, hw, rw'⟩ := Reps.getD r' hy
  refine ⟨⟨vs, ws, v, w, hs, hs', hv, hw⟩, fun x H' hx => ?_⟩
  obtain ⟨T, z, u, rfl, hT, rfl, hz, hu⟩ := hx
  have q1 := hz vs hs
  have q2 := hu ws hs'
  rw [hv] at q1
  rw [hw] at q2
  cases q1
  cases q2
  obtain ⟨w, rr⟩ := new_tup (vs := [v, w]) (ds := [_, _]) e2 hT (.cons (rv.mono e1) (.cons (rw'.mono e1) .nil))
  exact ⟨_, w, rr⟩
theorem yl_zipT {a b : Addr} {vs ws : List V} {ds es : List D} (h : SqT K Hf0 a vs) (r : Reps K g Hf0 ds vs) (h' : SqT K Hf0 b ws) (r' : Reps K g Hf0 es ws) : Yl K g (RZ.ItzT K a b) (zipL ds es) Hf0 := fun i Hf H e1 e2 => by
  have hs : SqT K H a vs := e2.t (e1.t h)
  have hs' : SqT K H b ws := e2.t (e1.t h')
  refine ⟨fun d hd => ?_, fun q => ⟨vs, ws, hs, hs', by rw [← r.len, ← r'.len, ← q, zipL_len]; omega⟩⟩
  obtain ⟨x, y, hx, hy, rfl⟩ := zipL_get _ _ _ _ hd
  obtain ⟨v, hv, rv⟩ := Reps.getD r hx
  obtain ⟨w, hw, rw'⟩ := Reps.getD r' hy
  refine ⟨⟨vs, ws, v, w, hs, hs', hv, hw⟩, fun x H' hx => ?_⟩
  obtain ⟨T, z, u, rfl, hT, rfl, hz, hu⟩ := hx
  have q1 := hz vs hs
  have q2 := hu ws hs'
  rw [hv] at q1
  rw [hw] at q2
  cases q1
  cases q2
  obtain ⟨w, rr⟩ := new_tup (vs := [v, w]) (ds := [_, _]) e2 hT (.cons (rv.mono e1) (.cons (rw'.mono e1) .nil))
  exact ⟨_, w, rr⟩
theorem evi_zip {ta : TA} {m : M (List D)} (h : EvL K g W ta m) : EvI K g W (RZ.iZipA K ta) (iArg zipD m) :=
  fun env σ Hf H s R q => h env σ Hf H s _ (q.bnd.imp fun ds e1 Hf1 H1 _ s1 h1 vs r => by
    obtain ⟨z, hz, k⟩ := Aft.lft s1.sr h1
    have k' := k Hf1 H1 (Grow.refl s1.sr.ex)
    unfold zipD at hz
    split at hz
    · cases hz
      cases r with
      | cons a b =>
        cases b with
        | cons b c =>
          cases c
          cases a with
          | lst e r =>
            cases b with
            | lst e' r' => exact ⟨_, _, _, _, rfl, .inl ⟨SqL.of (s1.sr.ex _ _ e), SqL.of (s1.sr.ex _ _ e'), k' _ (yl_zip e r e' r')⟩⟩
    · cases hz
      cases r with
      | cons a b =>
        cases b with
        | cons b c =>
          cases c
          cases a with
          | tup e r =>
            cases b with
            | tup e' r' => exact ⟨_, _, _, _, rfl, .inr ⟨s1.sr.ex.t e, s1.sr.ex.t e', k' _ (yl_zipT e r e' r')⟩⟩
    · cases hz)
end
section
variable {X : Cx} {g : G} {W : WX} {tg e e2 : Expr} {es : List Expr} {m : M D} {ma : M (List D)} {p pos tpos : Pos} {elts : List Expr} {kk : Nat}
theorem i_seq (h : PEM X g W e m) : PIM X g W tg e (iItm m) := by
  obtain ⟨t, h1, h2⟩ := h
  exact ⟨_, pi_seq h1, evi_seq h2⟩
theorem i_rng1 {a : Expr} (h : PAM X g W [a] ma) (hm : X.mg "range" = none) (hg : Gl X "range" := by rfl) (hs : starEach [a] X.env = [(false, eval a X.env)] := by rfl) : PIM X g W tg (.Call (.Name "range" p) [a] [] pos) (iArg rng1D ma) := by
  obtain ⟨t, h1, h2⟩ := h
  exact ⟨_, pi_range1 hg hm h1 hs, evi_rng1 h2⟩
theorem i_rng2 {a b : Expr} (h : PAM X g W [a, b] ma) (hm : X.mg "range" = none) (hg : Gl X "range" := by rfl) (hs : starEach [a, b] X.env = [(false, eval a X.env), (false, eval b X.env)] := by rfl) (hs2 : starEach [b] X.env = [(false, eval b X.env)] := by rfl) :
    PIM X g W tg (.Call (.Name "range" p) [a, b] [] pos) (iArg rng2D ma) := by
  obtain ⟨t, h1, h2⟩ := h
  exact ⟨_, pi_range2 hg hm h1 hs hs2, evi_rng2 h2⟩
theorem i_enum (h : PAM X g W [e] ma) (hm : X.mg "enumerate" = none) (hg : Gl X "enumerate" := by rfl) (hs : starEach [e] X.env = [(false, eval e X.env)] := by rfl) : PIM X g W (.Tuple elts kk tpos) (.Call (.Name "enumerate" p) [e] [] pos) (iArg enuD ma) := by
  obtain ⟨t, h1, h2⟩ := h
  exact ⟨_, pi_enum hg hm h1 hs, evi_enum h2⟩
theorem i_zip (h : PAM X g W [e, e2] ma) (hm : X.mg "zip" = none) (hg : Gl X "zip" := by rfl) (hs : starEach [e, e2] X.env = (false, eval e X.env) :: starEach [e2] X.env := by rfl) (hpl : (backTo pos (starEach [e2] X.env)).any (·.1) = false := by rfl) :
    PIM X g W (.Tuple elts kk tpos) (.Call (.Name "zip" p) [e, e2] [] pos) (iArg zipD ma) := by
  obtain ⟨t, h1, h2⟩ := h
  exact ⟨_, RZ.pi_zipA hg hm h1 hs hpl, evi_zip h2⟩
end
end DL

set_option Elab.async false
set_option linter.all false
set_option maxRecDepth 100000
set_option maxHeartbeats 400000
namespace DL
open PySem L2
/-! ### for, while -/
def sLoop (t : Tg) (b : S) : List D → S
  | [] => sNx
  | d :: ds => fun env => match t d env with
    | none => .bad
    | some e1 => match b e1 with
      | .ok .nx e2 => sLoop t b ds e2
      | .ok .ct e2 => sLoop t b ds e2
      | .ok .bk e2 => .ok .nx e2
      | r => r
def sFor (mi : M (List D)) (t : Tg) (b : S) : S := bnd mi fun ds => sLoop t b ds
def sWhile (c : M Bool) (b : S) : Nat → S
  | 0 => fun _ => .bad
  | n + 1 => bnd c fun x => if x = true then (fun env => match b env with
      | .ok .nx e2 => sWhile c b n e2
      | .ok .ct e2 => sWhile c b n e2
      | .ok .bk e2 => .ok .nx e2
      | r => r) else sNx
section
variable {K : PySem.W.Frag} {g : G} {W : WX}
/-- a body's end, in a loop -/
theorem Out.turn {env : En} {σ : L2.St} {Hf H : Hp} {r : Rs Ctl} {nextL : S} {Z : Ends} {N : L2.St → Hp → Prop}
    (h : Out K g W env σ Hf H (match r with
      | .ok .nx e2 => nextL e2
      | .ok .ct e2 => nextL e2
      | .ok .bk e2 => .ok .nx e2
      | r => r) Z) (hN : ∀ e2 σ2 Hf2 H2, SR K g e2 σ2 Hf2 H2 → Ex Hf Hf2 → Out K g W e2 σ2 Hf2 H2 (nextL e2) Z → N σ2 H2) : Out K g W env σ Hf H r { Z with nx := N, ct := N, bk := Z.nx } := by
  cases r with
  | bad => exact h
  | ex c d e => exact h
  | ok x e =>
    cases x with
    | nx => exact fun σ2 Hf2 H2 s2 => hN e σ2 Hf2 H2 s2.sr s2.f (Out.after s2 h)
    | ct => exact fun σ2 Hf2 H2 s2 => hN e σ2 Hf2 H2 s2.sr s2.f (Out.after s2 h)
    | bk => exact fun σ2 Hf2 H2 s2 => h σ2 Hf2 H2 s2
    | rt d => exact h
    | rto d => exact h
theorem ev_for {wi : TI} {gt : TG} {tb : TS} {mi : M (List D)} {t : Tg} {ts : List Nat} {b : S} (hi : EvI K g W wi mi) (hg : EvG K g gt t ts) (hb : EvS K g W tb b) : EvS K g W (tFor wi gt tb) (sFor mi t b) := by
  intro env σ Hf H s Z h
  refine hi env σ Hf H s _ (h.bnd.imp fun ds e1 Hf1 H1 _ s1 h1 J hJ => ?_)
  refine ⟨fun i m σ' H' => ∃ env' Hf', SR K g env' σ' Hf' H' ∧ Ex Hf1 Hf' ∧ m + i = ds.length ∧ Out K g W env' σ' Hf' H' (sLoop t b (ds.drop i) env') Z, ⟨ds.length, e1, Hf1, s1.sr, Ex.refl _, rfl, h1⟩, ?_⟩
  rintro i m σ' H' ⟨env', Hf', s', x', hm, ho⟩
  obtain ⟨y1, y2⟩ := hJ i Hf' H' x' s'.ex
  cases q : ds.drop i with
  | nil =>
    rw [q] at ho
    have hi : ds.length = i := by
      have : ds.length ≤ i := List.drop_eq_nil_iff.mp q
      omega
    exact .inl ⟨y2 hi, ho σ' Hf' H' (Step.refl s')⟩
  | cons d rest =>
    rw [q] at ho
    have hlt : i < ds.length := by
      rcases Nat.lt_or_ge i ds.length with c | c
      · exact c
      · rw [List.drop_eq_nil_iff.mpr c] at q; cases q
    have hd : ds[i]? = some d := by
      have := List.getElem?_drop (xs := ds) (i := i) (j := 0)
      rw [q] at this
      simpa using this.symm
    have hr : ds.drop (i + 1) = rest := by
      have := List.drop_drop (l := ds) (i := 1) (j := i)
      rw [q] at this
      simpa [Nat.add_comm] using this.symm
    obtain ⟨go, yld⟩ := y1 d hd
    refine .inr ⟨go, fun σ2 H2 => ∃ m', m' < m ∧ ∃ env2 Hf2, SR K g env2 σ2 Hf2 H2 ∧ Ex Hf1 Hf2 ∧ m' + (i + 1) = ds.length ∧ Out K g W env2 σ2 Hf2 H2 (sLoop t b (ds.drop (i + 1)) env2) Z, fun σ2 H2 q => q, fun x H2 hy => ?_⟩
    obtain ⟨Hf2, w, rx⟩ := yld x H2 hy
    have sg := w.step s'
    refine hg env' σ' Hf2 H2 x d sg.sr rx _ ?_
    have ho2 := Out.after sg ho
    unfold sLoop at ho2
    revert ho2
    cases c : t d env' with
    | none => exact fun h => h
    | some e2 =>
      intro ho2 σ3 Hf3 H3 s3 _
      refine hb e2 σ3 Hf3 H3 s3.sr _ (Out.turn (nextL := sLoop t b rest) (Out.after s3 ho2) fun e4 σ4 Hf4 H4 s4 x4 o4 => ⟨m - 1, by omega, e4, Hf4, s4, ((x'.trans w.f).trans s3.f).trans x4, by omega, by rw [hr]; exact o4⟩)
theorem ev_while {tc : TT} {tb : TS} {c : M Bool} {b : S} (hc : EvB K g W tc c) (hb : EvS K g W tb b) (n : Nat) : EvS K g W (tWhile tc tb) (sWhile c b n) := by
  intro env σ Hf H s Z h
  refine ⟨fun m σ' H' => ∃ env' Hf', SR K g env' σ' Hf' H' ∧ Out K g W env' σ' Hf' H' (sWhile c b m env') Z, ⟨n, env, Hf, s, h⟩, ?_⟩
  rintro m σ' H' ⟨env', Hf', s', ho⟩
  cases m with
  | zero => exact ho.elim
  | succ m =>
    refine hc env' σ' Hf' H' s' _ (ho.bnd.imp fun x e1 Hf1 H1 _ s1 h1 => ?_)
    cases x with
    | true =>
      refine ⟨fun σ2 H2 => ∃ m', m' < m + 1 ∧ ∃ env2 Hf2, SR K g env2 σ2 Hf2 H2 ∧ Out K g W env2 σ2 Hf2 H2 (sWhile c b m' env2) Z, fun σ2 H2 q => q, ?_⟩
      exact hb e1 σ' Hf1 H1 s1.sr _ (Out.turn (nextL := sWhile c b m) h1 fun e4 σ4 Hf4 H4 s4 _ o4 => ⟨m, Nat.lt_succ_self _, e4, Hf4, s4, o4⟩)
    | false => exact h1 σ' Hf1 H1 (Step.refl s1.sr)
end
/-! ### comprehensions -/
def wpE (env : En) : List Nat → En
  | [] => env
  | v :: vs => (wpE env vs).set v .no
def rsE (env old : En) : List Nat → En
  | [] => env
  | v :: vs => (rsE env old vs).set v (old.getD v .no)
def calmS : Option Sl → Bool
  | some (.sh _) => true
  | some .no => true
  | _ => false
def calmE (env : En) (vs : List Nat) : Bool := vs.all fun v => calmS env[v]?
/-- the items, one after the other; behind each the block's own names are forgotten -/
def lcLoop (t : Tg) (c : M Bool) (m : M D) (vs : List Nat) : List D → List D → M (List D)
  | [], acc => ret acc
  | d :: ds, acc => fun env => match t d env with
    | none => .bad
    | some e1 => (bnd c fun b => if b = true then bnd m fun z => fun e2 => if calmE e2 vs = true then lcLoop t c m vs ds (acc ++ [z]) (wpE e2 vs) else .bad
        else fun e2 => if calmE e2 vs = true then lcLoop t c m vs ds acc (wpE e2 vs) else .bad) e1
def mLc (mi : M (List D)) (t : Tg) (c : M Bool) (m : M D) (vs : List Nat) : M D := bnd mi fun ds env =>
  if calmE env vs = true ∧ small ds.length = true then (match nox (lcLoop t c m vs ds []) (wpE env vs) with
    | .ok acc e => .ok (.lst acc) (rsE e env vs)
    | _ => .bad) else .bad
section
variable {K : PySem.W.Frag} {g : G} {W : WX} {env env1 env' : En} {σ σ1 σ' : L2.St} {Hf H Hf1 H1 Hf' H' : Hp}
theorem wpE_len (env : En) : ∀ vs : List Nat, (wpE env vs).length = env.length
  | [] => rfl
  | v :: vs => by rw [wpE, List.length_set, wpE_len env vs]
theorem rsE_len (env old : En) : ∀ vs : List Nat, (rsE env old vs).length = env.length
  | [] => rfl
  | v :: vs => by rw [rsE, List.length_set, rsE_len env old vs]
theorem wpE_out {env : En} {j : Nat} : ∀ {vs : List Nat}, j ∉ vs → (wpE env vs)[j]? = env[j]?
  | [], _ => rfl
  | v :: vs, h => by
    rw [wpE, List.getElem?_set_ne (fun c => h (by rw [c]; exact List.mem_cons_self)), wpE_out fun c => h (List.mem_cons_of_mem _ c)]
theorem wpE_in {env : En} {j : Nat} : ∀ {vs : List Nat}, j ∈ vs → j < env.length → (wpE env vs)[j]? = some .no
  | v :: vs, h, hl => by
    rw [wpE]
    by_cases c : v = j
    · subst c
      rw [List.getElem?_set_self (by rw [wpE_len]; exact hl)]
    · rw [List.getElem?_set_ne c]
      exact wpE_in (by rcases List.mem_cons.mp h with q | q; exact absurd q.symm c; exact q) hl
theorem rsE_out {env old : En} {j : Nat} : ∀ {vs : List Nat}, j ∉ vs → (rsE env old vs)[j]? = env[j]?
  | [], _ => rfl
  | v :: vs, h => by
    rw [rsE, List.getElem?_set_ne (fun c => h (by rw [c]; exact List.mem_cons_self)), rsE_out fun c => h (List.mem_cons_of_mem _ c)]
theorem rsE_in {env old : En} {j : Nat} (hl : env.length = old.length) : ∀ {vs : List Nat}, j ∈ vs → (rsE env old vs)[j]? = old[j]?
  | v :: vs, h => by
    rw [rsE]
    by_cases c : v = j
    · subst c
      by_cases q : v < env.length
      · rw [List.getElem?_set_self (by rw [rsE_len]; exact q), List.getElem?_eq_getElem (by omega), List.getD_eq_getElem?_getD, List.getElem?_eq_getElem (by omega)]
        rfl
      · rw [List.getElem?_eq_none (by rw [List.length_set, rsE_len]; omega), List.getElem?_eq_none (by omega)]
    · rw [List.getElem?_set_ne c]
      exact rsE_in hl (by rcases List.mem_cons.mp h with q | q; exact absurd q.symm c; exact q)
theorem wipe_in {σ : L2.St} {j : Nat} : ∀ {vs : List Nat}, j ∈ vs → j < σ.length → (wipe σ vs)[j]? = some none
  | v :: vs, h, hl => by
    rw [wipe]
    by_cases c : v = j
    · subst c
      rw [List.getElem?_set_self (by rw [wipe_length]; exact hl)]
    · rw [List.getElem?_set_ne c]
      exact wipe_in (by rcases List.mem_cons.mp h with q | q; exact absurd q.symm c; exact q) hl
theorem calm_at {vs : List Nat} (h : calmE env vs = true) {j : Nat} (hj : j ∈ vs) {s : Sl} (e : env[j]? = some s) : s.mut = none := by
  have := List.all_eq_true.mp h j hj
  rw [e] at this
  cases s <;> first | rfl | (cases this; done)
theorem calm_lt {vs : List Nat} (h : calmE env vs = true) {j : Nat} (hj : j ∈ vs) : j < env.length := by
  have := List.all_eq_true.mp h j hj
  rcases Nat.lt_or_ge j env.length with c | c
  · exact c
  · rw [List.getElem?_eq_none c] at this; cases this
/-- the block's own names are forgotten -/
theorem step_wipe {vs : List Nat} (s : SR K g env σ Hf H) (c : calmE env vs = true) : Step K g env σ Hf H (wpE env vs) (wipe σ vs) Hf H := by
  have own : ∀ (i : Nat) (x : Sl) (d : D), (wpE env vs)[i]? = some x → x.mut = some d → i ∉ vs ∧ env[i]? = some x := fun i x d e m => by
    by_cases q : i ∈ vs
    · rw [wpE_in q (calm_lt c q)] at e
      cases e
      cases m
    · rw [wpE_out q] at e
      exact ⟨q, e⟩
  refine ⟨Ex.refl _, ⟨s.ex, by rw [wipe_length, wpE_len]; exact s.len, fun i x o e e' => ?_, fun i j x y d d' p n e1 e2 m1 m2 f1 => ?_⟩, fun a u q q' _ => ⟨q, q'⟩, fun a o => ?_, fun _ h => h, fun i d e => ?_, wpE_len _ _⟩
  · by_cases q : i ∈ vs
    · rw [wpE_in q (calm_lt c q)] at e
      cases e
      trivial
    · rw [wpE_out q] at e
      rw [wipe_out q] at e'
      exact s.sl i x o e e'
  · obtain ⟨q1, e1⟩ := own i x d e1 m1
    obtain ⟨q2, e2⟩ := own j y d' e2 m2
    rw [wipe_out q1] at f1
    rw [wipe_out q2]
    exact s.ne i j x y d d' p n e1 e2 m1 m2 f1
  · obtain ⟨i, x, d, e, m, f⟩ := o
    obtain ⟨q, e⟩ := own i x d e m
    rw [wipe_out q] at f
    exact .inl ⟨i, x, d, e, m, f⟩
  · have q : i ∉ vs := fun q => by
      have := calm_at c q e
      cases this
    exact ⟨⟨d, by rw [wpE_out q]; exact e⟩, wipe_out q⟩
/-- .. and stand again behind the block -/
theorem step_restore {vs : List Nat} (s : SR K g env σ Hf H) (c : calmE env vs = true) (st : Step K g (wpE env vs) (wipe σ vs) Hf H env' (wipe σ vs) Hf' H') (hc : ∀ j ∈ vs, ∀ x, env'[j]? = some x → x.mut = none) :
    Step K g env σ Hf H (rsE env' env vs) σ Hf' H' := by
  have l : env'.length = env.length := st.le.trans (wpE_len _ _)
  have own : ∀ (i : Nat) (x : Sl) (d : D), (rsE env' env vs)[i]? = some x → x.mut = some d → i ∉ vs ∧ env'[i]? = some x := fun i x d e m => by
    by_cases q : i ∈ vs
    · rw [rsE_in l q] at e
      rw [calm_at c q e] at m
      cases m
    · rw [rsE_out q] at e
      exact ⟨q, e⟩
  refine ⟨st.f, ⟨st.sr.ex, by rw [rsE_len, l]; exact s.len, fun i x o e e' => ?_, fun i j x y d d' p n e1 e2 m1 m2 f1 => ?_⟩, fun a u q q' no => ?_, fun a o => ?_, st.th, fun i d e => ?_, by rw [rsE_len]; exact l⟩
  · by_cases q : i ∈ vs
    · rw [rsE_in l q] at e
      have w := s.sl i x o e e'
      have m := calm_at c q e
      cases x with
      | no => trivial
      | sh d => obtain ⟨v, a, r⟩ := w; exact ⟨v, a, r.mono st.f⟩
      | ow d => cases m
      | pn d => cases m
    · rw [rsE_out q] at e
      exact st.sr.sl i x o e (by rw [wipe_out q]; exact e')
  · obtain ⟨q1, e1⟩ := own i x d e1 m1
    obtain ⟨q2, e2⟩ := own j y d' e2 m2
    have := st.sr.ne i j x y d d' p n e1 e2 m1 m2 (by rw [wipe_out q1]; exact f1)
    rwa [wipe_out q2] at this
  · refine st.kp a u q q' fun o => no ?_
    obtain ⟨i, x, d, e, m, f⟩ := o
    by_cases w : i ∈ vs
    · rw [wpE_in w (calm_lt c w)] at e
      cases e
      cases m
    · rw [wpE_out w] at e
      rw [wipe_out w] at f
      exact ⟨i, x, d, e, m, f⟩
  · obtain ⟨i, x, d, e, m, f⟩ := o
    obtain ⟨q, e⟩ := own i x d e m
    rcases st.ow a ⟨i, x, d, e, m, by rw [wipe_out q]; exact f⟩ with w | w
    · left
      obtain ⟨i, x, d, e, m, f⟩ := w
      by_cases w : i ∈ vs
      · rw [wpE_in w (calm_lt c w)] at e
        cases e
        cases m
      · rw [wpE_out w] at e
        rw [wipe_out w] at f
        exact ⟨i, x, d, e, m, f⟩
    · exact .inr w
  · have q : i ∉ vs := fun q => by
      have := calm_at c q e
      cases this
    obtain ⟨h1, h2⟩ := st.pn i d (by rw [wpE_out q]; exact e)
    obtain ⟨d', h1⟩ := h1
    exact ⟨⟨d', by rw [rsE_out q]; exact h1⟩, rfl⟩
/-- a thing of ours that no name holds is written -/
theorem Step.write {p : Addr} {o : HO} (st : Step K g env σ Hf H env' σ' Hf' H') (h0 : H p = none) (h1 : Hf' p = none) (hp : H' p ≠ none) (no : ¬ Own env' σ' p) : Step K g env σ Hf H env' σ' Hf' (upd H' p o) := by
  refine ⟨st.f, ⟨fun a u q => ?_, st.sr.len, fun i x o' e e' => ?_, st.sr.ne⟩, fun a u q q' n => ?_, st.ow, fun a q => ?_, st.pn, st.le⟩
  · rw [upd_ne (ne_of_none q h1)]
    exact st.sr.ex a u q
  · have w := st.sr.sl i x o' e e'
    cases x with
    | no => trivial
    | sh d => exact w
    | ow d => obtain ⟨z, u, a, b, c, r⟩ := w; exact ⟨z, u, a, by rw [upd_ne (fun q => no ⟨i, _, d, e, rfl, by rw [e', a, q]⟩)]; exact b, c, r⟩
    | pn d => obtain ⟨z, u, a, b, c, r⟩ := w; exact ⟨z, u, a, by rw [upd_ne (fun q => no ⟨i, _, d, e, rfl, by rw [e', a, q]⟩)]; exact b, c, r⟩
  · obtain ⟨q1, q2⟩ := st.kp a u q q' n
    exact ⟨by rw [upd_ne (ne_of_none q h0)]; exact q1, q2⟩
  · by_cases c : a = p
    · subst c; rw [upd_same] at q; cases q
    · rw [upd_ne c] at q; exact st.th a q
theorem wipe_wipe {σ σ2 : L2.St} {vs ts : List Nat} (hl : σ2.length = σ.length) (h : ∀ j, j ∉ ts → σ2[j]? = (wipe σ vs)[j]?) (hs : ∀ j ∈ ts, j ∈ vs) : wipe σ2 vs = wipe σ vs := by
  refine List.ext_getElem? fun j => ?_
  by_cases c : j ∈ vs
  · by_cases q : j < σ.length
    · rw [wipe_in c q, wipe_in c (by omega)]
    · rw [List.getElem?_eq_none (by rw [wipe_length]; omega), List.getElem?_eq_none (by rw [wipe_length]; omega)]
  · rw [wipe_out c]
    exact h j fun q => c (hs j q)
end
end DL

set_option Elab.async false
set_option linter.all false
set_option maxRecDepth 100000
set_option maxHeartbeats 400000
namespace DL
open PySem L2
abbrev WF : WX := fun _ _ _ _ => False
/-- it comes to an end, and there P -/
def Blk {α : Type} (r : Rs α) (P : α → En → Prop) : Prop := match r with
  | .ok a e => P a e
  | _ => False
section
variable {K : PySem.W.Frag} {g : G} {W : WX} {α β : Type} {env : En} {σ : L2.St} {Hf H : Hp}
theorem Blk.bnd {m : M α} {k : α → M β} {P : β → En → Prop} (h : Blk (DL.bnd m k env) P) : Aft K g W env σ Hf H (m env) fun a e _ _ => Blk (k a e) P := by
  unfold DL.bnd at h
  revert h
  cases m env with
  | ok a e => exact fun h _ _ _ => h
  | ex c d e => exact fun h => h.elim
  | bad => exact fun h => h.elim
/-- a block's turn behind: what of the new list at p is kept -/
structure Lcv (K : PySem.W.Frag) (g : G) (ew : En) (τ : L2.St) (Hf1 H1 : Hp) (p : Addr) (acc : List D) (env' : En) (Hf' H' : Hp) : Prop where
  st : Step K g ew τ Hf1 H1 env' τ Hf' H'
  at_ : ∃ vs', H' p = some (.lst vs') ∧ Reps K g Hf' acc vs'
  nf : Hf' p = none
  no : ¬ Own env' τ p
theorem evf_lc {wi : TI} {gt : TG} {tt : TT} {te : TE} {mi : M (List D)} {t : Tg} {c : M Bool} {m : M D} {vs ts : List Nat} (hi : EvI K g W wi mi) (hg : EvG K g gt t ts) (hts : ∀ j ∈ ts, j ∈ vs) (hc : EvB K g WF tt c) (hm : EvM K g WF te m) :
    EvF K g W (tLc wi gt tt te vs) (mLc mi t c m vs) := by
  intro env σ Hf H s Q h
  refine hi env σ Hf H s _ (h.bnd.imp fun ds e1 Hf1 H1 _ s1 h1 J hJ D0 hD => ?_)
  by_cases cc : calmE e1 vs = true ∧ small ds.length = true
  case neg => rw [if_neg cc] at h1; exact h1.elim
  rw [if_pos cc] at h1
  obtain ⟨cm, sz⟩ := cc
  have sw := step_wipe s1.sr cm
  have lσ : σ.length = e1.length := s1.sr.len
  -- what the end asks
  have hP : Blk (lcLoop t c m vs ds [] (wpE e1 vs)) fun acc e => ∀ Hf' H', Step K g e1 σ Hf1 H1 (rsE e e1 vs) σ Hf' H' → ∀ p, New K g (rsE e e1 vs) σ H Hf' H' (.lst acc) p → Q (.ref p) H' := by
    unfold nox at h1
    revert h1
    cases lcLoop t c m vs ds [] (wpE e1 vs) with
    | ok acc e => exact fun h => h
    | ex c d e => exact fun h => h
    | bad => exact fun h => h
  clear h1
  have calm0 : ∀ j ∈ vs, ∀ x, (wpE e1 vs)[j]? = some x → x.mut = none := fun j hj x e => by
    rw [wpE_in hj (calm_lt cm hj)] at e
    cases e
    rfl
  refine ⟨fun i k H' => ∃ env' Hf' acc, Lcv K g (wpE e1 vs) (wipe σ vs) Hf1 H1 D0 acc env' Hf' H' ∧ k + i = ds.length ∧ acc.length ≤ i ∧ (∀ j ∈ vs, ∀ x, env'[j]? = some x → x.mut = none) ∧
      Blk (lcLoop t c m vs (ds.drop i) acc env') fun acc e => ∀ Hf' H', Step K g e1 σ Hf1 H1 (rsE e e1 vs) σ Hf' H' → ∀ p, New K g (rsE e e1 vs) σ H Hf' H' (.lst acc) p → Q (.ref p) H',
    ⟨ds.length, wpE e1 vs, Hf1, [], ⟨(own_new s1.sr.ex hD).step sw.sr, ⟨[], upd_same, .nil⟩, s1.sr.ex.back hD, fun o => Own.there sw.sr o hD⟩, rfl, Nat.le_refl _, calm0, hP⟩, ?_⟩
  rintro i k H' ⟨env', Hf', acc, L, hk, hl, cl, hb⟩
  obtain ⟨y1, y2⟩ := hJ i Hf' H' L.st.f L.st.sr.ex
  cases q : ds.drop i with
  | nil =>
    rw [q] at hb
    have hi : ds.length = i := by
      have : ds.length ≤ i := List.drop_eq_nil_iff.mp q
      omega
    refine .inl ⟨y2 hi, ?_⟩
    have sr := step_restore s1.sr cm L.st cl
    obtain ⟨vs', h1, h2⟩ := L.at_
    refine hb Hf' H' sr D0 ⟨⟨_, h1, .lst h2⟩, L.nf, fun o => ?_, s1.th D0 hD⟩
    obtain ⟨j, x, d, a, b, f⟩ := o
    have ll : env'.length = e1.length := L.st.le.trans (wpE_len _ _)
    by_cases w : j ∈ vs
    · rw [rsE_in ll w] at a
      rw [calm_at cm w a] at b
      cases b
    · rw [rsE_out w] at a
      exact L.no ⟨j, x, d, a, b, by rw [wipe_out w]; exact f⟩
  | cons d rest =>
    rw [q] at hb
    have hlt : i < ds.length := by
      rcases Nat.lt_or_ge i ds.length with c | c
      · exact c
      · rw [List.drop_eq_nil_iff.mpr c] at q; cases q
    have hd : ds[i]? = some d := by
      have := List.getElem?_drop (xs := ds) (i := i) (j := 0)
      rw [q] at this
      simpa using this.symm
    have hr : ds.drop (i + 1) = rest := by
      have := List.drop_drop (l := ds) (i := 1) (j := i)
      rw [q] at this
      simpa [Nat.add_comm] using this.symm
    obtain ⟨go, yld⟩ := y1 d hd
    refine .inr ⟨go, fun H2 => ∃ k', k' < k ∧ ∃ env2 Hf2 acc2, Lcv K g (wpE e1 vs) (wipe σ vs) Hf1 H1 D0 acc2 env2 Hf2 H2 ∧ k' + (i + 1) = ds.length ∧ acc2.length ≤ i + 1 ∧ (∀ j ∈ vs, ∀ x, env2[j]? = some x → x.mut = none) ∧
      Blk (lcLoop t c m vs (ds.drop (i + 1)) acc2 env2) fun acc e => ∀ Hf' H', Step K g e1 σ Hf1 H1 (rsE e e1 vs) σ Hf' H' → ∀ p, New K g (rsE e e1 vs) σ H Hf' H' (.lst acc) p → Q (.ref p) H', fun H2 q => q, fun x H2 hy => ?_⟩
    obtain ⟨Hf2, w, rx⟩ := yld x H2 hy
    have sg := w.step L.st.sr
    refine hg env' (wipe σ vs) Hf2 H2 x d sg.sr rx _ ?_
    unfold lcLoop at hb
    revert hb
    cases ct : t d env' with
    | none => exact fun h => h.elim
    | some e2 =>
      intro hb σ2 Hf3 H3 s3 o3
      have l2 : σ2.length = σ.length := by
        rw [s3.sr.len, s3.le, L.st.le, wpE_len, ← lσ]
      have ww : wipe σ2 vs = wipe σ vs := wipe_wipe l2 o3 hts
      -- from the turn's start to any state of the block: the list stands
      have keep : ∀ {e4 : En} {Hf4 H4 : Hp}, Step K g e2 σ2 Hf3 H3 e4 σ2 Hf4 H4 → calmE e4 vs = true → Lcv K g (wpE e1 vs) (wipe σ vs) Hf1 H1 D0 acc (wpE e4 vs) Hf4 H4 ∧ (∀ j ∈ vs, ∀ x, (wpE e4 vs)[j]? = some x → x.mut = none) := fun {e4 Hf4 H4} s4 c4 => by
        have S2 : Step K g env' (wipe σ vs) Hf' H' (wpE e4 vs) (wipe σ vs) Hf4 H4 := by
          have z := ((sg.trans s3).trans s4).trans (step_wipe s4.sr c4)
          rwa [ww] at z
        obtain ⟨vs', h1, h2⟩ := L.at_
        obtain ⟨k1, k2⟩ := S2.kp D0 _ h1 L.nf L.no
        refine ⟨⟨L.st.trans S2, ⟨vs', k1, h2.mono S2.f⟩, k2, fun o => ?_⟩, fun j hj x e => ?_⟩
        · rcases S2.ow D0 o with o | o
          · exact L.no o
          · rw [h1] at o; cases o
        · rw [wpE_in hj (calm_lt c4 hj)] at e
          cases e
          rfl
      refine ⟨ww, hc e2 σ2 Hf3 H3 s3.sr _ ((Blk.bnd hb).imp fun b e4 Hf4 H4 _ s4 h4 => ?_)⟩
      cases b with
      | false =>
        by_cases c4 : calmE e4 vs = true
        · have h4' := h4
          simp only [Bool.false_eq_true, if_false, if_pos c4] at h4'
          obtain ⟨L4, cl4⟩ := keep s4 c4
          exact ⟨k - 1, by omega, wpE e4 vs, Hf4, acc, L4, by omega, by omega, cl4, by rw [hr]; exact h4'⟩
        · simp only [Bool.false_eq_true, if_false, if_neg c4] at h4
          exact h4.elim
      | true =>
        have h4' := h4
        rw [if_pos rfl] at h4'
        refine hm e4 σ2 Hf4 H4 s4.sr _ ((Blk.bnd h4').imp fun z e5 Hf5 H5 _ s5 h5 v rv => ?_)
        by_cases c5 : calmE e5 vs = true
        · rw [if_pos c5] at h5
          obtain ⟨L5, cl5⟩ := keep (s4.trans s5) c5
          obtain ⟨vs', h6, h7⟩ := L5.at_
          have hsz : vs'.length < sizeLine := by
            rw [← h7.len]
            have := small_le sz
            omega
          refine ⟨vs', h6, hsz, k - 1, by omega, wpE e5 vs, Hf5, acc ++ [z], ⟨L5.st.write hD L5.nf (by rw [h6]; exact fun h => nomatch h) L5.no, ⟨_, upd_same, h7.append (.cons rv .nil)⟩, L5.nf, L5.no⟩, by omega, by rw [List.length_append]; simp; omega, cl5, by rw [hr]; exact h5⟩
        · rw [if_neg c5] at h5
          exact h5.elim
end
end DL

set_option Elab.async false
set_option linter.all false
set_option maxRecDepth 100000
set_option maxHeartbeats 400000
namespace DL
open PySem L2
section
variable {K : PySem.W.Frag} {g : G} {W : WX} {ι : Type}
/-- one reading for all contexts -/
theorem all_pe {C : ι → Cx} {e : Expr} {m : M D} (h : ∀ j, PEM (C j) g W e m) (hK : ∀ j, (C j).K = K) : ∃ t, (∀ j, PE (C j) e t) ∧ EvM K g W t m := by
  have h' : ∀ j, ∃ t, PE (C j) e t ∧ EvM K g W t m := fun j => by
    obtain ⟨t, a, b⟩ := h j
    rw [hK j] at b
    exact ⟨t, a, b⟩
  refine ⟨fun σ H Q => ∀ j, (Classical.choose (h' j)) σ H Q, fun j => ⟨fun pins s σ H Q I q => (Classical.choose_spec (h' j)).1.run pins s σ H Q I (q j)⟩, fun env σ Hf H s Q q j => (Classical.choose_spec (h' j)).2 env σ Hf H s Q q⟩
theorem all_pg {C : ι → Cx} {e : Expr} {t : Tg} {ts : List Nat} (h : ∀ j, PGM (C j) g e t ts) (hK : ∀ j, (C j).K = K) : ∃ u, (∀ j, PG (C j) e u) ∧ EvG K g u t ts := by
  have h' : ∀ j, ∃ u, PG (C j) e u ∧ EvG K g u t ts := fun j => by
    obtain ⟨t, a, b⟩ := h j
    rw [hK j] at b
    exact ⟨t, a, b⟩
  refine ⟨fun v σ H Q => ∀ j, (Classical.choose (h' j)) v σ H Q, fun j => ⟨fun pins s σ H v u Q I r q => (Classical.choose_spec (h' j)).1.run pins s σ H v u Q I r (q j)⟩, fun env σ Hf H v d s r Q q j => (Classical.choose_spec (h' j)).2 env σ Hf H v d s r Q q⟩
structure PTsM (X : Cx) (g : G) (W : WX) (ifs : List Expr) (m : M Bool) : Prop where
  ex : ∃ t, PTs X ifs t ∧ EvB X.K g W t m
theorem all_pts {C : ι → Cx} {e : List Expr} {m : M Bool} (h : ∀ j, PTsM (C j) g W e m) (hK : ∀ j, (C j).K = K) : ∃ t, (∀ j, PTs (C j) e t) ∧ EvB K g W t m := by
  have h' : ∀ j, ∃ t, PTs (C j) e t ∧ EvB K g W t m := fun j => by
    obtain ⟨t, a, b⟩ := h j
    rw [hK j] at b
    exact ⟨t, a, b⟩
  refine ⟨fun σ H Q => ∀ j, (Classical.choose (h' j)) σ H Q, fun j => ⟨fun pins s σ H Q I q => (Classical.choose_spec (h' j)).1.run pins s σ H Q I (q j)⟩, fun env σ Hf H s Q q j => (Classical.choose_spec (h' j)).2 env σ Hf H s Q q⟩
end
section
variable {X : Cx} {g : G} {W : WX}
theorem ts_nil : PTsM X g W [] (ret true) := ⟨_, pts_nil, fun env σ Hf H s Q h => Aft.ret s h⟩
theorem ts_one {c : Expr} {m : M Bool} (h : PTM X g W c m) : PTsM X g W [c] m := by
  obtain ⟨t, a, b⟩ := h
  exact ⟨_, pts_one a, b⟩
/-- a block's context -/
structure Bk where
  s : Shared
  H : Hp
  C : Addr
  cl : List (Str × Addr)
  fp : List Addr
abbrev Cx.bk (X : Cx) (scope : Scope) (b : Bk) : Cx := X.blk b.s b.H scope (compEnvC scope b.cl b.C X.env) b.fp
variable {elt tg iter : Expr} {ifs : List Expr} {scope : Scope} {own : List (Str × Nat)} {pos : Pos} {mi : M (List D)} {t : Tg} {ts : List Nat} {c : M Bool} {m : M D}
theorem f_lc (hi : PIM X g W tg iter mi) (ok : BlkOk X.N X.env.scope scope own) (hN : X.N.Nodup) (hg : ∀ b : Bk, PGM (Cx.bk X scope b) g tg t ts) (ht : ∀ b : Bk, PTsM (Cx.bk X scope b) g WF ifs c) (he : ∀ b : Bk, PEM (Cx.bk X scope b) g WF elt m)
    (hts : ∀ j ∈ ts, j ∈ own.map (·.2) := by decide) (hc : X.calm = true := by rfl) (hs : ∀ x, foldedSetIterable iter X.env x = pure x := by intro _; rfl) : PEF X g W (.ListComp elt [⟨tg, iter, ifs, 0⟩] scope pos) (mLc mi t c m (own.map (·.2))) := by
  obtain ⟨wi, h1, h2⟩ := hi
  obtain ⟨gt, h3, h4⟩ := all_pg hg (fun _ => rfl)
  obtain ⟨tt, h5, h6⟩ := all_pts ht (fun _ => rfl)
  obtain ⟨te, h7, h8⟩ := all_pe he (fun _ => rfl)
  exact ⟨_, pe_lc hc hN h1 ok (fun s H C cl fp => h3 ⟨s, H, C, cl, fp⟩) (fun s H C cl fp => h5 ⟨s, H, C, cl, fp⟩) (fun s H C cl fp => h7 ⟨s, H, C, cl, fp⟩) hs, evf_lc h2 h4 hts h6 h8⟩
theorem PEF.sh {e : Expr} {m : M D} (h : PEF X g W e m) : PEM X g W e (frz m) := by
  obtain ⟨t, a, b⟩ := h
  exact ⟨_, a, b.ev⟩
/-- y = [..] on one line, y a local -/
theorem s_lcF {i : Nat} {y : Str} {py spos : Pos} (hi : PIM X g W tg iter mi) (ok : BlkOk X.N X.env.scope scope own) (hN : X.N.Nodup) (hg : ∀ b : Bk, PGM (Cx.bk X scope b) g tg t ts) (ht : ∀ b : Bk, PTsM (Cx.bk X scope b) g WF ifs c) (he : ∀ b : Bk, PEM (Cx.bk X scope b) g WF elt m)
    (hsw : swapsWith (.ListComp elt [⟨tg, iter, ifs, 0⟩] scope pos) (some (.Name y py)) spos.line X.env = pure true) (hy : X.N[i]? = some y := by rfl) (hyl : X.env.scope.names.lookup y = some .local := by rfl)
    (hts : ∀ j ∈ ts, j ∈ own.map (·.2) := by decide) (hc : X.calm = true := by rfl) (hs : ∀ x, foldedSetIterable iter X.env x = pure x := by intro _; rfl) : PSM X g W (.Assign [.Name y py] (.ListComp elt [⟨tg, iter, ifs, 0⟩] scope pos) spos) (sSetF i (mLc mi t c m (own.map (·.2)))) := by
  obtain ⟨wi, h1, h2⟩ := hi
  obtain ⟨gt, h3, h4⟩ := all_pg hg (fun _ => rfl)
  obtain ⟨tt, h5, h6⟩ := all_pts ht (fun _ => rfl)
  obtain ⟨te, h7, h8⟩ := all_pe he (fun _ => rfl)
  exact ⟨_, ps_setLc hc hN hy hyl hsw h1 ok (fun s H C cl fp => h3 ⟨s, H, C, cl, fp⟩) (fun s H C cl fp => h5 ⟨s, H, C, cl, fp⟩) (fun s H C cl fp => h7 ⟨s, H, C, cl, fp⟩) hs, ev_setF (evf_lc h2 h4 hts h6 h8)⟩
theorem s_lc {i : Nat} {y : Str} {py spos : Pos} (hi : PIM X g W tg iter mi) (ok : BlkOk X.N X.env.scope scope own) (hN : X.N.Nodup) (hg : ∀ b : Bk, PGM (Cx.bk X scope b) g tg t ts) (ht : ∀ b : Bk, PTsM (Cx.bk X scope b) g WF ifs c) (he : ∀ b : Bk, PEM (Cx.bk X scope b) g WF elt m)
    (hsw : swapsWith (.ListComp elt [⟨tg, iter, ifs, 0⟩] scope pos) (some (.Name y py)) spos.line X.env = pure true) (hy : X.N[i]? = some y := by rfl) (hyl : X.env.scope.names.lookup y = some .local := by rfl)
    (hts : ∀ j ∈ ts, j ∈ own.map (·.2) := by decide) (hc : X.calm = true := by rfl) (hs : ∀ x, foldedSetIterable iter X.env x = pure x := by intro _; rfl) : PSM X g W (.Assign [.Name y py] (.ListComp elt [⟨tg, iter, ifs, 0⟩] scope pos) spos) (sSet i (frz (mLc mi t c m (own.map (·.2))))) := by
  obtain ⟨wi, h1, h2⟩ := hi
  obtain ⟨gt, h3, h4⟩ := all_pg hg (fun _ => rfl)
  obtain ⟨tt, h5, h6⟩ := all_pts ht (fun _ => rfl)
  obtain ⟨te, h7, h8⟩ := all_pe he (fun _ => rfl)
  exact ⟨_, ps_setLc hc hN hy hyl hsw h1 ok (fun s H C cl fp => h3 ⟨s, H, C, cl, fp⟩) (fun s H C cl fp => h5 ⟨s, H, C, cl, fp⟩) (fun s H C cl fp => h7 ⟨s, H, C, cl, fp⟩) hs, ev_set (evf_lc h2 h4 hts h6 h8).ev⟩
theorem s_for {body : List Stmt} {b : S} {spos : Pos} (hp : PassesOwn (model X.prog X.w) X.A X.env X.xe) (hi : PIM X g W tg iter mi) (hg : PGM X g tg t ts) (hb : PSsM X g W body b)
    (hc : X.calm = true := by rfl) (hs : ∀ x, foldedSetIterable iter X.env x = pure x := by intro _; rfl) : PSM X g W (.For tg iter body [] spos) (sFor mi t b) := by
  obtain ⟨wi, h1, h2⟩ := hi
  obtain ⟨gt, h3, h4⟩ := hg
  obtain ⟨tb, h5, h6⟩ := hb
  exact ⟨_, ps_for hp hc h1 h3 h5 hs, ev_for h2 h4 h6⟩
theorem s_while {cnd : Expr} {body : List Stmt} {b : S} {spos : Pos} (n : Nat) (hp : PassesOwn (model X.prog X.w) X.A X.env X.xe) (hc : PTM X g W cnd c) (hb : PSsM X g W body b) : PSM X g W (.While cnd body [] spos) (sWhile c b n) := by
  obtain ⟨tc, h1, h2⟩ := hc
  obtain ⟨tb, h3, h4⟩ := hb
  exact ⟨_, ps_while hp h1 h3, ev_while h2 h4 n⟩
end
/-! ### changing one's own -/
def Sl.put : Sl → D → Sl
  | .ow _, d => .ow d
  | .pn _, d => .pn d
  | s, _ => s
def mdf (i : Nat) (d : D) (env : En) : En := match env[i]? with
  | some s => env.set i (s.put d)
  | none => env
section
variable {K : PySem.W.Frag} {g : G} {W : WX} {env env1 env' : En} {σ σ1 σ' : L2.St} {Hf H Hf1 H1 Hf' H' : Hp}
theorem put_mut {x : Sl} {d d' : D} (m : x.mut = some d) : (x.put d').mut = some d' := by cases x <;> first | rfl | (cases m; done)
theorem step_mut {i : Nat} {x : Sl} {d d' : D} {p : Addr} {u' : HO} (s : SR K g env σ Hf H) (hx : env[i]? = some x) (mx : x.mut = some d) (hp : σ[i]? = some (some (.ref p))) (r : RepO K g Hf d' u') :
    Step K g env σ Hf H (mdf i d' env) σ Hf (upd H p u') := by
  have hi : i < env.length := (List.getElem?_eq_some_iff.mp hx).1
  obtain ⟨p', u, e1, e2, e3, r0⟩ := s.at_ hx mx
  rw [hp] at e1
  cases e1
  have em : mdf i d' env = env.set i (x.put d') := by unfold mdf; rw [hx]
  rw [em]
  have set_ne : ∀ j (y : Sl), (env.set i (x.put d'))[j]? = some y → (j = i ∧ y = x.put d') ∨ (j ≠ i ∧ env[j]? = some y) := fun j y q => by
    by_cases c : i = j
    · subst c
      rw [List.getElem?_set_self hi] at q
      exact .inl ⟨rfl, (Option.some.inj q).symm⟩
    · rw [List.getElem?_set_ne c] at q
      exact .inr ⟨fun z => c z.symm, q⟩
  have nep : ∀ (j : Nat) (y : Sl) (b : D), j ≠ i → env[j]? = some y → y.mut = some b → σ[j]? ≠ some (some (.ref p)) := fun j y b c q m => s.ne i j x y d b p (fun z => c z.symm) hx q mx m hp
  refine ⟨Ex.refl _, ⟨fun a v q => ?_, by rw [List.length_set]; exact s.len, fun j y o q q' => ?_, fun j k y z a b w n1 h1 h2 m1 m2 f1 => ?_⟩, fun a v q q' no => ⟨?_, q'⟩, fun a o => ?_, fun a q => ?_, fun j z q => ?_, by rw [List.length_set]⟩
  · rw [upd_ne (ne_of_none q e3)]
    exact s.ex a v q
  · rcases set_ne j y q with ⟨rfl, rfl⟩ | ⟨c, q⟩
    · rw [hp] at q'
      cases q'
      exact (Sl.ok_mut (put_mut mx)).mpr ⟨p, u', rfl, upd_same, e3, r⟩
    · have w := s.sl j y o q q'
      cases y with
      | no => trivial
      | sh b => exact w
      | ow b => obtain ⟨z, w, e, h1, h2, r⟩ := w; exact ⟨z, w, e, by rw [upd_ne (fun c' => nep j _ b c q rfl (by rw [q', e, c']))]; exact h1, h2, r⟩
      | pn b => obtain ⟨z, w, e, h1, h2, r⟩ := w; exact ⟨z, w, e, by rw [upd_ne (fun c' => nep j _ b c q rfl (by rw [q', e, c']))]; exact h1, h2, r⟩
  · have back : ∀ (j : Nat) (y : Sl) (a : D), (env.set i (x.put d'))[j]? = some y → y.mut = some a → ∃ (y' : Sl) (a' : D), env[j]? = some y' ∧ y'.mut = some a' := fun j y a h m => by
      rcases set_ne j y h with ⟨rfl, rfl⟩ | ⟨_, h⟩
      · exact ⟨x, d, hx, mx⟩
      · exact ⟨y, a, h, m⟩
    obtain ⟨y', a', q1, q2⟩ := back j y a h1 m1
    obtain ⟨z', b', q3, q4⟩ := back k z b h2 m2
    exact s.ne j k y' z' a' b' w n1 q1 q3 q2 q4 f1
  · rw [upd_ne (fun c => no ⟨i, x, d, hx, mx, by rw [hp, c]⟩)]
    exact q
  · obtain ⟨j, y, b, q1, q2, q3⟩ := o
    rcases set_ne j y q1 with ⟨rfl, rfl⟩ | ⟨_, q1⟩
    · exact .inl ⟨_, x, d, hx, mx, q3⟩
    · exact .inl ⟨j, y, b, q1, q2, q3⟩
  · by_cases c : a = p
    · subst c; rw [upd_same] at q; cases q
    · rw [upd_ne c] at q; exact q
  · by_cases c : i = j
    · subst c
      rw [hx] at q
      cases q
      exact ⟨⟨d', by rw [List.getElem?_set_self hi]; rfl⟩, rfl⟩
    · rw [List.getElem?_set_ne c]
      exact ⟨⟨z, q⟩, rfl⟩
/-- what a name holds for itself -/
def own (i : Nat) : M D := fun env => match env[i]?.bind Sl.mut with
  | some d => .ok d env
  | none => .bad
theorem own_ok {i : Nat} {P : D → En → Hp → Hp → Prop} (s : SR K g env σ Hf H) (h : Aft K g W env σ Hf H (own i env) P) : ∃ x d, env[i]? = some x ∧ x.mut = some d ∧ P d env Hf H := by
  unfold own at h
  cases e : env[i]? with
  | none => rw [e] at h; exact h.elim
  | some x =>
    rw [e] at h
    cases m : x.mut with
    | none => simp only [Option.bind, m] at h; exact h.elim
    | some d => simp only [Option.bind, m] at h; exact ⟨x, d, rfl, m, h Hf H (Step.refl s)⟩
theorem own_okS {i : Nat} {k : D → S} {Z : Ends} (s : SR K g env σ Hf H) (h : Out K g W env σ Hf H (DL.bnd (own i) k env) Z) : ∃ x d, env[i]? = some x ∧ x.mut = some d ∧ Out K g W env σ Hf H (k d env) Z := own_ok s h.bnd
def isLst : D → Bool
  | .lst _ => true
  | _ => false
/-- x.append(e) -/
def sApp (i : Nat) (m : M D) : S := bnd (own i) fun d0 => if isLst d0 = true then bnd m fun z => bnd (own i) fun d => match d with
  | .lst xs => if small (xs.length + 1) = true then (fun env => .ok .nx (mdf i (.lst (xs ++ [z])) env)) else (fun _ => .bad)
  | _ => fun _ => .bad else (fun _ => .bad)
/-- x[j] = e -/
def sPut (i : Nat) (m j : M D) : S := bnd m fun z => bnd (own i) fun _ => bnd j fun k => bnd (own i) fun d => match d, k with
  | .lst xs, .int n => (match ixN xs.length n with
    | some q => fun env => .ok .nx (mdf i (.lst (xs.set q z)) env)
    | none => fun _ => .bad)
  | _, _ => fun _ => .bad
theorem SR.mut_at (s : SR K g env σ Hf H) {i : Nat} {x : Sl} {d : D} (hx : env[i]? = some x) (mx : x.mut = some d) : ∃ p u, σ[i]? = some (some (.ref p)) ∧ H p = some u ∧ RepO K g Hf d u := by
  obtain ⟨p, u, e, h, _, r⟩ := s.at_ hx mx
  exact ⟨p, u, e, h, r⟩
theorem ev_app {i : Nat} {te : TE} {m : M D} (he : EvM K g W te m) : EvS K g W (tDrop (tBM K "list" rAppend (tVar i) (tCons te tNil))) (sApp i m) :=
  fun env σ Hf H s Z h => by
    obtain ⟨x, d, hx, mx, h1⟩ := own_okS s h
    obtain ⟨p, u, hp, hu, ru⟩ := s.mut_at hx mx
    by_cases c : isLst d = true
    case neg => rw [if_neg c] at h1; exact h1.elim
    rw [if_pos c] at h1
    have tyl : ∃ ys, H p = some (.lst ys) := by
      cases ru <;> first | exact ⟨_, hu⟩ | (cases c; done)
    obtain ⟨ys, hys⟩ := tyl
    refine ⟨_, hp, .inl ⟨rfl, ys, SqL.of hys⟩, he env σ Hf H s _ (h1.bnd.imp fun z e1 Hf1 H1 _ s1 h2 v rv => ?_)⟩
    obtain ⟨x1, d1, hx1, mx1, h3⟩ := own_okS s1.sr h2
    obtain ⟨p1, u1, hp1, hu1, ru1⟩ := s1.sr.mut_at hx1 mx1
    rw [hp] at hp1
    cases hp1
    cases ru1 with
    | @lst ds vs r =>
      dsimp only at h3
      by_cases q : small (ds.length + 1) = true
      · rw [if_pos q] at h3
        refine ⟨p, _, v, rfl, rfl, hu1, by rw [← r.len]; exact small_le q, ?_⟩
        exact h3 σ Hf1 _ (step_mut s1.sr hx1 mx1 hp (.lst (r.append (.cons rv .nil))))
      · rw [if_neg q] at h3
        exact h3.elim
    | dic _ _ => exact h3.elim
    | dct _ _ => exact h3.elim
    | ins _ _ _ => exact h3.elim
theorem ev_put {i : Nat} {te tj : TE} {m j : M D} (he : EvM K g W te m) (hj : EvM K g W tj j) : EvS K g W (tAsg te (gSub (tVar i) tj rSetL)) (sPut i m j) :=
  fun env σ Hf H s Z h => he env σ Hf H s _ (h.bnd.imp fun z e1 Hf1 H1 _ s1 h1 v rv => by
    obtain ⟨x, d, hx, mx, h2⟩ := own_okS s1.sr h1
    obtain ⟨p, u, hp, hu, ru⟩ := s1.sr.mut_at hx mx
    refine ⟨_, hp, hj e1 σ Hf1 H1 s1.sr _ (h2.bnd.imp fun k e2 Hf2 H2 _ s2 h3 w rw' => ?_)⟩
    obtain ⟨x1, d1, hx1, mx1, h4⟩ := own_okS s2.sr h3
    obtain ⟨p1, u1, hp1, hu1, ru1⟩ := s2.sr.mut_at hx1 mx1
    rw [hp] at hp1
    cases hp1
    cases ru1 with
    | @lst ds vs r =>
      cases rw' <;> try exact h4.elim
      case int n _ =>
        cases hq : ixN ds.length n with
        | none =>
          dsimp only at h4
          rw [hq] at h4
          exact h4.elim
        | some q =>
          dsimp only at h4
          rw [hq] at h4
          exact ⟨p, _, n, q, rfl, rfl, hu1, by rw [← r.len]; exact hq, h4 σ Hf2 _ (step_mut s2.sr hx1 mx1 hp (.lst (r.set q (rv.mono s2.f))))⟩
    | dic _ _ => exact h4.elim
    | dct _ _ => exact h4.elim
    | ins _ _ _ => exact h4.elim)
end
section
variable {X : Cx} {g : G} {W : WX} {x : Str} {p1 apos cpos pos tpos : Pos} {e j : Expr} {m mj : M D}
theorem s_app (i : Nat) (ha : PEM X g W e m) (hN : X.N[i]? = some x := by rfl) (hv : Vis X.env.scope x := by first | exact Or.inl rfl | exact Or.inr (Or.inl rfl) | exact Or.inr (Or.inr rfl)) (hd : (x == ("__debug__" : Str)) = false := by decide) (hcd : (x == ("__classdict__" : Str)) = false := by decide)
    (hbase : attributeBase (.Name x p1) "append" X.env (eval (.Name x p1) X.env) = eval (.Name x p1) X.env := by rfl)
    (hfew : ((backTo cpos (starEach (e :: []) X.env)).all (fun x => !x.1) && (backToKw cpos (keywordEach [] X.env)).all (fun x => x.1.isSome)
      && decide ((e :: []).length + ([] : List Keyword).length + (if ([] : List Keyword).isEmpty then 0 else 1) < 30)) = true := by rfl)
    (hline : (apos.endLine == cpos.line) = true := by rfl) (hs : starEach (e :: []) X.env = (false, eval e X.env) :: starEach [] X.env := by rfl) (hplain : (backTo cpos (starEach [] X.env)).any (·.1) = false := by rfl)
    (hsw : swapsWith (.Call (.Attribute (.Name x p1) "append" apos) [e] [] cpos) none pos.line X.env = pure false := by rfl) : PSM X g W (.Expr (.Call (.Attribute (.Name x p1) "append" apos) [e] [] cpos) pos) (sApp i m) := by
  obtain ⟨t, h1, h2⟩ := ha
  exact ⟨_, ps_expr (pe_bm PySem.F.plainAttrs_list PySem.F.slot_list_append PySem.F.type_list_append mt_append (pe_var hN hv hd hcd) (pa_cons h1 pa_nil hs) hbase hfew hline hs hplain) hsw, ev_app h2⟩
theorem s_put (i : Nat) (he : PEM X g W e m) (hj : PEM X g W j mj) (hN : X.N[i]? = some x := by rfl) (hv : Vis X.env.scope x := by first | exact Or.inl rfl | exact Or.inr (Or.inl rfl) | exact Or.inr (Or.inr rfl)) (hd : (x == ("__debug__" : Str)) = false := by decide) (hcd : (x == ("__classdict__" : Str)) = false := by decide)
    (ha : ∀ v, assign (.Subscript (.Name x p1) j tpos) X.env v = (do
      let ov ← holding [v] (eval (.Name x p1) X.env)
      let iv ← holding [v, ov] (eval j X.env)
      standAt tpos
      holding [v, ov, iv] (setItem ov iv v)
      release [v, ov, iv] []) := by intro _; rfl)
    (hs : swapsWithSole [.Subscript (.Name x p1) j tpos] e pos.line X.env = pure false := by rfl) (hw : swappedStores [.Subscript (.Name x p1) j tpos] e X.env = pure none := by rfl)
    (h1 : (assignEach [.Subscript (.Name x p1) j tpos] X.env).map (·.2) = [assign (.Subscript (.Name x p1) j tpos) X.env] := by rfl) : PSM X g W (.Assign [.Subscript (.Name x p1) j tpos] e pos) (sPut i m mj) := by
  obtain ⟨t, k1, k2⟩ := he
  obtain ⟨u, k3, k4⟩ := hj
  exact ⟨_, ps_asg k1 (pg_sub (pe_var hN hv hd hcd) k3 set_list ha) hs hw h1, ev_put k2 k4⟩
end
end DL

set_option Elab.async false
set_option linter.all false
set_option maxRecDepth 100000
set_option maxHeartbeats 400000
namespace DL
open PySem L2 PyProof.Rows
/-! ### defs and their calls -/
abbrev Fm := En → Rs Ctl
/-- a def's body, from the parameters to what is handed back and what the lent things then are -/
def run (n : Nat) (b : S) : Fm := fun args => match b (args ++ List.replicate (n - args.length) .no) with
  | .ok .nx e => .ok (.rt .non) (e.take args.length)
  | .ok (.rt d) e => .ok (.rt d) (e.take args.length)
  | .ok (.rto d) e => .ok (.rto d) (e.take args.length)
  | .ok _ _ => .bad
  | .ex c d e => .ex c d (e.take args.length)
  | .bad => .bad
abbrev WX_of (E : XK) : WX := fun c d _ H => E c d H
def spM (K : PySem.W.Frag) (g : G) (np : Nat) (F : Fm) : Sp := fun vs H Q E => ∃ Hf args, SR K g args (vs.map some) Hf H ∧ args.length = np ∧ Out K g (WX_of E) args (vs.map some) Hf H (F args) { nx := fun _ _ => False, rt := Q }
section
variable {K : PySem.W.Frag} {g : G} {W : WX} {env env1 env' args args' : En} {σ σ1 σ' : L2.St} {Hf H Hf1 H1 Hf' H' : Hp}
theorem get_app_no {args : En} {k i : Nat} {x : Sl} {d : D} (h : (args ++ List.replicate k Sl.no)[i]? = some x) (m : x.mut = some d) : args[i]? = some x := by
  by_cases c : i < args.length
  · rw [List.getElem?_append_left c] at h; exact h
  · rw [List.getElem?_append_right (by omega), List.getElem?_replicate] at h
    split at h
    · cases h; cases m
    · cases h
theorem sr_app (s : SR K g args σ Hf H) (k : Nat) : SR K g (args ++ List.replicate k .no) (σ ++ List.replicate k none) Hf H := by
  have lt : ∀ (i : Nat) (x : Sl) (d : D), (args ++ List.replicate k Sl.no)[i]? = some x → x.mut = some d → i < args.length := fun i x d h m => (List.getElem?_eq_some_iff.mp (get_app_no h m)).1
  refine ⟨s.ex, by rw [List.length_append, List.length_append, s.len, List.length_replicate, List.length_replicate], fun i x o h h' => ?_, fun i j x y d d' p n h1 h2 m1 m2 f1 => ?_⟩
  · by_cases c : i < args.length
    · rw [List.getElem?_append_left c] at h
      rw [List.getElem?_append_left (by rw [s.len]; exact c)] at h'
      exact s.sl i x o h h'
    · rw [List.getElem?_append_right (by omega), List.getElem?_replicate] at h
      split at h
      · cases h; trivial
      · cases h
  · have c1 := lt i x d h1 m1
    have c2 := lt j y d' h2 m2
    rw [List.getElem?_append_left (by rw [s.len]; exact c1)] at f1
    rw [List.getElem?_append_left (by rw [s.len]; exact c2)]
    exact s.ne i j x y d d' p n (get_app_no h1 m1) (get_app_no h2 m2) m1 m2 f1
theorem own_app (l : σ.length = args.length) {k : Nat} {a : Addr} : Own (args ++ List.replicate k .no) (σ ++ List.replicate k none) a ↔ Own args σ a := by
  constructor
  · rintro ⟨i, x, d, h, m, f⟩
    have h' := get_app_no h m
    have c := (List.getElem?_eq_some_iff.mp h').1
    rw [List.getElem?_append_left (by rw [l]; exact c)] at f
    exact ⟨i, x, d, h', m, f⟩
  · rintro ⟨i, x, d, h, m, f⟩
    have c := (List.getElem?_eq_some_iff.mp h).1
    exact ⟨i, x, d, by rw [List.getElem?_append_left c]; exact h, m, by rw [List.getElem?_append_left (by rw [l]; exact c)]; exact f⟩
theorem own_take {n : Nat} {a : Addr} (o : Own (env.take n) (σ.take n) a) : Own env σ a := by
  obtain ⟨i, x, d, h, m, f⟩ := o
  rw [List.getElem?_take] at h f
  split at h
  · rename_i c
    rw [if_pos c] at f
    exact ⟨i, x, d, h, m, f⟩
  · cases h
theorem step_take {k : Nat} (l : σ.length = args.length) (st : Step K g (args ++ List.replicate k .no) (σ ++ List.replicate k none) Hf H env' σ' Hf' H') : Step K g args σ Hf H (env'.take args.length) (σ'.take args.length) Hf' H' := by
  have le : env'.length = args.length + k := by rw [st.le, List.length_append, List.length_replicate]
  refine ⟨st.f, ⟨st.sr.ex, by rw [List.length_take, List.length_take, st.sr.len], fun i x o h h' => ?_, fun i j x y d d' p n h1 h2 m1 m2 f1 => ?_⟩, fun a u q q' no => st.kp a u q q' fun o => no ((own_app l).mp o), fun a o => ?_, st.th, fun i d h => ?_, by rw [List.length_take, le]; omega⟩
  · rw [List.getElem?_take] at h h'
    split at h
    · rename_i c
      rw [if_pos c] at h'
      exact st.sr.sl i x o h h'
    · cases h
  · rw [List.getElem?_take] at h1 h2 f1 ⊢
    split at h1
    · rename_i c1
      split at h2
      · rename_i c2
        rw [if_pos c1] at f1
        rw [if_pos c2]
        exact st.sr.ne i j x y d d' p n h1 h2 m1 m2 f1
      · cases h2
    · cases h1
  · rcases st.ow a (own_take o) with o | o
    · exact .inl ((own_app l).mp o)
    · exact .inr o
  · have c := (List.getElem?_eq_some_iff.mp h).1
    obtain ⟨⟨d', h'⟩, e⟩ := st.pn i d (by rw [List.getElem?_append_left c]; exact h)
    rw [List.getElem?_take, if_pos c, List.getElem?_take, if_pos c, e, List.getElem?_append_left (by rw [l]; exact c)]
    exact ⟨⟨d', h'⟩, rfl⟩
theorem out_run {n : Nat} {b : S} {E : XK} {Q : VK} {vs : List V} (l : (vs.map some).length = args.length) (h : Out K g (WX_of E) args (vs.map some) Hf H (run n b args) { nx := fun _ _ => False, rt := Q }) :
    Out K g (WX_of E) (args ++ List.replicate (n - args.length) .no) (vs.map some ++ List.replicate (n - args.length) none) Hf H (b (args ++ List.replicate (n - args.length) .no)) { nx := fun _ H' => Q .non H', rt := Q } := by
  unfold run at h
  revert h
  cases b (args ++ List.replicate (n - args.length) .no) with
  | bad => exact fun h => h
  | ex c d e => exact fun h dx v fs σ' Hf' H' st r e1 e2 e3 e4 e5 => h dx v fs (σ'.take args.length) Hf' H' (step_take l st) r e1 e2 e3 (fun o => e4 (own_take o)) e5
  | ok x e =>
    cases x with
    | nx => exact fun h σ' Hf' H' st => h _ Hf' H' (step_take l st) _ .non
    | bk => exact fun h => h.elim
    | ct => exact fun h => h.elim
    | rt d => exact fun h σ' Hf' H' st v r => h _ Hf' H' (step_take l st) v r
    | rto d => exact fun h σ' Hf' H' st p n => h _ Hf' H' (step_take l st) p ⟨n.at_, n.nf, fun o => n.no (own_take o), n.nw⟩
theorem Out.nox {r : Rs Ctl} {Z : Ends} {m : S} (h : Out K g W env σ Hf H (DL.nox m env) Z) : Out K g WF env σ Hf H (m env) Z := by
  unfold DL.nox at h
  revert h
  cases m env with
  | bad => exact fun h => h
  | ex c d e => exact fun h => h.elim
  | ok x e => cases x <;> exact fun h => h
end
section
variable {P : Program} {w : World} {K : PySem.W.Frag} {mg : Str → Option Value} {base : Heap} {g : G}
theorem start_eq (N : List Str) (vs : List V) : start N vs = vs.map some ++ List.replicate (N.length - vs.length) none := rfl
/-- a def of the text that no exception leaves -/
theorem fn_okN {x qual : Str} {st : Stmt} {f : Addr} {fd : FuncData} {N ps : List Str} {k : Nat} {b : S} (F : Fun K x qual st f fd) (Sc : FnScope N ps (defScope st))
    (hb : ∀ (cdv : Value) (A : Around) (outer : List Env) (s : Shared) (H : Hp) (E : XK), Room k (A.deeper (envOfC qual (defScope st) s.heap.objs.size f cdv)) → PSsM (cxOf CX0 P w K mg base N qual (defScope st) f cdv A outer s H E).nox g WF (defBody st) b) :
    FnOk P w K mg base CX0 (k + 1) f fd ps (spM K g ps.length (run N.length (nox b))) := by
  refine F.ok Sc (fun vs H Q E h => ?_) (fun cdv A outer s H vs Q E hr h => ?_)
  · obtain ⟨Hf, args, sr, l, _⟩ := h
    rw [← l, ← sr.len, List.length_map]
  · obtain ⟨Hf, args, sr, l, o⟩ := h
    obtain ⟨t, h1, h2⟩ := hb cdv A outer s H E hr
    have lv : vs.length = args.length := by rw [← sr.len, List.length_map]
    refine ⟨t, h1, ?_⟩
    rw [start_eq, lv]
    refine h2 _ _ Hf H (sr_app sr _) _ ?_
    exact Out.nox (r := .bad) (out_run sr.len o)
/-- .. that exceptions may leave -/
theorem fn_okX {x qual : Str} {st : Stmt} {f : Addr} {fd : FuncData} {N ps : List Str} {k : Nat} {b : S} (F : Fun K x qual st f fd) (Sc : FnScope N ps (defScope st))
    (hb : ∀ (cdv : Value) (A : Around) (outer : List Env) (s : Shared) (H : Hp) (E : XK), Room k (A.deeper (envOfC qual (defScope st) s.heap.objs.size f cdv)) → PSsM (cxOf (L2.CX P w) P w K mg base N qual (defScope st) f cdv A outer s H E) g (WX_of E) (defBody st) b) :
    FnOk P w K mg base (L2.CX P w) (k + 1) f fd ps (spM K g ps.length (run N.length b)) := by
  refine F.okX Sc (fun vs H Q E h => ?_) (fun cdv A outer s H vs Q E hr h => ?_)
  · obtain ⟨Hf, args, sr, l, _⟩ := h
    rw [← l, ← sr.len, List.length_map]
  · obtain ⟨Hf, args, sr, l, o⟩ := h
    obtain ⟨t, h1, h2⟩ := hb cdv A outer s H E hr
    have lv : vs.length = args.length := by rw [← sr.len, List.length_map]
    refine ⟨t, h1, ?_⟩
    rw [start_eq, lv]
    exact h2 _ _ Hf H (sr_app sr _) _ (out_run sr.len o)
end
/-! a call: the arguments as values; or the first one lent -/
def callA (F : Fm) (ds : List D) : M D := fun env => match F (ds.map .sh) with
  | .ok (.rt d) _ => .ok d env
  | .ex c d _ => .ex c d env
  | _ => .bad
def callAF (F : Fm) (ds : List D) : M D := fun env => match F (ds.map .sh) with
  | .ok (.rto d) _ => .ok d env
  | .ex c d _ => .ex c d env
  | _ => .bad
def callB (F : Fm) (i : Nat) (ds : List D) : M D := fun env => match env[i]?.bind Sl.mut with
  | some d0 => (match F (.pn d0 :: ds.map .sh) with
    | .ok (.rt d) (.pn d1 :: _) => .ok d (mdf i d1 env)
    | .ex c d (.pn d1 :: _) => .ex c d (mdf i d1 env)
    | _ => .bad)
  | none => .bad
def callBF (F : Fm) (i : Nat) (ds : List D) : M D := fun env => match env[i]?.bind Sl.mut with
  | some d0 => (match F (.pn d0 :: ds.map .sh) with
    | .ok (.rto d) (.pn d1 :: _) => .ok d (mdf i d1 env)
    | .ex c d (.pn d1 :: _) => .ex c d (mdf i d1 env)
    | _ => .bad)
  | none => .bad
section
variable {K : PySem.W.Frag} {g : G} {W : WX} {env env1 env' args args' : En} {σ σ1 σ' : L2.St} {Hf H Hf1 H1 Hf' H' : Hp}
theorem sh_get {ds : List D} {i : Nat} {x : Sl} (h : (ds.map Sl.sh)[i]? = some x) : ∃ d, ds[i]? = some d ∧ x = .sh d := by
  rw [List.getElem?_map] at h
  cases q : ds[i]? with
  | none => rw [q] at h; cases h
  | some d => rw [q] at h; cases h; exact ⟨d, rfl, rfl⟩
theorem sr_sh {ds : List D} {vs : List V} (e : Ex Hf H) (r : Reps K g Hf ds vs) : SR K g (ds.map .sh) (vs.map some) Hf H := by
  refine ⟨e, by rw [List.length_map, List.length_map, r.len], fun i x o h h' => ?_, fun i j x y d d' p n h1 h2 m1 m2 f1 => ?_⟩
  · obtain ⟨d, hd, rfl⟩ := sh_get h
    obtain ⟨v, hv, rv⟩ := Reps.getD r hd
    rw [List.getElem?_map, hv] at h'
    cases h'
    exact ⟨v, rfl, rv⟩
  · obtain ⟨d, hd, rfl⟩ := sh_get h1
    cases m1
theorem own_sh {ds : List D} {τ : L2.St} {a : Addr} : ¬ Own (ds.map .sh) τ a := by
  rintro ⟨i, x, d, h, m, _⟩
  obtain ⟨_, _, rfl⟩ := sh_get h
  cases m
/-- what a callee did that was lent nothing -/
theorem step_callA {ds : List D} {τ : L2.St} (s : SR K g env σ Hf H) (st : Step K g (ds.map .sh) τ Hf H args' σ' Hf' H') : Step K g env σ Hf H env σ Hf' H' := by
  have kp : ∀ a u, H a = some u → Hf a = none → H' a = some u ∧ Hf' a = none := fun a u h h' => st.kp a u h h' own_sh
  refine ⟨st.f, ⟨st.sr.ex, s.len, fun i x o h h' => ?_, s.ne⟩, fun a u h h' _ => kp a u h h', fun a o => .inl o, st.th, fun i d h => ⟨⟨d, h⟩, rfl⟩, rfl⟩
  have w := s.sl i x o h h'
  cases x with
  | no => trivial
  | sh d => obtain ⟨v, e, r⟩ := w; exact ⟨v, e, r.mono st.f⟩
  | ow d => obtain ⟨p, u, e, h1, h2, r⟩ := w; obtain ⟨k1, k2⟩ := kp p u h1 h2; exact ⟨p, u, e, k1, k2, r.mono st.f⟩
  | pn d => obtain ⟨p, u, e, h1, h2, r⟩ := w; obtain ⟨k1, k2⟩ := kp p u h1 h2; exact ⟨p, u, e, k1, k2, r.mono st.f⟩
/-- .. that was lent the thing of slot i -/
theorem sr_lent {ds : List D} {vs : List V} {i : Nat} {x : Sl} {d : D} {p : Addr} (s : SR K g env σ Hf H) (hx : env[i]? = some x) (mx : x.mut = some d) (hp : σ[i]? = some (some (.ref p))) (r : Reps K g Hf ds vs) :
    SR K g (.pn d :: ds.map .sh) ((V.ref p :: vs).map some) Hf H := by
  obtain ⟨p', u, e1, e2, e3, r0⟩ := s.at_ hx mx
  rw [hp] at e1
  cases e1
  have s2 := sr_sh s.ex r
  refine ⟨s.ex, by rw [List.length_map, List.length_cons, List.length_cons, List.length_map, r.len], fun j y o h h' => ?_, fun j k y z a b q n h1 h2 m1 m2 f1 => ?_⟩
  · cases j with
    | zero =>
      cases h
      cases h'
      exact ⟨p, u, rfl, e2, e3, r0⟩
    | succ j =>
      rw [List.getElem?_cons_succ] at h
      rw [List.map_cons, List.getElem?_cons_succ] at h'
      exact s2.sl j y o h h'
  · cases j with
    | succ j =>
      rw [List.getElem?_cons_succ] at h1
      obtain ⟨_, _, rfl⟩ := sh_get h1
      cases m1
    | zero =>
      cases k with
      | zero => exact absurd rfl n
      | succ k =>
        rw [List.getElem?_cons_succ] at h2
        obtain ⟨_, _, rfl⟩ := sh_get h2
        cases m2
theorem own_lent {ds : List D} {vs : List V} {d : D} {p a : Addr} : Own (.pn d :: ds.map .sh) ((V.ref p :: vs).map some) a ↔ a = p := by
  constructor
  · rintro ⟨i, x, d, h, m, f⟩
    cases i with
    | zero => cases f; rfl
    | succ i =>
      rw [List.getElem?_cons_succ] at h
      obtain ⟨_, _, rfl⟩ := sh_get h
      cases m
  · rintro rfl
    exact ⟨0, _, d, rfl, rfl, rfl⟩
theorem step_callB {ds : List D} {vs : List V} {i : Nat} {x : Sl} {d d1 : D} {p : Addr} {rest : En} (s : SR K g env σ Hf H) (hx : env[i]? = some x) (mx : x.mut = some d) (hp : σ[i]? = some (some (.ref p)))
    (st : Step K g (.pn d :: ds.map .sh) ((V.ref p :: vs).map some) Hf H (.pn d1 :: rest) σ' Hf' H') : Step K g env σ Hf H (mdf i d1 env) σ Hf' H' := by
  have hi : i < env.length := (List.getElem?_eq_some_iff.mp hx).1
  have em : mdf i d1 env = env.set i (x.put d1) := by unfold mdf; rw [hx]
  rw [em]
  have kp : ∀ a u, H a = some u → Hf a = none → a ≠ p → H' a = some u ∧ Hf' a = none := fun a u h h' n => st.kp a u h h' fun o => n (own_lent.mp o)
  -- the lent thing, as it is now
  obtain ⟨_, e0⟩ := st.pn 0 d rfl
  have lentOk : ∃ u, H' p = some u ∧ Hf' p = none ∧ RepO K g Hf' d1 u := by
    have w := st.sr.at_ (i := 0) (x := .pn d1) (d := d1) rfl rfl
    obtain ⟨q, u, f, h1, h2, r⟩ := w
    rw [e0] at f
    cases f
    exact ⟨u, h1, h2, r⟩
  obtain ⟨u1, l1, l2, l3⟩ := lentOk
  have set_ne : ∀ j (y : Sl), (env.set i (x.put d1))[j]? = some y → (j = i ∧ y = x.put d1) ∨ (j ≠ i ∧ env[j]? = some y) := fun j y q => by
    by_cases c : i = j
    · subst c
      rw [List.getElem?_set_self hi] at q
      exact .inl ⟨rfl, (Option.some.inj q).symm⟩
    · rw [List.getElem?_set_ne c] at q
      exact .inr ⟨fun z => c z.symm, q⟩
  have nep : ∀ (j : Nat) (y : Sl) (b : D), j ≠ i → env[j]? = some y → y.mut = some b → σ[j]? ≠ some (some (.ref p)) := fun j y b c q m => s.ne i j x y d b p (fun z => c z.symm) hx q mx m hp
  refine ⟨st.f, ⟨st.sr.ex, by rw [List.length_set]; exact s.len, fun j y o q q' => ?_, fun j k y z a b w n1 h1 h2 m1 m2 f1 => ?_⟩, fun a v q q' no => kp a v q q' fun c => no ⟨i, x, d, hx, mx, by rw [hp, c]⟩, fun a o => ?_, st.th, fun j z q => ?_, by rw [List.length_set]⟩
  · rcases set_ne j y q with ⟨rfl, rfl⟩ | ⟨c, q⟩
    · rw [hp] at q'
      cases q'
      exact (Sl.ok_mut (put_mut mx)).mpr ⟨p, u1, rfl, l1, l2, l3⟩
    · have w := s.sl j y o q q'
      cases y with
      | no => trivial
      | sh b => obtain ⟨v, e, r⟩ := w; exact ⟨v, e, r.mono st.f⟩
      | ow b => obtain ⟨z, w, e, h1, h2, r⟩ := w; obtain ⟨k1, k2⟩ := kp z w h1 h2 (fun c' => nep j _ b c q rfl (by rw [q', e, c'])); exact ⟨z, w, e, k1, k2, r.mono st.f⟩
      | pn b => obtain ⟨z, w, e, h1, h2, r⟩ := w; obtain ⟨k1, k2⟩ := kp z w h1 h2 (fun c' => nep j _ b c q rfl (by rw [q', e, c'])); exact ⟨z, w, e, k1, k2, r.mono st.f⟩
  · have back : ∀ (j : Nat) (y : Sl) (a : D), (env.set i (x.put d1))[j]? = some y → y.mut = some a → ∃ (y' : Sl) (a' : D), env[j]? = some y' ∧ y'.mut = some a' := fun j y a h m => by
      rcases set_ne j y h with ⟨rfl, rfl⟩ | ⟨_, h⟩
      · exact ⟨x, d, hx, mx⟩
      · exact ⟨y, a, h, m⟩
    obtain ⟨y', a', q1, q2⟩ := back j y a h1 m1
    obtain ⟨z', b', q3, q4⟩ := back k z b h2 m2
    exact s.ne j k y' z' a' b' w n1 q1 q3 q2 q4 f1
  · obtain ⟨j, y, b, q1, q2, q3⟩ := o
    rcases set_ne j y q1 with ⟨rfl, rfl⟩ | ⟨_, q1⟩
    · exact .inl ⟨_, x, d, hx, mx, q3⟩
    · exact .inl ⟨j, y, b, q1, q2, q3⟩
  · by_cases c : i = j
    · subst c
      rw [hx] at q
      cases q
      exact ⟨⟨d1, by rw [List.getElem?_set_self hi]; rfl⟩, rfl⟩
    · rw [List.getElem?_set_ne c]
      exact ⟨⟨z, q⟩, rfl⟩
end
end DL

set_option Elab.async false
set_option linter.all false
set_option maxRecDepth 100000
set_option maxHeartbeats 400000
namespace DL
open PySem L2 PyProof.Rows
section
variable {K : PySem.W.Frag} {g : G} {E : XK} {env : En} {σ : L2.St} {Hf H : Hp} {F : Fm} {np : Nat}
/-- a def that is only called with so many arguments -/
def Arity (np : Nat) (F : Fm) : Prop := ∀ a : En, F a ≠ .bad → a.length = np
theorem sp_of {args : En} {vs : List V} {Q : VK} (hn : Arity np F) (s : SR K g args (vs.map some) Hf H) (o : Out K g (WX_of E) args (vs.map some) Hf H (F args) { nx := fun _ _ => False, rt := Q }) : spM K g np F vs H Q E := by
  refine ⟨Hf, args, s, hn args fun e => ?_, o⟩
  rw [e] at o
  exact o
theorem run_arity {n : Nat} {b : S} : Arity np fun a => if a.length = np then run n b a else .bad := fun a h => by
  by_cases c : a.length = np
  · exact c
  · exact absurd (if_neg c) h
/-- the callee's end, as the caller wants it: nothing was lent -/
theorem spA {ds : List D} {vs : List V} {Q : VK} (hn : Arity np F) (s : SR K g env σ Hf H) (r : Reps K g Hf ds vs) (h : Aft K g (WX_of E) env σ Hf H (callA F ds env) fun d _ Hf' H' => ∀ v, Rep K g Hf' d v → Q v H') : spM K g np F vs H Q E := by
  refine sp_of hn (sr_sh s.ex r) ?_
  unfold callA at h
  revert h
  cases F (ds.map .sh) with
  | bad => exact fun h => h
  | ex c d e => exact fun h dx v fs σ' Hf' H' st r e1 e2 e3 e4 e5 => h dx v fs σ Hf' H' (step_callA s st) r e1 e2 e3 (fun o => Own.there s o e5) e5
  | ok x e =>
    cases x with
    | rt d => exact fun h σ' Hf' H' st v r => h Hf' H' (step_callA s st) v r
    | rto d => exact fun h => h.elim
    | nx => exact fun h => h.elim
    | bk => exact fun h => h.elim
    | ct => exact fun h => h.elim
theorem spAF {ds : List D} {vs : List V} {Q : VK} (hn : Arity np F) (s : SR K g env σ Hf H) (r : Reps K g Hf ds vs) {P : D → Hp → Hp → Prop} (h : Aft K g (WX_of E) env σ Hf H (callAF F ds env) fun d e Hf' H' => ∀ p, New K g e σ H Hf' H' d p → Q (.ref p) H') : spM K g np F vs H Q E := by
  refine sp_of hn (sr_sh s.ex r) ?_
  unfold callAF at h
  revert h
  cases F (ds.map .sh) with
  | bad => exact fun h => h
  | ex c d e => exact fun h dx v fs σ' Hf' H' st r e1 e2 e3 e4 e5 => h dx v fs σ Hf' H' (step_callA s st) r e1 e2 e3 (fun o => Own.there s o e5) e5
  | ok x e =>
    cases x with
    | rto d => exact fun h σ' Hf' H' st p n => h Hf' H' (step_callA s st) p ⟨n.at_, n.nf, fun o => Own.there s o n.nw, n.nw⟩
    | rt d => exact fun h => h.elim
    | nx => exact fun h => h.elim
    | bk => exact fun h => h.elim
    | ct => exact fun h => h.elim
/-- .. the thing of slot i was -/
theorem spB {ds : List D} {vs : List V} {i : Nat} {p : Addr} {Q : VK} (hn : Arity np F) (s : SR K g env σ Hf H) (hp : σ[i]? = some (some (.ref p))) (r : Reps K g Hf ds vs) (h : Aft K g (WX_of E) env σ Hf H (callB F i ds env) fun d _ Hf' H' => ∀ v, Rep K g Hf' d v → Q v H') : spM K g np F (.ref p :: vs) H Q E := by
  unfold callB at h
  cases hx : env[i]? with
  | none => rw [hx] at h; exact h.elim
  | some x =>
    cases mx : x.mut with
    | none => rw [hx] at h; simp only [Option.bind, mx] at h; exact h.elim
    | some d0 =>
      rw [hx] at h
      simp only [Option.bind, mx] at h
      refine sp_of hn (sr_lent s hx mx hp r) ?_
      have pn : ∀ {e : En} {σ' : L2.St} {Hf' H' : Hp}, Step K g (.pn d0 :: ds.map .sh) ((V.ref p :: vs).map some) Hf H e σ' Hf' H' → ∃ d1 rest, e = .pn d1 :: rest := fun {e σ' Hf' H'} st => by
        obtain ⟨⟨d1, h1⟩, _⟩ := st.pn 0 d0 rfl
        cases e with
        | nil => cases h1
        | cons a b => cases h1; exact ⟨d1, b, rfl⟩
      revert h
      cases F (.pn d0 :: ds.map .sh) with
      | bad => exact fun h => h
      | ex c d e =>
        intro h dx v fs σ' Hf' H' st r e1 e2 e3 e4 e5
        obtain ⟨d1, rest, rfl⟩ := pn st
        exact h dx v fs σ Hf' H' (step_callB s hx mx hp st) r e1 e2 e3 (fun o => by
          rcases (step_callB s hx mx hp st).ow dx o with o | o
          · exact Own.there s o e5
          · obtain ⟨q, u, c1, c2, _⟩ := s.at_ hx mx
            obtain ⟨j, y, b, q1, q2, q3⟩ := (show Own (mdf i d1 env) σ dx from by assumption)
            have em : mdf i d1 env = env.set i (x.put d1) := by unfold mdf; rw [hx]
            rw [em] at q1
            by_cases w : i = j
            · subst w
              rw [hp] at q3
              cases q3
              rw [hp] at c1
              cases c1
              rw [c2] at e5
              cases e5
            · rw [List.getElem?_set_ne w] at q1
              exact Own.there s ⟨j, y, b, q1, q2, q3⟩ e5) e5
      | ok z e =>
        cases z with
        | rt d =>
          intro h σ' Hf' H' st v r
          obtain ⟨d1, rest, rfl⟩ := pn st
          exact h Hf' H' (step_callB s hx mx hp st) v r
        | rto d => exact fun h => h.elim
        | nx => exact fun h => h.elim
        | bk => exact fun h => h.elim
        | ct => exact fun h => h.elim
end
end DL

set_option Elab.async false
set_option linter.all false
set_option maxRecDepth 100000
set_option maxHeartbeats 400000
namespace DL
open PySem L2 PyProof.Rows
/-! ### what is known of the text's defs -/
section
variable (P : Program) (w : World) (K : PySem.W.Frag) (mg : Str → Option Value) (base : Heap) (g : G)
/-- the def x of the module: np parameters, its mirror F, by k levels, its defaults -/
structure Def0 (x : Str) (np : Nat) (F : Fm) (k : Nat) (dfl : List D) : Prop where
  ex : ∃ f fd ps dvs ds, FnOk P w K mg base (L2.CX P w) k f fd ps (spM K g np F) ∧ mg x = some (.ref f) ∧ PySem.W.keepIn K (.ref f) = true ∧ Binds K fd ps ds ∧ Vals dvs ds ∧ ∀ H, Reps K g H dfl dvs
  ar : Arity np F
/-- the method m of the class c -/
structure Mth (c : Nat) (m : Str) (F : Fm) (k : Nat) (dfl : List D) : Prop where
  ex : ∃ f fd ps dvs ds np, FnOk P w K mg base (L2.CX P w) k f fd ps (spM K g np F) ∧ Meth K (g.cl c) m f ∧ Binds K fd ps ds ∧ Vals dvs ds ∧ (∀ H, Reps K g H dfl dvs) ∧ Arity np F
  cl : Cls K (g.cl c)
  no : m ∉ nmT c
/-- a property -/
structure Prp (c : Nat) (m : Str) (F : Fm) (k : Nat) : Prop where
  ex : ∃ p f fd ps, FnOk P w K mg base (L2.CX P w) k f fd ps (spM K g 1 F) ∧ PropOf K (g.cl c) m p f ∧ Binds K fd ps []
  cl : Cls K (g.cl c)
  ar : Arity 1 F
/-- a special method: n parameters -/
structure Opr (c : Nat) (m : Str) (np : Nat) (F : Fm) (k : Nat) : Prop where
  ex : ∃ f, FnR P w K mg base (L2.CX P w) k f (spM K g np F) ∧ PySem.W.findIn K (.ref (g.cl c)) m = some (some (.ref f)) ∧ PySem.W.isFn K (.ref f) = true ∧ PySem.W.fnIn K f = true
  ar : Arity np F
/-- x(..) makes an instance of c -/
structure Mak (x : Str) (c : Nat) (np : Nat) (F : Fm) (k : Nat) (dfl : List D) : Prop where
  ex : ∃ f fd ps dvs ds, FnOk P w K mg base (L2.CX P w) k f fd ps (spM K g np F) ∧ Mk K (g.cl c) f ∧ mg x = some (.ref (g.cl c)) ∧ Binds K fd ps ds ∧ Vals dvs ds ∧ ∀ H, Reps K g H dfl dvs
  ok : g.ok c = true
  ar : Arity np F
/-- the fields of c -/
structure Fld (c : Nat) : Prop where
  cl : Cls K (g.cl c)
  no : ∀ f ∈ nmT c, NoAttr K (g.cl c) f
end
def ixF (f : Str) : List Str → Option Nat
  | [] => none
  | n :: ns => if f = n then some 0 else (ixF f ns).map (· + 1)
theorem ixF_mem {f : Str} : ∀ {ns : List Str} {k : Nat}, ixF f ns = some k → f ∈ ns
  | n :: ns, k, h => by
    unfold ixF at h
    split at h
    · rename_i e; rw [e]; exact List.mem_cons_self
    · cases q : ixF f ns with
      | none => rw [q] at h; cases h
      | some j => exact List.mem_cons_of_mem _ (ixF_mem q)
theorem ixF_zip {f : Str} : ∀ {ns : List Str} {vs : List V} {k : Nat} {v : V}, ixF f ns = some k → vs[k]? = some v → (ns.zip vs).lookup f = some v
  | n :: ns, [], k, v, h, e => by cases e
  | n :: ns, x :: vs, k, v, h, e => by
    unfold ixF at h
    rw [List.zip_cons_cons, List.lookup_cons]
    split at h
    · rename_i c
      cases h
      rw [beq_iff_eq.mpr c]
      exact e
    · rename_i c
      rw [show (f == n) = false from by simpa using c]
      cases q : ixF f ns with
      | none => rw [q] at h; cases h
      | some j =>
        rw [q] at h
        cases h
        rw [List.getElem?_cons_succ] at e
        exact ixF_zip q e
theorem putF_old {f : Str} {y : V} : ∀ {ns : List Str} {vs : List V} {k : Nat}, ixF f ns = some k → k < vs.length → putF f y (ns.zip vs) = ns.zip (vs.set k y)
  | n :: ns, [], k, h, e => by simp at e
  | n :: ns, x :: vs, k, h, e => by
    unfold ixF at h
    rw [List.zip_cons_cons, putF]
    split at h
    · rename_i c
      cases h
      rw [if_pos c.symm]
      rfl
    · rename_i c
      rw [if_neg fun z => c z.symm]
      cases q : ixF f ns with
      | none => rw [q] at h; cases h
      | some j =>
        rw [q] at h
        cases h
        rw [putF_old q (by simpa using e)]
        rfl
theorem putF_new {f : Str} {y : V} : ∀ {ns : List Str} {vs : List V}, ixF f ns = some vs.length → putF f y (ns.zip vs) = ns.zip (vs ++ [y])
  | n :: ns, [], h => by
    unfold ixF at h
    split at h
    · rename_i c; subst c; simp [putF]
    · cases q : ixF f ns with
      | none => rw [q] at h; cases h
      | some j => rw [q] at h; cases h
  | n :: ns, x :: vs, h => by
    unfold ixF at h
    rw [List.zip_cons_cons, putF]
    split at h
    · cases h
    · rename_i c
      rw [if_neg fun z => c z.symm]
      cases q : ixF f ns with
      | none => rw [q] at h; cases h
      | some j =>
        rw [q] at h
        have hj : j = vs.length := by
          have := Option.some.inj h
          rw [List.length_cons] at this
          have e : j + 1 = vs.length + 1 := this
          omega
        subst hj
        rw [putF_new q]
        rfl
theorem not_lookup {f : Str} : ∀ {ns : List Str} {vs : List V}, f ∉ ns → (ns.zip vs).lookup f = none
  | [], vs, _ => by simp
  | n :: ns, [], _ => by simp
  | n :: ns, x :: vs, h => by
    rw [List.zip_cons_cons, List.lookup_cons, show (f == n) = false from by simpa using fun z => h (by rw [z]; exact List.mem_cons_self)]
    exact not_lookup fun z => h (List.mem_cons_of_mem _ z)
/-! ### calls -/
section
variable {K : PySem.W.Frag} {g : G} {W : WX} {E : XK} {F : Fm} {np : Nat}
def mCallA (F : Fm) (dfl : List D) (ma : M (List D)) : M D := bnd ma fun ds => callA F (ds ++ dfl)
def mCallAF (F : Fm) (dfl : List D) (ma : M (List D)) : M D := bnd ma fun ds => callAF F (ds ++ dfl)
def mCallB (F : Fm) (i : Nat) (dfl : List D) (ma : M (List D)) : M D := bnd (own i) fun _ => bnd ma fun ds => callB F i (ds ++ dfl)
theorem ev_callA {ta : TA} {ma : M (List D)} {dvs : List V} {dfl : List D} (hn : Arity np F) (ha : EvL K g (WX_of E) ta ma) (hd : ∀ H, Reps K g H dfl dvs) : EvM K g (WX_of E) (tCall (spM K g np F) dvs E ta) (mCallA F dfl ma) :=
  fun env σ Hf H s Q h => ha env σ Hf H s _ (h.bnd.imp fun ds e1 Hf1 H1 _ s1 h1 vs r => spA hn s1.sr (r.append (hd Hf1)) h1)
theorem ev_callAF {ta : TA} {ma : M (List D)} {dvs : List V} {dfl : List D} (hn : Arity np F) (ha : EvL K g (WX_of E) ta ma) (hd : ∀ H, Reps K g H dfl dvs) : EvF K g (WX_of E) (tCall (spM K g np F) dvs E ta) (mCallAF F dfl ma) := by
  intro env σ Hf H s Q h
  refine ha env σ Hf H s _ ?_
  unfold mCallAF DL.bnd at h
  revert h
  cases ma env with
  | bad => exact fun h => h
  | ex c d e => exact fun h => h
  | ok ds e =>
    intro h Hf1 H1 s1 vs r
    refine spAF hn s1.sr (r.append (hd Hf1)) (P := fun _ _ _ => True) ?_
    revert h
    show Aft K g (WX_of E) env σ Hf H (callAF F (ds ++ dfl) e) _ → _
    cases callAF F (ds ++ dfl) e with
    | bad => exact fun h => h
    | ex c d e2 => exact fun h => XGot.after s1 h
    | ok d e2 => exact fun h Hf2 H2 s2 p n => h Hf2 H2 (s1.trans s2) p ⟨n.at_, n.nf, n.no, s1.th p n.nw⟩
theorem ev_callB {i : Nat} {ta : TA} {ma : M (List D)} {dvs : List V} {dfl : List D} (hn : Arity np F) (ha : EvL K g (WX_of E) ta ma) (hd : ∀ H, Reps K g H dfl dvs) : EvM K g (WX_of E) (tCall (spM K g np F) dvs E (tCons (tVar i) ta)) (mCallB F i dfl ma) :=
  fun env σ Hf H s Q h => by
    obtain ⟨x, d, hx, mx, h1⟩ := own_ok s h.bnd
    obtain ⟨p, u, hp, _⟩ := s.mut_at hx mx
    exact ⟨_, hp, ha env σ Hf H s _ (h1.bnd.imp fun ds e1 Hf1 H1 _ s1 h1 vs r => spB hn s1.sr hp (r.append (hd Hf1)) h1)⟩
/-- C(..) -/
def mkA (F : Fm) (c : Nat) (ds : List D) : M D := fun env => match F (.pn (.ins c []) :: ds.map .sh) with
  | .ok (.rt .non) (.pn d1 :: _) => .ok d1 env
  | .ex c d _ => .ex c d env
  | _ => .bad
def mMakF (F : Fm) (c : Nat) (dfl : List D) (ma : M (List D)) : M D := bnd ma fun ds => mkA F c (ds ++ dfl)
theorem Aft.frame {α β : Type} {env : En} {σ : L2.St} {Hf H : Hp} {m : M α} {k : α → M β} {P : β → En → Hp → Hp → Prop} (h : Aft K g W env σ Hf H (DL.bnd m k env) P) :
    Aft K g W env σ Hf H (m env) fun a e Hf1 H1 => Step K g env σ Hf H e σ Hf1 H1 → (match k a e with
      | .ok b e2 => ∀ Hf2 H2, Step K g env σ Hf H e2 σ Hf2 H2 → P b e2 Hf2 H2
      | .ex c d e2 => XGot K g W env σ Hf H c d e2
      | .bad => False) := by
  unfold DL.bnd at h
  revert h
  cases m env with
  | ok a e => exact fun h Hf1 H1 s1 _ => h
  | ex c d e => exact fun h => h
  | bad => exact fun h => h
theorem ev_makF {c : Nat} {ta : TA} {ma : M (List D)} {dvs : List V} {dfl : List D} (hn : Arity np F) (ok : g.ok c = true) (ha : EvL K g (WX_of E) ta ma) (hd : ∀ H, Reps K g H dfl dvs) :
    EvF K g (WX_of E) (tMake (g.cl c) (spM K g np F) dvs E ta) (mMakF F c dfl ma) := by
  intro env σ Hf H s Q h
  refine ha env σ Hf H s _ (h.frame.imp fun ds e1 Hf1 H1 _ s1 h1 vs r x dx nx ndx ne => ?_)
  replace h1 := h1 s1
  -- the heap with the new instance
  have npd : H1 dx = none := ndx
  have w1 : Grow Hf1 H1 Hf1 (upd H1 dx (.own x)) := own_new s1.sr.ex ndx
  have nx1 : (upd H1 dx (.own x)) x = none := by rw [upd_ne (fun z => ne z.symm)]; exact nx
  have w2 : Grow Hf1 (upd H1 dx (.own x)) Hf1 (upd (upd H1 dx (.own x)) x (.ins (g.cl c) dx [])) := own_new w1.fh nx1
  have w : Grow Hf1 H1 Hf1 (upd (upd H1 dx (.own x)) x (.ins (g.cl c) dx [])) := Grow.trans (a := w1) w2
  have fx : Hf1 x = none := s1.sr.ex.back nx
  have r2 := r.append (hd Hf1)
  have srl : SR K g (.pn (.ins c []) :: (ds ++ dfl).map .sh) ((V.ref x :: (vs ++ dvs)).map some) Hf1 (upd (upd H1 dx (.own x)) x (.ins (g.cl c) dx [])) := by
    have s0 : SR K g [Sl.pn (.ins c [])] [some (V.ref x)] Hf1 (upd (upd H1 dx (.own x)) x (.ins (g.cl c) dx [])) := by
      refine ⟨w.fh, rfl, fun i y o h h' => ?_, fun i j y z a b p n1 q1 q2 m1 m2 f1 => ?_⟩
      · cases i with
        | zero =>
          cases h
          cases h'
          exact ⟨x, _, rfl, upd_same, fx, by
            have := RepO.ins (K := K) (g := g) (Hf := Hf1) (c := c) (dx := dx) (ds := []) (vs := []) .nil (Nat.zero_le _) ok
            simpa using this⟩
        | succ i => simp at h
      · have hi := (List.getElem?_eq_some_iff.mp q1).1
        have hj := (List.getElem?_eq_some_iff.mp q2).1
        simp at hi hj
        omega
    exact sr_lent (i := 0) (p := x) s0 rfl rfl rfl r2
  refine sp_of hn srl ?_
  have stepBack : ∀ {e : En} {σ' : L2.St} {Hf' H' : Hp}, Step K g (.pn (.ins c []) :: (ds ++ dfl).map .sh) ((V.ref x :: (vs ++ dvs)).map some) Hf1 (upd (upd H1 dx (.own x)) x (.ins (g.cl c) dx [])) e σ' Hf' H' → Step K g e1 σ Hf1 H1 e1 σ Hf' H' := fun {e σ' Hf' H'} st => by
    have kp : ∀ a u, H1 a = some u → Hf1 a = none → H' a = some u ∧ Hf' a = none := fun a u q q' => st.kp a u (w.h a u q) q' fun o => by
      have := own_lent.mp o
      rw [this, nx] at q
      cases q
    refine ⟨st.f, ⟨st.sr.ex, s1.sr.len, fun i y o q q' => ?_, s1.sr.ne⟩, fun a u q q' _ => kp a u q q', fun a o => .inl o, fun a q => w.h.back (st.th a q), fun i d q => ⟨⟨d, q⟩, rfl⟩, rfl⟩
    have z := s1.sr.sl i y o q q'
    cases y with
    | no => trivial
    | sh d => obtain ⟨v, e, r⟩ := z; exact ⟨v, e, r.mono st.f⟩
    | ow d => obtain ⟨p, u, e, h1, h2, r⟩ := z; obtain ⟨k1, k2⟩ := kp p u h1 h2; exact ⟨p, u, e, k1, k2, r.mono st.f⟩
    | pn d => obtain ⟨p, u, e, h1, h2, r⟩ := z; obtain ⟨k1, k2⟩ := kp p u h1 h2; exact ⟨p, u, e, k1, k2, r.mono st.f⟩
  have pn : ∀ {e : En} {σ' : L2.St} {Hf' H' : Hp}, Step K g (.pn (.ins c []) :: (ds ++ dfl).map .sh) ((V.ref x :: (vs ++ dvs)).map some) Hf1 (upd (upd H1 dx (.own x)) x (.ins (g.cl c) dx [])) e σ' Hf' H' →
      ∃ d1 rest, e = .pn d1 :: rest ∧ ∃ u, H' x = some u ∧ Hf' x = none ∧ RepO K g Hf' d1 u := fun {e σ' Hf' H'} st => by
    obtain ⟨⟨d1, h1⟩, e0⟩ := st.pn 0 _ rfl
    cases e with
    | nil => cases h1
    | cons a b =>
      cases h1
      obtain ⟨q, u, f, h1, h2, r⟩ := st.sr.at_ (i := 0) (x := .pn d1) (d := d1) rfl rfl
      rw [e0] at f
      cases f
      exact ⟨d1, b, rfl, u, h1, h2, r⟩
  unfold mkA at h1
  revert h1
  cases F (.pn (.ins c []) :: (ds ++ dfl).map .sh) with
  | bad => exact fun h => h
  | ex c' d e => exact fun h dx' v fs σ' Hf' H' st r q1 q2 q3 q4 q5 => h dx' v fs σ Hf' H' (s1.trans (stepBack st)) r q1 q2 q3 (fun o => Own.there s1.sr o (w.h.back q5)) (s1.th _ (w.h.back q5))
  | ok z e =>
    cases z with
    | rto d => exact fun h => h.elim
    | nx => exact fun h => h.elim
    | bk => exact fun h => h.elim
    | ct => exact fun h => h.elim
    | rt d =>
      intro h σ' Hf' H' st v rv
      obtain ⟨d1, rest, rfl, u, k1, k2, k3⟩ := pn st
      cases rv <;> try exact h.elim
      case non => exact ⟨rfl, h Hf' H' (s1.trans (stepBack st)) x ⟨⟨u, k1, k3⟩, k2, fun o => Own.there s1.sr o nx, s1.th x nx⟩⟩
end
end DL

set_option Elab.async false
set_option linter.all false
set_option maxRecDepth 100000
set_option maxHeartbeats 400000
namespace DL
open PySem L2 PyProof.Rows
abbrev E0 : XK := fun _ _ _ => False
theorem pas0 {X : Cx} : Passes (L2.CX X.prog X.w) X E0 := fun _ _ _ _ _ _ _ h => by
  obtain ⟨_, _, _, _, _, _, _, _, _, _, _, _, z⟩ := h
  exact z.elim
/-! ### calls of the text's defs -/
section
variable {X : Cx} {g : G} {E : XK} {x : Str} {np k j : Nat} {F : Fm} {dfl : List D} {es : List Expr} {e : Expr} {ma : M (List D)} {p pos : Pos}
theorem m_call (d : Def0 X.prog X.w X.K X.mg X.base g x np F k dfl) (hr : Room j X.A) (hx : Passes (L2.CX X.prog X.w) X E) (ha : PAM X g (WX_of E) (e :: es) ma) (hk : k ≤ j := by decide) (hg : Gl X x := by rfl) (hdb : (x == ("__debug__" : Str)) = false := by decide)
    (he : starEach (e :: es) X.env = (false, eval e X.env) :: starEach es X.env := by rfl) (hpl : (backTo pos (starEach es X.env)).any (·.1) = false := by rfl) : PEM X g (WX_of E) (.Call (.Name x p) (e :: es) [] pos) (mCallA F dfl ma) := by
  obtain ⟨t, h1, h2⟩ := ha
  obtain ⟨⟨f, fd, ps, dvs, ds, F1, hm, kp, b, v, r⟩, ar⟩ := d
  exact ⟨_, pe_call F1 (hr.mono hk) hg hm kp b v hx h1 hdb he hpl, ev_callA ar h2 r⟩
theorem m_call0 (d : Def0 X.prog X.w X.K X.mg X.base g x np F k dfl) (hr : Room j X.A) (hx : Passes (L2.CX X.prog X.w) X E) (hk : k ≤ j := by decide) (hg : Gl X x := by rfl) (hdb : (x == ("__debug__" : Str)) = false := by decide) : PEM X g (WX_of E) (.Call (.Name x p) [] [] pos) (mCallA F dfl mNil) := by
  obtain ⟨⟨f, fd, ps, dvs, ds, F1, hm, kp, b, v, r⟩, ar⟩ := d
  exact ⟨_, pe_call0 F1 (hr.mono hk) hg hm kp b v hx hdb, ev_callA ar ev_nil r⟩
theorem f_call (d : Def0 X.prog X.w X.K X.mg X.base g x np F k dfl) (hr : Room j X.A) (hx : Passes (L2.CX X.prog X.w) X E) (ha : PAM X g (WX_of E) (e :: es) ma) (hk : k ≤ j := by decide) (hg : Gl X x := by rfl) (hdb : (x == ("__debug__" : Str)) = false := by decide)
    (he : starEach (e :: es) X.env = (false, eval e X.env) :: starEach es X.env := by rfl) (hpl : (backTo pos (starEach es X.env)).any (·.1) = false := by rfl) : PEF X g (WX_of E) (.Call (.Name x p) (e :: es) [] pos) (mCallAF F dfl ma) := by
  obtain ⟨t, h1, h2⟩ := ha
  obtain ⟨⟨f, fd, ps, dvs, ds, F1, hm, kp, b, v, r⟩, ar⟩ := d
  exact ⟨_, pe_call F1 (hr.mono hk) hg hm kp b v hx h1 hdb he hpl, ev_callAF ar h2 r⟩
theorem f_call0 (d : Def0 X.prog X.w X.K X.mg X.base g x np F k dfl) (hr : Room j X.A) (hx : Passes (L2.CX X.prog X.w) X E) (hk : k ≤ j := by decide) (hg : Gl X x := by rfl) (hdb : (x == ("__debug__" : Str)) = false := by decide) : PEF X g (WX_of E) (.Call (.Name x p) [] [] pos) (mCallAF F dfl mNil) := by
  obtain ⟨⟨f, fd, ps, dvs, ds, F1, hm, kp, b, v, r⟩, ar⟩ := d
  exact ⟨_, pe_call0 F1 (hr.mono hk) hg hm kp b v hx hdb, ev_callAF ar ev_nil r⟩
/-- the first argument lent -/
theorem m_callL (i : Nat) {y : Str} {py : Pos} (d : Def0 X.prog X.w X.K X.mg X.base g x np F k dfl) (hr : Room j X.A) (hx : Passes (L2.CX X.prog X.w) X E) (ha : PAM X g (WX_of E) es ma) (hk : k ≤ j := by decide) (hg : Gl X x := by rfl)
    (hN : X.N[i]? = some y := by rfl) (hv : Vis X.env.scope y := by first | exact Or.inl rfl | exact Or.inr (Or.inl rfl) | exact Or.inr (Or.inr rfl)) (hd : (y == ("__debug__" : Str)) = false := by decide) (hcd : (y == ("__classdict__" : Str)) = false := by decide) (hdb : (x == ("__debug__" : Str)) = false := by decide)
    (he : starEach (.Name y py :: es) X.env = (false, eval (.Name y py) X.env) :: starEach es X.env := by rfl) (hpl : (backTo pos (starEach es X.env)).any (·.1) = false := by rfl) : PEM X g (WX_of E) (.Call (.Name x p) (.Name y py :: es) [] pos) (mCallB F i dfl ma) := by
  obtain ⟨t, h1, h2⟩ := ha
  obtain ⟨⟨f, fd, ps, dvs, ds, F1, hm, kp, b, v, r⟩, ar⟩ := d
  exact ⟨_, pe_call F1 (hr.mono hk) hg hm kp b v hx (pa_cons (pe_var hN hv hd hcd) h1 he) hdb he hpl, ev_callB ar h2 r⟩
/-- C(..) -/
theorem f_make {c : Nat} (d : Mak X.prog X.w X.K X.mg X.base g x c np F k dfl) (hr : Room j X.A) (hx : Passes (L2.CX X.prog X.w) X E) (ha : PAM X g (WX_of E) (e :: es) ma) (hk : k + 1 ≤ j := by decide) (hg : Gl X x := by rfl) (hdb : (x == ("__debug__" : Str)) = false := by decide)
    (he : starEach (e :: es) X.env = (false, eval e X.env) :: starEach es X.env := by rfl) (hpl : (backTo pos (starEach es X.env)).any (·.1) = false := by rfl) : PEF X g (WX_of E) (.Call (.Name x p) (e :: es) [] pos) (mMakF F c dfl ma) := by
  obtain ⟨t, h1, h2⟩ := ha
  obtain ⟨⟨f, fd, ps, dvs, ds, F1, mk, hm, b, v, r⟩, ok, ar⟩ := d
  exact ⟨_, pe_make mk F1 (hr.mono hk) hg hm b v hx h1 hdb he hpl, ev_makF ar ok h2 r⟩
theorem f_make0 {c : Nat} (d : Mak X.prog X.w X.K X.mg X.base g x c np F k dfl) (hr : Room j X.A) (hx : Passes (L2.CX X.prog X.w) X E) (hk : k + 1 ≤ j := by decide) (hg : Gl X x := by rfl) (hdb : (x == ("__debug__" : Str)) = false := by decide) : PEF X g (WX_of E) (.Call (.Name x p) [] [] pos) (mMakF F c dfl mNil) := by
  obtain ⟨⟨f, fd, ps, dvs, ds, F1, mk, hm, b, v, r⟩, ok, ar⟩ := d
  exact ⟨_, pe_make0 mk F1 (hr.mono hk) hg hm b v hx hdb, ev_makF ar ok ev_nil r⟩
end
/-! ### fields -/
def fldD (f : Str) : D → Option D
  | .ins c ds => (ixF f (nmT c)).bind fun k => ds[k]?
  | _ => none
/-- the text's classes: their fields are no names of the class -/
def AllFld (K : PySem.W.Frag) (g : G) : Prop := ∀ c, g.ok c = true → Fld K g c
section
variable {K : PySem.W.Frag} {g : G} {W : WX} {E : XK}
def rFld (K : PySem.W.Frag) (f : Str) : V → Hp → VK → Prop := fun x H1 Q => ∃ a C dx fs v, x = .ref a ∧ H1 a = some (.ins C dx fs) ∧ Cls K C ∧ NoAttr K C f ∧ fs.lookup f = some v ∧ Q v H1
theorem ru_fld (A : AllFld K g) (f : Str) : RuOk K g (rFld K f) (fldD f) := fun Hf H x dx Q e r h => by
  cases r <;> try exact h.elim
  case ins a dx' c ds vs ha hv hl ok =>
    dsimp only [fldD] at h
    cases q : ixF f (nmT c) with
    | none => rw [q] at h; exact h.elim
    | some k =>
      rw [q] at h
      dsimp only [Option.bind] at h
      cases q2 : ds[k]? with
      | none => rw [q2] at h; exact h.elim
      | some d =>
        rw [q2] at h
        obtain ⟨v, e1, r1⟩ := Reps.getD hv q2
        have F := A c ok
        exact ⟨a, g.cl c, dx', _, v, rfl, e _ _ ha, F.cl, F.no f (ixF_mem q), ixF_zip q e1, h v Hf H (Grow.refl e) r1⟩
theorem ev_fldS (A : AllFld K g) (f : Str) (i : Nat) : EvM K g W (tFld K (tVar i) f) (bnd (own i) fun d => lft (fldD f d)) := fun env σ Hf H s Q h => by
  obtain ⟨x, d, hx, mx, h1⟩ := own_ok s h.bnd
  obtain ⟨p, u, hp, hu, ru⟩ := s.mut_at hx mx
  obtain ⟨z, hz, k⟩ := Aft.lft s h1
  cases ru <;> try (cases hz; done)
  case ins c dx ds vs hv hl ok =>
    dsimp only [fldD] at hz
    cases q : ixF f (nmT c) with
    | none => rw [q] at hz; cases hz
    | some j =>
      rw [q] at hz
      dsimp only [Option.bind] at hz
      obtain ⟨v, e1, r1⟩ := Reps.getD hv hz
      have F := A c ok
      exact ⟨_, hp, p, g.cl c, dx, _, v, rfl, hu, F.cl, F.no f (ixF_mem q), ixF_zip q e1, k Hf H (Grow.refl s.ex) v r1⟩
def putD (f : Str) (z : D) : D → Option D
  | .ins c ds => (ixF f (nmT c)).bind fun k => if k < ds.length then some (.ins c (ds.set k z)) else if k = ds.length then some (.ins c (ds ++ [z])) else none
  | _ => none
/-- x.f = e, x our own -/
def sFldS (f : Str) (i : Nat) (m : M D) : S := bnd m fun z => bnd (own i) fun d => match putD f z d with
  | some d' => fun env => .ok .nx (mdf i d' env)
  | none => fun _ => .bad
theorem ixF_lt {f : Str} : ∀ {ns : List Str} {k : Nat}, ixF f ns = some k → k < ns.length
  | n :: ns, k, h => by
    unfold ixF at h
    split at h
    · cases h; simp
    · cases q : ixF f ns with
      | none => rw [q] at h; cases h
      | some j => rw [q] at h; cases h; simpa using ixF_lt q
theorem nm_le (c : Nat) : (nmT c).length ≤ 10 := by
  rw [nmN_eq]
  unfold nmN
  split <;> decide
theorem ev_sfld (A : AllFld K g) {f : Str} {i : Nat} {te : TE} {m : M D} (he : EvM K g W te m) : EvS K g W (sFld K (tVar i) te f) (sFldS f i m) := fun env σ Hf H s Z h => by
  refine he env σ Hf H s _ (h.bnd.imp fun z e1 Hf1 H1 _ s1 h1 v rv => ?_)
  obtain ⟨x, d, hx, mx, h2⟩ := own_okS s1.sr h1
  obtain ⟨p, u, hp, hu, ru⟩ := s1.sr.mut_at hx mx
  cases ru <;> try exact h2.elim
  case ins c dx ds vs hv hl ok =>
    have F := A c ok
    dsimp only [putD] at h2
    cases q : ixF f (nmT c) with
    | none => rw [q] at h2; exact h2.elim
    | some k =>
      rw [q] at h2
      dsimp only [Option.bind] at h2
      refine ⟨_, hp, p, g.cl c, dx, _, rfl, hu, F.cl, F.no f (ixF_mem q), by
        rw [List.length_zip]
        have := nm_le c
        omega, ?_⟩
      by_cases b1 : k < ds.length
      · rw [if_pos b1] at h2
        rw [putF_old q (by rw [← hv.len]; exact b1)]
        exact h2 σ Hf1 _ (step_mut s1.sr hx mx hp (.ins (hv.set k rv) (by rw [List.length_set]; exact hl) ok))
      · rw [if_neg b1] at h2
        by_cases b2 : k = ds.length
        · rw [if_pos b2] at h2
          rw [putF_new (by rw [q, b2, hv.len])]
          exact h2 σ Hf1 _ (step_mut s1.sr hx mx hp (.ins (hv.append (.cons rv .nil)) (by
            rw [List.length_append, List.length_singleton, ← b2]
            exact ixF_lt q) ok))
        · rw [if_neg b2] at h2
          exact h2.elim
end
section
variable {X : Cx} {g : G} {W : WX} {e : Expr} {m : M D} {f x : Str} {pos p1 pos' : Pos}
theorem m_fld (A : AllFld X.K g) (h : PEM X g W e m) (hb : attributeBase e f X.env (eval e X.env) = eval e X.env := by rfl) : PEM X g W (.Attribute e f pos) (mUn (fldD f) m) := by
  obtain ⟨t, h1, h2⟩ := h
  exact ⟨_, pe_fld h1 hb, (ru_fld A f).ev h2⟩
theorem m_fldS (i : Nat) (A : AllFld X.K g) (hN : X.N[i]? = some x := by rfl) (hv : Vis X.env.scope x := by first | exact Or.inl rfl | exact Or.inr (Or.inl rfl) | exact Or.inr (Or.inr rfl)) (hd : (x == ("__debug__" : Str)) = false := by decide) (hcd : (x == ("__classdict__" : Str)) = false := by decide)
    (hb : attributeBase (.Name x p1) f X.env (eval (.Name x p1) X.env) = eval (.Name x p1) X.env := by rfl) : PEM X g W (.Attribute (.Name x p1) f pos) (bnd (own i) fun d => lft (fldD f d)) :=
  ⟨_, pe_fld (pe_var hN hv hd hcd) hb, ev_fldS A f i⟩
theorem s_fld (i : Nat) (A : AllFld X.K g) (h : PEM X g W e m) (hN : X.N[i]? = some x := by rfl) (hv : Vis X.env.scope x := by first | exact Or.inl rfl | exact Or.inr (Or.inl rfl) | exact Or.inr (Or.inr rfl)) (hd : (x == ("__debug__" : Str)) = false := by decide) (hcd : (x == ("__classdict__" : Str)) = false := by decide)
    (hs : swapsWith e (some (.Attribute (.Name x p1) f pos')) pos.line X.env = pure false := by rfl) : PSM X g W (.Assign [.Attribute (.Name x p1) f pos'] e pos) (sFldS f i m) := by
  obtain ⟨t, h1, h2⟩ := h
  exact ⟨_, ps_fld (pe_var hN hv hd hcd) h1 hs, ev_sfld A h2⟩
end
end DL

set_option Elab.async false
set_option linter.all false
set_option maxRecDepth 100000
set_option maxHeartbeats 400000
namespace DL
open PySem L2 PyProof.Rows
/-! ### by the class of a value -/
def cand {α : Type} (L : List (Nat × α)) : D → Option α
  | .ins c _ => L.lookup c
  | _ => none
theorem lookup_mem {α : Type} {c : Nat} {q : α} : ∀ {L : List (Nat × α)}, L.lookup c = some q → (c, q) ∈ L
  | a :: L, h => by
    rw [List.lookup_cons] at h
    by_cases e : c = a.1
    · rw [beq_iff_eq.mpr e] at h
      obtain ⟨c', q'⟩ := a
      dsimp only at h e
      cases h
      cases e
      exact List.mem_cons_self
    · rw [show (c == a.1) = false from by simpa using e] at h
      exact List.mem_cons_of_mem _ (lookup_mem h)
theorem cand_some {α : Type} {L : List (Nat × α)} {d : D} {q : α} (h : cand L d = some q) : ∃ c ds, d = .ins c ds ∧ (c, q) ∈ L := by
  cases d <;> try (cases h; done)
  case ins c ds => exact ⟨c, ds, rfl, lookup_mem h⟩
/-- a promise, whatever stands for the defaults -/
def SpD (K : PySem.W.Frag) (g : G) (F : Fm) (dfl : List D) : Sp := fun vs H Q E => ∀ (dvs : List V) (np : Nat), (∀ H, Reps K g H dfl dvs) → Arity np F → spM K g np F (vs ++ dvs) H Q E
section
variable {K : PySem.W.Frag} {g : G} {E : XK} {env : En} {σ : L2.St} {Hf H : Hp} {F : Fm}
theorem spD_A {ds dfl : List D} {vs : List V} {Q : VK} (s : SR K g env σ Hf H) (r : Reps K g Hf ds vs) (h : Aft K g (WX_of E) env σ Hf H (callA F (ds ++ dfl) env) fun d _ Hf' H' => ∀ v, Rep K g Hf' d v → Q v H') : SpD K g F dfl vs H Q E :=
  fun dvs np hd ar => spA ar s (r.append (hd Hf)) h
theorem spD_B {ds dfl : List D} {vs : List V} {i : Nat} {p : Addr} {Q : VK} (s : SR K g env σ Hf H) (hp : σ[i]? = some (some (.ref p))) (r : Reps K g Hf ds vs) (h : Aft K g (WX_of E) env σ Hf H (callB F i (ds ++ dfl) env) fun d _ Hf' H' => ∀ v, Rep K g Hf' d v → Q v H') : SpD K g F dfl (.ref p :: vs) H Q E :=
  fun dvs np hd ar => spB ar s hp (r.append (hd Hf)) h
end
/-! ### methods -/
section
variable (P : Program) (w : World) (K : PySem.W.Frag) (mg : Str → Option Value) (base : Heap) (g : G)
def AllM (j : Nat) (m : Str) (L : List (Nat × (Fm × List D))) : Prop := ∀ p ∈ L, ∃ k, k ≤ j ∧ Mth P w K mg base g p.1 m p.2.1 k p.2.2
def AllP (j : Nat) (m : Str) (L : List (Nat × Fm)) : Prop := ∀ p ∈ L, ∃ k, k + 1 ≤ j ∧ Prp P w K mg base g p.1 m p.2 k
def AllO (d j : Nat) (m : Str) (np : Nat) (L : List (Nat × Fm)) : Prop := ∀ p ∈ L, ∃ k, k + d ≤ j ∧ Opr P w K mg base g p.1 m np p.2 k
end
section
variable {P : Program} {w : World} {K : PySem.W.Frag} {mg : Str → Option Value} {base : Heap} {g : G} {d j k c np : Nat} {m : Str} {F : Fm} {dfl : List D}
theorem AllM.nil : AllM P w K mg base g j m [] := fun _ h => by cases h
theorem AllM.cons {L : List (Nat × (Fm × List D))} (h : Mth P w K mg base g c m F k dfl) (t : AllM P w K mg base g j m L) (hk : k ≤ j := by decide) : AllM P w K mg base g j m ((c, F, dfl) :: L) := fun p hp => by
  rcases List.mem_cons.mp hp with rfl | hp
  · exact ⟨k, hk, h⟩
  · exact t p hp
theorem AllP.nil : AllP P w K mg base g j m [] := fun _ h => by cases h
theorem AllP.cons {L : List (Nat × Fm)} (h : Prp P w K mg base g c m F k) (t : AllP P w K mg base g j m L) (hk : k + 1 ≤ j := by decide) : AllP P w K mg base g j m ((c, F) :: L) := fun p hp => by
  rcases List.mem_cons.mp hp with rfl | hp
  · exact ⟨k, hk, h⟩
  · exact t p hp
theorem AllO.nil : AllO P w K mg base g d j m np [] := fun _ h => by cases h
theorem AllO.cons {L : List (Nat × Fm)} (h : Opr P w K mg base g c m np F k) (t : AllO P w K mg base g d j m np L) (hk : k + d ≤ j := by decide) : AllO P w K mg base g d j m np ((c, F) :: L) := fun p hp => by
  rcases List.mem_cons.mp hp with rfl | hp
  · exact ⟨k, hk, h⟩
  · exact t p hp
end
def mMeth (L : List (Nat × (Fm × List D))) (mo : M D) (ma : M (List D)) : M D := bnd mo fun o => match cand L o with
  | some q => bnd ma fun ds => callA q.1 (o :: (ds ++ q.2))
  | none => fun _ => .bad
def mMethB (L : List (Nat × (Fm × List D))) (i : Nat) (ma : M (List D)) : M D := bnd (own i) fun o => match cand L o with
  | some q => bnd ma fun ds => callB q.1 i (ds ++ q.2)
  | none => fun _ => .bad
def mPrp (L : List (Nat × Fm)) (mo : M D) : M D := bnd mo fun o => match cand L o with
  | some F => nox (callA F [o])
  | none => fun _ => .bad
def tMethL (K : PySem.W.Frag) (g : G) (m : Str) (L : List (Nat × (Fm × List D))) (E : XK) (ta : TE) (t : TA) : TE := fun σ H Q => ta σ H fun x H1 => ∃ p ∈ L, ∃ a dx fs, x = .ref a ∧ H1 a = some (.ins (g.cl p.1) dx fs) ∧ fs.lookup m = none ∧
  t σ H1 fun vs H2 => SpD K g p.2.1 p.2.2 (x :: vs) H2 Q E
def tPrpL (K : PySem.W.Frag) (g : G) (L : List (Nat × Fm)) (ta : TE) : TE := fun σ H Q => ta σ H fun x H1 => ∃ p ∈ L, ∃ a dx fs, x = .ref a ∧ H1 a = some (.ins (g.cl p.1) dx fs) ∧ SpD K g p.2 [] [x] H1 Q E0
section
variable {K : PySem.W.Frag} {g : G} {W : WX} {E : XK} {m : Str}
theorem ev_meth {L : List (Nat × (Fm × List D))} {to : TE} {ta : TA} {mo : M D} {ma : M (List D)} (hn : ∀ p ∈ L, m ∉ nmT p.1) (ho : EvM K g (WX_of E) to mo) (ha : EvL K g (WX_of E) ta ma) : EvM K g (WX_of E) (tMethL K g m L E to ta) (mMeth L mo ma) :=
  fun env σ Hf H s Q h => ho env σ Hf H s _ (h.bnd.imp fun o e1 Hf1 H1 _ s1 h1 x rx => by
    cases q : cand L o with
    | none => rw [q] at h1; exact h1.elim
    | some q' =>
      rw [q] at h1
      obtain ⟨c, ds, rfl, mem⟩ := cand_some q
      have rx' := rx
      cases rx with
      | @ins a dx _ _ vs hx hv hl ok =>
        exact ⟨_, mem, a, dx, _, rfl, s1.sr.ex _ _ hx, not_lookup (hn _ mem), ha e1 σ Hf1 H1 s1.sr _ (h1.bnd.imp fun zs e2 Hf2 H2 _ s2 h2 ws r => spD_A s2.sr (.cons (rx'.mono s2.f) r) h2)⟩)
theorem ev_methB {L : List (Nat × (Fm × List D))} {i : Nat} {ta : TA} {ma : M (List D)} (hn : ∀ p ∈ L, m ∉ nmT p.1) (ha : EvL K g (WX_of E) ta ma) : EvM K g (WX_of E) (tMethL K g m L E (tVar i) ta) (mMethB L i ma) :=
  fun env σ Hf H s Q h => by
    obtain ⟨x, d, hx, mx, h1⟩ := own_ok s h.bnd
    obtain ⟨p, u, hp, hu, ru⟩ := s.mut_at hx mx
    cases q : cand L d with
    | none => rw [q] at h1; exact h1.elim
    | some q' =>
      rw [q] at h1
      obtain ⟨c, ds, rfl, mem⟩ := cand_some q
      cases ru with
      | ins hv hl ok =>
        exact ⟨_, hp, _, mem, p, _, _, rfl, hu, not_lookup (hn _ mem), ha env σ Hf H s _ (h1.bnd.imp fun zs e2 Hf2 H2 _ s2 h2 ws r => spD_B s2.sr hp r h2)⟩
theorem Aft.nox {α : Type} {env : En} {σ : L2.St} {Hf H : Hp} {m : M α} {P : α → En → Hp → Hp → Prop} (h : Aft K g W env σ Hf H (DL.nox m env) P) : Aft K g (WX_of E0) env σ Hf H (m env) P := by
  unfold DL.nox at h
  revert h
  cases m env with
  | ok a e => exact fun h => h
  | ex c d e => exact fun h => h.elim
  | bad => exact fun h => h
theorem ev_prp {L : List (Nat × Fm)} {to : TE} {mo : M D} (ho : EvM K g W to mo) : EvM K g W (tPrpL K g L to) (mPrp L mo) :=
  fun env σ Hf H s Q h => ho env σ Hf H s _ (h.bnd.imp fun o e1 Hf1 H1 _ s1 h1 x rx => by
    cases q : cand L o with
    | none => rw [q] at h1; exact h1.elim
    | some q' =>
      rw [q] at h1
      obtain ⟨c, ds, rfl, mem⟩ := cand_some q
      have rx' := rx
      cases rx with
      | @ins a dx _ _ vs hx hv hl ok =>
        exact ⟨_, mem, a, dx, _, rfl, s1.sr.ex _ _ hx, spD_A (dfl := []) s1.sr (.cons rx' .nil) (Aft.nox h1)⟩)
end
section
variable {X : Cx} {g : G} {W : WX} {E : XK} {j : Nat} {o e : Expr} {es : List Expr} {m f : Str} {mo : M D} {ma : M (List D)} {pos apos : Pos} {ta : TE} {t : TA} {pl : Sem Bool}
theorem AllM.no {L : List (Nat × (Fm × List D))} (h : AllM X.prog X.w X.K X.mg X.base g j m L) : ∀ p ∈ L, m ∉ nmT p.1 := fun p hp => let ⟨_, _, q⟩ := h p hp; q.no
theorem pe_methL {L : List (Nat × (Fm × List D))} (hL : AllM X.prog X.w X.K X.mg X.base g j m L) (he : PE X o ta) (hr : Room j X.A) (hx : Passes (L2.CX X.prog X.w) X E) (ha : PA X (e :: es) t)
    (hst : starEach (e :: es) X.env = (false, eval e X.env) :: starEach es X.env) (hpl : (backTo pos (starEach es X.env)).any (·.1) = false)
    (ht : eval (.Call (.Attribute o m apos) (e :: es) [] pos) X.env = (do
      let ov ← eval o X.env
      standAt apos.atName
      let (f, first) ← holding [ov] (getMethod ov m pl)
      callWith pos f first (backTo pos (starEach (e :: es) X.env)) (backToKw pos (keywordEach [] X.env)))) : PE X (.Call (.Attribute o m apos) (e :: es) [] pos) (tMethL X.K g m L E ta t) := by
  refine ⟨fun pins s σ H Q I h => ?_⟩
  refine PySem.W.methodCall_KW (pl := pl) (thn (he.run pins s σ H _ I h) fun u s1 ⟨x, H1, I1, rx, p, hp, a, dx, fs, ex, ea, l, q⟩ => ?_) ht
  subst ex
  obtain rfl : u = Value.ref a := rx
  obtain ⟨k, hk, ⟨fa, fd, ps, dvs, ds, np, F, hm, b, v, r, ar⟩, c, no⟩ := hL p hp
  refine getmeth_ok I1 ea c hm l ?_
  refine PySem.W.callWith_K (first := [.ref a]) (h₀ := X.base) I.ok.mod.kin hm.kp (thn (ha.run pos pins s1 σ H1 _ I1 q) fun us s2 ⟨vs, H2, I2, r2, q2⟩ => ⟨I2.kIn, ?_⟩) hst hpl
  exact run_fn (us := .ref a :: us) (vs := .ref a :: vs) F (hr.mono hk) b v hx I2 (.cons rfl r2) (q2 dvs np r ar)
theorem pe_methL0 {L : List (Nat × (Fm × List D))} (hL : AllM X.prog X.w X.K X.mg X.base g j m L) (he : PE X o ta) (hr : Room j X.A) (hx : Passes (L2.CX X.prog X.w) X E)
    (ht : eval (.Call (.Attribute o m apos) [] [] pos) X.env = (do
      let ov ← eval o X.env
      standAt apos.atName
      let (f, first) ← holding [ov] (getMethod ov m pl)
      callWith pos f first (backTo pos (starEach [] X.env)) (backToKw pos (keywordEach [] X.env)))) : PE X (.Call (.Attribute o m apos) [] [] pos) (tMethL X.K g m L E ta tNil) := by
  refine ⟨fun pins s σ H Q I h => ?_⟩
  refine PySem.W.methodCall_KW (pl := pl) (thn (he.run pins s σ H _ I h) fun u s1 ⟨x, H1, I1, rx, p, hp, a, dx, fs, ex, ea, l, q⟩ => ?_) ht
  subst ex
  obtain rfl : u = Value.ref a := rx
  obtain ⟨k, hk, ⟨fa, fd, ps, dvs, ds, np, F, hm, b, v, r, ar⟩, c, no⟩ := hL p hp
  refine getmeth_ok I1 ea c hm l ?_
  exact PySem.W.callWith_K0 (first := [.ref a]) I1.kIn hm.kp (run_fn (us := [.ref a]) (vs := [.ref a]) F (hr.mono hk) b v hx I1 (.cons rfl .nil) (q dvs np r ar))
theorem m_meth {L : List (Nat × (Fm × List D))} (hL : AllM X.prog X.w X.K X.mg X.base g j m L) (ho : PEM X g (WX_of E) o mo) (hr : Room j X.A) (hx : Passes (L2.CX X.prog X.w) X E) (ha : PAM X g (WX_of E) (e :: es) ma)
    (hst : starEach (e :: es) X.env = (false, eval e X.env) :: starEach es X.env := by rfl) (hpl : (backTo pos (starEach es X.env)).any (·.1) = false := by rfl)
    (ht : eval (.Call (.Attribute o m apos) (e :: es) [] pos) X.env = (do
      let ov ← eval o X.env
      standAt apos.atName
      let (f, first) ← holding [ov] (getMethod ov m pl)
      callWith pos f first (backTo pos (starEach (e :: es) X.env)) (backToKw pos (keywordEach [] X.env))) := by rfl) : PEM X g (WX_of E) (.Call (.Attribute o m apos) (e :: es) [] pos) (mMeth L mo ma) := by
  obtain ⟨u, h1, h2⟩ := ho
  obtain ⟨t, h3, h4⟩ := ha
  exact ⟨_, pe_methL hL h1 hr hx h3 hst hpl ht, ev_meth hL.no h2 h4⟩
theorem m_meth0 {L : List (Nat × (Fm × List D))} (hL : AllM X.prog X.w X.K X.mg X.base g j m L) (ho : PEM X g (WX_of E) o mo) (hr : Room j X.A) (hx : Passes (L2.CX X.prog X.w) X E)
    (ht : eval (.Call (.Attribute o m apos) [] [] pos) X.env = (do
      let ov ← eval o X.env
      standAt apos.atName
      let (f, first) ← holding [ov] (getMethod ov m pl)
      callWith pos f first (backTo pos (starEach [] X.env)) (backToKw pos (keywordEach [] X.env))) := by rfl) : PEM X g (WX_of E) (.Call (.Attribute o m apos) [] [] pos) (mMeth L mo mNil) := by
  obtain ⟨u, h1, h2⟩ := ho
  exact ⟨_, pe_methL0 hL h1 hr hx ht, ev_meth hL.no h2 ev_nil⟩
theorem m_methL (i : Nat) {x : Str} {p1 : Pos} {L : List (Nat × (Fm × List D))} (hL : AllM X.prog X.w X.K X.mg X.base g j m L) (hr : Room j X.A) (hx : Passes (L2.CX X.prog X.w) X E) (ha : PAM X g (WX_of E) (e :: es) ma)
    (hN : X.N[i]? = some x := by rfl) (hv : Vis X.env.scope x := by first | exact Or.inl rfl | exact Or.inr (Or.inl rfl) | exact Or.inr (Or.inr rfl)) (hd : (x == ("__debug__" : Str)) = false := by decide) (hcd : (x == ("__classdict__" : Str)) = false := by decide)
    (hst : starEach (e :: es) X.env = (false, eval e X.env) :: starEach es X.env := by rfl) (hpl : (backTo pos (starEach es X.env)).any (·.1) = false := by rfl)
    (ht : eval (.Call (.Attribute (.Name x p1) m apos) (e :: es) [] pos) X.env = (do
      let ov ← eval (.Name x p1) X.env
      standAt apos.atName
      let (f, first) ← holding [ov] (getMethod ov m pl)
      callWith pos f first (backTo pos (starEach (e :: es) X.env)) (backToKw pos (keywordEach [] X.env))) := by rfl) : PEM X g (WX_of E) (.Call (.Attribute (.Name x p1) m apos) (e :: es) [] pos) (mMethB L i ma) := by
  obtain ⟨t, h3, h4⟩ := ha
  exact ⟨_, pe_methL hL (pe_var hN hv hd hcd) hr hx h3 hst hpl ht, ev_methB hL.no h4⟩
theorem m_methL0 (i : Nat) {x : Str} {p1 : Pos} {L : List (Nat × (Fm × List D))} (hL : AllM X.prog X.w X.K X.mg X.base g j m L) (hr : Room j X.A) (hx : Passes (L2.CX X.prog X.w) X E)
    (hN : X.N[i]? = some x := by rfl) (hv : Vis X.env.scope x := by first | exact Or.inl rfl | exact Or.inr (Or.inl rfl) | exact Or.inr (Or.inr rfl)) (hd : (x == ("__debug__" : Str)) = false := by decide) (hcd : (x == ("__classdict__" : Str)) = false := by decide)
    (ht : eval (.Call (.Attribute (.Name x p1) m apos) [] [] pos) X.env = (do
      let ov ← eval (.Name x p1) X.env
      standAt apos.atName
      let (f, first) ← holding [ov] (getMethod ov m pl)
      callWith pos f first (backTo pos (starEach [] X.env)) (backToKw pos (keywordEach [] X.env))) := by rfl) : PEM X g (WX_of E) (.Call (.Attribute (.Name x p1) m apos) [] [] pos) (mMethB L i mNil) :=
  ⟨_, pe_methL0 hL (pe_var hN hv hd hcd) hr hx ht, ev_methB hL.no ev_nil⟩
theorem m_prp {L : List (Nat × Fm)} (hL : AllP X.prog X.w X.K X.mg X.base g j f L) (ho : PEM X g W o mo) (hr : Room j X.A) (hb : attributeBase o f X.env (eval o X.env) = eval o X.env := by rfl) : PEM X g W (.Attribute o f pos) (mPrp L mo) := by
  obtain ⟨u, h1, h2⟩ := ho
  refine ⟨_, ⟨fun pins s σ H Q I h => ?_⟩, ev_prp (L := L) h2⟩
  refine attr_of hb (thn (h1.run pins s σ H _ I h) fun u s1 ⟨x, H1, I1, rx, p, hp, a, dx, fs, ex, ea, q⟩ => ?_)
  subst ex
  obtain rfl : u = Value.ref a := rx
  obtain ⟨k, hk, ⟨pa, fa, fd, ps, F, hpr, b⟩, c, ar⟩ := hL p hp
  exact getprop_ok I1 ea c hpr F (hr.mono hk) b .nil pas0 (q [] 1 (fun _ => .nil) ar)
end
end DL

set_option Elab.async false
set_option linter.all false
set_option maxRecDepth 100000
set_option maxHeartbeats 400000
namespace DL
open PySem L2 PyProof.Rows
/-! ### own operators -/
def RvA (K : PySem.W.Frag) (g : G) (E : XK) (r : R2) (f : D → D → M D) : Prop := ∀ env σ Hf H, SR K g env σ Hf H → ∀ x y dx dy Q, Rep K g Hf dx x → Rep K g Hf dy y →
  Aft K g (WX_of E) env σ Hf H (f dx dy env) (fun d _ Hf' H' => ∀ v, Rep K g Hf' d v → Q v H') → r x y H Q
def RuA (K : PySem.W.Frag) (g : G) (E : XK) (r : V → Hp → VK → Prop) (f : D → M D) : Prop := ∀ env σ Hf H, SR K g env σ Hf H → ∀ x dx Q, Rep K g Hf dx x →
  Aft K g (WX_of E) env σ Hf H (f dx env) (fun d _ Hf' H' => ∀ v, Rep K g Hf' d v → Q v H') → r x H Q
def RcA (K : PySem.W.Frag) (g : G) (E : XK) (r : List V → Hp → VK → Prop) (f : List D → M D) : Prop := ∀ env σ Hf H, SR K g env σ Hf H → ∀ xs ds Q, Reps K g Hf ds xs →
  Aft K g (WX_of E) env σ Hf H (f ds env) (fun d _ Hf' H' => ∀ v, Rep K g Hf' d v → Q v H') → r xs H Q
section
variable {K : PySem.W.Frag} {g : G} {E : XK}
theorem RvOk.a {r : R2} {f : D → D → Option D} (h : RvOk K g r f) : RvA K g E r (fun x y => lft (f x y)) := fun env σ Hf H s x y dx dy Q r1 r2 q => by
  obtain ⟨z, hz, k⟩ := Aft.lft s q
  refine h Hf H x y dx dy Q s.ex r1 r2 ?_
  rw [hz]
  exact fun v Hf' H' w r => k Hf' H' w v r
theorem RuOk.a {r : V → Hp → VK → Prop} {f : D → Option D} (h : RuOk K g r f) : RuA K g E r (fun x => lft (f x)) := fun env σ Hf H s x dx Q r1 q => by
  obtain ⟨z, hz, k⟩ := Aft.lft s q
  refine h Hf H x dx Q s.ex r1 ?_
  rw [hz]
  exact fun v Hf' H' w r => k Hf' H' w v r
theorem RcOk.a {r : List V → Hp → VK → Prop} {f : List D → Option D} (h : RcOk K g r f) : RcA K g E r (fun x => lft (f x)) := fun env σ Hf H s x dx Q r1 q => by
  obtain ⟨z, hz, k⟩ := Aft.lft s q
  refine h Hf H x dx Q s.ex r1 ?_
  rw [hz]
  exact fun v Hf' H' w r => k Hf' H' w v r
theorem RvA.ev {r : R2} {f : D → D → M D} {ta tb : TE} {ma mb : M D} (hr : RvA K g E r f) (ha : EvM K g (WX_of E) ta ma) (hb : EvM K g (WX_of E) tb mb) : EvM K g (WX_of E) (tOp r ta tb) (bnd ma fun x => bnd mb fun y => f x y) :=
  fun env σ Hf H s Q h => ha env σ Hf H s _ (h.bnd.imp fun x e1 Hf1 H1 _ s1 h1 v r1 => hb e1 σ Hf1 H1 s1.sr _ (h1.bnd.imp fun y e2 Hf2 H2 _ s2 h2 w r2 => hr e2 σ Hf2 H2 s2.sr v w x y Q (r1.mono s2.f) r2 h2))
theorem RuA.ev {r : V → Hp → VK → Prop} {f : D → M D} {ta : TE} {ma : M D} (hr : RuA K g E r f) (ha : EvM K g (WX_of E) ta ma) : EvM K g (WX_of E) (tUn r ta) (bnd ma f) :=
  fun env σ Hf H s Q h => ha env σ Hf H s _ (h.bnd.imp fun x e1 Hf1 H1 _ s1 h1 v r1 => hr e1 σ Hf1 H1 s1.sr v x Q r1 h1)
theorem RcA.ev {r : List V → Hp → VK → Prop} {f : List D → M D} {ta : TA} {ma : M (List D)} (hr : RcA K g E r f) (ha : EvL K g (WX_of E) ta ma) : EvM K g (WX_of E) (tCB r ta) (bnd ma f) :=
  fun env σ Hf H s Q h => ha env σ Hf H s _ (h.bnd.imp fun x e1 Hf1 H1 _ s1 h1 v r1 => hr e1 σ Hf1 H1 s1.sr v x Q r1 h1)
/-- x op y, by the class of x -/
def okY : D → D → Bool
  | .ins c _, .ins c' _ => c == c'
  | .ins _ _, .int _ => true
  | _, _ => false
def mOpO (L : List (Nat × Fm)) (f : D → D → Option D) (x y : D) : M D := match cand L x with
  | some F => if okY x y = true then callA F [x, y] else fun _ => .bad
  | none => lft (f x y)
def OwnY (H : Hp) (C : Addr) (y : V) : Prop := (∃ b dy gs, y = .ref b ∧ H b = some (.ins C dy gs)) ∨ ∃ i, y = .int i
def rOwnB (K : PySem.W.Frag) (g : G) (L : List (Nat × Fm)) (E : XK) : R2 := fun x y H Q => ∃ p ∈ L, ∃ a dx fs, x = .ref a ∧ H a = some (.ins (g.cl p.1) dx fs) ∧ OwnY H (g.cl p.1) y ∧ SpD K g p.2 [] [x, y] H Q E
theorem rv_opO {L : List (Nat × Fm)} {r : R2} {f : D → D → Option D} (h : RvOk K g r f) : RvA K g E (fun x y H Q => r x y H Q ∨ rOwnB K g L E x y H Q) (mOpO L f) := fun env σ Hf H s x y dx dy Q r1 r2 q => by
  unfold mOpO at q
  cases hc : cand L dx with
  | none => rw [hc] at q; exact .inl (h.a env σ Hf H s x y dx dy Q r1 r2 q)
  | some F =>
    rw [hc] at q
    dsimp only at q
    by_cases ok : okY dx dy = true
    · rw [if_pos ok] at q
      obtain ⟨c, ds, rfl, mem⟩ := cand_some hc
      right
      have r1' := r1
      cases r1 with
      | @ins a dxa _ _ vs hx hv hl okc =>
        refine ⟨_, mem, a, dxa, _, rfl, s.ex _ _ hx, ?_, spD_A (dfl := []) s (.cons r1' (.cons r2 .nil)) q⟩
        cases dy <;> try (cases ok; done)
        case int i => cases r2; exact .inr ⟨i, rfl⟩
        case ins c' ds' =>
          obtain rfl : c = c' := by simpa [okY] using ok
          cases r2 with
          | @ins b dyb _ _ vs' hx' hv' hl' okc' => exact .inl ⟨b, dyb, _, rfl, s.ex _ _ hx'⟩
    · rw [if_neg ok] at q
      exact q.elim
/-- what an own operator wants of the class -/
structure OpB (K : PySem.W.Frag) (C : Addr) (op : Operator) : Prop where
  sf : PySem.W.selfFirst K C = true
  nr : PySem.W.findIn K (.ref C) (dunderR op.info.2) = some none
  i1 : ∃ fo, PySem.W.findIn K (.type "int") (PySem.dunder op.info.2) = some fo
  i2 : ∃ ro, PySem.W.findIn K (.type "int") (dunderR op.info.2) = some ro
  sb : PySem.W.subIn K (.type "int") (.ref C) = some false
end
section
variable {X : Cx} {g : G} {E : XK} {j np : Nat} {m : Str} {L : List (Nat × Fm)}
/-- the own def, called with values, at the running body or in a builtin below it -/
theorem run_opr {A : Around} {pins : List (Addr × Obj)} {σ : L2.St} {H : Hp} {s : Shared} {k : Nat} {F : Fm} {f : Addr} {us : List Value} {vs : List V} {Q : VK} (Fn : FnR X.prog X.w X.K X.mg X.base (L2.CX X.prog X.w) k f (spM X.K g np F)) (ar : Arity np F) (hr : Room k A) (e0 : Env0 X.prog X.w X.K X.mg X.base A X.stack s H) (hx : Passes (L2.CX X.prog X.w) X E)
    (I : Inv X pins σ H s) (r : Vals vs us) (h : SpD X.K g F [] vs H Q E) : wpAny (model X.prog X.w) A (call (.ref f) us) (EP X pins σ Q) X.xe s := by
  have q := h [] np (fun _ => .nil) ar
  rw [List.append_nil] at q
  exact wpAny_call (SlX.run_at Fn hr e0 hx I r q)
theorem op_ownB {op : Operator} (hL : AllO X.prog X.w X.K X.mg X.base g 0 j (PySem.dunder op.info.2) 2 L) (hb : ∀ p ∈ L, OpB X.K (g.cl p.1) op) (hr : Room j X.A) (hx : Passes (L2.CX X.prog X.w) X E) : OpR X (binaryOp op) (rOwnB X.K g L E) := by
  intro pins s σ H x y v u Q I rx ry h
  obtain ⟨p, hp, a, dx, fs, rfl, ha, hy, q⟩ := h
  cases (show v = Value.ref a from rx)
  obtain ⟨k, hk, ⟨f, Fn, hs, hf, _⟩, ar⟩ := hL p hp
  obtain ⟨sf, nr, ⟨fo, i1⟩, ⟨ro, i2⟩, sb⟩ := hb p hp
  obtain ⟨mA, J, _⟩ := ins_get I.hok ha
  obtain ⟨od, J, _⟩ := J.look
  obtain ⟨m, hF⟩ := I.fr
  have back : wpAny (model X.prog X.w) X.A (call (.ref f) [.ref a, u]) (PySem.W.CmpBack (EP X pins σ Q)) X.xe s := by
    refine wpAny_mono (run_opr Fn ar (hr.mono hk) I.env0 hx I (us := [.ref a, u]) (vs := [.ref a, y]) (.cons rfl (.cons ry .nil)) q) (fun w s' z => ?_) fun _ _ x => x
    obtain ⟨z', H', I', rz, qz⟩ := z
    exact SlX.cmpback rz ⟨z', H', I', rz, qz⟩
  rcases hy with ⟨b, dy, gs, rfl, hb'⟩ | ⟨i, rfl⟩
  · cases (show u = Value.ref b from ry)
    obtain ⟨mB, J', _⟩ := ins_get I.hok hb'
    obtain ⟨od', J', _⟩ := J'.look
    exact PySem.W.binop_K hF I.ok.mod.kin J J'.type sf hs hf back
  · obtain ⟨t, rfl⟩ := (show ∃ t, u = Value.int i t from ry)
    exact PySem.W.ksp_binT (T := "int") hF I.ok.mod.kin J rfl sf hs hf nr (.inl rfl) i1 i2 sb back
/-! ### == and != -/
def rOwnE (K : PySem.W.Frag) (g : G) (L : List (Nat × Fm)) (E : XK) (neg : Bool) : R2 := fun x y H Q => ∃ p ∈ L, ∃ a dx fs b dy gs, x = .ref a ∧ H a = some (.ins (g.cl p.1) dx fs) ∧ y = .ref b ∧ H b = some (.ins (g.cl p.1) dy gs) ∧
  SpD K g p.2 [] [x, y] H (fun v H' => ∃ k, v = .bl k ∧ Q (.bl (k != neg)) H') E
def sameC : D → D → Bool
  | .ins c _, .ins c' _ => c == c'
  | _, _ => false
def blD (neg : Bool) : D → Option D
  | .bl k => some (.bl (k != neg))
  | _ => none
def mEqO (L : List (Nat × Fm)) (neg : Bool) (f : D → D → Option D) (x y : D) : M D := match cand L x with
  | some F => if sameC x y = true then bnd (callA F [x, y]) fun z => lft (blD neg z) else fun _ => .bad
  | none => lft (f x y)
theorem rv_eqO {K : PySem.W.Frag} {L : List (Nat × Fm)} {neg : Bool} {r : R2} {f : D → D → Option D} (h : RvOk K g r f) : RvA K g E (fun x y H Q => r x y H Q ∨ rOwnE K g L E neg x y H Q) (mEqO L neg f) := fun env σ Hf H s x y dx dy Q r1 r2 q => by
  unfold mEqO at q
  cases hc : cand L dx with
  | none => rw [hc] at q; exact .inl (h.a env σ Hf H s x y dx dy Q r1 r2 q)
  | some F =>
    rw [hc] at q
    dsimp only at q
    by_cases ok : sameC dx dy = true
    · rw [if_pos ok] at q
      obtain ⟨c, ds, rfl, mem⟩ := cand_some hc
      right
      have r1' := r1
      have r2' := r2
      cases dy <;> try (cases ok; done)
      case ins c' ds' =>
        obtain rfl : c = c' := by simpa [sameC] using ok
        cases r1 with
        | @ins a dxa _ _ vs hx hv hl okc =>
          cases r2 with
          | @ins b dyb _ _ vs' hx' hv' hl' okc' =>
            refine ⟨_, mem, a, dxa, _, b, dyb, _, rfl, s.ex _ _ hx, rfl, s.ex _ _ hx', spD_A (dfl := []) s (.cons r1' (.cons r2' .nil)) (q.bnd.imp fun z e1 Hf1 H1 _ s1 h1 v rv => ?_)⟩
            obtain ⟨z', hz, k⟩ := Aft.lft s1.sr h1
            cases z <;> try (cases hz; done)
            case bl b0 =>
              cases hz
              cases rv
              exact ⟨_, rfl, k Hf1 H1 (Grow.refl s1.sr.ex) _ (.bl _)⟩
    · rw [if_neg ok] at q
      exact q.elim
theorem op_ownEq (hL : AllO X.prog X.w X.K X.mg X.base g 0 j "__eq__" 2 L) (hr : Room j X.A) (hx : Passes (L2.CX X.prog X.w) X E) : OpR X (compareOp .Eq) (rOwnE X.K g L E false) := by
  intro pins s σ H x y v u Q I rx ry h
  obtain ⟨p, hp, a, dx, fs, b, dy, gs, rfl, ha, rfl, hb', q⟩ := h
  cases (show v = Value.ref a from rx)
  cases (show u = Value.ref b from ry)
  obtain ⟨k, hk, ⟨f, Fn, hs, hf, _⟩, ar⟩ := hL p hp
  obtain ⟨mA, J, _⟩ := ins_get I.hok ha
  obtain ⟨od, J, _⟩ := J.look
  obtain ⟨mB, J', _⟩ := ins_get I.hok hb'
  obtain ⟨od', J', _⟩ := J'.look
  obtain ⟨m, hF⟩ := I.fr
  show wpAny _ _ (richCompare .Eq (.ref a) (.ref b)) _ _ _
  refine PySem.W.cmp_K (op := .Eq) (tb := .ref (g.cl p.1)) hr.units0 hF I.ok.mod.kin J J'.type (by simp [PySem.W.notFirst]) hs hf ?_
  refine wpAny_mono (run_opr Fn ar (hr.mono hk) I.env0 hx I (us := [.ref a, .ref b]) (vs := [.ref a, .ref b]) (.cons rfl (.cons ry .nil)) q) (fun w s' z => ?_) fun _ _ x => x
  obtain ⟨z', H', I', rz, k, rfl, qz⟩ := z
  refine SlX.cmpback rz ⟨_, H', I', rz, ?_⟩
  rw [show (k != false) = k from by cases k <;> rfl] at qz
  exact qz
end
section
variable {prog : Program} {w : World} {A : Around} {E : Value → Shared → Prop} {s : Shared} {K : PySem.W.Frag} {x C f : Addr} {ox : Obj} {od : Option Obj} {b : Value}
/-- object.__ne__: by the own __eq__ -/
theorem entry_ne {Q : Fin → Shared → Prop} (X : K.In s.heap) (I : PySem.W.InstAt s.heap x ox C od) (hu : A.units < cLine) (hs : PySem.W.findIn K (.ref C) "__eq__" = some (some (.ref f))) (hf : PySem.W.isFn K (.ref f) = true)
    (h : wpAny (model prog w) A (call (.ref f) [.ref x, b]) (fun v s' => ∃ k, v = .bool k ∧ Q (.done (.ret (.bool (!k)))) s') E s) : wpAny (model prog w) A (Builtin.«object.__ne__» ⟨[.ref x, b], []⟩) Q E s := by
  unfold Builtin.«object.__ne__»
  repeat (first
    | with_reducible refine wpAny_cRoomFor hu ?_
    | (refine wpAny_bind (m := callSpecialIfBound? (.ref x) (Str.ofString "__eq__") [b])
        (PySem.W.ifBound_K X I hs hf (wpAny_mono h (fun r s' hr => by
          obtain ⟨k, rfl, hq⟩ := hr
          repeat (first | exact hq | exact wpAny_pure hq | exact wpAny_truthy_bool hq | (refine wpAny_bind (m := truthy (.bool _)) (wpAny_truthy_bool ?_)) | wp_step)) fun _ _ e => e)))
    | wp_step)
theorem ifBound_ne {args : List Value} {Q : Option Value → Shared → Prop} (X : K.In s.heap) (I : PySem.W.InstAt s.heap x ox C od) (hs : PySem.W.findIn K (.ref C) "__ne__" = some (some (.builtin "object.__ne__")))
    (h : wpAny (model prog w) A (call (.builtin "object.__ne__") (.ref x :: args)) (fun v => Q (some v)) E s) : wpAny (model prog w) A (callSpecialIfBound? (.ref x) "__ne__" args) Q E s := by
  simp only [callSpecialIfBound?, bindSpecialIfBound?]
  refine wpAny_holding (wpAny_bind (wpAny_bind (wpAny_bind (I.type.here ((PySem.W.looks_findIn X hs).here ?_)))))
  refine wpAny_bind (wpAny_askSetting (wpAny_ite ?_))
  have fin : wpAny (model prog w) A (call (.builtin "object.__ne__") ([.ref x] ++ args) >>= fun v => pure (some v)) Q E s := wpAny_bind (wpAny_mono h (fun v s' h' => wpAny_pure h') fun _ _ h' => h')
  split
  · exact wpAny_bind (wpAny_of_eq (F.cmp_object.ne.bind _) (wpAny_pure (by exact fin)))
  · exact wpAny_tryCatch (wpAny_bind (wpAny_of_eq (F.cmp_object.ne.bind _) (wpAny_pure (by exact fin))))
theorem rich_ne {Q : Value → Shared → Prop} (X : K.In s.heap) (I : PySem.W.InstAt s.heap x ox C od) (hb : PySem.W.Looks (model prog w) s.heap (typeOf b) (.ref C)) (hu : A.units + 1 < cLine)
    (hn : PySem.W.findIn K (.ref C) "__ne__" = some (some (.builtin "object.__ne__"))) (hm : PySem.W.mroIn K C (.type "object") = some true) (hs : PySem.W.findIn K (.ref C) "__eq__" = some (some (.ref f))) (hf : PySem.W.isFn K (.ref f) = true)
    (h : wpAny (model prog w) A.in1 (call (.ref f) [.ref x, b]) (fun v s' => ∃ k, v = .bool k ∧ Q (.bool (!k)) s') E s) : wpAny (model prog w) A (richCompare .NotEq (.ref x) b) Q E s := by
  have one : wpAny (model prog w) A (tryCompare (.ref x) "__ne__" b) (fun r s' => ∃ k, r = some (.bool k) ∧ Q (.bool k) s') E s := by
    unfold tryCompare
    refine wpAny_bind (ifBound_ne X I hn (wpAny_call (codeAny_call_builtin F.cmp_object.ne.plain F.cmpEntry_ne (PySem.W.check_slot F.cmpKind_ne F.cmpSplit_ne (I.type.andThen (PySem.W.looks_mroIn X hm)) (F.cmpArgs_ne _ _)
      (entry_ne (A := A.in1) X I hu hs hf (wpAny_mono h (fun v s' hv => ?_) fun _ _ e => e))))))
    obtain ⟨k, rfl, hq⟩ := hv
    exact ⟨k, rfl, wpAny_pure ⟨_, rfl, hq⟩⟩
  unfold richCompare
  simp only [oneThing_ref]
  refine wpAny_holding (wpAny_bind (wpAny_cRoomFor (Nat.lt_of_succ_lt hu) ?_))
  rw [cmpInfo_NotEq]
  dsimp only
  refine wpAny_bind (I.type.here (wpAny_bind (hb.here ?_)))
  rw [show (Value.ref C != Value.ref C) = false from by simp]
  simp only [Bool.false_eq_true, if_false]
  refine wpAny_bind (wpAny_pure ?_)
  simp only [Bool.false_eq_true, if_false]
  refine wpAny_bind (wpAny_mono one (fun r s' z => ?_) fun _ _ e => e)
  obtain ⟨v, rfl, hq⟩ := z
  exact wpAny_pure hq
end
end DL

set_option Elab.async false
set_option linter.all false
set_option maxRecDepth 100000
set_option maxHeartbeats 400000
namespace DL
open PySem L2 PyProof.Rows
/-- what != wants of the class -/
structure OpN (K : PySem.W.Frag) (C : Addr) : Prop where
  ne : PySem.W.findIn K (.ref C) "__ne__" = some (some (.builtin "object.__ne__"))
  mo : PySem.W.mroIn K C (.type "object") = some true
def mUnO (L : List (Nat × Fm)) (f : D → Option D) (x : D) : M D := match cand L x with
  | some F => callA F [x]
  | none => lft (f x)
def rOwnU (K : PySem.W.Frag) (g : G) (L : List (Nat × Fm)) (E : XK) : V → Hp → VK → Prop := fun x H Q => ∃ p ∈ L, ∃ a dx fs, x = .ref a ∧ H a = some (.ins (g.cl p.1) dx fs) ∧ SpD K g p.2 [] [x] H Q E
/-- x[j] -/
def mIxO (L : List (Nat × Fm)) (f : D → D → Option D) (x y : D) : M D := match cand L x with
  | some F => callA F [x, y]
  | none => lft (f x y)
def rOwnI (K : PySem.W.Frag) (g : G) (L : List (Nat × Fm)) (E : XK) : R2 := fun x y H Q => ∃ p ∈ L, ∃ a dx fs, x = .ref a ∧ H a = some (.ins (g.cl p.1) dx fs) ∧ SpD K g p.2 [] [x, y] H Q E
/-- len(x) -/
def lenR : D → Option D
  | .int n => if 0 ≤ n ∧ n < 2 ^ 63 then some (.int n) else none
  | _ => none
def mLenO (L : List (Nat × Fm)) (f : List D → Option D) (xs : List D) : M D := match xs with
  | [x] => (match cand L x with
    | some F => bnd (callA F [x]) fun z => lft (lenR z)
    | none => lft (f xs))
  | _ => lft (f xs)
def rOwnL (K : PySem.W.Frag) (g : G) (L : List (Nat × Fm)) (E : XK) : List V → Hp → VK → Prop := fun xs H Q => ∃ p ∈ L, ∃ a dx fs, xs = [.ref a] ∧ H a = some (.ins (g.cl p.1) dx fs) ∧ SpD K g p.2 [] xs H (fun v H' => ∃ n, v = .int n ∧ 0 ≤ n ∧ n < 2 ^ 63 ∧ Q (.int n) H') E
/-- the truth of x -/
def mTruO (L : List (Nat × Fm)) (m : M D) : M Bool := bnd m fun x => match cand L x with
  | some F => bnd (callA F [x]) fun z => lft (match z with | .bl k => some k | _ => none)
  | none => lft (truD x)
def rOwnT (K : PySem.W.Frag) (g : G) (L : List (Nat × Fm)) (E : XK) : V → Hp → (Bool → Hp → Prop) → Prop := fun x H Q => ∃ p ∈ L, ∃ a dx fs, x = .ref a ∧ H a = some (.ins (g.cl p.1) dx fs) ∧ SpD K g p.2 [] [x] H (fun v H' => ∃ k, v = .bl k ∧ Q k H') E
section
variable {K : PySem.W.Frag} {g : G} {E : XK} {L : List (Nat × Fm)}
theorem ins_at {Hf H : Hp} {c : Nat} {ds : List D} {x : V} (e : Ex Hf H) (r : Rep K g Hf (.ins c ds) x) : ∃ a dx fs, x = .ref a ∧ H a = some (.ins (g.cl c) dx fs) := by
  cases r with
  | ins hx hv hl ok => exact ⟨_, _, _, rfl, e _ _ hx⟩
theorem ru_unO {r : V → Hp → VK → Prop} {f : D → Option D} (h : RuOk K g r f) : RuA K g E (fun x H Q => r x H Q ∨ rOwnU K g L E x H Q) (mUnO L f) := fun env σ Hf H s x dx Q r1 q => by
  unfold mUnO at q
  cases hc : cand L dx with
  | none => rw [hc] at q; exact .inl (h.a env σ Hf H s x dx Q r1 q)
  | some F =>
    rw [hc] at q
    obtain ⟨c, ds, rfl, mem⟩ := cand_some hc
    obtain ⟨a, dxa, fs, rfl, ha⟩ := ins_at s.ex r1
    exact .inr ⟨_, mem, a, dxa, fs, rfl, ha, spD_A (dfl := []) s (.cons r1 .nil) q⟩
theorem rv_ixO {r : R2} {f : D → D → Option D} (h : RvOk K g r f) : RvA K g E (fun x y H Q => r x y H Q ∨ rOwnI K g L E x y H Q) (mIxO L f) := fun env σ Hf H s x y dx dy Q r1 r2 q => by
  unfold mIxO at q
  cases hc : cand L dx with
  | none => rw [hc] at q; exact .inl (h.a env σ Hf H s x y dx dy Q r1 r2 q)
  | some F =>
    rw [hc] at q
    obtain ⟨c, ds, rfl, mem⟩ := cand_some hc
    obtain ⟨a, dxa, fs, rfl, ha⟩ := ins_at s.ex r1
    exact .inr ⟨_, mem, a, dxa, fs, rfl, ha, spD_A (dfl := []) s (.cons r1 (.cons r2 .nil)) q⟩
theorem rc_lenO {r : List V → Hp → VK → Prop} {f : List D → Option D} (h : RcOk K g r f) : RcA K g E (fun x H Q => r x H Q ∨ rOwnL K g L E x H Q) (mLenO L f) := fun env σ Hf H s xs ds Q r1 q => by
  unfold mLenO at q
  split at q
  · rename_i x
    cases hc : cand L x with
    | none => rw [hc] at q; exact .inl (h.a env σ Hf H s xs _ Q r1 q)
    | some F =>
      rw [hc] at q
      obtain ⟨c, ds, rfl, mem⟩ := cand_some hc
      right
      cases r1 with
      | cons r1 r2 =>
        cases r2
        obtain ⟨a, dxa, fs, rfl, ha⟩ := ins_at s.ex r1
        refine ⟨_, mem, a, dxa, fs, rfl, ha, spD_A (dfl := []) s (.cons r1 .nil) (q.bnd.imp fun z e1 Hf1 H1 _ s1 h1 v rv => ?_)⟩
        obtain ⟨z', hz, k⟩ := Aft.lft s1.sr h1
        cases z <;> try (cases hz; done)
        case int n0 _ =>
          dsimp only [lenR] at hz
          by_cases b : 0 ≤ n0 ∧ n0 < 2 ^ 63
          · rw [if_pos b] at hz
            cases hz
            cases rv
            exact ⟨_, rfl, b.1, b.2, k Hf1 H1 (Grow.refl s1.sr.ex) _ (.int _)⟩
          · rw [if_neg b] at hz
            cases hz
  · exact .inl (h.a env σ Hf H s xs ds Q r1 q)
theorem ev_TruO {ta : TE} {a : M D} (ha : EvM K g (WX_of E) ta a) : EvB K g (WX_of E) (fun σ H Q => ta σ H fun x H' => (∃ k, TruV K x H' k ∧ Q k H') ∨ rOwnT K g L E x H' Q) (mTruO L a) :=
  fun env σ Hf H s Q h => ha env σ Hf H s _ (h.bnd.imp fun x e1 Hf1 H1 _ s1 h1 v r1 => by
    cases hc : cand L x with
    | none =>
      rw [hc] at h1
      obtain ⟨b, hb, k⟩ := Aft.lft s1.sr h1
      exact .inl ⟨b, tru_of s1.sr.ex r1 hb, k Hf1 H1 (Grow.refl s1.sr.ex)⟩
    | some F =>
      rw [hc] at h1
      obtain ⟨c, ds, rfl, mem⟩ := cand_some hc
      obtain ⟨a, dxa, fs, rfl, ha⟩ := ins_at s1.sr.ex r1
      refine .inr ⟨_, mem, a, dxa, fs, rfl, ha, spD_A (dfl := []) s1.sr (.cons r1 .nil) (h1.bnd.imp fun z e2 Hf2 H2 _ s2 h2 v rv => ?_)⟩
      obtain ⟨z', hz, k⟩ := Aft.lft s2.sr h2
      cases z <;> try (cases hz; done)
      case bl b =>
        cases hz
        cases rv
        exact ⟨_, rfl, k Hf2 H2 (Grow.refl s2.sr.ex)⟩)
end
section
variable {X : Cx} {g : G} {E : XK} {j np : Nat} {m : Str} {L : List (Nat × Fm)}
theorem own_inst {pins : List (Addr × Obj)} {σ : L2.St} {H : Hp} {s : Shared} {C a dx : Addr} {fs : List (Str × V)} (I : Inv X pins σ H s) (ha : H a = some (.ins C dx fs)) : ∃ ox od m, PySem.W.InstAt s.heap a ox C od ∧ Fr X.base X.env.locals s.heap m := by
  obtain ⟨mA, J, _⟩ := ins_get I.hok ha
  obtain ⟨od, J, _⟩ := J.look
  obtain ⟨m, hF⟩ := I.fr
  exact ⟨_, _, m, J, hF⟩
theorem un_own {op : UnaryOp} {nm : Str} (hL : AllO X.prog X.w X.K X.mg X.base g 0 j nm 1 L) (hr : Room j X.A) (hx : Passes (L2.CX X.prog X.w) X E)
    (ho : ∀ {s : Shared} {a C f : Addr} {ox : Obj} {od : Option Obj} {m : Str → Option Value} {Q : Value → Shared → Prop}, X.K.In X.base → Fr X.base X.env.locals s.heap m → PySem.W.InstAt s.heap a ox C od → PySem.W.findIn X.K (.ref C) nm = some (some (.ref f)) → PySem.W.isFn X.K (.ref f) = true →
      wpAny (model X.prog X.w) X.A (call (.ref f) [.ref a]) Q X.xe s → wpAny (model X.prog X.w) X.A (unaryOp op (.ref a)) Q X.xe s) : UnR X (unaryOp op) (rOwnU X.K g L E) := by
  intro pins s σ H x v Q I rx h
  obtain ⟨p, hp, a, dx, fs, rfl, ha, q⟩ := h
  cases (show v = Value.ref a from rx)
  obtain ⟨k, hk, ⟨f, Fn, hs, hf, _⟩, ar⟩ := hL p hp
  obtain ⟨ox, od, m, J, hF⟩ := own_inst I ha
  exact ho I.ok.mod.kin hF J hs hf (run_opr Fn ar (hr.mono hk) I.env0 hx I (us := [.ref a]) (vs := [.ref a]) (.cons rfl .nil) q)
theorem UnR.or {f : Value → Sem Value} {r r' : V → Hp → VK → Prop} (h : UnR X f r) (h' : UnR X f r') : UnR X f (fun x H Q => r x H Q ∨ r' x H Q) := fun pins s σ H x v Q I rx q => by
  rcases q with q | q
  · exact h pins s σ H x v Q I rx q
  · exact h' pins s σ H x v Q I rx q
theorem un_none {f : Value → Sem Value} : UnR X f (fun _ _ _ => False) := fun pins s σ H x v Q I rx q => q.elim
theorem op_none {f : Value → Value → Sem Value} : OpR X f (fun _ _ _ _ => False) := fun pins s σ H x y v u Q I rx ry q => q.elim
theorem rv_none {K : PySem.W.Frag} : RvOk K g (fun _ _ _ _ => False) (fun _ _ => none) := fun _ _ _ _ _ _ _ _ _ _ h => h
theorem ru_none {K : PySem.W.Frag} : RuOk K g (fun _ _ _ => False) (fun _ => none) := fun _ _ _ _ _ _ _ h => h
theorem len_own (hL : AllO X.prog X.w X.K X.mg X.base g 1 j "__len__" 1 L) (hr : Room j X.A) (hx : Passes (L2.CX X.prog X.w) X E) : CallR X (.builtin "len") (rOwnL X.K g L E) := by
  intro pins s σ H xs us Q I r h
  obtain ⟨p, hp, a, dx, fs, rfl, ha, q⟩ := h
  obtain ⟨u, rfl, ru⟩ := r.one
  cases (show u = Value.ref a from ru)
  obtain ⟨k, hk, ⟨f, Fn, hs, hf, _⟩, ar⟩ := hL p hp
  obtain ⟨ox, od, m, J, hF⟩ := own_inst I ha
  refine PySem.W.len_K hF I.ok.mod.kin J hs hf (wpAny_mono (run_opr Fn ar ((hr.mono hk).in1) I.env0.in1 hx I (us := [.ref a]) (vs := [.ref a]) (.cons rfl .nil) q) (fun w s' z => ?_) fun _ _ x => x)
  obtain ⟨z', H', I', rz, n, rfl, n0, n1, qz⟩ := z
  obtain ⟨t, rfl⟩ := (show ∃ t, w = Value.int n t from rz)
  exact ⟨⟨n0, n1⟩, .int n, H', I'.tok _, ⟨_, rfl⟩, qz⟩
theorem tru_own (hL : AllO X.prog X.w X.K X.mg X.base g 0 j "__bool__" 1 L) (hr : Room j X.A) (hx : Passes (L2.CX X.prog X.w) X E) : TruR X (rOwnT X.K g L E) := by
  intro pins s σ H x v Q I rx h
  obtain ⟨p, hp, a, dx, fs, rfl, ha, q⟩ := h
  cases (show v = Value.ref a from rx)
  obtain ⟨k, hk, ⟨f, Fn, hs, hf, _⟩, ar⟩ := hL p hp
  obtain ⟨ox, od, m, J, hF⟩ := own_inst I ha
  refine PySem.W.truthy_K hF I.ok.mod.kin J hs hf (wpAny_mono (run_opr Fn ar (hr.mono hk) I.env0 hx I (us := [.ref a]) (vs := [.ref a]) (.cons rfl .nil) q) (fun w s' z => ?_) fun _ _ x => x)
  obtain ⟨z', H', I', rz, b, rfl, qz⟩ := z
  cases (show w = Value.bool b from rz)
  exact ⟨H', I', qz⟩
theorem op_ownNe (hL : AllO X.prog X.w X.K X.mg X.base g 1 j "__eq__" 2 L) (hn : ∀ p ∈ L, OpN X.K (g.cl p.1)) (hr : Room j X.A) (hx : Passes (L2.CX X.prog X.w) X E) : OpR X (compareOp .NotEq) (rOwnE X.K g L E true) := by
  intro pins s σ H x y v u Q I rx ry h
  obtain ⟨p, hp, a, dx, fs, b, dy, gs, rfl, ha, rfl, hb', q⟩ := h
  cases (show v = Value.ref a from rx)
  cases (show u = Value.ref b from ry)
  obtain ⟨k, hk, ⟨f, Fn, hs, hf, _⟩, ar⟩ := hL p hp
  obtain ⟨ox, od, m, J, hF⟩ := own_inst I ha
  obtain ⟨ox', od', m', J', _⟩ := own_inst I hb'
  show wpAny _ _ (richCompare .NotEq (.ref a) (.ref b)) _ _ _
  have hrk := hr.mono hk
  refine rich_ne I.kIn J J'.type (hrk.in1).units0 (hn p hp).ne (hn p hp).mo hs hf (wpAny_mono (run_opr Fn ar hrk.in1 I.env0.in1 hx I (us := [.ref a, .ref b]) (vs := [.ref a, .ref b]) (.cons rfl (.cons ry .nil)) q) (fun w s' z => ?_) fun _ _ x => x)
  obtain ⟨z', H', I', rz, k, rfl, qz⟩ := z
  cases (show w = Value.bool k from rz)
  refine ⟨k, rfl, .bl (!k), H', I', rfl, ?_⟩
  rw [show (k != true) = !k from by cases k <;> rfl] at qz
  exact qz
theorem pe_ixO {a b : Expr} {ta tb : TE} {pos : Pos} {r : R2} (hix : IxR X r) (hL : AllO X.prog X.w X.K X.mg X.base g 1 j "__getitem__" 2 L) (hr : Room j X.A) (hx : Passes (L2.CX X.prog X.w) X E) (ha : PE X a ta) (hb : PE X b tb) (hs : PlainIx b)
    (hs2 : ∀ (o : Addr) i, subscripted b true (.ref o) i = runValue (.builtin "lifetime.subscript" ⟨[.ref o, i], []⟩)) : PE X (.Subscript a b pos) (tOp (fun x y H Q => r x y H Q ∨ rOwnI X.K g L E x y H Q) ta tb) := by
  refine ⟨fun pins s σ H Q I h => ?_⟩
  refine Subscript_ (binT ha hb I h fun v u s2 x y H2 I2 rx ry q => ?_)
  rcases q with q | q
  · exact hix a b pins s2 σ H2 x y v u Q I2 rx ry q (hs _ _)
  · obtain ⟨p, hp, ad, dx, fs, rfl, had, q⟩ := q
    cases (show v = Value.ref ad from rx)
    obtain ⟨k, hk, ⟨f, Fn, hs', hf, hf2⟩, ar⟩ := hL p hp
    obtain ⟨ox, od, m, J, hF⟩ := own_inst I2 had
    exact PySem.W.sub_K hF I2.ok.mod.kin J hs' hf2 hf (run_opr Fn ar ((hr.mono hk).in1) I2.env0.in1 hx I2 (us := [.ref ad, u]) (vs := [.ref ad, y]) (.cons rfl (.cons ry .nil)) q) (hs2 _ _)
end
end DL

set_option Elab.async false
set_option linter.all false
set_option maxRecDepth 100000
set_option maxHeartbeats 400000
namespace DL
open PySem L2 PyProof.Rows
/-! ### isinstance -/
inductive CK where
  | ty (n : String) | cl (c : Nat)
deriving DecidableEq
def kindD : D → Option CK
  | .non => some (.ty "NoneType") | .bl _ => some (.ty "bool") | .int _ => some (.ty "int") | .str _ => some (.ty "str")
  | .tup _ => some (.ty "tuple") | .lst _ => some (.ty "list") | .scr _ => some (.ty "list") | .dic _ _ => some (.ty "dict") | .dct _ _ => some (.ty "dict")
  | .ins c _ => some (.cl c) | _ => none
def kitCK : CK → CK → Bool
  | .ty a, .ty b => a == b || (a == "bool" && b == "int")
  | .cl c, .cl c' => c == c'
  | _, _ => false
def ckV (g : G) : CK → V
  | .ty n => .ty n
  | .cl c => .ref (g.cl c)
def ckU (g : G) : CK → Value
  | .ty n => .type n
  | .cl c => .ref (g.cl c)
def kinds : List String := ["NoneType", "bool", "int", "str", "tuple", "list", "dict"]
/-- what is known of the text's classes -/
structure IsF (K : PySem.W.Frag) (g : G) : Prop where
  cl : ∀ c, g.ok c = true → Cls K (g.cl c) ∧ PySem.W.findIn K (.ref (g.cl c)) "__class__" = some (some (.builtin "object.__class__")) ∧ PySem.W.mroIn K (g.cl c) (.type "object") = some true
  hn : PySem.W.specialIn K (.builtin "object.__class__") "__get__" = some (some (.builtin "getset_descriptor.__get__"))
  ht : PySem.W.takesIn K (.builtin "object.__class__") = some true
  o1 : ∀ c, g.ok c = true → ∀ n ∈ kinds, PySem.W.kitOne K (.ref (g.cl c)) (.type n) = some false
  o2 : ∀ c, g.ok c = true → ∀ n ∈ kinds, PySem.W.kitOne K (.type n) (.ref (g.cl c)) = some false
  o3 : ∀ c c', g.ok c = true → g.ok c' = true → PySem.W.kitOne K (.ref (g.cl c)) (.ref (g.cl c')) = some (c == c')
def okK (ok : Nat → Bool) : CK → Bool
  | .ty n => kinds.contains n
  | .cl c => ok c
theorem kit_bb : kinds.all (fun a => kinds.all fun b => decide (kitB a b = some (kitCK (.ty a) (.ty b)))) = true := by decide +kernel
section
variable {K : PySem.W.Frag} {g : G} {W : WX} {E : XK}
theorem kit_ok (F : IsF K g) {k t : CK} (hk : okK g.ok k = true) (ht : okK g.ok t = true) : PySem.W.kitOne K (ckU g k) (ckU g t) = some (kitCK k t) := by
  cases k with
  | ty a =>
    have ha : a ∈ kinds := by simpa [okK] using hk
    cases t with
    | ty b =>
      have hb : b ∈ kinds := by simpa [okK] using ht
      have h := List.all_eq_true.mp (List.all_eq_true.mp kit_bb a ha) b hb
      exact kit_ty (of_decide_eq_true h)
    | cl c => exact F.o2 c ht a ha
  | cl c =>
    cases t with
    | ty b =>
      have hb : b ∈ kinds := by simpa [okK] using ht
      exact F.o1 c hk b hb
    | cl c' => exact F.o3 c c' hk ht
theorem kit_any (F : IsF K g) {k : CK} (hk : okK g.ok k = true) : ∀ {ts : List CK}, ts.all (okK g.ok) = true → PySem.W.kitAny K (ckU g k) (ts.map (ckU g)) = some (ts.any (kitCK k))
  | [], _ => rfl
  | t :: ts, h => by
    rw [List.all_cons, Bool.and_eq_true] at h
    refine kitAny_cons (kit_ok F hk h.1) (fun e => ?_) (fun e => ?_)
    · rw [List.any_cons, e, Bool.false_or]; exact kit_any F hk h.2
    · rw [List.any_cons, e, Bool.true_or]
theorem ty_lst {H : Hp} {a : Addr} {xs : List V} (h : SqL K H a xs) : TyX K H (.ref a) (.type "list") := by
  rcases h with (h | ⟨o, h⟩) | ⟨o, its, n, h1, h2, _⟩
  · exact .base (.lst h)
  · exact .base (.frz h)
  · exact .kList h1 h2
theorem ty_tup {H : Hp} {a : Addr} {xs : List V} (h : SqT K H a xs) : TyX K H (.ref a) (.type "tuple") := by
  rcases h with (h | ⟨o, h⟩) | ⟨o, its, n, h1, h2, _⟩
  · exact .base (.tup h)
  · exact .fTuple h
  · exact .kTuple h1 h2
/-- a dict that is tracked itself -/
theorem ty_of (F : IsF K g) {Hf H : Hp} {d : D} {x : V} {k : CK} (e : Ex Hf H) (r : Rep K g Hf d x) (h : kindD d = some k) (nd : k ≠ .ty "dict") : TyX K H x (ckU g k) ∧ okK g.ok k = true := by
  have r := r.mono e
  cases r with
  | non => cases h; exact ⟨.base .non, rfl⟩
  | bl b => cases h; exact ⟨.base (.bl b), rfl⟩
  | int i => cases h; exact ⟨.base (.int i), rfl⟩
  | str z => cases h; exact ⟨.base (.str z), rfl⟩
  | ty n => cases h
  | cls c => cases h
  | tup h1 _ => cases h; exact ⟨ty_tup h1, rfl⟩
  | lst h1 _ => cases h; exact ⟨.base (.lst h1), rfl⟩
  | scr h1 => cases h; exact ⟨ty_lst h1, rfl⟩
  | dic h1 _ _ => cases h; exact absurd rfl nd
  | dct h1 _ _ => cases h; exact absurd rfl nd
  | @ins a dx c ds vs h1 h2 h3 h4 =>
    cases h
    obtain ⟨c1, c2, c3⟩ := F.cl c h4
    exact ⟨.base (.ins h1 c1 c2 F.hn F.ht c3), h4⟩
def isiD (ok : Nat → Bool) (ts : List CK) (d : D) : Option D := if ts.all (okK ok) = true then (kindD d).bind fun k => if k = .ty "dict" then none else some (.bl (ts.any (kitCK k))) else none
/-- classes written out -/
def tCs : List V → TA
  | [] => tNil
  | v :: vs => tCons (tC v) (tCs vs)
theorem tCs_run {vs : List V} {σ : L2.St} {H : Hp} {Q : List V → Hp → Prop} (h : Q vs H) : tCs vs σ H Q := by
  induction vs generalizing Q with
  | nil => exact h
  | cons v vs ih => exact ih h
theorem clsV (t : CK) : ClsV (ckV g t) (ckU g t) := by cases t with | ty n => exact .ty n | cl c => exact .own _
theorem clsVs : ∀ ts : List CK, Paired ClsV (ts.map (ckV g)) (ts.map (ckU g))
  | [] => .nil
  | t :: ts => .cons (clsV t) (clsVs ts)
theorem isiD_some {ts : List CK} {d z : D} (h : isiD g.ok ts d = some z) : ts.all (okK g.ok) = true ∧ ∃ k, kindD d = some k ∧ k ≠ .ty "dict" ∧ z = .bl (ts.any (kitCK k)) := by
  unfold isiD at h
  by_cases c : ts.all (okK g.ok) = true
  · rw [if_pos c] at h
    cases q : kindD d with
    | none => rw [q] at h; cases h
    | some k =>
      rw [q] at h
      dsimp only [Option.bind] at h
      by_cases e : k = .ty "dict"
      · rw [if_pos e] at h; cases h
      · rw [if_neg e] at h; cases h; exact ⟨c, k, rfl, e, rfl⟩
  · rw [if_neg c] at h; cases h
theorem ev_isi (F : IsF K g) {ta : TE} {m : M D} {t : CK} (ha : EvM K g W ta m) : EvM K g W (tCB (rIsi K) (tCons ta (tCons (tC (ckV g t)) tNil))) (mUn (isiD g.ok [t]) m) :=
  fun env σ Hf H s Q h => ha env σ Hf H s _ (h.bnd.imp fun d e1 Hf1 H1 _ s1 h1 x rx => by
    obtain ⟨z, hz, k⟩ := Aft.lft s1.sr h1
    obtain ⟨c, kd, h2, nd, rfl⟩ := isiD_some hz
    obtain ⟨ty, okk⟩ := ty_of F s1.sr.ex rx h2 nd
    have okt : okK g.ok t = true := by simpa using c
    exact ⟨x, ckV g t, ckU g kd, ckU g t, kitCK kd t, rfl, clsV t, ty, kit_ok F okk okt, k Hf1 H1 (Grow.refl s1.sr.ex) _ (by simpa using Rep.bl (K := K) (g := g) (H := Hf1) (kitCK kd t))⟩)
theorem ev_isiT (F : IsF K g) {ta : TE} {m : M D} {ts : List CK} (hl : ts.length ≤ sizeLine) (ha : EvM K g W ta m) : EvM K g W (tCB (rIsiT K) (tCons ta (tCons (tTup (tCs (ts.map (ckV g)))) tNil))) (mUn (isiD g.ok ts) m) :=
  fun env σ Hf H s Q h => ha env σ Hf H s _ (h.bnd.imp fun d e1 Hf1 H1 _ s1 h1 x rx => by
    obtain ⟨z, hz, k⟩ := Aft.lft s1.sr h1
    obtain ⟨c, kd, h2, nd, rfl⟩ := isiD_some hz
    refine tCs_run ⟨by rw [List.length_map]; exact hl, fun p hp => ?_⟩
    have w : Grow Hf1 H1 Hf1 (upd H1 p (.tup (ts.map (ckV g)))) := own_new s1.sr.ex hp
    obtain ⟨ty, okk⟩ := ty_of F w.fh rx h2 nd
    exact ⟨x, p, ts.map (ckV g), ckU g kd, ts.map (ckU g), _, rfl, upd_same, clsVs ts, ty, kit_any F okk c, k Hf1 _ w _ (.bl _)⟩)
end
section
variable {X : Cx} {g : G} {W : WX} {E : XK}
/-- names of classes -/
structure ClE (X : Cx) (g : G) (e : Expr) (t : CK) : Prop where
  pe : PE X e (tC (ckV g t))
structure ClEs (X : Cx) (g : G) (es : List Expr) (ts : List CK) : Prop where
  pa : PA X es (tCs (ts.map (ckV g)))
theorem ce_ty {x : Str} {n : String} {pos : Pos} (hm : X.mg x = none) (hv : bootBuiltins x = some (.type n)) (hg : Gl X x := by rfl) (hn : x ≠ "__name__" := by decide) (hd : (x == ("__debug__" : Str)) = false := by decide) : ClE X g (.Name x pos) (.ty n) :=
  ⟨pe_bltn hg hm hv rfl hn hd⟩
theorem ce_cl {x : Str} {c : Nat} {pos : Pos} (hm : X.mg x = some (.ref (g.cl c))) (hg : Gl X x := by rfl) (hd : (x == ("__debug__" : Str)) = false := by decide) : ClE X g (.Name x pos) (.cl c) :=
  ⟨pe_glob hg hm rfl hd⟩
theorem ces_nil : ClEs X g [] [] := ⟨pa_nil⟩
theorem ces_cons {e : Expr} {es : List Expr} {t : CK} {ts : List CK} (h : ClE X g e t) (k : ClEs X g es ts) (hs : starEach (e :: es) X.env = (false, eval e X.env) :: starEach es X.env := by rfl) : ClEs X g (e :: es) (t :: ts) := ⟨pa_cons h.pe k.pa hs⟩
theorem m_isi {a e : Expr} {m : M D} {t : CK} {p pos : Pos} (F : IsF X.K g) (ha : PEM X g W a m) (hc : ClE X g e t) (hm : X.mg "isinstance" = none) (hg : Gl X "isinstance" := by rfl)
    (he : starEach [a, e] X.env = (false, eval a X.env) :: starEach [e] X.env := by rfl) (he2 : starEach [e] X.env = (false, eval e X.env) :: starEach [] X.env := by rfl) (hpl : (backTo pos (starEach [e] X.env)).any (·.1) = false := by rfl) :
    PEM X g W (.Call (.Name "isinstance" p) [a, e] [] pos) (mUn (isiD g.ok [t]) m) := by
  obtain ⟨ta, h1, h2⟩ := ha
  exact ⟨_, pe_callB call_isi hg hm rfl (pa_cons h1 (pa_cons hc.pe pa_nil he2) he) (by decide) (by decide) he hpl, ev_isi F h2⟩
theorem m_isiT {a : Expr} {es : List Expr} {m : M D} {ts : List CK} {p pos p2 : Pos} {x1} (F : IsF X.K g) (ha : PEM X g W a m) (hc : ClEs X g es ts) (hm : X.mg "isinstance" = none) (hl : ts.length ≤ 16777216 := by decide) (hg : Gl X "isinstance" := by rfl)
    (he : starEach [a, .Tuple es x1 p2] X.env = (false, eval a X.env) :: starEach [.Tuple es x1 p2] X.env := by rfl) (he2 : starEach [.Tuple es x1 p2] X.env = (false, eval (.Tuple es x1 p2) X.env) :: starEach [] X.env := by rfl) (hpl : (backTo pos (starEach [.Tuple es x1 p2] X.env)).any (·.1) = false := by rfl) :
    PEM X g W (.Call (.Name "isinstance" p) [a, .Tuple es x1 p2] [] pos) (mUn (isiD g.ok ts) m) := by
  obtain ⟨ta, h1, h2⟩ := ha
  exact ⟨_, pe_callB call_isiT hg hm rfl (pa_cons h1 (pa_cons (pe_tup hc.pa) pa_nil he2) he) (by decide) (by decide) he hpl, ev_isiT F (Nat.le_trans hl (by decide)) h2⟩
end
end DL

set_option Elab.async false
set_option linter.all false
set_option maxRecDepth 100000
set_option maxHeartbeats 400000
namespace DL
open PySem L2 PyProof.Rows
/-! ### operators, own or not -/
def AllC (q : Nat → Prop) (L : List (Nat × Fm)) : Prop := ∀ p ∈ L, q p.1
theorem AllC.nil {q : Nat → Prop} : AllC q [] := fun _ h => by cases h
theorem AllC.cons {q : Nat → Prop} {c : Nat} {F : Fm} {L : List (Nat × Fm)} (h : q c) (t : AllC q L) : AllC q ((c, F) :: L) := fun p hp => by
  rcases List.mem_cons.mp hp with rfl | hp
  · exact h
  · exact t p hp
def mBinO (L : List (Nat × Fm)) (f : D → D → Option D) (ma mb : M D) : M D := bnd ma fun x => bnd mb fun y => mOpO L f x y
def mCmpO (L : List (Nat × Fm)) (neg : Bool) (f : D → D → Option D) (ma mb : M D) : M D := bnd ma fun x => bnd mb fun y => mEqO L neg f x y
def mSubO (L : List (Nat × Fm)) (ma mb : M D) : M D := bnd ma fun x => bnd mb fun y => mIxO L ixD x y
section
variable {X : Cx} {g : G} {E : XK} {j np : Nat} {L : List (Nat × Fm)} {a b e : Expr} {es : List Expr} {ma mb : M D} {ml : M (List D)} {pos p : Pos} {r : R2} {f : D → D → Option D}
theorem m_opO {op : Operator} (ho : OpR X (binaryOp op) r) (hv : RvOk X.K g r f) (hL : AllO X.prog X.w X.K X.mg X.base g 0 j (PySem.dunder op.info.2) 2 L) (hb : AllC (fun c => OpB X.K (g.cl c) op) L) (hr : Room j X.A) (hx : Passes (L2.CX X.prog X.w) X E)
    (ha : PEM X g (WX_of E) a ma) (hc : PEM X g (WX_of E) b mb) : PEM X g (WX_of E) (.BinOp a op b pos) (mBinO L f ma mb) := by
  obtain ⟨ta, h1, h2⟩ := ha
  obtain ⟨tb, h3, h4⟩ := hc
  exact ⟨_, pe_op (ho.or (op_ownB hL hb hr hx)) h1 h3, (rv_opO hv).ev h2 h4⟩
theorem m_addO (hL : AllO X.prog X.w X.K X.mg X.base g 0 j "__add__" 2 L) (hb : AllC (fun c => OpB X.K (g.cl c) .Add) L) (hr : Room j X.A) (hx : Passes (L2.CX X.prog X.w) X E) (ha : PEM X g (WX_of E) a ma) (hc : PEM X g (WX_of E) b mb) : PEM X g (WX_of E) (.BinOp a .Add b pos) (mBinO L addD ma mb) :=
  m_opO (op_add.or (op_add_str.or (op_cat.or op_catA))) rv_add hL hb hr hx ha hc
theorem m_subO (hL : AllO X.prog X.w X.K X.mg X.base g 0 j "__sub__" 2 L) (hb : AllC (fun c => OpB X.K (g.cl c) .Sub) L) (hr : Room j X.A) (hx : Passes (L2.CX X.prog X.w) X E) (ha : PEM X g (WX_of E) a ma) (hc : PEM X g (WX_of E) b mb) : PEM X g (WX_of E) (.BinOp a .Sub b pos) (mBinO L subD ma mb) :=
  m_opO op_sub rv_sub hL hb hr hx ha hc
theorem m_shlO (hL : AllO X.prog X.w X.K X.mg X.base g 0 j "__lshift__" 2 L) (hb : AllC (fun c => OpB X.K (g.cl c) .LShift) L) (hr : Room j X.A) (hx : Passes (L2.CX X.prog X.w) X E) (ha : PEM X g (WX_of E) a ma) (hc : PEM X g (WX_of E) b mb) : PEM X g (WX_of E) (.BinOp a .LShift b pos) (mBinO L (fun _ _ => none) ma mb) :=
  m_opO op_none rv_none hL hb hr hx ha hc
theorem m_shrO (hL : AllO X.prog X.w X.K X.mg X.base g 0 j "__rshift__" 2 L) (hb : AllC (fun c => OpB X.K (g.cl c) .RShift) L) (hr : Room j X.A) (hx : Passes (L2.CX X.prog X.w) X E) (ha : PEM X g (WX_of E) a ma) (hc : PEM X g (WX_of E) b mb) : PEM X g (WX_of E) (.BinOp a .RShift b pos) (mBinO L (fun _ _ => none) ma mb) :=
  m_opO op_none rv_none hL hb hr hx ha hc
theorem t_eqO (hL : AllO X.prog X.w X.K X.mg X.base g 0 j "__eq__" 2 L) (hr : Room j X.A) (hx : Passes (L2.CX X.prog X.w) X E) (ha : PEM X g (WX_of E) a ma) (hc : PEM X g (WX_of E) b mb) : PTM X g (WX_of E) (.Compare a [.Eq] [b] pos) (mB (mCmpO L false eqD ma mb)) := by
  obtain ⟨ta, h1, h2⟩ := ha
  obtain ⟨tb, h3, h4⟩ := hc
  exact ⟨_, pt_cmpR ((op_eqD hr.units).or (op_ownEq hL hr hx)) h1 h3 (nomark _), ev_Test ((rv_eqO rv_eq).ev h2 h4)⟩
theorem m_eqO (hL : AllO X.prog X.w X.K X.mg X.base g 0 j "__eq__" 2 L) (hr : Room j X.A) (hx : Passes (L2.CX X.prog X.w) X E) (ha : PEM X g (WX_of E) a ma) (hc : PEM X g (WX_of E) b mb) : PEM X g (WX_of E) (.Compare a [.Eq] [b] pos) (mCmpO L false eqD ma mb) := by
  obtain ⟨ta, h1, h2⟩ := ha
  obtain ⟨tb, h3, h4⟩ := hc
  exact ⟨_, pe_cmpR ((op_eqD hr.units).or (op_ownEq hL hr hx)) h1 h3 (nomark _), (rv_eqO rv_eq).ev h2 h4⟩
theorem t_neO (hL : AllO X.prog X.w X.K X.mg X.base g 1 j "__eq__" 2 L) (hn : AllC (fun c => OpN X.K (g.cl c)) L) (hr : Room j X.A) (hx : Passes (L2.CX X.prog X.w) X E) (ha : PEM X g (WX_of E) a ma) (hc : PEM X g (WX_of E) b mb) : PTM X g (WX_of E) (.Compare a [.NotEq] [b] pos) (mB (mCmpO L true neD ma mb)) := by
  obtain ⟨ta, h1, h2⟩ := ha
  obtain ⟨tb, h3, h4⟩ := hc
  exact ⟨_, pt_cmpR ((op_neD hr.units).or (op_ownNe hL hn hr hx)) h1 h3 (nomark _), ev_Test ((rv_eqO rv_ne).ev h2 h4)⟩
theorem m_neO (hL : AllO X.prog X.w X.K X.mg X.base g 1 j "__eq__" 2 L) (hn : AllC (fun c => OpN X.K (g.cl c)) L) (hr : Room j X.A) (hx : Passes (L2.CX X.prog X.w) X E) (ha : PEM X g (WX_of E) a ma) (hc : PEM X g (WX_of E) b mb) : PEM X g (WX_of E) (.Compare a [.NotEq] [b] pos) (mCmpO L true neD ma mb) := by
  obtain ⟨ta, h1, h2⟩ := ha
  obtain ⟨tb, h3, h4⟩ := hc
  exact ⟨_, pe_cmpR ((op_neD hr.units).or (op_ownNe hL hn hr hx)) h1 h3 (nomark _), (rv_eqO rv_ne).ev h2 h4⟩
theorem ru_neg {K : PySem.W.Frag} : RuOk K g (rU fun i => .int (-i)) negD := fun Hf H x dx Q e rx h => by
  cases rx <;> try exact h.elim
  case int i => exact ⟨i, rfl, h _ Hf H (Grow.refl e) (.int _)⟩
theorem m_negO (hL : AllO X.prog X.w X.K X.mg X.base g 0 j "__neg__" 1 L) (hr : Room j X.A) (hx : Passes (L2.CX X.prog X.w) X E) (ha : PEM X g (WX_of E) a ma) : PEM X g (WX_of E) (.UnaryOp .USub a pos) (bnd ma (mUnO L negD)) := by
  obtain ⟨ta, h1, h2⟩ := ha
  exact ⟨_, pe_un (UnR.or un_neg (un_own hL hr hx fun hK hF J hs hf h => PySem.W.ksp_neg hF hK J hs hf h)) h1, (ru_unO ru_neg).ev h2⟩
theorem m_invO (hL : AllO X.prog X.w X.K X.mg X.base g 0 j "__invert__" 1 L) (hr : Room j X.A) (hx : Passes (L2.CX X.prog X.w) X E) (ha : PEM X g (WX_of E) a ma) : PEM X g (WX_of E) (.UnaryOp .Invert a pos) (bnd ma (mUnO L fun _ => none)) := by
  obtain ⟨ta, h1, h2⟩ := ha
  exact ⟨_, pe_un (UnR.or un_none (un_own hL hr hx fun hK hF J hs hf h => PySem.W.ksp_inv hF hK J hs hf h)) h1, (ru_unO ru_none).ev h2⟩
theorem m_lenO (hL : AllO X.prog X.w X.K X.mg X.base g 1 j "__len__" 1 L) (hr : Room j X.A) (hx : Passes (L2.CX X.prog X.w) X E) (hm : X.mg "len" = none) (ha : PAM X g (WX_of E) (e :: es) ml) (hg : Gl X "len" := by rfl)
    (he : starEach (e :: es) X.env = (false, eval e X.env) :: starEach es X.env := by rfl) (hpl : (backTo pos (starEach es X.env)).any (·.1) = false := by rfl) : PEM X g (WX_of E) (.Call (.Name "len" p) (e :: es) [] pos) (bnd ml (mLenO L lenD)) := by
  obtain ⟨t, h1, h2⟩ := ha
  exact ⟨_, pe_callB (call_len.or (len_own hL hr hx)) hg hm rfl h1 (by decide) (by decide) he hpl, (rc_lenO rc_len).ev h2⟩
theorem m_ixO (hL : AllO X.prog X.w X.K X.mg X.base g 1 j "__getitem__" 2 L) (hr : Room j X.A) (hx : Passes (L2.CX X.prog X.w) X E) (ha : PEM X g (WX_of E) a ma) (hb : PEM X g (WX_of E) b mb) (hs : PlainIx b := by exact fun _ _ => rfl)
    (hs2 : ∀ (o : Addr) i, subscripted b true (.ref o) i = runValue (.builtin "lifetime.subscript" ⟨[.ref o, i], []⟩) := by exact fun _ _ => by with_unfolding_all rfl) : PEM X g (WX_of E) (.Subscript a b pos) (mSubO L ma mb) := by
  obtain ⟨ta, h1, h2⟩ := ha
  obtain ⟨tb, h3, h4⟩ := hb
  exact ⟨_, pe_ixO ix_seq hL hr hx h1 h3 hs hs2, (rv_ixO rv_ix).ev h2 h4⟩
theorem t_truO (hL : AllO X.prog X.w X.K X.mg X.base g 0 j "__bool__" 1 L) (hr : Room j X.A) (hx : Passes (L2.CX X.prog X.w) X E) (h : PEM X g (WX_of E) a ma) (he : ∀ whole, isTrue a X.env whole = (do let v ← whole; standAt a.pos; holding [v] (truthy v)) := by intro _; rfl) : PTM X g (WX_of E) a (mTruO L ma) := by
  obtain ⟨ta, h1, h2⟩ := h
  refine ⟨_, ⟨fun pins s σ H Q I q => ?_⟩, ev_TruO (L := L) h2⟩
  rw [he]
  refine wpAny_bind (thn (h1.run pins s σ H _ I q) fun v s1 ⟨x, H1, I1, r1, q1⟩ => wpAny_bind (wpAny_standAt (wpAny_holding ?_)))
  rcases q1 with q1 | q1
  · exact tru_ok pins s1 σ H1 x v Q I1 r1 q1
  · exact tru_own hL hr hx pins s1 σ H1 x v Q I1 r1 q1
end
/-! ### slices -/
def cutD (xs : List D) (lo hi : Option Int) : List D := (xs.drop (HT.sIx xs.length 0 lo)).take (HT.sIx xs.length xs.length hi - HT.sIx xs.length 0 lo)
def slD : D → Option Int → Option Int → Option D
  | .lst xs, lo, hi => some (.lst (cutD xs lo hi))
  | .tup xs, lo, hi => some (.tup (cutD xs lo hi))
  | .str z, lo, hi => if small z.length = true then some (.str (cutS z lo hi)) else none
  | _, _, _ => none
def mNoP : M (Option Int) := ret none
def mPart (m : M D) : M (Option Int) := bnd m fun d => lft (match d with | .int i => some (some i) | _ => none)
def mSl (m : M D) (a b : M (Option Int)) : M D := bnd m fun d => bnd a fun lo => bnd b fun hi => lft (slD d lo hi)
def EvO (K : PySem.W.Frag) (g : G) (W : WX) (t : TO) (m : M (Option Int)) : Prop := ∀ env σ Hf H, SR K g env σ Hf H → ∀ Q : Option Int → Hp → Prop, Aft K g W env σ Hf H (m env) (fun o _ Hf' H' => Q o H') → t σ H Q
structure POM (X : Cx) (g : G) (W : WX) (o : Option Expr) (m : M (Option Int)) : Prop where
  ex : ∃ t, PO X o t ∧ EvO X.K g W t m
def revD : D → Option D
  | .lst xs => some (.lst xs.reverse)
  | _ => none
def rSlAll (K : PySem.W.Frag) : V → Option Int → Option Int → Hp → VK → Prop := fun x lo hi H Q => rSlL K x lo hi H Q ∨ (rSlA K x lo hi H Q ∨ rSlS x lo hi H Q)
section
variable {K : PySem.W.Frag} {g : G} {W : WX}
theorem cut_reps {Hf : Hp} {ds : List D} {vs : List V} (r : Reps K g Hf ds vs) (lo hi : Option Int) : Reps K g Hf (cutD ds lo hi) (cutV vs lo hi) := by
  unfold cutD cutV
  rw [r.len]
  exact (r.drop _).take _
theorem ev_sl {te : TE} {ta tb : TO} {m : M D} {a b : M (Option Int)} (he : EvM K g W te m) (ha : EvO K g W ta a) (hb : EvO K g W tb b) : EvM K g W (tSl (rSlAll K) te ta tb) (mSl m a b) :=
  fun env σ Hf H s Q h => he env σ Hf H s _ (h.bnd.imp fun d e1 Hf1 H1 _ s1 h1 x rx => ha e1 σ Hf1 H1 s1.sr _ (h1.bnd.imp fun lo e2 Hf2 H2 _ s2 h2 => hb e2 σ Hf2 H2 s2.sr _ (h2.bnd.imp fun hi e3 Hf3 H3 _ s3 h3 => by
    obtain ⟨z, hz, k⟩ := Aft.lft s3.sr h3
    have rx3 := rx.mono (s2.f.trans s3.f)
    have ex := s3.sr.ex
    have rx4 := rx3
    cases rx3 <;> try (cases hz; done)
    case lst a vs ds hr ha =>
      cases hz
      exact .inl ⟨_, _, rfl, SqL.of (ex _ _ (by assumption)), fun p hp => by
        obtain ⟨w, r⟩ := new_lst ex hp (cut_reps (by assumption) lo hi)
        exact k _ _ w _ r⟩
    case tup a vs ds hr ha =>
      cases hz
      refine .inr (.inl ⟨_, _, rfl, ex.t (by assumption), fun hw => ?_, fun _ p hp => ?_⟩)
      · refine k _ _ (Grow.refl ex) _ ?_
        have go : ∀ {dss : List D} {vss : List V} (hrr : Reps K g Hf3 dss vss) (hw : HT.sIx vss.length 0 lo = 0 ∧ HT.sIx vss.length vss.length hi = vss.length), cutD dss lo hi = dss := fun {dss vss} hrr hw => by
          unfold cutD
          rw [hrr.len, hw.1, hw.2, ← hrr.len]
          simp
        rw [go (by assumption) hw]
        exact rx4
      · obtain ⟨w, r⟩ := new_tup ex hp (cut_reps (by assumption) lo hi)
        exact k _ _ w _ r
    case str z _ =>
      dsimp only [slD] at hz
      by_cases c : small z.length = true
      · rw [if_pos c] at hz
        cases hz
        exact .inr (.inr ⟨z, rfl, small_le c, k _ _ (Grow.refl ex) _ (.str _)⟩)
      · rw [if_neg c] at hz
        cases hz)))
theorem ev_revL {te : TE} {m : M D} (he : EvM K g W te m) : EvM K g W (tRevL K te) (mUn revD m) :=
  fun env σ Hf H s Q h => he env σ Hf H s _ (h.bnd.imp fun d e1 Hf1 H1 _ s1 h1 x rx => by
    obtain ⟨z, hz, k⟩ := Aft.lft s1.sr h1
    have ex := s1.sr.ex
    cases rx <;> try (cases hz; done)
    case lst a ds vs ha hr _ =>
      cases hz
      exact ⟨_, _, rfl, SqL.of (ex _ _ ha), fun p hp => by
        obtain ⟨w, r⟩ := new_lst ex hp hr.reverse
        exact k _ _ w _ r⟩)
theorem evo_none : EvO K g W tNoPart mNoP := fun env σ Hf H s Q h => Aft.ret s h
theorem evo_some {te : TE} {m : M D} (he : EvM K g W te m) : EvO K g W (tPart te) (mPart m) :=
  fun env σ Hf H s Q h => he env σ Hf H s _ (h.bnd.imp fun d e1 Hf1 H1 _ s1 h1 x rx => by
    obtain ⟨z, hz, k⟩ := Aft.lft s1.sr h1
    cases rx <;> try (cases hz; done)
    case int i _ =>
      cases hz
      exact ⟨i, rfl, k _ _ (Grow.refl s1.sr.ex)⟩)
end
section
variable {X : Cx} {g : G} {W : WX} {e : Expr} {lo hi : Option Expr} {m : M D} {a b : M (Option Int)} {p1 p2 p3 pos : Pos}
theorem o_none : POM X g W none mNoP := ⟨_, po_none, evo_none⟩
theorem o_some (h : PEM X g W e m) : POM X g W (some e) (mPart m) := by
  obtain ⟨t, h1, h2⟩ := h
  exact ⟨_, po_some h1, evo_some h2⟩
theorem m_sl (h : PEM X g W e m) (ha : POM X g W lo a) (hb : POM X g W hi b) : PEM X g W (.Subscript e (.Slice lo hi none p2) pos) (mSl m a b) := by
  obtain ⟨t, h1, h2⟩ := h
  obtain ⟨u, h3, h4⟩ := ha
  obtain ⟨v, h5, h6⟩ := hb
  exact ⟨_, pe_slice (sl_list.or (sl_tupA.or sl_str)) h1 h3 h5, ev_sl h2 h4 h6⟩
theorem m_revL {k : Nat} (h : PEM X g W e m) : PEM X g W (.Subscript e (.Slice none none (some (.UnaryOp .USub (.Constant (.int 1) k p1) p2)) p3) pos) (mUn revD m) := by
  obtain ⟨t, h1, h2⟩ := h
  exact ⟨_, pe_revL h1, ev_revL h2⟩
end
/-! ### a, b = x, y -/
def sStos : List (Nat × D) → S
  | [] => sNx
  | (i, d) :: r => fun env => match sto i (.sh d) env with
    | .ok .nx e => sStos r e
    | _ => .bad
def sPar2 (i j : Nat) (m : M (List D)) : S := bnd m fun ds => match ds with
  | [a, b] => sStos [(i, a), (j, b)]
  | _ => fun _ => .bad
def sPar3 (i j l : Nat) (m : M (List D)) : S := bnd m fun ds => match ds with
  | [a, b, c] => sStos [(i, a), (j, b), (l, c)]
  | _ => fun _ => .bad
section
variable {K : PySem.W.Frag} {g : G} {W : WX} {env : En} {σ : L2.St} {Hf H : Hp}
def setsV (σ : L2.St) : List (Nat × V) → L2.St
  | [] => σ
  | (i, v) :: r => setsV (σ.set i (some v)) r
theorem ev_stos {Z : Ends} : ∀ {l : List (Nat × D)} {k : List (Nat × V)} {env : En} {σ : L2.St} {Hf H : Hp}, SR K g env σ Hf H → l.map (·.1) = k.map (·.1) → Reps K g Hf (l.map (·.2)) (k.map (·.2)) → Out K g W env σ Hf H (sStos l env) Z → Z.nx (setsV σ k) H
  | [], [], env, σ, Hf, H, s, _, _, h => h σ Hf H (Step.refl s)
  | (i, d) :: l, (j, v) :: k, env, σ, Hf, H, s, e, r, h => by
    rw [List.map_cons, List.map_cons, List.cons.injEq] at e
    obtain ⟨e1, e2⟩ := e
    dsimp only at e1
    subst e1
    rw [List.map_cons, List.map_cons] at r
    cases r with
    | cons r1 r2 =>
      unfold sStos at h
      unfold sto at h
      cases q : env[i]? with
      | none => rw [q] at h; exact h.elim
      | some y =>
        rw [q] at h
        have go : (∀ d', y ≠ .pn d') → Out K g W env σ Hf H (sStos l (env.set i (.sh d))) Z → Z.nx (setsV (σ.set i (some v)) k) H := fun np h => by
          have st : Step K g env σ Hf H (env.set i (.sh d)) (σ.set i (some v)) Hf H := store_step s q np ⟨v, rfl, r1⟩ (fun p z => nomatch z) (fun d z => nomatch z) (Step.refl s) (fun p z => nomatch z)
          exact ev_stos st.sr e2 r2 (Out.after st h)
        cases y with
        | pn d => exact h.elim
        | no => exact go (fun d z => nomatch z) h
        | sh d => exact go (fun d z => nomatch z) h
        | ow d => exact go (fun d z => nomatch z) h
  | [], _ :: _, _, _, _, _, _, e, _, _ => by cases e
  | _ :: _, [], _, _, _, _, _, e, _, _ => by cases e
theorem ev_par2 {i j : Nat} {ta : TA} {m : M (List D)} (ha : EvL K g W ta m) : EvS K g W (tPar i j ta) (sPar2 i j m) :=
  fun env σ Hf H s Z h => ha env σ Hf H s _ (h.bnd.imp fun ds e1 Hf1 H1 _ s1 h1 vs r => by
    split at h1
    · rename_i a b _
      cases r with
      | cons r1 r =>
        cases r with
        | cons r2 r =>
          cases r
          exact ⟨_, _, rfl, ev_stos (l := [(i, a), (j, b)]) (k := [(i, _), (j, _)]) s1.sr rfl (.cons r1 (.cons r2 .nil)) h1⟩
    · exact h1.elim)
theorem ev_par3 {i j l : Nat} {ta : TA} {m : M (List D)} (ha : EvL K g W ta m) : EvS K g W (tPar3 i j l ta) (sPar3 i j l m) :=
  fun env σ Hf H s Z h => ha env σ Hf H s _ (h.bnd.imp fun ds e1 Hf1 H1 _ s1 h1 vs r => by
    split at h1
    · rename_i a b c _
      cases r with
      | cons r1 r =>
        cases r with
        | cons r2 r =>
          cases r with
          | cons r3 r =>
            cases r
            exact ⟨_, _, _, rfl, ev_stos (l := [(i, a), (j, b), (l, c)]) (k := [(i, _), (j, _), (l, _)]) s1.sr rfl (.cons r1 (.cons r2 (.cons r3 .nil))) h1⟩
    · exact h1.elim)
end
section
variable {X : Cx} {g : G} {W : WX} {a b c : Expr} {m : M (List D)} {x y z : Str} {px py pz pt pos : Pos} {kt k2 pt2}
theorem s_par2 (i j : Nat) (h : PAM X g W [a, b] m) (hN : X.N.Nodup) (hc : X.calm = true := by rfl) (hi : X.N[i]? = some x := by rfl) (hj : X.N[j]? = some y := by rfl) (hij : i ≠ j := by decide)
    (hx : X.env.scope.names.lookup x = some .local := by rfl) (hy : X.env.scope.names.lookup y = some .local := by rfl)
    (hw : swappedStores [.Tuple [.Name x px, .Name y py] kt pt] (.Tuple [a, b] k2 pt2) X.env = pure (some [x, y]) := by rfl)
    (hs : swapsWithSole [.Tuple [.Name x px, .Name y py] kt pt] (.Tuple [a, b] k2 pt2) pos.line X.env = pure false := by rfl) : PSM X g W (.Assign [.Tuple [.Name x px, .Name y py] kt pt] (.Tuple [a, b] k2 pt2) pos) (sPar2 i j m) := by
  obtain ⟨t, h1, h2⟩ := h
  exact ⟨_, ps_par hc hN hi hj hij hx hy h1 hw hs, ev_par2 h2⟩
theorem s_par3 (i j l : Nat) (h : PAM X g W [a, b, c] m) (hN : X.N.Nodup) (hc : X.calm = true := by rfl) (hi : X.N[i]? = some x := by rfl) (hj : X.N[j]? = some y := by rfl) (hl : X.N[l]? = some z := by rfl) (hij : i ≠ j := by decide) (hil : i ≠ l := by decide) (hjl : j ≠ l := by decide)
    (hx : X.env.scope.names.lookup x = some .local := by rfl) (hy : X.env.scope.names.lookup y = some .local := by rfl) (hz : X.env.scope.names.lookup z = some .local := by rfl)
    (hw : swappedStores [.Tuple [.Name x px, .Name y py, .Name z pz] kt pt] (.Tuple [a, b, c] k2 pt2) X.env = pure (some [x, y, z]) := by rfl)
    (hs : swapsWithSole [.Tuple [.Name x px, .Name y py, .Name z pz] kt pt] (.Tuple [a, b, c] k2 pt2) pos.line X.env = pure false := by rfl) : PSM X g W (.Assign [.Tuple [.Name x px, .Name y py, .Name z pz] kt pt] (.Tuple [a, b, c] k2 pt2) pos) (sPar3 i j l m) := by
  obtain ⟨t, h1, h2⟩ := h
  exact ⟨_, ps_par3 hc hN hi hj hl hij hil hjl hx hy hz h1 hw hs, ev_par3 h2⟩
end
end DL

set_option Elab.async false
set_option linter.all false
set_option maxRecDepth 100000
set_option maxHeartbeats 400000
namespace DL
open PySem L2 PyProof.Rows
/-! ### defs -/
/-- a def's mirror: np parameters, n names -/
def fnM (np n : Nat) (b : S) : Fm := fun a => if a.length = np then run n b a else .bad
theorem fnM_ar {np n : Nat} {b : S} : Arity np (fnM np n b) := run_arity
section
variable {P : Program} {w : World} {K : PySem.W.Frag} {mg : Str → Option Value} {base : Heap} {g : G}
theorem spM_fnM {np n : Nat} {b : S} : ∀ vs H Q E, spM K g np (fnM np n b) vs H Q E → spM K g np (run n b) vs H Q E := fun vs H Q E h => by
  obtain ⟨Hf, args, sr, l, o⟩ := h
  refine ⟨Hf, args, sr, l, ?_⟩
  unfold fnM at o
  rw [if_pos l] at o
  exact o
section
variable {x qual : Str} {params : Arguments} {body : List Stmt} {scope : Scope} {dvs : List V} {kws : List (Str × V)} {f : Addr} {fd : FuncData} {N ps : List Str} {k : Nat} {b : S}
/-- a def that no exception leaves -/
theorem df_N (F : FunD K x qual params body scope dvs kws f fd) (Sc : FnScope N ps scope)
    (hb : ∀ (cdv : Value) (A : Around) (outer : List Env) (s : Shared) (H : Hp) (E : XK), Room k (A.deeper (envOfC qual scope s.heap.objs.size f cdv)) → PSsM (cxOf (L2.CX P w) P w K mg base N qual scope f cdv A outer s H E).nox g WF body b) :
    FnOk P w K mg base (L2.CX P w) (k + 1) f fd ps (spM K g ps.length (fnM ps.length N.length (nox b))) := by
  refine FnOk.imp ?_ spM_fnM
  refine F.ok Sc (fun vs H Q E h => ?_) (fun cdv A outer s H vs Q E hr h => ?_)
  · obtain ⟨Hf, args, sr, l, _⟩ := h
    rw [← l, ← sr.len, List.length_map]
  · obtain ⟨Hf, args, sr, l, o⟩ := h
    obtain ⟨t, h1, h2⟩ := hb cdv A outer s H E hr
    have lv : vs.length = args.length := by rw [← sr.len, List.length_map]
    refine ⟨t, PSs.nox h1, ?_⟩
    rw [start_eq, lv]
    refine h2 _ _ Hf H (sr_app sr _) _ ?_
    exact Out.nox (r := .bad) (out_run sr.len o)
/-- .. that exceptions may leave -/
theorem df_X (F : FunD K x qual params body scope dvs kws f fd) (Sc : FnScope N ps scope)
    (hb : ∀ (cdv : Value) (A : Around) (outer : List Env) (s : Shared) (H : Hp) (E : XK), Room k (A.deeper (envOfC qual scope s.heap.objs.size f cdv)) → PSsM (cxOf (L2.CX P w) P w K mg base N qual scope f cdv A outer s H E) g (WX_of E) body b) :
    FnOk P w K mg base (L2.CX P w) (k + 1) f fd ps (spM K g ps.length (fnM ps.length N.length b)) := by
  refine FnOk.imp ?_ spM_fnM
  refine F.ok Sc (fun vs H Q E h => ?_) (fun cdv A outer s H vs Q E hr h => ?_)
  · obtain ⟨Hf, args, sr, l, _⟩ := h
    rw [← l, ← sr.len, List.length_map]
  · obtain ⟨Hf, args, sr, l, o⟩ := h
    obtain ⟨t, h1, h2⟩ := hb cdv A outer s H E hr
    have lv : vs.length = args.length := by rw [← sr.len, List.length_map]
    refine ⟨t, h1, ?_⟩
    rw [start_eq, lv]
    exact h2 _ _ Hf H (sr_app sr _) _ (out_run sr.len o)
end
end
/-! ### the text's names, classes -/
def cNm : Nat → Str
  | 0 => "Word" | 1 => "Timed" | 2 => "Program" | 3 => "Machine" | 4 => "Piece" | 5 => "Moment" | 6 => "Act" | 7 => "Run" | 8 => "Fault" | 9 => "Checkpoint" | 10 => "Action" | 11 => "Trial" | 12 => "Session" | _ => "Console"
def xNm : Nat → Str
  | 0 => "InvalidNumber" | 1 => "InvalidWord" | 2 => "InvalidTicks" | 3 => "InvalidProgram" | 4 => "InvalidOrder" | 5 => "InvalidFault" | 6 => "InvalidName" | 7 => "InvalidCommand" | 8 => "ParseError" | 9 => "LimitExceeded" | 10 => "NothingToUndo" | _ => "NothingToRedo"
/-- the classes cs are there -/
def okOf (cs : List Nat) : Nat → Bool := fun c => cs.contains c
def gOf (K : PySem.W.Frag) (cs : List Nat) : G := ⟨fun c => He.ga K (cNm c), fun c => He.ga K (xNm c), okOf cs⟩
/-- what is asked of the text -/
inductive Fx where
  | fa (f : He.Fa)
  | prp (x m : Str)
  | opr (x m : Str)
  | opb (x : Str) (op : Operator)
  | opn (x : Str)
  | fld (cs : List Nat)
  | isf (cs : List Nat)
  | cme (x m : Str)
/-- the property's object, its getter -/
def prA (K : PySem.W.Frag) (x m : Str) : Addr := match PySem.W.findIn K (.ref (He.ga K x)) m with
  | some (some (.ref p)) => p
  | _ => 0
def prG (K : PySem.W.Frag) (x m : Str) : Addr := match PySem.W.recIn K (prA K x m) "property" with
  | some (.ref q :: _) => q
  | _ => 0
def cmG (K : PySem.W.Frag) (x m : Str) : Addr := match PySem.W.recIn K (prA K x m) "classmethod" with
  | some (.ref q :: _) => q
  | _ => 0
def Fx.ok (K : PySem.W.Frag) : Fx → Bool
  | .fa f => f.ok K
  | .prp x m => He.eqO (PySem.W.findIn K (.ref (He.ga K x)) m) (some (some (.ref (prA K x m)))) && (decide (PySem.W.specialIn K (.ref (prA K x m)) "__get__" = some (some (.builtin "property.__get__"))) && (decide (PySem.W.takesIn K (.ref (prA K x m)) = some true) &&
      (match PySem.W.recIn K (prA K x m) "property" with
        | some (q :: _) => decide (q = .ref (prG K x m))
        | _ => false)))
  | .opr x m => He.eqO (PySem.W.findIn K (.ref (He.ga K x)) m) (some (some (.ref (He.ma K (He.ga K x) m)))) && (PySem.W.isFn K (.ref (He.ma K (He.ga K x) m)) && PySem.W.fnIn K (He.ma K (He.ga K x) m))
  | .opb x op => PySem.W.selfFirst K (He.ga K x) && (He.eqO (PySem.W.findIn K (.ref (He.ga K x)) (dunderR op.info.2)) (some none) && ((PySem.W.findIn K (.type "int") (PySem.dunder op.info.2)).isSome && ((PySem.W.findIn K (.type "int") (dunderR op.info.2)).isSome &&
      decide (PySem.W.subIn K (.type "int") (.ref (He.ga K x)) = some false))))
  | .opn x => He.eqO (PySem.W.findIn K (.ref (He.ga K x)) "__ne__") (some (some (.builtin "object.__ne__"))) && decide (PySem.W.mroIn K (He.ga K x) (.type "object") = some true)
  | .fld cs => cs.all fun c => He.Fa.ok K (.cls (cNm c)) && (nmT c).all fun f => He.Fa.ok K (.noat (cNm c) f)
  | .isf cs => (cs.all fun c => He.Fa.ok K (.cls (cNm c)) && (He.eqO (PySem.W.findIn K (.ref (He.ga K (cNm c))) "__class__") (some (some (.builtin "object.__class__"))) && (decide (PySem.W.mroIn K (He.ga K (cNm c)) (.type "object") = some true) &&
      (kinds.all fun n => decide (PySem.W.kitOne K (.ref (He.ga K (cNm c))) (.type n) = some false) && decide (PySem.W.kitOne K (.type n) (.ref (He.ga K (cNm c))) = some false)))) && (cs.all fun c' => decide (PySem.W.kitOne K (.ref (He.ga K (cNm c))) (.ref (He.ga K (cNm c'))) = some (c == c')))) &&
      (decide (PySem.W.specialIn K (.builtin "object.__class__") "__get__" = some (some (.builtin "getset_descriptor.__get__"))) && decide (PySem.W.takesIn K (.builtin "object.__class__") = some true))
  | .cme x m => PySem.W.readsIn K (He.ga K x) (.type "type") && (decide (PySem.W.specialIn K (.ref (He.ga K x)) "__getattribute__" = some (some (.builtin "type.__getattribute__"))) && (
      (match PySem.W.findCls K (.ref (He.ga K x)) (.type "type") m with
        | some (.get (.builtin i) (.ref p) .none (.ref C)) => i == "classmethod.__get__" && (decide (p = prA K x m) && decide (C = He.ga K x))
        | _ => false) && ((PySem.W.fnIn K (cmG K x m) &&
      (match PySem.W.recIn K (prA K x m) "classmethod" with
        | some (q :: _) => decide (q = .ref (cmG K x m))
        | _ => false)))))
abbrev b2 {a b : Bool} (h : (a && b) = true) : a = true ∧ b = true := He.ba h
section
variable {K : PySem.W.Frag} {x m : Str} {cs : List Nat}
theorem prp_ok (h : (Fx.prp x m).ok K = true) : PropOf K (He.ga K x) m (prA K x m) (prG K x m) := by
  obtain ⟨h1, h⟩ := b2 h
  obtain ⟨h2, h⟩ := b2 h
  obtain ⟨h3, h4⟩ := b2 h
  refine ⟨He.eqO_ok h1, of_decide_eq_true h2, of_decide_eq_true h3, ?_⟩
  split at h4
  · rename_i q r e
    rw [of_decide_eq_true h4] at e
    exact ⟨r, e⟩
  · cases h4
theorem opb_ok {op : Operator} (h : (Fx.opb x op).ok K = true) : OpB K (He.ga K x) op := by
  obtain ⟨h1, h⟩ := b2 h
  obtain ⟨h2, h⟩ := b2 h
  obtain ⟨h3, h⟩ := b2 h
  obtain ⟨h4, h5⟩ := b2 h
  exact ⟨h1, He.eqO_ok h2, Option.isSome_iff_exists.mp h3, Option.isSome_iff_exists.mp h4, of_decide_eq_true h5⟩
theorem opn_ok (h : (Fx.opn x).ok K = true) : OpN K (He.ga K x) := ⟨He.eqO_ok (b2 h).1, of_decide_eq_true (b2 h).2⟩
theorem fld_ok (h : (Fx.fld cs).ok K = true) : AllFld K (gOf K cs) := fun c hc => by
  have h1 := List.all_eq_true.mp h c (List.contains_iff_mem.mp hc)
  obtain ⟨h2, h3⟩ := b2 h1
  exact ⟨He.cls_ok h2, fun f hf => He.noat_ok (List.all_eq_true.mp h3 f hf)⟩
theorem isf_ok (h : (Fx.isf cs).ok K = true) : IsF K (gOf K cs) := by
  obtain ⟨h, h0⟩ := b2 h
  obtain ⟨h1, h2⟩ := b2 h0
  have all : ∀ c, (gOf K cs).ok c = true → _ := fun c hc => List.all_eq_true.mp h c (List.contains_iff_mem.mp hc)
  refine ⟨fun c hc => ?_, of_decide_eq_true h1, of_decide_eq_true h2, fun c hc n hn => ?_, fun c hc n hn => ?_, fun c c' hc hc' => ?_⟩
  · obtain ⟨k, _⟩ := b2 (all c hc)
    obtain ⟨k1, k⟩ := b2 k
    obtain ⟨k2, k⟩ := b2 k
    exact ⟨He.cls_ok k1, He.eqO_ok k2, of_decide_eq_true (b2 k).1⟩
  · obtain ⟨k, _⟩ := b2 (all c hc)
    have k := (b2 (b2 (b2 k).2).2).2
    exact of_decide_eq_true (b2 (List.all_eq_true.mp k n hn)).1
  · obtain ⟨k, _⟩ := b2 (all c hc)
    have k := (b2 (b2 (b2 k).2).2).2
    exact of_decide_eq_true (b2 (List.all_eq_true.mp k n hn)).2
  · obtain ⟨_, k⟩ := b2 (all c hc)
    exact of_decide_eq_true (List.all_eq_true.mp k c' (List.contains_iff_mem.mp hc'))
theorem cme_ok (h : (Fx.cme x m).ok K = true) : ClX.CRead K (He.ga K x) (.type "type") ∧ ClX.CMet K (He.ga K x) (.type "type") m (prA K x m) (cmG K x m) := by
  obtain ⟨h1, h⟩ := b2 h
  obtain ⟨h2, h⟩ := b2 h
  obtain ⟨h3, h⟩ := b2 h
  obtain ⟨h4, h5⟩ := b2 h
  refine ⟨⟨h1, of_decide_eq_true h2⟩, ?_, ?_, h4⟩
  · split at h3
    · rename_i i p C e
      obtain ⟨a, b⟩ := b2 h3
      obtain ⟨b, c⟩ := b2 b
      rw [e, eq_of_beq a, of_decide_eq_true b, of_decide_eq_true c]
    · cases h3
  · split at h5
    · rename_i q r e
      rw [of_decide_eq_true h5] at e
      exact ⟨r, e⟩
    · cases h5
end
/-! ### defs by where they stand -/
structure Dx where
  adr : PySem.W.Frag → Addr
  name : Str
  qual : Str
  params : Arguments
  body : List Stmt
  scope : Scope
  dfl : List V
abbrev Seen : Type := Option (Str × Str × Arguments × FuncBody × Scope × Addr × List (Str × Addr) × Addr)
def seenAt (K : PySem.W.Frag) (a : Addr) : Seen := match K.lookup a with
  | some ⟨_, _, .func q, _⟩ => some (q.name, q.qualname, q.params, q.body, q.scope, q.globals, q.closure, q.builtins)
  | _ => none
def Dx.val (d : Dx) : Seen := some (d.name, d.qual, d.params, .stmts d.body, d.scope, mainGlobals, [], builtinsNs)
def Dx.ok (K : PySem.W.Frag) (d : Dx) : Bool := (match K.lookup (d.adr K) with
  | some ⟨_, _, .func q, _⟩ => PySem.W.codeIn K q.code d.qual && He.dflB K q.defaults d.dfl
  | _ => false) && PySem.W.keepIn K (.ref (d.adr K))
theorem Dx.funD {K : PySem.W.Frag} {d : Dx} (e : seenAt K (d.adr K) = d.val) (c : d.ok K = true) : ∃ fd, FunD K d.name d.qual d.params d.body d.scope d.dfl [] (d.adr K) fd := by
  obtain ⟨c, kp⟩ := b2 c
  unfold seenAt at e
  split at c
  · rename_i oc od q osl lk
    rw [lk] at e
    obtain ⟨n1, n2, n3, n4, n5, n6, n7, n8, n9, n10, n11, n12, n13, n14, n15⟩ := q
    have e2 : (some (n1, n2, n3, n4, n5, n6, n7, n15) : Seen) = d.val := e
    unfold Dx.val at e2
    simp only [Option.some.injEq, Prod.mk.injEq] at e2
    obtain ⟨q1, q2, q3, q4, q5, q6, q7, q8⟩ := e2
    subst q1 q2 q3 q4 q5 q6 q7 q8
    obtain ⟨k1, k2⟩ := b2 c
    exact ⟨_, ⟨oc, od, n8, n9, n10, n11, n12, n13, n14, osl, rfl, lk, k1, He.dflB_ok k2, .inl rfl⟩, kp⟩
  · cases c
abbrev Got : Type := Bool × List Seen
def seeF (fx : List Fx) (fn : List Dx) (K : PySem.W.Frag) : Got := (fx.all (fun f => f.ok K) && fn.all (fun d => d.ok K), fn.map fun d => seenAt K (d.adr K))
def goodF (fn : List Dx) : Got := (true, fn.map Dx.val)
def Says (fx : List Fx) (fn : List Dx) (K : PySem.W.Frag) : Prop := seeF fx fn K = goodF fn
/-- from the module's names and the classes' common record on -/
def asQ (q : Addr → Option Obj) : Nat → List Addr
  | 0 => [mainGlobals, cStatics]
  | n + 1 => He.growD q (asQ q n)
def see (n : Nat) (fx : List Fx) (fn : List Dx) (q : Addr → Option Obj) : Got := seeF fx fn (He.frG q (asQ q n))
def hookF (n : Nat) (fx : List Fx) (fn : List Dx) : PySem.W.Hook where
  α := Got
  obs := fun s => see n fx fn s.heap.get?
  val := fun _ => goodF fn
  says := fun _ h => ∃ K : PySem.W.Frag, K.In h ∧ Says fx fn K
  of := fun _ _ e => ⟨_, He.frG_in, e⟩
  keeps := fun _ _ _ ⟨K, i, c⟩ k => ⟨K, PySem.W.Frag.In.keeps i k, c⟩
theorem see_eq {n : Nat} {fx : List Fx} {fn : List Dx} {q : Addr → Option Obj} {s : Shared} (h : ∀ a, q a = s.heap.get? a) : see n fx fn q = (hookF n fx fn).obs s := by
  have e : q = s.heap.get? := funext h
  rw [e] <;> rfl
section
variable {fx : List Fx} {fn : List Dx} {K : PySem.W.Frag}
theorem Says.fact (c : Says fx fn K) (i : Nat) {f : Fx} (h : fx[i]? = some f := by rfl) : f.ok K = true := by
  have c1 := (b2 (show (fx.all (fun f => f.ok K) && fn.all (fun d => d.ok K)) = true from congrArg (fun z : Got => z.1) c)).1
  exact List.all_eq_true.mp c1 f (List.mem_of_getElem? h)
theorem Says.def_ (c : Says fx fn K) (i : Nat) {d : Dx} (h : fn[i]? = some d := by rfl) : ∃ fd, FunD K d.name d.qual d.params d.body d.scope d.dfl [] (d.adr K) fd := by
  have c2 := (b2 (show (fx.all (fun f => f.ok K) && fn.all (fun d => d.ok K)) = true from congrArg (fun z : Got => z.1) c)).2
  have e : fn.map (fun d => seenAt K (d.adr K)) = fn.map Dx.val := congrArg (fun z : Got => z.2) c
  have e2 : (fn.map fun d => seenAt K (d.adr K))[i]? = (fn.map Dx.val)[i]? := by rw [e]
  rw [List.getElem?_map, List.getElem?_map, h] at e2
  exact Dx.funD (Option.some.inj e2) (List.all_eq_true.mp c2 d (List.mem_of_getElem? h))
end
end DL

set_option Elab.async false
set_option linter.all false
set_option maxRecDepth 100000
set_option maxHeartbeats 400000
namespace DL
open PySem L2 PyProof.Rows
/-! ### classmethods, the class in a local name -/
structure Cme (P : Program) (w : World) (K : PySem.W.Frag) (mg : Str → Option Value) (base : Heap) (g : G) (x : Str) (c : Nat) (m : Str) (F : Fm) (k : Nat) (dfl : List D) : Prop where
  ex : ∃ f fd ps dvs ds np p mc, FnOk P w K mg base (L2.CX P w) k f fd ps (spM K g np F) ∧ ClX.CRead K (g.cl c) mc ∧ ClX.CMet K (g.cl c) mc m p f ∧ Binds K fd ps ds ∧ Vals dvs ds ∧ (∀ H, Reps K g H dfl dvs) ∧ Arity np F
  at_ : mg x = some (.ref (g.cl c))
def mCme (F : Fm) (c : Nat) (dfl : List D) (ma : M (List D)) : M D := bnd ma fun ds => callA F (.cls c :: (ds ++ dfl))
def mClsF (F : Fm) (c i : Nat) (dfl : List D) (ma : M (List D)) : M D := fun env => match env[i]? with
  | some (.sh (.cls c')) => if c' = c then mMakF F c dfl ma env else .bad
  | _ => .bad
section
variable {X : Cx} {g : G} {E : XK} {j k c : Nat} {x y m : Str} {F : Fm} {dfl : List D} {e : Expr} {es : List Expr} {ma : M (List D)} {p1 pos apos : Pos} {pl : Sem Bool}
theorem m_cme (d : Cme X.prog X.w X.K X.mg X.base g x c m F k dfl) (hr : Room j X.A) (hx : Passes (L2.CX X.prog X.w) X E) (ha : PAM X g (WX_of E) (e :: es) ma) (hk : k ≤ j := by decide) (hg : Gl X x := by rfl) (hdb : (x == ("__debug__" : Str)) = false := by decide)
    (hst : starEach (e :: es) X.env = (false, eval e X.env) :: starEach es X.env := by rfl) (hpl : (backTo pos (starEach es X.env)).any (·.1) = false := by rfl)
    (ht : eval (.Call (.Attribute (.Name x p1) m apos) (e :: es) [] pos) X.env = (do
      let ov ← eval (.Name x p1) X.env
      standAt apos.atName
      let (f, first) ← holding [ov] (getMethod ov m pl)
      callWith pos f first (backTo pos (starEach (e :: es) X.env)) (backToKw pos (keywordEach [] X.env))) := by rfl) : PEM X g (WX_of E) (.Call (.Attribute (.Name x p1) m apos) (e :: es) [] pos) (mCme F c dfl ma) := by
  obtain ⟨t, h1, h2⟩ := ha
  obtain ⟨⟨f, fd, ps, dvs, ds, np, p, mc, F1, cr, cm, b, v, r, ar⟩, hm⟩ := d
  refine ⟨_, ClX.pe_cmeth (pl := pl) (pe_glob hg hm (v := .ref (g.cl c)) rfl hdb) cr cm (F1.raw b v) (hr.mono hk) hx h1 hst hpl ht, ?_⟩
  intro env σ Hf H s Q h
  exact ⟨rfl, h2 env σ Hf H s _ (h.bnd.imp fun zs e1 Hf1 H1 _ s1 h1 ws rw' => spA (ds := .cls c :: (zs ++ dfl)) ar s1.sr (.cons (.cls c) (rw'.append (r Hf1))) h1)⟩
theorem f_cls {np : Nat} (i : Nat) (d : Mak X.prog X.w X.K X.mg X.base g x c np F k dfl) (hr : Room j X.A) (hx : Passes (L2.CX X.prog X.w) X E) (ha : PAM X g (WX_of E) (e :: es) ma) (hk : k + 1 ≤ j := by decide) (hN : X.N[i]? = some y := by rfl) (hv : Vis X.env.scope y := by first | exact Or.inl rfl | exact Or.inr (Or.inl rfl) | exact Or.inr (Or.inr rfl))
    (hd : (y == ("__debug__" : Str)) = false := by decide) (hcd : (y == ("__classdict__" : Str)) = false := by decide)
    (he : starEach (e :: es) X.env = (false, eval e X.env) :: starEach es X.env := by rfl) (hpl : (backTo pos (starEach es X.env)).any (·.1) = false := by rfl) : PEF X g (WX_of E) (.Call (.Name y p1) (e :: es) [] pos) (mClsF F c i dfl ma) := by
  obtain ⟨t, h1, h2⟩ := ha
  obtain ⟨⟨f, fd, ps, dvs, ds, F1, mk, hm, b, v, r⟩, ok, ar⟩ := d
  refine ⟨fun σ H Q => σ[i]? = some (some (.ref (g.cl c))) ∧ tMake (g.cl c) (spM X.K g np F) dvs E t σ H Q, ⟨fun pins s σ H Q I h => ?_⟩, ?_⟩
  · obtain ⟨hs, h⟩ := h
    refine wpAny_Call_Name_kw (thn ((pe_var (pos := p1) hN hv hd hcd).run pins s σ H (fun v H1 => v = .ref (g.cl c) ∧ H1 = H) I ⟨.ref (g.cl c), hs, rfl, rfl⟩) fun u s1 ⟨v', H1, I1, r1, q1⟩ => ?_)
    obtain ⟨e1, e2⟩ := q1
    subst e1 e2
    cases r1
    refine PySem.W.callWith_K (h₀ := X.base) I.ok.mod.kin mk.kp (thn (h1.run pos pins s1 σ _ _ I1 h) fun us s2 ⟨vs, H2, I2, r2, q2⟩ => ⟨I2.kIn, ?_⟩) he hpl
    exact run_make mk F1 (hr.mono hk) b v hx I2 r2 q2
  · intro env σ Hf H s Q h
    unfold mClsF at h
    split at h
    · rename_i c' q
      by_cases hc : c' = c
      · subst hc
        rw [if_pos rfl] at h
        obtain ⟨v', e1, rv⟩ := s.sh_ q
        cases rv
        exact ⟨e1, ev_makF ar ok h2 r env σ Hf H s Q h⟩
      · rw [if_neg hc] at h
        exact h.elim
    · exact h.elim
/-- the name of a class as a value -/
theorem m_cl (hm : X.mg x = some (.ref (g.cl c))) {W : WX} (hg : Gl X x := by rfl) (hdb : (x == ("__debug__" : Str)) = false := by decide) : PEM X g W (.Name x pos) (ret (.cls c)) := ⟨_, pe_glob hg hm (v := .ref (g.cl c)) rfl hdb, ev_c fun _ => .cls c⟩
end
/-! ### from the facts to what the rules take -/
section
variable {P : Program} {w : World} {K : PySem.W.Frag} {h : Heap} {mg : Str → Option Value} {base : Heap} {g : G} {x qual : Str} {params : Arguments} {body : List Stmt} {scope : Scope} {dvs : List V} {f : Addr} {fd : FuncData} {ps : List Str} {np k : Nat} {F : Fm} {dfl : List D} {m : Str} {c : Nat}
/-- defaults that are plain -/
def plainV : D → Option V
  | .non => some .non | .bl b => some (.bl b) | .int i => some (.int i) | .str z => some (.str z) | _ => none
theorem plain_rep {d : D} {v : V} (e : plainV d = some v) (H : Hp) : Rep K g H d v := by
  cases d <;> try (cases e; done)
  · cases e; exact .non
  · cases e; exact .bl _
  · cases e; exact .int _
  · cases e; exact .str _
theorem plain_reps : ∀ {ds : List D} {vs : List V}, Paired (fun d v => plainV d = some v) ds vs → ∀ H, Reps K g H ds vs
  | _, _, .nil, _ => .nil
  | _, _, .cons a b, H => .cons (plain_rep a H) (plain_reps b H)
end
end DL

set_option Elab.async false
set_option linter.all false
set_option maxRecDepth 100000
set_option maxHeartbeats 400000
namespace DL
open PySem L2 PyProof.Rows
section
variable {X : Cx} {g : G} {W : WX} {a b c : Expr} {ma mb mc : M D} {pos : Pos}
theorem ev_chain {K : PySem.W.Frag} {p p' : Int → Int → Bool} {ta tb tc : TE} (h2 : EvM K g W ta ma) (h4 : EvM K g W tb mb) (h6 : EvM K g W tc mc) : EvM K g W (tChain (rI0 fun i j => .bl (p i j)) (rI0 fun i j => .bl (p' i j)) ta tb tc) (mChain (cmpD p) (cmpD p') ma mb mc) := by
  refine fun env σ Hf H s Q h => h2 env σ Hf H s _ (h.bnd.imp fun x e1 Hf1 H1 _ s1 k1 v r1 => h4 e1 σ Hf1 H1 s1.sr _ (k1.bnd.imp fun y e2 Hf2 H2 _ s2 k2 w r2 => ?_))
  obtain ⟨z, hz, k3⟩ := Aft.lft s2.sr k2.bnd
  have k4 := k3 Hf2 H2 (Grow.refl s2.sr.ex)
  obtain ⟨i, j, rfl, rfl, rfl⟩ := cmpD_some hz
  cases r1
  cases r2
  refine ⟨i, j, rfl, rfl, p i j, rfl, ?_⟩
  cases q : p i j with
  | true =>
    rw [q] at k4
    rw [if_pos rfl]
    refine h6 e2 σ Hf2 H2 s2.sr _ (k4.bnd.imp fun z e3 Hf3 H3 _ s3 k5 u r3 => ?_)
    obtain ⟨z', hz', k6⟩ := Aft.lft s3.sr k5
    obtain ⟨i', j', e1, rfl, rfl⟩ := cmpD_some hz'
    cases e1
    cases r3
    exact ⟨j, j', rfl, rfl, k6 Hf3 H3 (Grow.refl s3.sr.ex) _ (.bl _)⟩
  | false =>
    rw [q] at k4
    rw [if_neg (by decide)]
    exact Aft.ret s2.sr k4 _ (.bl _)
theorem t_chain {op op' : CmpOp} {p p' : Int → Int → Bool} (ho : OpR X (compareOp op) (rI0 fun i j => .bl (p i j))) (ho' : OpR X (compareOp op') (rI0 fun i j => .bl (p' i j))) (ha : PEM X g W a ma) (hb : PEM X g W b mb) (hc : PEM X g W c mc)
    (hm : lastMarks [op, op'] [b, c] = false := by with_unfolding_all rfl) : PTM X g W (.Compare a [op, op'] [b, c] pos) (mB (mChain (cmpD p) (cmpD p') ma mb mc)) := by
  obtain ⟨ta, h1, h2⟩ := ha
  obtain ⟨tb, h3, h4⟩ := hb
  obtain ⟨tc, h5, h6⟩ := hc
  exact ⟨_, pt_chain ho ho' h1 h3 h5 hm, ev_Test (ev_chain h2 h4 h6)⟩
end
theorem po0 {M : Model} {A : Around} {env : Env} : PassesOwn M A env (fun _ _ => False) := PassesOwn.never
def fuel : Nat := 1000000000000
def clsBody (s : Stmt) : List Stmt := match s with
  | .ClassDef _ _ _ b _ _ _ _ _ _ _ => b
  | _ => []
/-! ### what stands at the head -/
structure Bas (fx : List Fx) (fn : List Dx) (K : PySem.W.Frag) (mg : Str → Option Value) : Prop where
  ns : ∃ h : Heap, K.In h ∧ h.Ns mainGlobals mg
  c : Says fx fn K
section
variable {fx : List Fx} {fn : List Dx} {P : Program} {w : World} {K : PySem.W.Frag} {mg : Str → Option Value} {base : Heap} {g : G} {np k c : Nat} {F : Fm} {dfl : List D} {x m : Str} {f p : Addr} {fd : FuncData} {ps : List Str} {dvs : List V} {ds : List Value}
theorem Bas.free (b : Bas fx fn K mg) (i : Nat) {x : Str} (h : fx[i]? = some (.fa (.free x)) := by rfl) : mg x = none := by
  obtain ⟨_, X, G⟩ := b.ns
  exact He.free_ok X G (b.c.fact i h)
theorem Bas.glo (b : Bas fx fn K mg) (i : Nat) {x : Str} (h : fx[i]? = some (.fa (.glo x)) := by rfl) : mg x = some (.ref (He.ga K x)) := by
  obtain ⟨_, X, G⟩ := b.ns
  exact He.glo_ok X G (b.c.fact i h)
theorem Bas.int (b : Bas fx fn K mg) (i : Nat) {x : Str} {n : Int} (h : fx[i]? = some (.fa (.int x n)) := by rfl) : ∃ t, mg x = some (.int n t) := by
  obtain ⟨_, X, G⟩ := b.ns
  exact He.int_ok X G (b.c.fact i h)
theorem Bas.str (b : Bas fx fn K mg) (i : Nat) {x z : Str} (h : fx[i]? = some (.fa (.str x z)) := by rfl) : ∃ t, mg x = some (.str z t) := by
  obtain ⟨_, X, G⟩ := b.ns
  exact He.str_ok X G (b.c.fact i h)
theorem Bas.fld (b : Bas fx fn K mg) (i : Nat) {cs : List Nat} (h : fx[i]? = some (.fld cs) := by rfl) : AllFld K (gOf K cs) := fld_ok (b.c.fact i h)
theorem Bas.isf (b : Bas fx fn K mg) (i : Nat) {cs : List Nat} (h : fx[i]? = some (.isf cs) := by rfl) : IsF K (gOf K cs) := isf_ok (b.c.fact i h)
theorem Bas.opb (b : Bas fx fn K mg) (i : Nat) {x : Str} {op : Operator} (h : fx[i]? = some (.opb x op) := by rfl) : OpB K (He.ga K x) op := opb_ok (b.c.fact i h)
theorem Bas.opn (b : Bas fx fn K mg) (i : Nat) {x : Str} (h : fx[i]? = some (.opn x) := by rfl) : OpN K (He.ga K x) := opn_ok (b.c.fact i h)
theorem Bas.meth (b : Bas fx fn K mg) (i : Nat) {x m : Str} (h : fx[i]? = some (.fa (.meth x m)) := by rfl) : Meth K (He.ga K x) m (He.ma K (He.ga K x) m) := He.meth_ok (b.c.fact i h)
theorem Bas.cls (b : Bas fx fn K mg) (i : Nat) {x : Str} (h : fx[i]? = some (.fa (.cls x)) := by rfl) : Cls K (He.ga K x) := He.cls_ok (b.c.fact i h)
theorem Bas.mkr (b : Bas fx fn K mg) (i : Nat) {x : Str} (h : fx[i]? = some (.fa (.mkr x)) := by rfl) : Mk K (He.ga K x) (He.ma K (He.ga K x) "__init__") := He.mkr_ok (b.c.fact i h)
theorem Bas.prp (b : Bas fx fn K mg) (i : Nat) {x m : Str} (h : fx[i]? = some (.prp x m) := by rfl) : PropOf K (He.ga K x) m (prA K x m) (prG K x m) := prp_ok (b.c.fact i h)
theorem Bas.cme (b : Bas fx fn K mg) (i : Nat) {x m : Str} (h : fx[i]? = some (.cme x m) := by rfl) : ClX.CRead K (He.ga K x) (.type "type") ∧ ClX.CMet K (He.ga K x) (.type "type") m (prA K x m) (cmG K x m) := cme_ok (b.c.fact i h)
theorem Bas.opr (b : Bas fx fn K mg) (i : Nat) {x m : Str} (h : fx[i]? = some (.opr x m) := by rfl) : PySem.W.findIn K (.ref (He.ga K x)) m = some (some (.ref (He.ma K (He.ga K x) m))) ∧ PySem.W.isFn K (.ref (He.ma K (He.ga K x) m)) = true ∧ PySem.W.fnIn K (He.ma K (He.ga K x) m) = true :=
  have q := b.c.fact i h
  ⟨He.eqO_ok (b2 q).1, (b2 (b2 q).2).1, (b2 (b2 q).2).2⟩
/-! the bundles -/
theorem mkDef0 (ok : FnOk P w K mg base (L2.CX P w) k f fd ps (spM K g np F)) (hm : mg x = some (.ref f)) (kp : PySem.W.keepIn K (.ref f) = true) (b : Binds K fd ps []) (ar : Arity np F) : Def0 P w K mg base g x np F k [] :=
  ⟨⟨f, fd, ps, [], [], ok, hm, kp, b, .nil, fun _ => .nil⟩, ar⟩
theorem mkDef0d (ok : FnOk P w K mg base (L2.CX P w) k f fd ps (spM K g np F)) (hm : mg x = some (.ref f)) (kp : PySem.W.keepIn K (.ref f) = true) (b : ∃ ds, Vals dvs ds ∧ Binds K fd ps ds) (pd : Paired (fun d v => plainV d = some v) dfl dvs) (ar : Arity np F) : Def0 P w K mg base g x np F k dfl :=
  let ⟨ds, v, b⟩ := b
  ⟨⟨f, fd, ps, dvs, ds, ok, hm, kp, b, v, fun H => plain_reps pd H⟩, ar⟩
theorem mkMak (ok : FnOk P w K mg base (L2.CX P w) k f fd ps (spM K g np F)) (mk : Mk K (g.cl c) f) (hm : mg x = some (.ref (g.cl c))) (b : Binds K fd ps []) (o : g.ok c = true) (ar : Arity np F) : Mak P w K mg base g x c np F k [] :=
  ⟨⟨f, fd, ps, [], [], ok, mk, hm, b, .nil, fun _ => .nil⟩, o, ar⟩
theorem mkMakd (ok : FnOk P w K mg base (L2.CX P w) k f fd ps (spM K g np F)) (mk : Mk K (g.cl c) f) (hm : mg x = some (.ref (g.cl c))) (b : ∃ ds, Vals dvs ds ∧ Binds K fd ps ds) (pd : Paired (fun d v => plainV d = some v) dfl dvs) (o : g.ok c = true) (ar : Arity np F) : Mak P w K mg base g x c np F k dfl :=
  let ⟨ds, v, b⟩ := b
  ⟨⟨f, fd, ps, dvs, ds, ok, mk, hm, b, v, fun H => plain_reps pd H⟩, o, ar⟩
theorem mkMth (ok : FnOk P w K mg base (L2.CX P w) k f fd ps (spM K g np F)) (hm : Meth K (g.cl c) m f) (b : Binds K fd ps []) (cl : Cls K (g.cl c)) (no : m ∉ nmT c) (ar : Arity np F) : Mth P w K mg base g c m F k [] :=
  ⟨⟨f, fd, ps, [], [], np, ok, hm, b, .nil, fun _ => .nil, ar⟩, cl, no⟩
theorem mkMthd (ok : FnOk P w K mg base (L2.CX P w) k f fd ps (spM K g np F)) (hm : Meth K (g.cl c) m f) (b : ∃ ds, Vals dvs ds ∧ Binds K fd ps ds) (pd : Paired (fun d v => plainV d = some v) dfl dvs) (cl : Cls K (g.cl c)) (no : m ∉ nmT c) (ar : Arity np F) : Mth P w K mg base g c m F k dfl :=
  let ⟨ds, v, b⟩ := b
  ⟨⟨f, fd, ps, dvs, ds, np, ok, hm, b, v, fun H => plain_reps pd H, ar⟩, cl, no⟩
theorem mkPrp (ok : FnOk P w K mg base (L2.CX P w) k f fd ps (spM K g 1 F)) (hm : PropOf K (g.cl c) m p f) (b : Binds K fd ps []) (cl : Cls K (g.cl c)) (ar : Arity 1 F) : Prp P w K mg base g c m F k :=
  ⟨⟨p, f, fd, ps, ok, hm, b⟩, cl, ar⟩
theorem mkOpr (ok : FnOk P w K mg base (L2.CX P w) k f fd ps (spM K g np F)) (q : PySem.W.findIn K (.ref (g.cl c)) m = some (some (.ref f)) ∧ PySem.W.isFn K (.ref f) = true ∧ PySem.W.fnIn K f = true) (b : Binds K fd ps []) (ar : Arity np F) : Opr P w K mg base g c m np F k :=
  ⟨⟨f, FnR.imp (ok.raw b .nil) fun vs H Q E h => by rw [List.append_nil]; exact h, q⟩, ar⟩
theorem mkCme {mc : Value} (ok : FnOk P w K mg base (L2.CX P w) k f fd ps (spM K g np F)) (q : ClX.CRead K (g.cl c) mc ∧ ClX.CMet K (g.cl c) mc m p f) (b : Binds K fd ps []) (hm : mg x = some (.ref (g.cl c))) (ar : Arity np F) : Cme P w K mg base g x c m F k [] :=
  ⟨⟨f, fd, ps, [], [], np, p, mc, ok, q.1, q.2, b, .nil, fun _ => .nil, ar⟩, hm⟩
theorem mkCmed {mc : Value} (ok : FnOk P w K mg base (L2.CX P w) k f fd ps (spM K g np F)) (q : ClX.CRead K (g.cl c) mc ∧ ClX.CMet K (g.cl c) mc m p f) (b : ∃ ds, Vals dvs ds ∧ Binds K fd ps ds) (pd : Paired (fun d v => plainV d = some v) dfl dvs) (hm : mg x = some (.ref (g.cl c))) (ar : Arity np F) : Cme P w K mg base g x c m F k dfl :=
  let ⟨ds, v, b⟩ := b
  ⟨⟨f, fd, ps, dvs, ds, np, p, mc, ok, q.1, q.2, b, v, fun H => plain_reps pd H, ar⟩, hm⟩
end
end DL

set_option Elab.async false
set_option linter.all false
set_option maxRecDepth 100000
set_option maxHeartbeats 400000
namespace DL
open PySem L2
/-! ### mirrors, evaluated -/
def np : Sl → Bool
  | .pn _ => false
  | _ => true
def cm : Sl → Bool
  | .sh _ => true
  | .no => true
  | _ => false
def npAt (env : En) (i : Nat) : Bool := match env[i]? with
  | some y => np y
  | none => false
theorem sto_np (i : Nat) (x : Sl) (env : En) : sto i x env = if npAt env i = true then .ok .nx (env.set i x) else .bad := by
  unfold sto npAt
  cases env[i]? with
  | none => simp
  | some y => cases y <;> simp [np]
theorem stE_np (i : Nat) (x : Sl) (env : En) : stE i x env = if npAt env i = true then some (env.set i x) else none := by
  unfold stE npAt
  cases env[i]? with
  | none => simp
  | some y => cases y <;> simp [np]
theorem calmS_cm (y : Sl) : calmS (some y) = cm y := by cases y <;> rfl
theorem np_sh (d : D) : np (.sh d) = true := rfl
theorem np_ow (d : D) : np (.ow d) = true := rfl
theorem np_no : np .no = true := rfl
theorem cm_sh (d : D) : cm (.sh d) = true := rfl
theorem cm_no : cm .no = true := rfl
theorem full_lst (xs : List D) : full (.lst xs) = true := rfl
theorem full_ins (c : Nat) (xs : List D) : full (.ins c xs) = (xs.length == nmN c) := rfl
theorem loop_nx {t : Tg} {b : S} {d : D} {ds : List D} {env e1 e2 : En} (h1 : t d env = some e1) (h2 : b e1 = .ok .nx e2) : sLoop t b (d :: ds) env = sLoop t b ds e2 := by
  simp only [sLoop, h1, h2]
theorem for_ok {mi : M (List D)} {t : Tg} {b : S} {env e1 e2 : En} {ds : List D} (h1 : mi env = .ok ds e1) (h2 : sLoop t b ds e1 = .ok .nx e2) : sFor mi t b env = .ok .nx e2 := by
  simp only [sFor, DL.bnd, h1, h2]
theorem seq_nx {a b : S} {env e1 : En} (h1 : a env = .ok .nx e1) : sSeq a b env = b e1 := by
  simp only [sSeq, h1]
theorem fn_rt {k n : Nat} {b : S} {args : En} {d : D} {e args' : En} (hl : args.length = k) (h : b (args ++ List.replicate (n - k) .no) = .ok (.rt d) e) (ht : e.take k = args') : fnM k n (nox b) args = .ok (.rt d) args' := by
  subst hl
  simp only [fnM, DL.run, DL.nox, if_true, h, ht]
theorem fn_rto {k n : Nat} {b : S} {args : En} {d : D} {e args' : En} (hl : args.length = k) (h : b (args ++ List.replicate (n - k) .no) = .ok (.rto d) e) (ht : e.take k = args') : fnM k n (nox b) args = .ok (.rto d) args' := by
  subst hl
  simp only [fnM, DL.run, DL.nox, if_true, h, ht]
theorem fn_nx {k n : Nat} {b : S} {args : En} {e args' : En} (hl : args.length = k) (h : b (args ++ List.replicate (n - k) .no) = .ok .nx e) (ht : e.take k = args') : fnM k n (nox b) args = .ok (.rt .non) args' := by
  subst hl
  simp only [fnM, DL.run, DL.nox, if_true, h, ht]
/-! a comprehension over a pure item -/
theorem lc_pure {v : Nat} {m : M D} {env : En} {f : D → D} (hv : env[v]? = some .no) : ∀ (ds acc : List D), (∀ d ∈ ds, m (env.set v (.sh d)) = .ok (f d) (env.set v (.sh d))) → lcLoop (tgName v) (ret true) m [v] ds acc env = .ok (acc ++ ds.map f) env
  | [], acc, _ => by simp [lcLoop, DL.ret]
  | d :: ds, acc, h => by
    have hlt : v < env.length := (List.getElem?_eq_some_iff.mp hv).1
    have h1 : tgName v d env = some (env.set v (.sh d)) := by
      simp [tgName, stE, hv]
    have h2 := h d List.mem_cons_self
    have h3 : calmE (env.set v (.sh d)) [v] = true := by
      simp [calmE, List.getElem?_set_self hlt, calmS]
    have h4 : wpE (env.set v (.sh d)) [v] = env := by
      simp only [wpE, List.set_set]
      rw [List.getElem?_eq_getElem hlt] at hv
      rw [← Option.some.inj hv, List.set_getElem_self]
    have ih := lc_pure (m := m) (f := f) hv ds (acc ++ [f d]) fun d' hd => h d' (List.mem_cons_of_mem _ hd)
    simp only [lcLoop, h1, DL.bnd, DL.ret, if_true, h2, h3, h4, ih, List.map_cons, List.append_assoc, List.singleton_append]
theorem mLc_pure {v : Nat} {mi : M (List D)} {m : M D} {env : En} {f : D → D} {ds : List D} {y : Sl} (hmi : mi env = .ok ds env) (hv : env[v]? = some y) (hc : cm y = true) (hs : small ds.length = true) (hm : ∀ d ∈ ds, m (env.set v (.sh d)) = .ok (f d) (env.set v (.sh d))) :
    mLc mi (tgName v) (ret true) m [v] env = .ok (.lst (ds.map f)) env := by
  have hlt : v < env.length := (List.getElem?_eq_some_iff.mp hv).1
  have c1 : calmE env [v] = true := by
    simp only [calmE, List.all_cons, List.all_nil, Bool.and_true, hv, calmS_cm, hc]
  have h := lc_pure (v := v) (m := m) (env := env.set v .no) (f := f) (List.getElem?_set_self hlt) ds [] (by simpa using hm)
  have h4 : rsE (env.set v .no) env [v] = env := by
    simp only [rsE, List.set_set]
    have : env.getD v .no = env[v] := by simp [List.getD, List.getElem?_eq_getElem hlt]
    rw [this, List.set_getElem_self]
  simp only [mLc, DL.bnd, hmi, c1, hs, and_self, if_true, DL.nox, wpE, h, h4, List.nil_append]
theorem cand_int {α : Type} (L : List (Nat × α)) (i : Int) : cand L (.int i) = none := rfl
theorem cand_tup {α : Type} (L : List (Nat × α)) (i : List D) : cand L (.tup i) = none := rfl
theorem cand_lst {α : Type} (L : List (Nat × α)) (i : List D) : cand L (.lst i) = none := rfl
theorem cand_scr {α : Type} (L : List (Nat × α)) (i : List Int) : cand L (.scr i) = none := rfl
theorem cand_str {α : Type} (L : List (Nat × α)) (i : Str) : cand L (.str i) = none := rfl
theorem cand_bl {α : Type} (L : List (Nat × α)) (i : Bool) : cand L (.bl i) = none := rfl
theorem cand_non {α : Type} (L : List (Nat × α)) : cand L .non = none := rfl
theorem cand_ins {α : Type} (L : List (Nat × α)) (c : Nat) (ds : List D) : cand L (.ins c ds) = L.lookup c := rfl
theorem look0 {α : Type} (F : α) (L : List (Nat × α)) : List.lookup 0 ((0, F) :: L) = some F := rfl
theorem okY_ii (c : Nat) (xs ys : List D) : okY (.ins c xs) (.ins c ys) = true := by simp [okY]
theorem okY_int (c : Nat) (xs : List D) (i : Int) : okY (.ins c xs) (.int i) = true := rfl
theorem sameC_ii (c : Nat) (xs ys : List D) : sameC (.ins c xs) (.ins c ys) = true := by simp [sameC]
theorem isi_cl0 (cs : List Nat) (ds : List D) (h : cs.contains 0 = true) : isiD (okOf cs) [.cl 0] (.ins 0 ds) = some (.bl true) := by
  simp [isiD, okK, okOf, h, kindD, kitCK]
  simpa using h
theorem isi_int (cs : List Nat) (i : Int) : isiD (okOf cs) [.ty "int"] (.int i) = some (.bl true) := rfl
theorem isi_intb (cs : List Nat) (i : Int) : isiD (okOf cs) [.ty "bool"] (.int i) = some (.bl false) := rfl
end DL

set_option Elab.async false
set_option linter.all false
set_option maxRecDepth 100000
set_option maxHeartbeats 400000
namespace DL
open PySem L2
/-! ### equality of rows of ints, digits -/
theorem pds_ints : ∀ ns : List Int, toPDs (ns.map .int) = some (ns.map .int)
  | [] => by simp only [List.map_nil, toPDs]
  | n :: ns => by simp only [List.map_cons, toPDs, toPD, pds_ints ns]
theorem lay_ints : ∀ ns : List Int, PyData.canLayAll0 (ns.map .int) = true
  | [] => by simp only [List.map_nil, PyData.canLayAll0]
  | n :: ns => by simp only [List.map_cons, PyData.canLayAll0, PyData.canLay0, lay_ints ns, Bool.and_self]
theorem dep_ints : ∀ ns : List Int, PyData.depthAll (ns.map .int) = 0
  | [] => by simp only [List.map_nil, PyData.depthAll]
  | n :: ns => by simp only [List.map_cons, PyData.depthAll, PyData.depth, dep_ints ns, Nat.max_self]
theorem eqv_ints : ∀ xs ys : List Int, PyData.eqvAll (xs.map .int) (ys.map .int) = decide (xs = ys)
  | [], [] => by simp [PyData.eqvAll]
  | [], _ :: _ => by simp [PyData.eqvAll]
  | _ :: _, [] => by simp [PyData.eqvAll]
  | x :: xs, y :: ys => by
    simp only [List.map_cons, PyData.eqvAll, PyData.eqv, eqv_ints xs ys, List.cons.injEq, Bool.decide_and]
    congr 1
theorem eqB_int (i j : Int) : eqB (.int i) (.int j) = some (decide (i = j)) := by
  simp only [eqB, toPD, SeqAt.shaped, PyData.canLay0, PyData.depth, PyData.eqv]
  rfl
theorem eqB_tup (xs ys : List Int) : eqB (.tup (xs.map .int)) (.tup (ys.map .int)) = some (decide (xs = ys)) := by
  simp [eqB, toPD, pds_ints, SeqAt.shaped, PyData.canLay0, lay_ints, PyData.depth, dep_ints, PyData.eqv, eqv_ints]
theorem eqB_lst (xs ys : List Int) : eqB (.lst (xs.map .int)) (.lst (ys.map .int)) = some (decide (xs = ys)) := by
  simp [eqB, toPD, pds_ints, SeqAt.shaped, PyData.canLay0, lay_ints, PyData.depth, dep_ints, PyData.eqv, eqv_ints]
theorem emod_succ (x : Int) {b : Int} (hb : 0 < b) (w : Nat) : x % b ^ (w + 1) = x % b ^ w + b ^ w * (x / b ^ w % b) := by
  have hp : 0 < b ^ w := Int.pow_pos hb
  have e1 := Int.mul_ediv_add_emod x (b ^ w)
  have e2 := Int.mul_ediv_add_emod (x / b ^ w) b
  have r0 := Int.emod_nonneg x (by omega : b ^ w ≠ 0)
  have r1 := Int.emod_lt_of_pos x hp
  have d0 := Int.emod_nonneg (x / b ^ w) (by omega : b ≠ 0)
  have d1 := Int.emod_lt_of_pos (x / b ^ w) hb
  have e3 : x = (x % b ^ w + b ^ w * (x / b ^ w % b)) + b ^ (w + 1) * (x / b ^ w / b) := by
    rw [Int.pow_succ, Int.mul_assoc]
    calc x = b ^ w * (x / b ^ w) + x % b ^ w := e1.symm
      _ = b ^ w * (b * (x / b ^ w / b) + x / b ^ w % b) + x % b ^ w := by rw [e2]
      _ = _ := by rw [Int.mul_add]; omega
  have c0 : 0 ≤ x % b ^ w + b ^ w * (x / b ^ w % b) := by
    have := Int.mul_nonneg (by omega : 0 ≤ b ^ w) d0
    omega
  have c1 : x % b ^ w + b ^ w * (x / b ^ w % b) < b ^ (w + 1) := by
    have h : b ^ w * (x / b ^ w % b) ≤ b ^ w * (b - 1) := Int.mul_le_mul_of_nonneg_left (by omega) (by omega)
    have e5 : b ^ (w + 1) = b ^ w * b := Int.pow_succ ..
    rw [Int.mul_sub, Int.mul_one, ← e5] at h
    omega
  have e4 : x % b ^ (w + 1) = (x % b ^ w + b ^ w * (x / b ^ w % b)) % b ^ (w + 1) := by
    conv => lhs; rw [e3]
    rw [Int.add_mul_emod_self_left]
  rw [e4, Int.emod_eq_of_lt c0 c1]
theorem digs_eq {b : Int} (hb : 0 < b) {x y : Int} : ∀ w : Nat, (∀ i, i < w → x / b ^ i % b = y / b ^ i % b) → x % b ^ w = y % b ^ w
  | 0, _ => by simp [Int.emod_one]
  | w + 1, h => by rw [emod_succ x hb, emod_succ y hb, digs_eq hb w fun i hi => h i (by omega), h w (by omega)]
end DL

set_option Elab.async false
set_option linter.all false
set_option maxRecDepth 100000
set_option maxHeartbeats 400000
namespace LW
open PySem L2 PyProof.Rows DL
def pw_10_18 : M D := mBin powD (ret (.int 10)) (ret (.int 18))
def pw_10_50 : M D := mBin powD (ret (.int 10)) (ret (.int 50))
def m_is_integer : S := sRet (bnd (mB (mUn (isiD (okOf [0]) [.ty "int"]) (mVar 0))) fun x => if x = true then mBv (mNot (mB (mUn (isiD (okOf [0]) [.ty "bool"]) (mVar 0)))) else ret (.bl false))
def F_is_integer : Fm := fnM 1 1 (nox m_is_integer)
def m_is_between : S := sRet (bnd (mB (mCallA F_is_integer [] (mCons (mVar 0) mNil))) fun x => if x = true then mChain leD leD (mVar 1) (mVar 0) (mVar 2) else ret (.bl false))
def F_is_between : Fm := fnM 3 3 (nox m_is_between)
def m_check_between : S := sIf (mNot (mTru (mCallA F_is_between [] (mCons (mVar 0) (mCons (mVar 1) (mCons (mVar 2) mNil)))))) (fun _ => .bad) sNx
def F_check_between : Fm := fnM 3 3 (nox m_check_between)
def m_check_integer : S := sIf (mNot (mTru (mCallA F_is_integer [] (mCons (mVar 0) mNil)))) (fun _ => .bad) sNx
def F_check_integer : Fm := fnM 1 1 (nox m_check_integer)
def m_power : S := sSeq (sSet 2 (ret (.int 1)))
  (sSeq (sFor (iArg rng1D (mCons (mVar 1) mNil)) (tgName 3) (sSet 2 (mBin mulD (mVar 2) (mVar 0))))
  (sRet (mVar 2)))
def F_power : Fm := fnM 2 4 (nox m_power)
def m_digits_of : S := sRet (frz (mLc (iArg rng1D (mCons (mVar 2) mNil)) (tgName 3) (ret true) (mBin modD (mBin divD (mVar 0) (mCallA F_power [] (mCons (mVar 1) (mCons (mVar 3) mNil)))) (mVar 1)) [3]))
def F_digits_of : Fm := fnM 3 4 (nox m_digits_of)
def m_number_of : S := sSeq (sSet 2 (ret (.int 0)))
  (sSeq (sFor (iItm (mUn revD (mVar 0))) (tgName 3) (sSet 2 (mBin addD (mBin mulD (mVar 2) (mVar 1)) (mVar 3))))
  (sRet (mVar 2)))
def F_number_of : Fm := fnM 2 4 (nox m_number_of)
def m_Word_init : S := sSeq (sDrop (mCallA F_check_between [] (mCons (mVar 2) (mCons (ret (.int 2)) (mCons (ret (.int 36)) mNil)))))
  (sSeq (sDrop (mCallA F_check_between [] (mCons (mVar 3) (mCons (ret (.int 1)) (mCons (ret (.int 40)) mNil)))))
  (sSeq (sDrop (mCallA F_check_integer [] (mCons (mVar 1) mNil)))
  (sSeq (sFldS "radix" 0 (mVar 2))
  (sSeq (sFldS "amount" 0 (mBin modD (mVar 1) (mCallA F_power [] (mCons (mVar 2) (mCons (mVar 3) mNil)))))
  (sFldS "row" 0 (mCb tupleD (mCons (mCallA F_digits_of [] (mCons (bnd (own 0) fun d => lft (fldD "amount" d)) (mCons (mVar 2) (mCons (mVar 3) mNil)))) mNil)))))))
def F_Word_init : Fm := fnM 4 4 (nox m_Word_init)
def m_Word_of : S := sSeq (sDrop (mCallA F_check_between [] (mCons (mVar 2) (mCons (ret (.int 2)) (mCons (ret (.int 36)) mNil)))))
  (sSeq (sIf (mOr (mNot (mTru (mUn (isiD (okOf [0]) [.ty "list", .ty "tuple"]) (mVar 1)))) (mNot (mB (mChain leD leD (ret (.int 1)) (mCb lenD (mCons (mVar 1) mNil)) (ret (.int 40)))))) (fun _ => .bad) sNx)
  (sSeq (sIf (mNot (mTru (mCb allD (mCons (frz (mLc (iItm (mVar 1)) (tgName 3) (ret true) (mCallA F_is_between [] (mCons (mVar 3) (mCons (ret (.int 0)) (mCons (mBin subD (mVar 2) (ret (.int 1))) mNil)))) [3])) mNil)))) (fun _ => .bad) sNx)
  (sRet (frz (mClsF F_Word_init 0 0 [] (mCons (mCallA F_number_of [] (mCons (mVar 1) (mCons (mVar 2) mNil))) (mCons (mVar 2) (mCons (mCb lenD (mCons (mVar 1) mNil)) mNil))))))))
def F_Word_of : Fm := fnM 3 4 (nox m_Word_of)
def m_Word_number : S := sRet (mUn (fldD "amount") (mVar 0))
def F_Word_number : Fm := fnM 1 1 (nox m_Word_number)
def m_Word_base : S := sRet (mUn (fldD "radix") (mVar 0))
def F_Word_base : Fm := fnM 1 1 (nox m_Word_base)
def m_Word_width : S := sRet (mCb lenD (mCons (mUn (fldD "row") (mVar 0)) mNil))
def F_Word_width : Fm := fnM 1 1 (nox m_Word_width)
def m_Word_digits : S := sRet (mUn (fldD "row") (mVar 0))
def F_Word_digits : Fm := fnM 1 1 (nox m_Word_digits)
def m_Word_len : S := sRet (mCb lenD (mCons (mUn (fldD "row") (mVar 0)) mNil))
def F_Word_len : Fm := fnM 1 1 (nox m_Word_len)
def m_Word_eq : S := sRet (bnd (mB (mUn (isiD (okOf [0]) [.cl 0]) (mVar 1))) fun x => if x = true then bnd (mB (mBin eqD (mUn (fldD "row") (mVar 0)) (mUn (fldD "row") (mVar 1)))) fun x => if x = true then mBin eqD (mUn (fldD "radix") (mVar 0)) (mUn (fldD "radix") (mVar 1)) else ret (.bl false) else ret (.bl false))
def F_Word_eq : Fm := fnM 2 2 (nox m_Word_eq)
def m_Word_bool : S := sRet (mCb boolD (mCons (mCmpO [(0, F_Word_eq)] true neD (mUn (fldD "amount") (mVar 0)) (ret (.int 0))) mNil))
def F_Word_bool : Fm := fnM 1 1 (nox m_Word_bool)
def m_Word_getitem : S := sSeq (sDrop (mCallA F_check_between [] (mCons (mVar 1) (mCons (ret (.int 0)) (mCons (mBin subD (bnd (mCons (mUn (fldD "row") (mVar 0)) mNil) (mLenO [(0, F_Word_len)] lenD)) (ret (.int 1))) mNil)))))
  (sRet (mBin ixD (mUn (fldD "row") (mVar 0)) (mVar 1)))
def F_Word_getitem : Fm := fnM 2 2 (nox m_Word_getitem)
def m_Word_iter : S := fun _ => .bad
def F_Word_iter : Fm := fnM 1 1 (nox m_Word_iter)
def m_Word_add : S := sSeq (sIf (mOr (mB (mCmpO [(0, F_Word_eq)] true neD (mUn (fldD "radix") (mVar 0)) (mUn (fldD "radix") (mVar 1)))) (mB (mCmpO [(0, F_Word_eq)] true neD (bnd (mCons (mUn (fldD "row") (mVar 0)) mNil) (mLenO [(0, F_Word_len)] lenD)) (bnd (mCons (mUn (fldD "row") (mVar 1)) mNil) (mLenO [(0, F_Word_len)] lenD))))) (fun _ => .bad) sNx)
  (sRet (frz (mMakF F_Word_init 0 [] (mCons (mBin addD (mUn (fldD "amount") (mVar 0)) (mUn (fldD "amount") (mVar 1))) (mCons (mUn (fldD "radix") (mVar 0)) (mCons (bnd (mCons (mUn (fldD "row") (mVar 0)) mNil) (mLenO [(0, F_Word_len)] lenD)) mNil))))))
def F_Word_add : Fm := fnM 2 2 (nox m_Word_add)
def m_Word_sub : S := sSeq (sIf (mOr (mB (mCmpO [(0, F_Word_eq)] true neD (mUn (fldD "radix") (mVar 0)) (mUn (fldD "radix") (mVar 1)))) (mB (mCmpO [(0, F_Word_eq)] true neD (bnd (mCons (mUn (fldD "row") (mVar 0)) mNil) (mLenO [(0, F_Word_len)] lenD)) (bnd (mCons (mUn (fldD "row") (mVar 1)) mNil) (mLenO [(0, F_Word_len)] lenD))))) (fun _ => .bad) sNx)
  (sRet (frz (mMakF F_Word_init 0 [] (mCons (mBin subD (mUn (fldD "amount") (mVar 0)) (mUn (fldD "amount") (mVar 1))) (mCons (mUn (fldD "radix") (mVar 0)) (mCons (bnd (mCons (mUn (fldD "row") (mVar 0)) mNil) (mLenO [(0, F_Word_len)] lenD)) mNil))))))
def F_Word_sub : Fm := fnM 2 2 (nox m_Word_sub)
def m_Word_neg : S := sRet (frz (mMakF F_Word_init 0 [] (mCons (mUn negD (mUn (fldD "amount") (mVar 0))) (mCons (mUn (fldD "radix") (mVar 0)) (mCons (bnd (mCons (mUn (fldD "row") (mVar 0)) mNil) (mLenO [(0, F_Word_len)] lenD)) mNil)))))
def F_Word_neg : Fm := fnM 1 1 (nox m_Word_neg)
def m_Word_invert : S := sRet (frz (mMakF F_Word_init 0 [] (mCons (mBinO [(0, F_Word_sub)] subD (bnd (ret (.int 1)) (mUnO [(0, F_Word_neg)] negD)) (mUn (fldD "amount") (mVar 0))) (mCons (mUn (fldD "radix") (mVar 0)) (mCons (bnd (mCons (mUn (fldD "row") (mVar 0)) mNil) (mLenO [(0, F_Word_len)] lenD)) mNil)))))
def F_Word_invert : Fm := fnM 1 1 (nox m_Word_invert)
def m_Word_lshift : S := sSeq (sSet 2 (mCb min2D (mCons (mVar 1) (mCons (bnd (mCons (mUn (fldD "row") (mVar 0)) mNil) (mLenO [(0, F_Word_len)] lenD)) mNil))))
  (sRet (frz (mMakF F_Word_init 0 [] (mCons (mBin mulD (mUn (fldD "amount") (mVar 0)) (mCallA F_power [] (mCons (mUn (fldD "radix") (mVar 0)) (mCons (mVar 2) mNil)))) (mCons (mUn (fldD "radix") (mVar 0)) (mCons (bnd (mCons (mUn (fldD "row") (mVar 0)) mNil) (mLenO [(0, F_Word_len)] lenD)) mNil))))))
def F_Word_lshift : Fm := fnM 2 3 (nox m_Word_lshift)
def m_Word_rshift : S := sSeq (sSet 2 (mCb min2D (mCons (mVar 1) (mCons (bnd (mCons (mUn (fldD "row") (mVar 0)) mNil) (mLenO [(0, F_Word_len)] lenD)) mNil))))
  (sRet (frz (mMakF F_Word_init 0 [] (mCons (mBin divD (mUn (fldD "amount") (mVar 0)) (mCallA F_power [] (mCons (mUn (fldD "radix") (mVar 0)) (mCons (mVar 2) mNil)))) (mCons (mUn (fldD "radix") (mVar 0)) (mCons (bnd (mCons (mUn (fldD "row") (mVar 0)) mNil) (mLenO [(0, F_Word_len)] lenD)) mNil))))))
def F_Word_rshift : Fm := fnM 2 3 (nox m_Word_rshift)
def m_law_pool : S := sSeq (sSet 2 (ret (.int 0)))
  (sSeq (sIf (mB (mBin ltD (mVar 1) (bnd (mCons (mVar 0) mNil) (mLenO [(0, F_Word_len)] lenD)))) (sSet 2 (mCb absD (mCons (mSubO [(0, F_Word_getitem)] (mVar 0) (mVar 1)) mNil))) sNx)
  (sSeq (sSet 3 (mBin modD (mBin mulD (mBinO [(0, F_Word_add)] addD (mBinO [(0, F_Word_add)] addD (mBinO [(0, F_Word_add)] addD (mBin modD (mVar 2) (ret (.int 2147483629))) (mBin mulD (mBin mulD (ret (.int 7919)) (mVar 1)) (mVar 1))) (mBin mulD (ret (.int 31)) (mVar 1))) (ret (.int 17))) (ret (.int 48271))) (ret (.int 2147483647))))
  (sRetF (mLst (mCons (mBin mulD (mVar 2) (mCb intD (mCons (mBin geD (mVar 2) pw_10_18) mNil))) (mCons (mBin modD (mBin mulD (mVar 3) (mVar 3)) (ret (.int 2147483629))) mNil))))))
def F_law_pool : Fm := fnM 2 4 (nox m_law_pool)
def m_law_take : S := sSeq (sIf (mB (mBin gtD (mIxS 0 (ret (.int 0))) (ret (.int 0)))) (sSeq (sSet 2 (mBin modD (mIxS 0 (ret (.int 0))) (mVar 1)))
  (sSeq (sPut 0 (mBin divD (mIxS 0 (ret (.int 0))) (mVar 1)) (ret (.int 0)))
  (sRet (mVar 2)))) sNx)
  (sSeq (sPut 0 (mBin modD (mBinO [(0, F_Word_add)] addD (mBin mulD (mIxS 0 (ret (.int 1))) (ret (.int 48271))) (ret (.int 12345))) (ret (.int 2147483647))) (ret (.int 1)))
  (sRet (mBin modD (mBin divD (mBin modD (mBin mulD (mIxS 0 (ret (.int 1))) (mIxS 0 (ret (.int 1)))) (ret (.int 2147483629))) (ret (.int 64))) (mVar 1))))
def F_law_take : Fm := fnM 2 3 (nox m_law_take)
def m_law_power : S := sSeq (sSet 2 (ret (.int 1)))
  (sSeq (sFor (iArg rng1D (mCons (mVar 1) mNil)) (tgName 3) (sSet 2 (mBin mulD (mVar 2) (mVar 0))))
  (sRet (mVar 2)))
def F_law_power : Fm := fnM 2 4 (nox m_law_power)
def m_law_14 : S := sIf (mOr (mB (mCmpO [(0, F_Word_eq)] true neD (mBinO [(0, F_Word_lshift)] (fun _ _ => none) (mVar 7) pw_10_50) (mVar 10))) (mOr (mB (mCmpO [(0, F_Word_eq)] true neD (mBinO [(0, F_Word_rshift)] (fun _ _ => none) (mVar 7) pw_10_50) (mVar 10))) (mOr (mB (mCmpO [(0, F_Word_eq)] true neD (mBinO [(0, F_Word_lshift)] (fun _ _ => none) (mVar 7) (ret (.int 0))) (mVar 7))) (mB (mCmpO [(0, F_Word_eq)] true neD (mBinO [(0, F_Word_rshift)] (fun _ _ => none) (mVar 7) (ret (.int 0))) (mVar 7)))))) (sRet (ret (.bl false))) sNx
def m_law_13 : S := sIf (mOr (mB (mCmpO [(0, F_Word_eq)] true neD (mVar 14) (mBinO [(0, F_Word_lshift)] (fun _ _ => none) (mVar 7) (ret (.int 1))))) (mOr (mB (mCmpO [(0, F_Word_eq)] true neD (mCme F_Word_of 0 [] (mCons (mCb listD (mCons (mPrp [(0, F_Word_digits)] (mVar 7)) mNil)) (mCons (mVar 3) mNil))) (mVar 7))) (mB (mCmpO [(0, F_Word_eq)] true neD (frz (mMakF F_Word_init 0 [] (mCons (mBinO [(0, F_Word_add)] addD (mPrp [(0, F_Word_number)] (mVar 7)) (mVar 5)) (mCons (mVar 3) (mCons (mVar 4) mNil))))) (mVar 7))))) (sRet (ret (.bl false))) sNx
def m_law_12 : S := sFor (iArg rng1D (mCons (mVar 3) mNil)) (tgName 6) (sSet 14 (mBinO [(0, F_Word_add)] addD (mVar 14) (mVar 7)))
def m_law_11 : S := sSet 14 (mVar 10)
def m_law_10 : S := sIf (mOr (mB (mCmpO [(0, F_Word_eq)] true neD (mBinO [(0, F_Word_add)] addD (mBinO [(0, F_Word_lshift)] (fun _ _ => none) (mBinO [(0, F_Word_rshift)] (fun _ _ => none) (mVar 7) (mVar 12)) (mVar 12)) (mBinO [(0, F_Word_sub)] subD (mVar 7) (mBinO [(0, F_Word_lshift)] (fun _ _ => none) (mBinO [(0, F_Word_rshift)] (fun _ _ => none) (mVar 7) (mVar 12)) (mVar 12)))) (mVar 7))) (mB (mCmpO [(0, F_Word_eq)] true neD (mSl (mPrp [(0, F_Word_digits)] (mBinO [(0, F_Word_lshift)] (fun _ _ => none) (mVar 7) (mVar 12))) mNoP (mPart (mVar 12))) (mBin mulD (mTup (mCons (ret (.int 0)) mNil)) (mCb min2D (mCons (mVar 12) (mCons (mVar 4) mNil))))))) (sRet (ret (.bl false))) sNx
def m_law_9 : S := sIf (mOr (mB (mCmpO [(0, F_Word_eq)] true neD (mBinO [(0, F_Word_lshift)] (fun _ _ => none) (mBinO [(0, F_Word_lshift)] (fun _ _ => none) (mVar 7) (mVar 12)) (mVar 13)) (mBinO [(0, F_Word_lshift)] (fun _ _ => none) (mVar 7) (mBinO [(0, F_Word_add)] addD (mVar 12) (mVar 13))))) (mOr (mB (mCmpO [(0, F_Word_eq)] true neD (mBinO [(0, F_Word_rshift)] (fun _ _ => none) (mBinO [(0, F_Word_rshift)] (fun _ _ => none) (mVar 7) (mVar 12)) (mVar 13)) (mBinO [(0, F_Word_rshift)] (fun _ _ => none) (mVar 7) (mBinO [(0, F_Word_add)] addD (mVar 12) (mVar 13))))) (mB (mCmpO [(0, F_Word_eq)] true neD (mBinO [(0, F_Word_lshift)] (fun _ _ => none) (mBinO [(0, F_Word_add)] addD (mVar 7) (mVar 8)) (mVar 12)) (mBinO [(0, F_Word_add)] addD (mBinO [(0, F_Word_lshift)] (fun _ _ => none) (mVar 7) (mVar 12)) (mBinO [(0, F_Word_lshift)] (fun _ _ => none) (mVar 8) (mVar 12))))))) (sRet (ret (.bl false))) sNx
def m_law_8 : S := sPar2 12 13 (mCons (mCallB F_law_take 2 [] (mCons (mBinO [(0, F_Word_add)] addD (mVar 4) (ret (.int 1))) mNil)) (mCons (mCallB F_law_take 2 [] (mCons (mBinO [(0, F_Word_add)] addD (mVar 4) (ret (.int 1))) mNil)) mNil))
def m_law_7 : S := sIf (mOr (mB (mCmpO [(0, F_Word_eq)] true neD (mBinO [(0, F_Word_sub)] subD (bnd (mVar 7) (mUnO [(0, F_Word_neg)] negD)) (mVar 11)) (bnd (mVar 7) (mUnO [(0, F_Word_invert)] fun _ => none)))) (mOr (mB (mCmpO [(0, F_Word_eq)] true neD (bnd (bnd (mVar 7) (mUnO [(0, F_Word_invert)] fun _ => none)) (mUnO [(0, F_Word_invert)] fun _ => none)) (mVar 7))) (mOr (mB (mCmpO [(0, F_Word_eq)] true neD (bnd (mBinO [(0, F_Word_add)] addD (mVar 7) (mVar 8)) (mUnO [(0, F_Word_neg)] negD)) (mBinO [(0, F_Word_sub)] subD (bnd (mVar 7) (mUnO [(0, F_Word_neg)] negD)) (mVar 8)))) (mOr (mB (mCmpO [(0, F_Word_eq)] true neD (mBinO [(0, F_Word_add)] addD (mVar 7) (mVar 10)) (mVar 7))) (mB (mCmpO [(0, F_Word_eq)] true neD (mBinO [(0, F_Word_add)] addD (mBinO [(0, F_Word_add)] addD (mVar 7) (bnd (mVar 8) (mUnO [(0, F_Word_invert)] fun _ => none))) (mVar 11)) (mBinO [(0, F_Word_sub)] subD (mVar 7) (mVar 8)))))))) (sRet (ret (.bl false))) sNx
def m_law_6 : S := sIf (mOr (mB (mCmpO [(0, F_Word_eq)] true neD (mBinO [(0, F_Word_add)] addD (mVar 7) (mVar 8)) (mBinO [(0, F_Word_add)] addD (mVar 8) (mVar 7)))) (mOr (mB (mCmpO [(0, F_Word_eq)] true neD (mBinO [(0, F_Word_add)] addD (mBinO [(0, F_Word_add)] addD (mVar 7) (mVar 8)) (mVar 9)) (mBinO [(0, F_Word_add)] addD (mVar 7) (mBinO [(0, F_Word_add)] addD (mVar 8) (mVar 9))))) (mOr (mB (mCmpO [(0, F_Word_eq)] true neD (mBinO [(0, F_Word_sub)] subD (mBinO [(0, F_Word_add)] addD (mVar 7) (mVar 8)) (mVar 8)) (mVar 7))) (mOr (mB (mCmpO [(0, F_Word_eq)] true neD (mBinO [(0, F_Word_add)] addD (mVar 7) (bnd (mVar 7) (mUnO [(0, F_Word_neg)] negD))) (mVar 10))) (mB (mCmpO [(0, F_Word_eq)] true neD (mBinO [(0, F_Word_sub)] subD (mVar 7) (mVar 8)) (mBinO [(0, F_Word_add)] addD (mVar 7) (bnd (mVar 8) (mUnO [(0, F_Word_neg)] negD))))))))) (sRet (ret (.bl false))) sNx
def m_law_5 : S := sPar2 10 11 (mCons (frz (mMakF F_Word_init 0 [] (mCons (ret (.int 0)) (mCons (mVar 3) (mCons (mVar 4) mNil))))) (mCons (frz (mMakF F_Word_init 0 [] (mCons (ret (.int 1)) (mCons (mVar 3) (mCons (mVar 4) mNil))))) mNil))
def m_law_4 : S := sAsg (frz (mLc (iArg rng1D (mCons (ret (.int 3)) mNil)) (tgName 6) (ret true) (frz (mMakF F_Word_init 0 [] (mCons (mCallB F_law_take 2 [] (mCons (mVar 5) mNil)) (mCons (mVar 3) (mCons (mVar 4) mNil))))) [6])) (tgLst 3 (tgCons (tgName 7) (tgCons (tgName 8) (tgCons (tgName 9) tgNil))))
def m_law_3 : S := sSet 5 (mCallA F_law_power [] (mCons (mVar 3) (mCons (mVar 4) mNil)))
def m_law_2 : S := sAsg (mTup (mCons (mBinO [(0, F_Word_add)] addD (ret (.int 2)) (mCallB F_law_take 2 [] (mCons (ret (.int 35)) mNil))) (mCons (mBinO [(0, F_Word_add)] addD (ret (.int 1)) (mCallB F_law_take 2 [] (mCons (ret (.int 40)) mNil))) mNil))) (tgTup 2 (tgCons (tgName 3) (tgCons (tgName 4) tgNil)))
def m_law_1 : S := sSetF 2 (mCallAF F_law_pool [] (mCons (mVar 0) (mCons (mVar 1) mNil)))
def m_law : S := sSeq (sFor (iArg rng1D (mCons (mCb max2D (mCons (ret (.int 3)) (mCons (mCb min2D (mCons (ret (.int 63)) (mCons (bnd (mCons (mVar 0) mNil) (mLenO [(0, F_Word_len)] lenD)) mNil))) mNil))) mNil)) (tgName 1) (sSeq m_law_1
  (sSeq m_law_2
  (sSeq m_law_3
  (sSeq m_law_4
  (sSeq m_law_5
  (sSeq m_law_6
  (sSeq m_law_7
  (sSeq m_law_8
  (sSeq m_law_9
  (sSeq m_law_10
  (sSeq m_law_11
  (sSeq m_law_12
  (sSeq m_law_13
  m_law_14))))))))))))))
  (sRet (ret (.bl true)))
def F_law : Fm := fnM 1 15 (nox m_law)
end LW

set_option Elab.async false
set_option linter.all false
set_option maxRecDepth 100000
set_option maxHeartbeats 400000
namespace LW
open PySem L2 DL
theorem e_is_integer (i : Int) : F_is_integer [.sh (.int i)] = .ok (.rt (.bl true)) [.sh (.int i)] := by
  simp only [DL.bnd, DL.ret, DL.lft, mVar, mCons, mNil, mCallA, callA, callAF, callB, mCallAF, mCallB, mBin, mUn, mB, mTru, truD, mNot, mAnd, mOr, mBv, mIf, mCb, mChain, mTup, mLst, sSeq, sNx, sIf, sRet, sRetF, sDrop, sSet, sSetF, sto_np, npAt, np_sh, np_ow, np_no, cm_sh, cm_no, DL.nox, fnM, DL.run,
  frz, full_lst, full_ins, nmN, DL.own, mdf, Sl.put, Sl.mut, Option.bind, cmpD, ltD, leD, gtD, geD, addD, subD, negD, modD, mMakF, mkA, sFldS, putD, fldD, mBinO, mOpO, mCmpO, mEqO, mUnO, mLenO, mSubO, mIxO, mPrp, cand_int, cand_tup, cand_lst, cand_scr, cand_str, cand_bl, cand_non, cand_ins, look0, okY_ii, okY_int, sameC_ii, blD, lenD, eqD, neD, Option.map_some, eqB_int,
  List.map, List.length_cons, List.length_nil, List.getElem?_cons_zero, List.getElem?_cons_succ, List.set_cons_zero, List.set_cons_succ, List.append, List.cons_append, List.nil_append, List.replicate, List.take, Nat.reduceAdd, Nat.reduceSub, Bool.not_true, Bool.not_false, decide_true, decide_false, Bool.false_eq_true, reduceIte, ↓reduceIte, F_is_integer, m_is_integer, isi_int, isi_intb]
theorem e_is_between (v a b : Int) : F_is_between [.sh (.int v), .sh (.int a), .sh (.int b)] = .ok (.rt (.bl (decide (a ≤ v ∧ v ≤ b)))) [.sh (.int v), .sh (.int a), .sh (.int b)] := by
  by_cases h : a ≤ v
  · simp only [DL.bnd, DL.ret, DL.lft, mVar, mCons, mNil, mCallA, callA, callAF, callB, mCallAF, mCallB, mBin, mUn, mB, mTru, truD, mNot, mAnd, mOr, mBv, mIf, mCb, mChain, mTup, mLst, sSeq, sNx, sIf, sRet, sRetF, sDrop, sSet, sSetF, sto_np, npAt, np_sh, np_ow, np_no, cm_sh, cm_no, DL.nox, fnM, DL.run,
  frz, full_lst, full_ins, nmN, DL.own, mdf, Sl.put, Sl.mut, Option.bind, cmpD, ltD, leD, gtD, geD, addD, subD, negD, modD, mMakF, mkA, sFldS, putD, fldD, mBinO, mOpO, mCmpO, mEqO, mUnO, mLenO, mSubO, mIxO, mPrp, cand_int, cand_tup, cand_lst, cand_scr, cand_str, cand_bl, cand_non, cand_ins, look0, okY_ii, okY_int, sameC_ii, blD, lenD, eqD, neD, Option.map_some, eqB_int,
  List.map, List.length_cons, List.length_nil, List.getElem?_cons_zero, List.getElem?_cons_succ, List.set_cons_zero, List.set_cons_succ, List.append, List.cons_append, List.nil_append, List.replicate, List.take, Nat.reduceAdd, Nat.reduceSub, Bool.not_true, Bool.not_false, decide_true, decide_false, Bool.false_eq_true, reduceIte, ↓reduceIte, F_is_between, m_is_between, e_is_integer, h, true_and]
  · simp only [DL.bnd, DL.ret, DL.lft, mVar, mCons, mNil, mCallA, callA, callAF, callB, mCallAF, mCallB, mBin, mUn, mB, mTru, truD, mNot, mAnd, mOr, mBv, mIf, mCb, mChain, mTup, mLst, sSeq, sNx, sIf, sRet, sRetF, sDrop, sSet, sSetF, sto_np, npAt, np_sh, np_ow, np_no, cm_sh, cm_no, DL.nox, fnM, DL.run,
  frz, full_lst, full_ins, nmN, DL.own, mdf, Sl.put, Sl.mut, Option.bind, cmpD, ltD, leD, gtD, geD, addD, subD, negD, modD, mMakF, mkA, sFldS, putD, fldD, mBinO, mOpO, mCmpO, mEqO, mUnO, mLenO, mSubO, mIxO, mPrp, cand_int, cand_tup, cand_lst, cand_scr, cand_str, cand_bl, cand_non, cand_ins, look0, okY_ii, okY_int, sameC_ii, blD, lenD, eqD, neD, Option.map_some, eqB_int,
  List.map, List.length_cons, List.length_nil, List.getElem?_cons_zero, List.getElem?_cons_succ, List.set_cons_zero, List.set_cons_succ, List.append, List.cons_append, List.nil_append, List.replicate, List.take, Nat.reduceAdd, Nat.reduceSub, Bool.not_true, Bool.not_false, decide_true, decide_false, Bool.false_eq_true, reduceIte, ↓reduceIte, F_is_between, m_is_between, e_is_integer, h, false_and]
theorem e_check_between {v a b : Int} (h : a ≤ v) (h2 : v ≤ b) : F_check_between [.sh (.int v), .sh (.int a), .sh (.int b)] = .ok (.rt .non) [.sh (.int v), .sh (.int a), .sh (.int b)] := by
  simp only [DL.bnd, DL.ret, DL.lft, mVar, mCons, mNil, mCallA, callA, callAF, callB, mCallAF, mCallB, mBin, mUn, mB, mTru, truD, mNot, mAnd, mOr, mBv, mIf, mCb, mChain, mTup, mLst, sSeq, sNx, sIf, sRet, sRetF, sDrop, sSet, sSetF, sto_np, npAt, np_sh, np_ow, np_no, cm_sh, cm_no, DL.nox, fnM, DL.run,
  frz, full_lst, full_ins, nmN, DL.own, mdf, Sl.put, Sl.mut, Option.bind, cmpD, ltD, leD, gtD, geD, addD, subD, negD, modD, mMakF, mkA, sFldS, putD, fldD, mBinO, mOpO, mCmpO, mEqO, mUnO, mLenO, mSubO, mIxO, mPrp, cand_int, cand_tup, cand_lst, cand_scr, cand_str, cand_bl, cand_non, cand_ins, look0, okY_ii, okY_int, sameC_ii, blD, lenD, eqD, neD, Option.map_some, eqB_int,
  List.map, List.length_cons, List.length_nil, List.getElem?_cons_zero, List.getElem?_cons_succ, List.set_cons_zero, List.set_cons_succ, List.append, List.cons_append, List.nil_append, List.replicate, List.take, Nat.reduceAdd, Nat.reduceSub, Bool.not_true, Bool.not_false, decide_true, decide_false, Bool.false_eq_true, reduceIte, ↓reduceIte, F_check_between, m_check_between, e_is_between, h, h2, and_self]
theorem e_check_integer (v : Int) : F_check_integer [.sh (.int v)] = .ok (.rt .non) [.sh (.int v)] := by
  simp only [DL.bnd, DL.ret, DL.lft, mVar, mCons, mNil, mCallA, callA, callAF, callB, mCallAF, mCallB, mBin, mUn, mB, mTru, truD, mNot, mAnd, mOr, mBv, mIf, mCb, mChain, mTup, mLst, sSeq, sNx, sIf, sRet, sRetF, sDrop, sSet, sSetF, sto_np, npAt, np_sh, np_ow, np_no, cm_sh, cm_no, DL.nox, fnM, DL.run,
  frz, full_lst, full_ins, nmN, DL.own, mdf, Sl.put, Sl.mut, Option.bind, cmpD, ltD, leD, gtD, geD, addD, subD, negD, modD, mMakF, mkA, sFldS, putD, fldD, mBinO, mOpO, mCmpO, mEqO, mUnO, mLenO, mSubO, mIxO, mPrp, cand_int, cand_tup, cand_lst, cand_scr, cand_str, cand_bl, cand_non, cand_ins, look0, okY_ii, okY_int, sameC_ii, blD, lenD, eqD, neD, Option.map_some, eqB_int,
  List.map, List.length_cons, List.length_nil, List.getElem?_cons_zero, List.getElem?_cons_succ, List.set_cons_zero, List.set_cons_succ, List.append, List.cons_append, List.nil_append, List.replicate, List.take, Nat.reduceAdd, Nat.reduceSub, Bool.not_true, Bool.not_false, decide_true, decide_false, Bool.false_eq_true, reduceIte, ↓reduceIte, F_check_integer, m_check_integer, e_is_integer]
/-! powers -/
theorem loop_power (b : Int) (hb2 : b.natAbs < 2 ^ 64) (n : D) : ∀ (ds : List D) (x3 : Sl) (acc : Int), np x3 = true → ∃ y, np y = true ∧ sLoop (tgName 3) (sSet 2 (mBin mulD (mVar 2) (mVar 0))) ds [.sh (.int b), .sh n, .sh (.int acc), x3] = .ok .nx [.sh (.int b), .sh n, .sh (.int (acc * b ^ ds.length)), y]
  | [], x3, acc, h => ⟨x3, h, by simp [sLoop, sNx, DL.ret]⟩
  | d :: ds, x3, acc, h => by
    have m : mulOk2 acc b = true := by simp [mulOk2, hb2]
    obtain ⟨y, hy, e⟩ := loop_power b hb2 n ds (.sh d) (acc * b) rfl
    refine ⟨y, hy, ?_⟩
    rw [loop_nx (e1 := [.sh (.int b), .sh n, .sh (.int acc), .sh d]) (e2 := [.sh (.int b), .sh n, .sh (.int (acc * b)), .sh d]), e, List.length_cons, Int.pow_succ, Int.mul_assoc, Int.mul_comm b]
    · simp only [DL.bnd, DL.ret, DL.lft, mVar, mCons, mNil, mCallA, callA, callAF, callB, mCallAF, mCallB, mBin, mUn, mB, mTru, truD, mNot, mAnd, mOr, mBv, mIf, mCb, mChain, mTup, mLst, sSeq, sNx, sIf, sRet, sRetF, sDrop, sSet, sSetF, sto_np, npAt, np_sh, np_ow, np_no, cm_sh, cm_no, DL.nox, fnM, DL.run,
  frz, full_lst, full_ins, nmN, DL.own, mdf, Sl.put, Sl.mut, Option.bind, cmpD, ltD, leD, gtD, geD, addD, subD, negD, modD, mMakF, mkA, sFldS, putD, fldD, mBinO, mOpO, mCmpO, mEqO, mUnO, mLenO, mSubO, mIxO, mPrp, cand_int, cand_tup, cand_lst, cand_scr, cand_str, cand_bl, cand_non, cand_ins, look0, okY_ii, okY_int, sameC_ii, blD, lenD, eqD, neD, Option.map_some, eqB_int,
  List.map, List.length_cons, List.length_nil, List.getElem?_cons_zero, List.getElem?_cons_succ, List.set_cons_zero, List.set_cons_succ, List.append, List.cons_append, List.nil_append, List.replicate, List.take, Nat.reduceAdd, Nat.reduceSub, Bool.not_true, Bool.not_false, decide_true, decide_false, Bool.false_eq_true, reduceIte, ↓reduceIte, tgName, stE_np, h]
    · simp only [DL.bnd, DL.ret, DL.lft, mVar, mCons, mNil, mCallA, callA, callAF, callB, mCallAF, mCallB, mBin, mUn, mB, mTru, truD, mNot, mAnd, mOr, mBv, mIf, mCb, mChain, mTup, mLst, sSeq, sNx, sIf, sRet, sRetF, sDrop, sSet, sSetF, sto_np, npAt, np_sh, np_ow, np_no, cm_sh, cm_no, DL.nox, fnM, DL.run,
  frz, full_lst, full_ins, nmN, DL.own, mdf, Sl.put, Sl.mut, Option.bind, cmpD, ltD, leD, gtD, geD, addD, subD, negD, modD, mMakF, mkA, sFldS, putD, fldD, mBinO, mOpO, mCmpO, mEqO, mUnO, mLenO, mSubO, mIxO, mPrp, cand_int, cand_tup, cand_lst, cand_scr, cand_str, cand_bl, cand_non, cand_ins, look0, okY_ii, okY_int, sameC_ii, blD, lenD, eqD, neD, Option.map_some, eqB_int,
  List.map, List.length_cons, List.length_nil, List.getElem?_cons_zero, List.getElem?_cons_succ, List.set_cons_zero, List.set_cons_succ, List.append, List.cons_append, List.nil_append, List.replicate, List.take, Nat.reduceAdd, Nat.reduceSub, Bool.not_true, Bool.not_false, decide_true, decide_false, Bool.false_eq_true, reduceIte, ↓reduceIte, mulD, m]
theorem rng_nat (n : Nat) (h : n ≤ 1000000) (x : M (List D)) (env e1 : En) (hx : x env = .ok [.int (n : Int)] e1) : iArg rng1D x env = .ok ((List.range n).map fun i => .int ((i : Nat) : Int)) e1 := by
  have h2 : (n : Int) ≤ 1000000 ∧ (-1000000 : Int) ≤ n := by omega
  simp only [iArg, DL.bnd, hx, rng1D, DL.lft, h2, and_self, if_true, Int.toNat_natCast]
theorem e_power (b : Int) (hb2 : b.natAbs < 2 ^ 64) (n : Nat) (hn : n ≤ 1000000) : F_power [.sh (.int b), .sh (.int (n : Int))] = .ok (.rt (.int (b ^ n))) [.sh (.int b), .sh (.int (n : Int))] := by
  have h := loop_power b hb2 (.int (n : Int)) ((List.range n).map fun i => .int ((i : Nat) : Int)) .no 1 rfl
  obtain ⟨y, hy, e⟩ := h
  rw [List.length_map, List.length_range, Int.one_mul] at e
  have e2 : m_power [.sh (.int b), .sh (.int (n : Int)), .no, .no] = .ok (.rt (.int (b ^ n))) [.sh (.int b), .sh (.int (n : Int)), .sh (.int (b ^ n)), y] := by
    unfold m_power
    rw [seq_nx (e1 := [.sh (.int b), .sh (.int (n : Int)), .sh (.int 1), .no]), seq_nx (for_ok (rng_nat n hn _ _ [.sh (.int b), .sh (.int (n : Int)), .sh (.int 1), .no] (by simp only [DL.bnd, DL.ret, DL.lft, mVar, mCons, mNil, mCallA, callA, callAF, callB, mCallAF, mCallB, mBin, mUn, mB, mTru, truD, mNot, mAnd, mOr, mBv, mIf, mCb, mChain, mTup, mLst, sSeq, sNx, sIf, sRet, sRetF, sDrop, sSet, sSetF, sto_np, npAt, np_sh, np_ow, np_no, cm_sh, cm_no, DL.nox, fnM, DL.run,
  frz, full_lst, full_ins, nmN, DL.own, mdf, Sl.put, Sl.mut, Option.bind, cmpD, ltD, leD, gtD, geD, addD, subD, negD, modD, mMakF, mkA, sFldS, putD, fldD, mBinO, mOpO, mCmpO, mEqO, mUnO, mLenO, mSubO, mIxO, mPrp, cand_int, cand_tup, cand_lst, cand_scr, cand_str, cand_bl, cand_non, cand_ins, look0, okY_ii, okY_int, sameC_ii, blD, lenD, eqD, neD, Option.map_some, eqB_int,
  List.map, List.length_cons, List.length_nil, List.getElem?_cons_zero, List.getElem?_cons_succ, List.set_cons_zero, List.set_cons_succ, List.append, List.cons_append, List.nil_append, List.replicate, List.take, Nat.reduceAdd, Nat.reduceSub, Bool.not_true, Bool.not_false, decide_true, decide_false, Bool.false_eq_true, reduceIte, ↓reduceIte])) e)]
    · simp only [DL.bnd, DL.ret, DL.lft, mVar, mCons, mNil, mCallA, callA, callAF, callB, mCallAF, mCallB, mBin, mUn, mB, mTru, truD, mNot, mAnd, mOr, mBv, mIf, mCb, mChain, mTup, mLst, sSeq, sNx, sIf, sRet, sRetF, sDrop, sSet, sSetF, sto_np, npAt, np_sh, np_ow, np_no, cm_sh, cm_no, DL.nox, fnM, DL.run,
  frz, full_lst, full_ins, nmN, DL.own, mdf, Sl.put, Sl.mut, Option.bind, cmpD, ltD, leD, gtD, geD, addD, subD, negD, modD, mMakF, mkA, sFldS, putD, fldD, mBinO, mOpO, mCmpO, mEqO, mUnO, mLenO, mSubO, mIxO, mPrp, cand_int, cand_tup, cand_lst, cand_scr, cand_str, cand_bl, cand_non, cand_ins, look0, okY_ii, okY_int, sameC_ii, blD, lenD, eqD, neD, Option.map_some, eqB_int,
  List.map, List.length_cons, List.length_nil, List.getElem?_cons_zero, List.getElem?_cons_succ, List.set_cons_zero, List.set_cons_succ, List.append, List.cons_append, List.nil_append, List.replicate, List.take, Nat.reduceAdd, Nat.reduceSub, Bool.not_true, Bool.not_false, decide_true, decide_false, Bool.false_eq_true, reduceIte, ↓reduceIte]
    · simp only [DL.bnd, DL.ret, DL.lft, mVar, mCons, mNil, mCallA, callA, callAF, callB, mCallAF, mCallB, mBin, mUn, mB, mTru, truD, mNot, mAnd, mOr, mBv, mIf, mCb, mChain, mTup, mLst, sSeq, sNx, sIf, sRet, sRetF, sDrop, sSet, sSetF, sto_np, npAt, np_sh, np_ow, np_no, cm_sh, cm_no, DL.nox, fnM, DL.run,
  frz, full_lst, full_ins, nmN, DL.own, mdf, Sl.put, Sl.mut, Option.bind, cmpD, ltD, leD, gtD, geD, addD, subD, negD, modD, mMakF, mkA, sFldS, putD, fldD, mBinO, mOpO, mCmpO, mEqO, mUnO, mLenO, mSubO, mIxO, mPrp, cand_int, cand_tup, cand_lst, cand_scr, cand_str, cand_bl, cand_non, cand_ins, look0, okY_ii, okY_int, sameC_ii, blD, lenD, eqD, neD, Option.map_some, eqB_int,
  List.map, List.length_cons, List.length_nil, List.getElem?_cons_zero, List.getElem?_cons_succ, List.set_cons_zero, List.set_cons_succ, List.append, List.cons_append, List.nil_append, List.replicate, List.take, Nat.reduceAdd, Nat.reduceSub, Bool.not_true, Bool.not_false, decide_true, decide_false, Bool.false_eq_true, reduceIte, ↓reduceIte]
  exact fn_rt rfl e2 rfl
theorem pow_pos' {b : Int} (h : 2 ≤ b) (n : Nat) : 0 < b ^ n := Int.pow_pos (by omega)
theorem pow_log {b : Int} (h : 2 ≤ b) (h2 : b ≤ 36) {n : Nat} (hn : n ≤ 80) : (b ^ n).natAbs.log2 < 9000 := by
  have e : (b ^ n).natAbs = b.natAbs ^ n := Int.natAbs_pow b n
  rw [e]
  have h3 : b.natAbs ^ n < 2 ^ 9000 := by
    have h4 : b.natAbs ≤ 2 ^ 6 := by omega
    have h5 : b.natAbs ^ n ≤ (2 ^ 6) ^ n := Nat.pow_le_pow_left h4 n
    have h6 : ((2 : Nat) ^ 6) ^ n = 2 ^ (6 * n) := by rw [← Nat.pow_mul]
    have h7 : (2 : Nat) ^ (6 * n) < 2 ^ 9000 := Nat.pow_lt_pow_right (by omega) (by omega)
    omega
  have h0 : b.natAbs ^ n ≠ 0 := by
    have : 0 < b.natAbs ^ n := Nat.pow_pos (by omega)
    omega
  exact (Nat.log2_lt h0).mpr h3
def dig (b a : Int) (i : Nat) : Int := a / b ^ i % b
def dg (b : Int) (w : Nat) (a : Int) : List D := (List.range w).map fun i => .int (dig b a i)
theorem nat_abs_lt {b : Int} (h : 2 ≤ b) (h2 : b ≤ 36) : b.natAbs < 2 ^ 64 := by omega
theorem e_digits (b : Int) (h : 2 ≤ b) (h2 : b ≤ 36) (w : Nat) (hw : w ≤ 40) (a : Int) : F_digits_of [.sh (.int a), .sh (.int b), .sh (.int (w : Int))] = .ok (.rt (.lst (dg b w a))) [.sh (.int a), .sh (.int b), .sh (.int (w : Int))] := by
  refine fn_rt (e := [.sh (.int a), .sh (.int b), .sh (.int (w : Int)), .no]) rfl ?_ rfl
  have h1 := mLc_pure (v := 3) (y := .no) (env := [.sh (.int a), .sh (.int b), .sh (.int (w : Int)), .no]) (m := mBin modD (mBin divD (mVar 0) (mCallA F_power [] (mCons (mVar 1) (mCons (mVar 3) mNil)))) (mVar 1))
    (f := fun d => match d with | .int i => .int (dig b a i.toNat) | x => x)
    (rng_nat w (by omega) (mCons (mVar 2) mNil) [.sh (.int a), .sh (.int b), .sh (.int (w : Int)), .no] _ (by simp only [DL.bnd, DL.ret, DL.lft, mVar, mCons, mNil, mCallA, callA, callAF, callB, mCallAF, mCallB, mBin, mUn, mB, mTru, truD, mNot, mAnd, mOr, mBv, mIf, mCb, mChain, mTup, mLst, sSeq, sNx, sIf, sRet, sRetF, sDrop, sSet, sSetF, sto_np, npAt, np_sh, np_ow, np_no, cm_sh, cm_no, DL.nox, fnM, DL.run,
  frz, full_lst, full_ins, nmN, DL.own, mdf, Sl.put, Sl.mut, Option.bind, cmpD, ltD, leD, gtD, geD, addD, subD, negD, modD, mMakF, mkA, sFldS, putD, fldD, mBinO, mOpO, mCmpO, mEqO, mUnO, mLenO, mSubO, mIxO, mPrp, cand_int, cand_tup, cand_lst, cand_scr, cand_str, cand_bl, cand_non, cand_ins, look0, okY_ii, okY_int, sameC_ii, blD, lenD, eqD, neD, Option.map_some, eqB_int,
  List.map, List.length_cons, List.length_nil, List.getElem?_cons_zero, List.getElem?_cons_succ, List.set_cons_zero, List.set_cons_succ, List.append, List.cons_append, List.nil_append, List.replicate, List.take, Nat.reduceAdd, Nat.reduceSub, Bool.not_true, Bool.not_false, decide_true, decide_false, Bool.false_eq_true, reduceIte, ↓reduceIte])) rfl rfl (by simp [small]; omega) (fun d hd => by
      obtain ⟨i, hi, rfl⟩ := List.mem_map.mp hd
      have hi := List.mem_range.mp hi
      have c : 0 < b ^ i ∧ (b ^ i).natAbs.log2 < 9000 := ⟨pow_pos' h i, pow_log h h2 (by omega)⟩
      have c2 : 0 < b := by omega
      simp only [DL.bnd, DL.ret, DL.lft, mVar, mCons, mNil, mCallA, callA, callAF, callB, mCallAF, mCallB, mBin, mUn, mB, mTru, truD, mNot, mAnd, mOr, mBv, mIf, mCb, mChain, mTup, mLst, sSeq, sNx, sIf, sRet, sRetF, sDrop, sSet, sSetF, sto_np, npAt, np_sh, np_ow, np_no, cm_sh, cm_no, DL.nox, fnM, DL.run,
  frz, full_lst, full_ins, nmN, DL.own, mdf, Sl.put, Sl.mut, Option.bind, cmpD, ltD, leD, gtD, geD, addD, subD, negD, modD, mMakF, mkA, sFldS, putD, fldD, mBinO, mOpO, mCmpO, mEqO, mUnO, mLenO, mSubO, mIxO, mPrp, cand_int, cand_tup, cand_lst, cand_scr, cand_str, cand_bl, cand_non, cand_ins, look0, okY_ii, okY_int, sameC_ii, blD, lenD, eqD, neD, Option.map_some, eqB_int,
  List.map, List.length_cons, List.length_nil, List.getElem?_cons_zero, List.getElem?_cons_succ, List.set_cons_zero, List.set_cons_succ, List.append, List.cons_append, List.nil_append, List.replicate, List.take, Nat.reduceAdd, Nat.reduceSub, Bool.not_true, Bool.not_false, decide_true, decide_false, Bool.false_eq_true, reduceIte, ↓reduceIte, e_power b (nat_abs_lt h h2) i (by omega), divD, c, c2, and_self, dig, Int.toNat_natCast])
  have e2 : (List.map (fun d => match d with | .int i => D.int (dig b a i.toNat) | x => x) (List.map (fun i => D.int ((i : Nat) : Int)) (List.range w))) = dg b w a := by
    rw [List.map_map]
    rfl
  rw [e2] at h1
  show m_digits_of [.sh (.int a), .sh (.int b), .sh (.int (w : Int)), .no] = _
  simp only [m_digits_of, sRet, frz, DL.bnd, h1, full_lst, if_true, DL.ret]
/-! words -/
abbrev Wd (b : Int) (w : Nat) (a : Int) : D := .ins 0 [.int b, .int a, .tup (dg b w a)]
theorem ix0 : ixF "radix" (nmT 0) = some 0 := rfl
theorem ix1 : ixF "amount" (nmT 0) = some 1 := rfl
theorem ix2 : ixF "row" (nmT 0) = some 2 := rfl
theorem dg_len (b : Int) (w : Nat) (a : Int) : (dg b w a).length = w := by simp [dg]
section
variable {b : Int} {w : Nat} (hb : 2 ≤ b) (hb2 : b ≤ 36) (hw : 1 ≤ w) (hw2 : w ≤ 40)
include hb hb2 hw hw2
theorem e_init (v : Int) : F_Word_init [.pn (.ins 0 []), .sh (.int v), .sh (.int b), .sh (.int (w : Int))] = .ok (.rt .non) [.pn (Wd b w (v % b ^ w)), .sh (.int v), .sh (.int b), .sh (.int (w : Int))] := by
  refine fn_nx rfl (e := [.pn (Wd b w (v % b ^ w)), .sh (.int v), .sh (.int b), .sh (.int (w : Int))]) ?_ rfl
  have c1 : (1 : Int) ≤ w := by omega
  have c2 : (w : Int) ≤ 40 := by omega
  have c3 := pow_pos' hb w
  simp only [DL.bnd, DL.ret, DL.lft, mVar, mCons, mNil, mCallA, callA, callAF, callB, mCallAF, mCallB, mBin, mUn, mB, mTru, truD, mNot, mAnd, mOr, mBv, mIf, mCb, mChain, mTup, mLst, sSeq, sNx, sIf, sRet, sRetF, sDrop, sSet, sSetF, sto_np, npAt, np_sh, np_ow, np_no, cm_sh, cm_no, DL.nox, fnM, DL.run,
  frz, full_lst, full_ins, nmN, DL.own, mdf, Sl.put, Sl.mut, Option.bind, cmpD, ltD, leD, gtD, geD, addD, subD, negD, modD, mMakF, mkA, sFldS, putD, fldD, mBinO, mOpO, mCmpO, mEqO, mUnO, mLenO, mSubO, mIxO, mPrp, cand_int, cand_tup, cand_lst, cand_scr, cand_str, cand_bl, cand_non, cand_ins, look0, okY_ii, okY_int, sameC_ii, blD, lenD, eqD, neD, Option.map_some, eqB_int,
  List.map, List.length_cons, List.length_nil, List.getElem?_cons_zero, List.getElem?_cons_succ, List.set_cons_zero, List.set_cons_succ, List.append, List.cons_append, List.nil_append, List.replicate, List.take, Nat.reduceAdd, Nat.reduceSub, Bool.not_true, Bool.not_false, decide_true, decide_false, Bool.false_eq_true, reduceIte, ↓reduceIte, m_Word_init, e_check_between hb hb2, e_check_between c1 c2, e_check_integer, e_power b (nat_abs_lt hb hb2) w (by omega), ix0, ix1, ix2, c3, e_digits b hb hb2 w hw2, tupleD, Nat.lt_irrefl, Nat.reduceLT, Nat.not_lt_zero]
theorem e_make (v : Int) (env : En) : mkA F_Word_init 0 [.int v, .int b, .int (w : Int)] env = .ok (Wd b w (v % b ^ w)) env := by
  simp only [DL.bnd, DL.ret, DL.lft, mVar, mCons, mNil, mCallA, callA, callAF, callB, mCallAF, mCallB, mBin, mUn, mB, mTru, truD, mNot, mAnd, mOr, mBv, mIf, mCb, mChain, mTup, mLst, sSeq, sNx, sIf, sRet, sRetF, sDrop, sSet, sSetF, sto_np, npAt, np_sh, np_ow, np_no, cm_sh, cm_no, DL.nox, fnM, DL.run,
  frz, full_lst, full_ins, nmN, DL.own, mdf, Sl.put, Sl.mut, Option.bind, cmpD, ltD, leD, gtD, geD, addD, subD, negD, modD, mMakF, mkA, sFldS, putD, fldD, mBinO, mOpO, mCmpO, mEqO, mUnO, mLenO, mSubO, mIxO, mPrp, cand_int, cand_tup, cand_lst, cand_scr, cand_str, cand_bl, cand_non, cand_ins, look0, okY_ii, okY_int, sameC_ii, blD, lenD, eqD, neD, Option.map_some, eqB_int,
  List.map, List.length_cons, List.length_nil, List.getElem?_cons_zero, List.getElem?_cons_succ, List.set_cons_zero, List.set_cons_succ, List.append, List.cons_append, List.nil_append, List.replicate, List.take, Nat.reduceAdd, Nat.reduceSub, Bool.not_true, Bool.not_false, decide_true, decide_false, Bool.false_eq_true, reduceIte, ↓reduceIte, e_init hb hb2 hw hw2]
end
end LW

set_option Elab.async false
set_option linter.all false
set_option maxRecDepth 100000
set_option maxHeartbeats 400000
namespace LW
open PySem L2 DL
theorem dg_ints (b : Int) (w : Nat) (a : Int) : dg b w a = ((List.range w).map (dig b a)).map .int := by
  rw [List.map_map]; rfl
section
variable {b : Int} {w : Nat} (hb : 2 ≤ b) (hb2 : b ≤ 36) (hw : 1 ≤ w) (hw2 : w ≤ 40)
theorem dg_inj (hb : 2 ≤ b) {x y : Int} (x0 : 0 ≤ x) (x1 : x < b ^ w) (y0 : 0 ≤ y) (y1 : y < b ^ w) : ((List.range w).map (dig b x) = (List.range w).map (dig b y)) ↔ x = y := by
  constructor
  · intro h
    have h2 : ∀ i, i < w → x / b ^ i % b = y / b ^ i % b := fun i hi => by
      have e := congrArg (fun l => l[i]?) h
      simp [hi, dig] at e
      exact e
    have := digs_eq (by omega : 0 < b) w h2
    rwa [Int.emod_eq_of_lt x0 x1, Int.emod_eq_of_lt y0 y1] at this
  · rintro rfl; rfl
theorem e_eq (hb : 2 ≤ b) {x y : Int} (x0 : 0 ≤ x) (x1 : x < b ^ w) (y0 : 0 ≤ y) (y1 : y < b ^ w) : F_Word_eq [.sh (Wd b w x), .sh (Wd b w y)] = .ok (.rt (.bl (decide (x = y)))) [.sh (Wd b w x), .sh (Wd b w y)] := by
  refine fn_rt rfl (e := [.sh (Wd b w x), .sh (Wd b w y)]) ?_ rfl
  have e : eqB (.tup (dg b w x)) (.tup (dg b w y)) = some (decide (x = y)) := by
    rw [dg_ints, dg_ints, eqB_tup]
    simp only [dg_inj hb x0 x1 y0 y1]
  by_cases h : x = y
  · rw [decide_eq_true h] at e ⊢
    simp only [DL.bnd, DL.ret, DL.lft, mVar, mCons, mNil, mCallA, callA, callAF, callB, mCallAF, mCallB, mBin, mUn, mB, mTru, truD, mNot, mAnd, mOr, mBv, mIf, mCb, mChain, mTup, mLst, sSeq, sNx, sIf, sRet, sRetF, sDrop, sSet, sSetF, sto_np, npAt, np_sh, np_ow, np_no, cm_sh, cm_no, DL.nox, fnM, DL.run,
  frz, full_lst, full_ins, nmN, DL.own, mdf, Sl.put, Sl.mut, Option.bind, cmpD, ltD, leD, gtD, geD, addD, subD, negD, modD, mMakF, mkA, sFldS, putD, fldD, mBinO, mOpO, mCmpO, mEqO, mUnO, mLenO, mSubO, mIxO, mPrp, cand_int, cand_tup, cand_lst, cand_scr, cand_str, cand_bl, cand_non, cand_ins, look0, okY_ii, okY_int, sameC_ii, blD, lenD, eqD, neD, Option.map_some, eqB_int,
  List.map, List.length_cons, List.length_nil, List.getElem?_cons_zero, List.getElem?_cons_succ, List.set_cons_zero, List.set_cons_succ, List.append, List.cons_append, List.nil_append, List.replicate, List.take, Nat.reduceAdd, Nat.reduceSub, Bool.not_true, Bool.not_false, decide_true, decide_false, Bool.false_eq_true, reduceIte, ↓reduceIte, m_Word_eq, isi_cl0 [0] _ rfl, ix0, ix1, ix2, e]
  · rw [decide_eq_false h] at e ⊢
    simp only [DL.bnd, DL.ret, DL.lft, mVar, mCons, mNil, mCallA, callA, callAF, callB, mCallAF, mCallB, mBin, mUn, mB, mTru, truD, mNot, mAnd, mOr, mBv, mIf, mCb, mChain, mTup, mLst, sSeq, sNx, sIf, sRet, sRetF, sDrop, sSet, sSetF, sto_np, npAt, np_sh, np_ow, np_no, cm_sh, cm_no, DL.nox, fnM, DL.run,
  frz, full_lst, full_ins, nmN, DL.own, mdf, Sl.put, Sl.mut, Option.bind, cmpD, ltD, leD, gtD, geD, addD, subD, negD, modD, mMakF, mkA, sFldS, putD, fldD, mBinO, mOpO, mCmpO, mEqO, mUnO, mLenO, mSubO, mIxO, mPrp, cand_int, cand_tup, cand_lst, cand_scr, cand_str, cand_bl, cand_non, cand_ins, look0, okY_ii, okY_int, sameC_ii, blD, lenD, eqD, neD, Option.map_some, eqB_int,
  List.map, List.length_cons, List.length_nil, List.getElem?_cons_zero, List.getElem?_cons_succ, List.set_cons_zero, List.set_cons_succ, List.append, List.cons_append, List.nil_append, List.replicate, List.take, Nat.reduceAdd, Nat.reduceSub, Bool.not_true, Bool.not_false, decide_true, decide_false, Bool.false_eq_true, reduceIte, ↓reduceIte, m_Word_eq, isi_cl0 [0] _ rfl, ix0, ix1, ix2, e]
include hb hb2 hw hw2
theorem e_add (x y : Int) : F_Word_add [.sh (Wd b w x), .sh (Wd b w y)] = .ok (.rt (Wd b w ((x + y) % b ^ w))) [.sh (Wd b w x), .sh (Wd b w y)] := by
  refine fn_rt rfl (e := [.sh (Wd b w x), .sh (Wd b w y)]) ?_ rfl
  simp only [DL.bnd, DL.ret, DL.lft, mVar, mCons, mNil, mCallA, callA, callAF, callB, mCallAF, mCallB, mBin, mUn, mB, mTru, truD, mNot, mAnd, mOr, mBv, mIf, mCb, mChain, mTup, mLst, sSeq, sNx, sIf, sRet, sRetF, sDrop, sSet, sSetF, sto_np, npAt, np_sh, np_ow, np_no, cm_sh, cm_no, DL.nox, fnM, DL.run,
  frz, full_lst, full_ins, nmN, DL.own, mdf, Sl.put, Sl.mut, Option.bind, cmpD, ltD, leD, gtD, geD, addD, subD, negD, modD, mMakF, mkA, sFldS, putD, fldD, mBinO, mOpO, mCmpO, mEqO, mUnO, mLenO, mSubO, mIxO, mPrp, cand_int, cand_tup, cand_lst, cand_scr, cand_str, cand_bl, cand_non, cand_ins, look0, okY_ii, okY_int, sameC_ii, blD, lenD, eqD, neD, Option.map_some, eqB_int,
  List.map, List.length_cons, List.length_nil, List.getElem?_cons_zero, List.getElem?_cons_succ, List.set_cons_zero, List.set_cons_succ, List.append, List.cons_append, List.nil_append, List.replicate, List.take, Nat.reduceAdd, Nat.reduceSub, Bool.not_true, Bool.not_false, decide_true, decide_false, Bool.false_eq_true, reduceIte, ↓reduceIte, m_Word_add, ix0, ix1, ix2, dg_len, e_init hb hb2 hw hw2, beq_self_eq_true]
theorem e_sub (x y : Int) : F_Word_sub [.sh (Wd b w x), .sh (Wd b w y)] = .ok (.rt (Wd b w ((x - y) % b ^ w))) [.sh (Wd b w x), .sh (Wd b w y)] := by
  refine fn_rt rfl (e := [.sh (Wd b w x), .sh (Wd b w y)]) ?_ rfl
  simp only [DL.bnd, DL.ret, DL.lft, mVar, mCons, mNil, mCallA, callA, callAF, callB, mCallAF, mCallB, mBin, mUn, mB, mTru, truD, mNot, mAnd, mOr, mBv, mIf, mCb, mChain, mTup, mLst, sSeq, sNx, sIf, sRet, sRetF, sDrop, sSet, sSetF, sto_np, npAt, np_sh, np_ow, np_no, cm_sh, cm_no, DL.nox, fnM, DL.run,
  frz, full_lst, full_ins, nmN, DL.own, mdf, Sl.put, Sl.mut, Option.bind, cmpD, ltD, leD, gtD, geD, addD, subD, negD, modD, mMakF, mkA, sFldS, putD, fldD, mBinO, mOpO, mCmpO, mEqO, mUnO, mLenO, mSubO, mIxO, mPrp, cand_int, cand_tup, cand_lst, cand_scr, cand_str, cand_bl, cand_non, cand_ins, look0, okY_ii, okY_int, sameC_ii, blD, lenD, eqD, neD, Option.map_some, eqB_int,
  List.map, List.length_cons, List.length_nil, List.getElem?_cons_zero, List.getElem?_cons_succ, List.set_cons_zero, List.set_cons_succ, List.append, List.cons_append, List.nil_append, List.replicate, List.take, Nat.reduceAdd, Nat.reduceSub, Bool.not_true, Bool.not_false, decide_true, decide_false, Bool.false_eq_true, reduceIte, ↓reduceIte, m_Word_sub, ix0, ix1, ix2, dg_len, e_init hb hb2 hw hw2, beq_self_eq_true]
theorem e_neg (x : Int) : F_Word_neg [.sh (Wd b w x)] = .ok (.rt (Wd b w ((-x) % b ^ w))) [.sh (Wd b w x)] := by
  refine fn_rt rfl (e := [.sh (Wd b w x)]) ?_ rfl
  simp only [DL.bnd, DL.ret, DL.lft, mVar, mCons, mNil, mCallA, callA, callAF, callB, mCallAF, mCallB, mBin, mUn, mB, mTru, truD, mNot, mAnd, mOr, mBv, mIf, mCb, mChain, mTup, mLst, sSeq, sNx, sIf, sRet, sRetF, sDrop, sSet, sSetF, sto_np, npAt, np_sh, np_ow, np_no, cm_sh, cm_no, DL.nox, fnM, DL.run,
  frz, full_lst, full_ins, nmN, DL.own, mdf, Sl.put, Sl.mut, Option.bind, cmpD, ltD, leD, gtD, geD, addD, subD, negD, modD, mMakF, mkA, sFldS, putD, fldD, mBinO, mOpO, mCmpO, mEqO, mUnO, mLenO, mSubO, mIxO, mPrp, cand_int, cand_tup, cand_lst, cand_scr, cand_str, cand_bl, cand_non, cand_ins, look0, okY_ii, okY_int, sameC_ii, blD, lenD, eqD, neD, Option.map_some, eqB_int,
  List.map, List.length_cons, List.length_nil, List.getElem?_cons_zero, List.getElem?_cons_succ, List.set_cons_zero, List.set_cons_succ, List.append, List.cons_append, List.nil_append, List.replicate, List.take, Nat.reduceAdd, Nat.reduceSub, Bool.not_true, Bool.not_false, decide_true, decide_false, Bool.false_eq_true, reduceIte, ↓reduceIte, m_Word_neg, ix0, ix1, ix2, dg_len, e_init hb hb2 hw hw2, beq_self_eq_true]
theorem e_inv (x : Int) : F_Word_invert [.sh (Wd b w x)] = .ok (.rt (Wd b w ((-1 - x) % b ^ w))) [.sh (Wd b w x)] := by
  refine fn_rt rfl (e := [.sh (Wd b w x)]) ?_ rfl
  simp only [DL.bnd, DL.ret, DL.lft, mVar, mCons, mNil, mCallA, callA, callAF, callB, mCallAF, mCallB, mBin, mUn, mB, mTru, truD, mNot, mAnd, mOr, mBv, mIf, mCb, mChain, mTup, mLst, sSeq, sNx, sIf, sRet, sRetF, sDrop, sSet, sSetF, sto_np, npAt, np_sh, np_ow, np_no, cm_sh, cm_no, DL.nox, fnM, DL.run,
  frz, full_lst, full_ins, nmN, DL.own, mdf, Sl.put, Sl.mut, Option.bind, cmpD, ltD, leD, gtD, geD, addD, subD, negD, modD, mMakF, mkA, sFldS, putD, fldD, mBinO, mOpO, mCmpO, mEqO, mUnO, mLenO, mSubO, mIxO, mPrp, cand_int, cand_tup, cand_lst, cand_scr, cand_str, cand_bl, cand_non, cand_ins, look0, okY_ii, okY_int, sameC_ii, blD, lenD, eqD, neD, Option.map_some, eqB_int,
  List.map, List.length_cons, List.length_nil, List.getElem?_cons_zero, List.getElem?_cons_succ, List.set_cons_zero, List.set_cons_succ, List.append, List.cons_append, List.nil_append, List.replicate, List.take, Nat.reduceAdd, Nat.reduceSub, Bool.not_true, Bool.not_false, decide_true, decide_false, Bool.false_eq_true, reduceIte, ↓reduceIte, m_Word_invert, ix0, ix1, ix2, dg_len, e_init hb hb2 hw hw2, beq_self_eq_true]
theorem mul_ok {x : Int} (x0 : 0 ≤ x) (x1 : x < b ^ w) {n : Nat} (hn : n ≤ 40) : mulOk x (b ^ n) = true := by
  have h1 : x.natAbs.log2 ≤ 9000 := by
    have h3 : x.natAbs ≤ (b ^ w).natAbs := by omega
    have h4 := pow_log hb hb2 (n := w) (by omega)
    by_cases z : x.natAbs = 0
    · rw [z]; decide
    · have h5 : x.natAbs < 2 ^ 9000 := Nat.lt_of_le_of_lt h3 ((Nat.log2_lt (by omega)).mp h4)
      exact Nat.le_of_lt ((Nat.log2_lt z).mpr h5)
  have h2 := pow_log hb hb2 (n := n) (by omega)
  unfold mulOk
  exact decide_eq_true (by omega)
/-- how far a word is moved -/
def mv (w : Nat) (m : Int) : Nat := if (w : Int) < m then w else m.toNat
theorem e_min (m : Int) (h : 0 ≤ m) : (if (w : Int) < m then (w : Int) else m) = ((mv w m : Nat) : Int) := by
  unfold mv
  split <;> omega
theorem mv_le (m : Int) : mv w m ≤ w := by
  unfold mv
  split <;> omega
theorem e_shl {x : Int} (x0 : 0 ≤ x) (x1 : x < b ^ w) (m : Int) (hm : 0 ≤ m) : F_Word_lshift [.sh (Wd b w x), .sh (.int m)] = .ok (.rt (Wd b w ((x * b ^ mv w m) % b ^ w))) [.sh (Wd b w x), .sh (.int m)] := by
  refine fn_rt rfl (e := [.sh (Wd b w x), .sh (.int m), .sh (.int ((mv w m : Nat) : Int))]) ?_ rfl
  have h1 := mv_le hb hb2 hw hw2 m
  have h2 := mul_ok hb hb2 hw hw2 x0 x1 (n := mv w m) (by omega)
  have h3 : ∀ q : Option D, (if mulOk2 x (b ^ mv w m) = true then some (D.int (x * b ^ mv w m)) else some (D.int (x * b ^ mv w m))) = some (D.int (x * b ^ mv w m)) := fun _ => by split <;> rfl
  simp only [DL.bnd, DL.ret, DL.lft, mVar, mCons, mNil, mCallA, callA, callAF, callB, mCallAF, mCallB, mBin, mUn, mB, mTru, truD, mNot, mAnd, mOr, mBv, mIf, mCb, mChain, mTup, mLst, sSeq, sNx, sIf, sRet, sRetF, sDrop, sSet, sSetF, sto_np, npAt, np_sh, np_ow, np_no, cm_sh, cm_no, DL.nox, fnM, DL.run,
  frz, full_lst, full_ins, nmN, DL.own, mdf, Sl.put, Sl.mut, Option.bind, cmpD, ltD, leD, gtD, geD, addD, subD, negD, modD, mMakF, mkA, sFldS, putD, fldD, mBinO, mOpO, mCmpO, mEqO, mUnO, mLenO, mSubO, mIxO, mPrp, cand_int, cand_tup, cand_lst, cand_scr, cand_str, cand_bl, cand_non, cand_ins, look0, okY_ii, okY_int, sameC_ii, blD, lenD, eqD, neD, Option.map_some, eqB_int,
  List.map, List.length_cons, List.length_nil, List.getElem?_cons_zero, List.getElem?_cons_succ, List.set_cons_zero, List.set_cons_succ, List.append, List.cons_append, List.nil_append, List.replicate, List.take, Nat.reduceAdd, Nat.reduceSub, Bool.not_true, Bool.not_false, decide_true, decide_false, Bool.false_eq_true, reduceIte, ↓reduceIte, m_Word_lshift, ix0, ix1, ix2, dg_len, min2D, gt_iff_lt, e_min hb hb2 hw hw2 m hm, e_power b (nat_abs_lt hb hb2) (mv w m) (by omega), mulD, h2, h3 none, e_init hb hb2 hw hw2, beq_self_eq_true]
theorem e_shr {x : Int} (m : Int) (hm : 0 ≤ m) : F_Word_rshift [.sh (Wd b w x), .sh (.int m)] = .ok (.rt (Wd b w ((x / b ^ mv w m) % b ^ w))) [.sh (Wd b w x), .sh (.int m)] := by
  refine fn_rt rfl (e := [.sh (Wd b w x), .sh (.int m), .sh (.int ((mv w m : Nat) : Int))]) ?_ rfl
  have h1 := mv_le hb hb2 hw hw2 m
  have h2 : 0 < b ^ mv w m ∧ (b ^ mv w m).natAbs.log2 < 9000 := ⟨pow_pos' hb _, pow_log hb hb2 (by omega)⟩
  simp only [DL.bnd, DL.ret, DL.lft, mVar, mCons, mNil, mCallA, callA, callAF, callB, mCallAF, mCallB, mBin, mUn, mB, mTru, truD, mNot, mAnd, mOr, mBv, mIf, mCb, mChain, mTup, mLst, sSeq, sNx, sIf, sRet, sRetF, sDrop, sSet, sSetF, sto_np, npAt, np_sh, np_ow, np_no, cm_sh, cm_no, DL.nox, fnM, DL.run,
  frz, full_lst, full_ins, nmN, DL.own, mdf, Sl.put, Sl.mut, Option.bind, cmpD, ltD, leD, gtD, geD, addD, subD, negD, modD, mMakF, mkA, sFldS, putD, fldD, mBinO, mOpO, mCmpO, mEqO, mUnO, mLenO, mSubO, mIxO, mPrp, cand_int, cand_tup, cand_lst, cand_scr, cand_str, cand_bl, cand_non, cand_ins, look0, okY_ii, okY_int, sameC_ii, blD, lenD, eqD, neD, Option.map_some, eqB_int,
  List.map, List.length_cons, List.length_nil, List.getElem?_cons_zero, List.getElem?_cons_succ, List.set_cons_zero, List.set_cons_succ, List.append, List.cons_append, List.nil_append, List.replicate, List.take, Nat.reduceAdd, Nat.reduceSub, Bool.not_true, Bool.not_false, decide_true, decide_false, Bool.false_eq_true, reduceIte, ↓reduceIte, m_Word_rshift, ix0, ix1, ix2, dg_len, min2D, gt_iff_lt, e_min hb hb2 hw hw2 m hm, e_power b (nat_abs_lt hb hb2) (mv w m) (by omega), divD, h2, and_self, e_init hb hb2 hw hw2, beq_self_eq_true]
end
theorem e_digits_p (b : Int) (w : Nat) (x : Int) : F_Word_digits [.sh (Wd b w x)] = .ok (.rt (.tup (dg b w x))) [.sh (Wd b w x)] := by
  refine fn_rt rfl (e := [.sh (Wd b w x)]) ?_ rfl
  simp only [DL.bnd, DL.ret, DL.lft, mVar, mCons, mNil, mCallA, callA, callAF, callB, mCallAF, mCallB, mBin, mUn, mB, mTru, truD, mNot, mAnd, mOr, mBv, mIf, mCb, mChain, mTup, mLst, sSeq, sNx, sIf, sRet, sRetF, sDrop, sSet, sSetF, sto_np, npAt, np_sh, np_ow, np_no, cm_sh, cm_no, DL.nox, fnM, DL.run,
  frz, full_lst, full_ins, nmN, DL.own, mdf, Sl.put, Sl.mut, Option.bind, cmpD, ltD, leD, gtD, geD, addD, subD, negD, modD, mMakF, mkA, sFldS, putD, fldD, mBinO, mOpO, mCmpO, mEqO, mUnO, mLenO, mSubO, mIxO, mPrp, cand_int, cand_tup, cand_lst, cand_scr, cand_str, cand_bl, cand_non, cand_ins, look0, okY_ii, okY_int, sameC_ii, blD, lenD, eqD, neD, Option.map_some, eqB_int,
  List.map, List.length_cons, List.length_nil, List.getElem?_cons_zero, List.getElem?_cons_succ, List.set_cons_zero, List.set_cons_succ, List.append, List.cons_append, List.nil_append, List.replicate, List.take, Nat.reduceAdd, Nat.reduceSub, Bool.not_true, Bool.not_false, decide_true, decide_false, Bool.false_eq_true, reduceIte, ↓reduceIte, m_Word_digits, ix2]
theorem e_number_p (b : Int) (w : Nat) (x : Int) : F_Word_number [.sh (Wd b w x)] = .ok (.rt (.int x)) [.sh (Wd b w x)] := by
  refine fn_rt rfl (e := [.sh (Wd b w x)]) ?_ rfl
  simp only [DL.bnd, DL.ret, DL.lft, mVar, mCons, mNil, mCallA, callA, callAF, callB, mCallAF, mCallB, mBin, mUn, mB, mTru, truD, mNot, mAnd, mOr, mBv, mIf, mCb, mChain, mTup, mLst, sSeq, sNx, sIf, sRet, sRetF, sDrop, sSet, sSetF, sto_np, npAt, np_sh, np_ow, np_no, cm_sh, cm_no, DL.nox, fnM, DL.run,
  frz, full_lst, full_ins, nmN, DL.own, mdf, Sl.put, Sl.mut, Option.bind, cmpD, ltD, leD, gtD, geD, addD, subD, negD, modD, mMakF, mkA, sFldS, putD, fldD, mBinO, mOpO, mCmpO, mEqO, mUnO, mLenO, mSubO, mIxO, mPrp, cand_int, cand_tup, cand_lst, cand_scr, cand_str, cand_bl, cand_non, cand_ins, look0, okY_ii, okY_int, sameC_ii, blD, lenD, eqD, neD, Option.map_some, eqB_int,
  List.map, List.length_cons, List.length_nil, List.getElem?_cons_zero, List.getElem?_cons_succ, List.set_cons_zero, List.set_cons_succ, List.append, List.cons_append, List.nil_append, List.replicate, List.take, Nat.reduceAdd, Nat.reduceSub, Bool.not_true, Bool.not_false, decide_true, decide_false, Bool.false_eq_true, reduceIte, ↓reduceIte, m_Word_number, ix1]
end LW

set_option Elab.async false
set_option linter.all false
set_option maxRecDepth 100000
set_option maxHeartbeats 400000
namespace LW
open PySem L2 DL
theorem e_lpower : F_law_power = F_power := rfl
theorem p0 (a b : D) : ixD (.lst [a, b]) (.int 0) = some a := rfl
theorem p1 (a b : D) : ixD (.lst [a, b]) (.int 1) = some b := rfl
theorem n0 : ixN 2 0 = some 0 := rfl
theorem n1 : ixN 2 1 = some 1 := rfl
def tq (q : Int) : Int := (q * 48271 + 12345) % 2147483647
def tkV (p q n : Int) : Int := if 0 < p then p % n else tq q * tq q % 2147483629 / 64 % n
def tkP (p q n : Int) : Int := if 0 < p then p / n else p
def tkQ (p q n : Int) : Int := if 0 < p then q else tq q
abbrev Pl (p q : Int) : D := .lst [.int p, .int q]
theorem tkV_lo {p q n : Int} (h : 0 < n) : 0 ≤ tkV p q n := by
  unfold tkV
  split <;> exact Int.emod_nonneg _ (by omega)
theorem tkV_hi {p q n : Int} (h : 0 < n) : tkV p q n < n := by
  unfold tkV
  split <;> exact Int.emod_lt_of_pos _ h
theorem tq_b (q : Int) : 0 ≤ tq q ∧ tq q < 2147483647 := ⟨Int.emod_nonneg _ (by decide), Int.emod_lt_of_pos _ (by decide)⟩
theorem e_take (p q n : Int) (h : 0 < n) (hl : n.natAbs.log2 < 9000) : F_law_take [.pn (Pl p q), .sh (.int n)] = .ok (.rt (.int (tkV p q n))) [.pn (Pl (tkP p q n) (tkQ p q n)), .sh (.int n)] := by
  have m1 : mulOk2 q 48271 = true := by simp [mulOk2]
  have m2 : mulOk2 (tq q) (tq q) = true := by
    have := tq_b q
    simp [mulOk2]
    omega
  have c64 : (0 : Int) < 64 ∧ Nat.log2 (Int.natAbs 64) < 9000 := by decide
  have ca : (0 : Int) < 2147483647 := by decide
  have cb : (0 : Int) < 2147483629 := by decide
  by_cases hp : 0 < p
  · refine fn_rt rfl (e := [.pn (Pl (p / n) q), .sh (.int n), .sh (.int (p % n))]) ?_ (by simp only [tkP, tkQ, if_pos hp]; rfl)
    simp only [tkV, if_pos hp]
    simp only [DL.bnd, DL.ret, DL.lft, mVar, mCons, mNil, mCallA, callA, callAF, callB, mCallAF, mCallB, mBin, mUn, mB, mTru, truD, mNot, mAnd, mOr, mBv, mIf, mCb, mChain, mTup, mLst, sSeq, sNx, sIf, sRet, sRetF, sDrop, sSet, sSetF, sto_np, npAt, np_sh, np_ow, np_no, cm_sh, cm_no, DL.nox, fnM, DL.run,
  frz, full_lst, full_ins, nmN, DL.own, mdf, Sl.put, Sl.mut, Option.bind, cmpD, ltD, leD, gtD, geD, addD, subD, negD, modD, mMakF, mkA, sFldS, putD, fldD, mBinO, mOpO, mCmpO, mEqO, mUnO, mLenO, mSubO, mIxO, mPrp, cand_int, cand_tup, cand_lst, cand_scr, cand_str, cand_bl, cand_non, cand_ins, look0, okY_ii, okY_int, sameC_ii, blD, lenD, eqD, neD, Option.map_some, eqB_int,
  List.map, List.length_cons, List.length_nil, List.getElem?_cons_zero, List.getElem?_cons_succ, List.set_cons_zero, List.set_cons_succ, List.append, List.cons_append, List.nil_append, List.replicate, List.take, Nat.reduceAdd, Nat.reduceSub, Bool.not_true, Bool.not_false, decide_true, decide_false, Bool.false_eq_true, reduceIte, ↓reduceIte, m_law_take, mIxS, peek, Sl.val, p0, p1, hp, h, hl, sPut, n0, n1, divD, and_self, reduceCtorEq]
  · refine fn_rt rfl (e := [.pn (Pl p (tq q)), .sh (.int n), .no]) ?_ (by simp only [tkP, tkQ, if_neg hp]; rfl)
    simp only [tkV, if_neg hp]
    have e : (q * 48271 + 12345) % 2147483647 = tq q := rfl
    simp only [DL.bnd, DL.ret, DL.lft, mVar, mCons, mNil, mCallA, callA, callAF, callB, mCallAF, mCallB, mBin, mUn, mB, mTru, truD, mNot, mAnd, mOr, mBv, mIf, mCb, mChain, mTup, mLst, sSeq, sNx, sIf, sRet, sRetF, sDrop, sSet, sSetF, sto_np, npAt, np_sh, np_ow, np_no, cm_sh, cm_no, DL.nox, fnM, DL.run,
  frz, full_lst, full_ins, nmN, DL.own, mdf, Sl.put, Sl.mut, Option.bind, cmpD, ltD, leD, gtD, geD, addD, subD, negD, modD, mMakF, mkA, sFldS, putD, fldD, mBinO, mOpO, mCmpO, mEqO, mUnO, mLenO, mSubO, mIxO, mPrp, cand_int, cand_tup, cand_lst, cand_scr, cand_str, cand_bl, cand_non, cand_ins, look0, okY_ii, okY_int, sameC_ii, blD, lenD, eqD, neD, Option.map_some, eqB_int,
  List.map, List.length_cons, List.length_nil, List.getElem?_cons_zero, List.getElem?_cons_succ, List.set_cons_zero, List.set_cons_succ, List.append, List.cons_append, List.nil_append, List.replicate, List.take, Nat.reduceAdd, Nat.reduceSub, Bool.not_true, Bool.not_false, decide_true, decide_false, Bool.false_eq_true, reduceIte, ↓reduceIte, m_law_take, mIxS, peek, Sl.val, p0, p1, hp, h, hl, sPut, n0, n1, divD, mulD, m1, ca, cb, e, m2, c64, and_self, reduceCtorEq]
theorem ixs (ns : List Int) (k : Nat) (h : k < ns.length) : ixD (.scr ns) (.int (k : Int)) = some (.int ns[k]) := by
  have : ixN ns.length (k : Int) = some k := by
    unfold ixN
    rw [if_pos (by omega), if_pos (by omega)]
    simp
  simp [ixD, atI, this, h]
def plM (c : Int) (k : Nat) : Int := (c % 2147483629 + 7919 * (k : Int) * (k : Int) + 31 * (k : Int) + 17) * 48271 % 2147483647
theorem pool_tail (scr : D) (k : Nat) (hk : k < 1000) (c : Int) (x3 : Sl) (h3 : np x3 = true) : ∃ p q x, (0 ≤ c → 0 ≤ p) ∧ (sSeq (sSet 3 (mBin modD (mBin mulD (mBinO [(0, F_Word_add)] addD (mBinO [(0, F_Word_add)] addD (mBinO [(0, F_Word_add)] addD (mBin modD (mVar 2) (DL.ret (.int 2147483629))) (mBin mulD (mBin mulD (DL.ret (.int 7919)) (mVar 1)) (mVar 1))) (mBin mulD (DL.ret (.int 31)) (mVar 1))) (DL.ret (.int 17))) (DL.ret (.int 48271))) (DL.ret (.int 2147483647))))
  (sRetF (mLst (mCons (mBin mulD (mVar 2) (mCb intD (mCons (mBin geD (mVar 2) pw_10_18) mNil))) (mCons (mBin modD (mBin mulD (mVar 3) (mVar 3)) (DL.ret (.int 2147483629))) mNil))))) [.sh scr, .sh (.int (k : Int)), .sh (.int c), x3] = .ok (.rto (Pl p q)) [.sh scr, .sh (.int (k : Int)), .sh (.int c), x] := by
  refine ⟨c * (if decide ((10 : Int) ^ 18 ≤ c) = true then 1 else 0), plM c k * plM c k % 2147483629, .sh (.int (plM c k)), fun h => ?_, ?_⟩
  · split <;> omega
  have m1 : mulOk2 7919 (k : Int) = true := by simp [mulOk2]
  have m2 : mulOk2 (7919 * (k : Int)) (k : Int) = true := by simp [mulOk2]; omega
  have m3 : mulOk2 31 (k : Int) = true := by simp [mulOk2]
  have m4 : ∀ x : Int, mulOk2 x 48271 = true := fun x => by simp [mulOk2]
  have m5 : ∀ x : Bool, mulOk2 c (if x = true then 1 else 0) = true := fun x => by cases x <;> simp [mulOk2]
  have m6 : mulOk2 (plM c k) (plM c k) = true := by
    have h1 : 0 ≤ plM c k := Int.emod_nonneg _ (by decide)
    have h2 : plM c k < 2147483647 := Int.emod_lt_of_pos _ (by decide)
    simp [mulOk2]
    omega
  have c1 : (0 : Int) < 2147483629 := by decide
  have c2 : (0 : Int) < 2147483647 := by decide
  have e : (c % 2147483629 + 7919 * (k : Int) * (k : Int) + 31 * (k : Int) + 17) * 48271 % 2147483647 = plM c k := rfl
  have pw : ∀ env, pw_10_18 env = .ok (.int ((10 : Int) ^ 18)) env := fun _ => rfl
  have sm : small 2 = true := rfl
  simp only [DL.bnd, DL.ret, DL.lft, mVar, mCons, mNil, mCallA, callA, callAF, callB, mCallAF, mCallB, mBin, mUn, mB, mTru, truD, mNot, mAnd, mOr, mBv, mIf, mCb, mChain, mTup, mLst, sSeq, sNx, sIf, sRet, sRetF, sDrop, sSet, sSetF, sto_np, npAt, np_sh, np_ow, np_no, cm_sh, cm_no, DL.nox, fnM, DL.run,
  frz, full_lst, full_ins, nmN, DL.own, mdf, Sl.put, Sl.mut, Option.bind, cmpD, ltD, leD, gtD, geD, addD, subD, negD, modD, mMakF, mkA, sFldS, putD, fldD, mBinO, mOpO, mCmpO, mEqO, mUnO, mLenO, mSubO, mIxO, mPrp, cand_int, cand_tup, cand_lst, cand_scr, cand_str, cand_bl, cand_non, cand_ins, look0, okY_ii, okY_int, sameC_ii, blD, lenD, eqD, neD, Option.map_some, eqB_int,
  List.map, List.length_cons, List.length_nil, List.getElem?_cons_zero, List.getElem?_cons_succ, List.set_cons_zero, List.set_cons_succ, List.append, List.cons_append, List.nil_append, List.replicate, List.take, Nat.reduceAdd, Nat.reduceSub, Bool.not_true, Bool.not_false, decide_true, decide_false, Bool.false_eq_true, reduceIte, ↓reduceIte, c1, c2, mulD, m1, m2, m3, m4, e, h3, pw, intD, m5, m6, sm]
theorem e_pool (ns : List Int) (k : Nat) (hk : k < 1000) : ∃ p q, 0 ≤ p ∧ F_law_pool [.sh (.scr ns), .sh (.int (k : Int))] = .ok (.rto (Pl p q)) [.sh (.scr ns), .sh (.int (k : Int))] := by
  by_cases h : (k : Int) < (ns.length : Int)
  · have hk2 : k < ns.length := by omega
    obtain ⟨p, q, x, hp, e⟩ := pool_tail (.scr ns) k hk (if ns[k] < 0 then -ns[k] else ns[k]) .no rfl
    refine ⟨p, q, hp (by split <;> omega), fn_rto rfl (e := [.sh (.scr ns), .sh (.int (k : Int)), .sh (.int (if ns[k] < 0 then -ns[k] else ns[k])), x]) ?_ rfl⟩
    unfold m_law_pool
    rw [seq_nx (e1 := [.sh (.scr ns), .sh (.int (k : Int)), .sh (.int 0), .no]), seq_nx (e1 := [.sh (.scr ns), .sh (.int (k : Int)), .sh (.int (if ns[k] < 0 then -ns[k] else ns[k])), .no]), e]
    · simp only [DL.bnd, DL.ret, DL.lft, mVar, mCons, mNil, mCallA, callA, callAF, callB, mCallAF, mCallB, mBin, mUn, mB, mTru, truD, mNot, mAnd, mOr, mBv, mIf, mCb, mChain, mTup, mLst, sSeq, sNx, sIf, sRet, sRetF, sDrop, sSet, sSetF, sto_np, npAt, np_sh, np_ow, np_no, cm_sh, cm_no, DL.nox, fnM, DL.run,
  frz, full_lst, full_ins, nmN, DL.own, mdf, Sl.put, Sl.mut, Option.bind, cmpD, ltD, leD, gtD, geD, addD, subD, negD, modD, mMakF, mkA, sFldS, putD, fldD, mBinO, mOpO, mCmpO, mEqO, mUnO, mLenO, mSubO, mIxO, mPrp, cand_int, cand_tup, cand_lst, cand_scr, cand_str, cand_bl, cand_non, cand_ins, look0, okY_ii, okY_int, sameC_ii, blD, lenD, eqD, neD, Option.map_some, eqB_int,
  List.map, List.length_cons, List.length_nil, List.getElem?_cons_zero, List.getElem?_cons_succ, List.set_cons_zero, List.set_cons_succ, List.append, List.cons_append, List.nil_append, List.replicate, List.take, Nat.reduceAdd, Nat.reduceSub, Bool.not_true, Bool.not_false, decide_true, decide_false, Bool.false_eq_true, reduceIte, ↓reduceIte, h, ixs ns k hk2, absD]
    · simp only [DL.bnd, DL.ret, DL.lft, mVar, mCons, mNil, mCallA, callA, callAF, callB, mCallAF, mCallB, mBin, mUn, mB, mTru, truD, mNot, mAnd, mOr, mBv, mIf, mCb, mChain, mTup, mLst, sSeq, sNx, sIf, sRet, sRetF, sDrop, sSet, sSetF, sto_np, npAt, np_sh, np_ow, np_no, cm_sh, cm_no, DL.nox, fnM, DL.run,
  frz, full_lst, full_ins, nmN, DL.own, mdf, Sl.put, Sl.mut, Option.bind, cmpD, ltD, leD, gtD, geD, addD, subD, negD, modD, mMakF, mkA, sFldS, putD, fldD, mBinO, mOpO, mCmpO, mEqO, mUnO, mLenO, mSubO, mIxO, mPrp, cand_int, cand_tup, cand_lst, cand_scr, cand_str, cand_bl, cand_non, cand_ins, look0, okY_ii, okY_int, sameC_ii, blD, lenD, eqD, neD, Option.map_some, eqB_int,
  List.map, List.length_cons, List.length_nil, List.getElem?_cons_zero, List.getElem?_cons_succ, List.set_cons_zero, List.set_cons_succ, List.append, List.cons_append, List.nil_append, List.replicate, List.take, Nat.reduceAdd, Nat.reduceSub, Bool.not_true, Bool.not_false, decide_true, decide_false, Bool.false_eq_true, reduceIte, ↓reduceIte]
  · obtain ⟨p, q, x, hp, e⟩ := pool_tail (.scr ns) k hk 0 .no rfl
    refine ⟨p, q, hp (by omega), fn_rto rfl (e := [.sh (.scr ns), .sh (.int (k : Int)), .sh (.int 0), x]) ?_ rfl⟩
    unfold m_law_pool
    rw [seq_nx (e1 := [.sh (.scr ns), .sh (.int (k : Int)), .sh (.int 0), .no]), seq_nx (e1 := [.sh (.scr ns), .sh (.int (k : Int)), .sh (.int 0), .no]), e]
    · simp only [DL.bnd, DL.ret, DL.lft, mVar, mCons, mNil, mCallA, callA, callAF, callB, mCallAF, mCallB, mBin, mUn, mB, mTru, truD, mNot, mAnd, mOr, mBv, mIf, mCb, mChain, mTup, mLst, sSeq, sNx, sIf, sRet, sRetF, sDrop, sSet, sSetF, sto_np, npAt, np_sh, np_ow, np_no, cm_sh, cm_no, DL.nox, fnM, DL.run,
  frz, full_lst, full_ins, nmN, DL.own, mdf, Sl.put, Sl.mut, Option.bind, cmpD, ltD, leD, gtD, geD, addD, subD, negD, modD, mMakF, mkA, sFldS, putD, fldD, mBinO, mOpO, mCmpO, mEqO, mUnO, mLenO, mSubO, mIxO, mPrp, cand_int, cand_tup, cand_lst, cand_scr, cand_str, cand_bl, cand_non, cand_ins, look0, okY_ii, okY_int, sameC_ii, blD, lenD, eqD, neD, Option.map_some, eqB_int,
  List.map, List.length_cons, List.length_nil, List.getElem?_cons_zero, List.getElem?_cons_succ, List.set_cons_zero, List.set_cons_succ, List.append, List.cons_append, List.nil_append, List.replicate, List.take, Nat.reduceAdd, Nat.reduceSub, Bool.not_true, Bool.not_false, decide_true, decide_false, Bool.false_eq_true, reduceIte, ↓reduceIte, h]
    · simp only [DL.bnd, DL.ret, DL.lft, mVar, mCons, mNil, mCallA, callA, callAF, callB, mCallAF, mCallB, mBin, mUn, mB, mTru, truD, mNot, mAnd, mOr, mBv, mIf, mCb, mChain, mTup, mLst, sSeq, sNx, sIf, sRet, sRetF, sDrop, sSet, sSetF, sto_np, npAt, np_sh, np_ow, np_no, cm_sh, cm_no, DL.nox, fnM, DL.run,
  frz, full_lst, full_ins, nmN, DL.own, mdf, Sl.put, Sl.mut, Option.bind, cmpD, ltD, leD, gtD, geD, addD, subD, negD, modD, mMakF, mkA, sFldS, putD, fldD, mBinO, mOpO, mCmpO, mEqO, mUnO, mLenO, mSubO, mIxO, mPrp, cand_int, cand_tup, cand_lst, cand_scr, cand_str, cand_bl, cand_non, cand_ins, look0, okY_ii, okY_int, sameC_ii, blD, lenD, eqD, neD, Option.map_some, eqB_int,
  List.map, List.length_cons, List.length_nil, List.getElem?_cons_zero, List.getElem?_cons_succ, List.set_cons_zero, List.set_cons_succ, List.append, List.cons_append, List.nil_append, List.replicate, List.take, Nat.reduceAdd, Nat.reduceSub, Bool.not_true, Bool.not_false, decide_true, decide_false, Bool.false_eq_true, reduceIte, ↓reduceIte]
end LW

set_option Elab.async false
set_option linter.all false
set_option maxRecDepth 100000
set_option maxHeartbeats 400000
namespace LW
open PySem L2 DL
theorem horner {b : Int} (hb : 0 < b) (x : Int) : ∀ (w : Nat) (acc : Int), ((List.range w).map (dig b x)).reverse.foldl (fun a d => a * b + d) acc = acc * b ^ w + x % b ^ w
  | 0, acc => by simp [Int.emod_one]
  | w + 1, acc => by
    rw [List.range_succ, List.map_append, List.reverse_append]
    simp only [List.map_cons, List.map_nil, List.reverse_cons, List.reverse_nil, List.nil_append, List.cons_append, List.foldl_cons]
    rw [horner hb x w, emod_succ x hb, Int.add_mul, Int.mul_assoc, Int.pow_succ]
    unfold dig
    rw [Int.mul_comm b (b ^ w), Int.mul_comm (x / b ^ w % b) (b ^ w)]
    omega
theorem loop_num (b : Int) (hb2 : b.natAbs < 2 ^ 64) (x0 : D) : ∀ (ds : List Int) (x3 : Sl) (acc : Int), np x3 = true → ∃ y, np y = true ∧ sLoop (tgName 3) (sSet 2 (mBin addD (mBin mulD (mVar 2) (mVar 1)) (mVar 3))) (ds.map .int) [.sh x0, .sh (.int b), .sh (.int acc), x3] = .ok .nx [.sh x0, .sh (.int b), .sh (.int (ds.foldl (fun a d => a * b + d) acc)), y]
  | [], x3, acc, h => ⟨x3, h, by simp [sLoop, sNx, DL.ret]⟩
  | d :: ds, x3, acc, h => by
    have m : mulOk2 acc b = true := by simp [mulOk2, hb2]
    obtain ⟨y, hy, e⟩ := loop_num b hb2 x0 ds (.sh (.int d)) (acc * b + d) rfl
    refine ⟨y, hy, ?_⟩
    rw [List.map_cons, List.foldl_cons, loop_nx (e1 := [.sh x0, .sh (.int b), .sh (.int acc), .sh (.int d)]) (e2 := [.sh x0, .sh (.int b), .sh (.int (acc * b + d)), .sh (.int d)]), e]
    · simp only [DL.bnd, DL.ret, DL.lft, mVar, mCons, mNil, mCallA, callA, callAF, callB, mCallAF, mCallB, mBin, mUn, mB, mTru, truD, mNot, mAnd, mOr, mBv, mIf, mCb, mChain, mTup, mLst, sSeq, sNx, sIf, sRet, sRetF, sDrop, sSet, sSetF, sto_np, npAt, np_sh, np_ow, np_no, cm_sh, cm_no, DL.nox, fnM, DL.run,
  frz, full_lst, full_ins, nmN, DL.own, mdf, Sl.put, Sl.mut, Option.bind, cmpD, ltD, leD, gtD, geD, addD, subD, negD, modD, mMakF, mkA, sFldS, putD, fldD, mBinO, mOpO, mCmpO, mEqO, mUnO, mLenO, mSubO, mIxO, mPrp, cand_int, cand_tup, cand_lst, cand_scr, cand_str, cand_bl, cand_non, cand_ins, look0, okY_ii, okY_int, sameC_ii, blD, lenD, eqD, neD, Option.map_some, eqB_int,
  List.map, List.length_cons, List.length_nil, List.getElem?_cons_zero, List.getElem?_cons_succ, List.set_cons_zero, List.set_cons_succ, List.append, List.cons_append, List.nil_append, List.replicate, List.take, Nat.reduceAdd, Nat.reduceSub, Bool.not_true, Bool.not_false, decide_true, decide_false, Bool.false_eq_true, reduceIte, ↓reduceIte, tgName, stE_np, h]
    · simp only [DL.bnd, DL.ret, DL.lft, mVar, mCons, mNil, mCallA, callA, callAF, callB, mCallAF, mCallB, mBin, mUn, mB, mTru, truD, mNot, mAnd, mOr, mBv, mIf, mCb, mChain, mTup, mLst, sSeq, sNx, sIf, sRet, sRetF, sDrop, sSet, sSetF, sto_np, npAt, np_sh, np_ow, np_no, cm_sh, cm_no, DL.nox, fnM, DL.run,
  frz, full_lst, full_ins, nmN, DL.own, mdf, Sl.put, Sl.mut, Option.bind, cmpD, ltD, leD, gtD, geD, addD, subD, negD, modD, mMakF, mkA, sFldS, putD, fldD, mBinO, mOpO, mCmpO, mEqO, mUnO, mLenO, mSubO, mIxO, mPrp, cand_int, cand_tup, cand_lst, cand_scr, cand_str, cand_bl, cand_non, cand_ins, look0, okY_ii, okY_int, sameC_ii, blD, lenD, eqD, neD, Option.map_some, eqB_int,
  List.map, List.length_cons, List.length_nil, List.getElem?_cons_zero, List.getElem?_cons_succ, List.set_cons_zero, List.set_cons_succ, List.append, List.cons_append, List.nil_append, List.replicate, List.take, Nat.reduceAdd, Nat.reduceSub, Bool.not_true, Bool.not_false, decide_true, decide_false, Bool.false_eq_true, reduceIte, ↓reduceIte, mulD, m]
theorem e_number (b : Int) (hb2 : b.natAbs < 2 ^ 64) (ds : List Int) : F_number_of [.sh (.lst (ds.map .int)), .sh (.int b)] = .ok (.rt (.int (ds.reverse.foldl (fun a d => a * b + d) 0))) [.sh (.lst (ds.map .int)), .sh (.int b)] := by
  obtain ⟨y, hy, e⟩ := loop_num b hb2 (.lst (ds.map .int)) ds.reverse .no 0 rfl
  refine fn_rt rfl (e := [.sh (.lst (ds.map .int)), .sh (.int b), .sh (.int (ds.reverse.foldl (fun a d => a * b + d) 0)), y]) ?_ rfl
  unfold m_number_of
  have h1 : iItm (mUn revD (mVar 0)) [.sh (.lst (ds.map .int)), .sh (.int b), .sh (.int 0), .no] = .ok (ds.reverse.map .int) [.sh (.lst (ds.map .int)), .sh (.int b), .sh (.int 0), .no] := by
    rw [List.map_reverse]
    simp only [DL.bnd, DL.ret, DL.lft, mVar, mCons, mNil, mCallA, callA, callAF, callB, mCallAF, mCallB, mBin, mUn, mB, mTru, truD, mNot, mAnd, mOr, mBv, mIf, mCb, mChain, mTup, mLst, sSeq, sNx, sIf, sRet, sRetF, sDrop, sSet, sSetF, sto_np, npAt, np_sh, np_ow, np_no, cm_sh, cm_no, DL.nox, fnM, DL.run,
  frz, full_lst, full_ins, nmN, DL.own, mdf, Sl.put, Sl.mut, Option.bind, cmpD, ltD, leD, gtD, geD, addD, subD, negD, modD, mMakF, mkA, sFldS, putD, fldD, mBinO, mOpO, mCmpO, mEqO, mUnO, mLenO, mSubO, mIxO, mPrp, cand_int, cand_tup, cand_lst, cand_scr, cand_str, cand_bl, cand_non, cand_ins, look0, okY_ii, okY_int, sameC_ii, blD, lenD, eqD, neD, Option.map_some, eqB_int,
  List.map, List.length_cons, List.length_nil, List.getElem?_cons_zero, List.getElem?_cons_succ, List.set_cons_zero, List.set_cons_succ, List.append, List.cons_append, List.nil_append, List.replicate, List.take, Nat.reduceAdd, Nat.reduceSub, Bool.not_true, Bool.not_false, decide_true, decide_false, Bool.false_eq_true, reduceIte, ↓reduceIte, iItm, revD, itemsD]
  rw [seq_nx (e1 := [.sh (.lst (ds.map .int)), .sh (.int b), .sh (.int 0), .no]), seq_nx (for_ok h1 e)]
  · simp only [DL.bnd, DL.ret, DL.lft, mVar, mCons, mNil, mCallA, callA, callAF, callB, mCallAF, mCallB, mBin, mUn, mB, mTru, truD, mNot, mAnd, mOr, mBv, mIf, mCb, mChain, mTup, mLst, sSeq, sNx, sIf, sRet, sRetF, sDrop, sSet, sSetF, sto_np, npAt, np_sh, np_ow, np_no, cm_sh, cm_no, DL.nox, fnM, DL.run,
  frz, full_lst, full_ins, nmN, DL.own, mdf, Sl.put, Sl.mut, Option.bind, cmpD, ltD, leD, gtD, geD, addD, subD, negD, modD, mMakF, mkA, sFldS, putD, fldD, mBinO, mOpO, mCmpO, mEqO, mUnO, mLenO, mSubO, mIxO, mPrp, cand_int, cand_tup, cand_lst, cand_scr, cand_str, cand_bl, cand_non, cand_ins, look0, okY_ii, okY_int, sameC_ii, blD, lenD, eqD, neD, Option.map_some, eqB_int,
  List.map, List.length_cons, List.length_nil, List.getElem?_cons_zero, List.getElem?_cons_succ, List.set_cons_zero, List.set_cons_succ, List.append, List.cons_append, List.nil_append, List.replicate, List.take, Nat.reduceAdd, Nat.reduceSub, Bool.not_true, Bool.not_false, decide_true, decide_false, Bool.false_eq_true, reduceIte, ↓reduceIte]
  · simp only [DL.bnd, DL.ret, DL.lft, mVar, mCons, mNil, mCallA, callA, callAF, callB, mCallAF, mCallB, mBin, mUn, mB, mTru, truD, mNot, mAnd, mOr, mBv, mIf, mCb, mChain, mTup, mLst, sSeq, sNx, sIf, sRet, sRetF, sDrop, sSet, sSetF, sto_np, npAt, np_sh, np_ow, np_no, cm_sh, cm_no, DL.nox, fnM, DL.run,
  frz, full_lst, full_ins, nmN, DL.own, mdf, Sl.put, Sl.mut, Option.bind, cmpD, ltD, leD, gtD, geD, addD, subD, negD, modD, mMakF, mkA, sFldS, putD, fldD, mBinO, mOpO, mCmpO, mEqO, mUnO, mLenO, mSubO, mIxO, mPrp, cand_int, cand_tup, cand_lst, cand_scr, cand_str, cand_bl, cand_non, cand_ins, look0, okY_ii, okY_int, sameC_ii, blD, lenD, eqD, neD, Option.map_some, eqB_int,
  List.map, List.length_cons, List.length_nil, List.getElem?_cons_zero, List.getElem?_cons_succ, List.set_cons_zero, List.set_cons_succ, List.append, List.cons_append, List.nil_append, List.replicate, List.take, Nat.reduceAdd, Nat.reduceSub, Bool.not_true, Bool.not_false, decide_true, decide_false, Bool.false_eq_true, reduceIte, ↓reduceIte]
theorem isi_lt (cs : List Nat) (xs : List D) : isiD (okOf cs) [.ty "list", .ty "tuple"] (.lst xs) = some (.bl true) := rfl
theorem bls_true : ∀ n : Nat, asBls (List.replicate n (.bl true)) = some (List.replicate n true)
  | 0 => rfl
  | n + 1 => by simp [List.replicate_succ, asBls, bls_true n]
theorem dig_rng {b : Int} (hb : 2 ≤ b) (x : Int) (i : Nat) : 0 ≤ dig b x i ∧ dig b x i ≤ b - 1 := by
  have h1 := Int.emod_nonneg (x / b ^ i) (by omega : b ≠ 0)
  have h2 := Int.emod_lt_of_pos (x / b ^ i) (by omega : 0 < b)
  unfold dig
  omega
section
variable {b : Int} {w : Nat} (hb : 2 ≤ b) (hb2 : b ≤ 36) (hw : 1 ≤ w) (hw2 : w ≤ 40)
include hb hb2 hw hw2
theorem e_of {x : Int} (x0 : 0 ≤ x) (x1 : x < b ^ w) : F_Word_of [.sh (.cls 0), .sh (.lst (dg b w x)), .sh (.int b)] = .ok (.rt (Wd b w x)) [.sh (.cls 0), .sh (.lst (dg b w x)), .sh (.int b)] := by
  refine fn_rt rfl (e := [.sh (.cls 0), .sh (.lst (dg b w x)), .sh (.int b), .no]) ?_ rfl
  have c1 : (1 : Int) ≤ w := by omega
  have c2 : (w : Int) ≤ 40 := by omega
  have h1 := mLc_pure (v := 3) (y := .no) (env := [.sh (.cls 0), .sh (.lst (dg b w x)), .sh (.int b), .no]) (mi := iItm (mVar 1)) (ds := dg b w x) (m := mCallA F_is_between [] (mCons (mVar 3) (mCons (DL.ret (.int 0)) (mCons (mBin subD (mVar 2) (DL.ret (.int 1))) mNil))))
    (f := fun _ => .bl true) (by simp only [DL.bnd, DL.ret, DL.lft, mVar, mCons, mNil, mCallA, callA, callAF, callB, mCallAF, mCallB, mBin, mUn, mB, mTru, truD, mNot, mAnd, mOr, mBv, mIf, mCb, mChain, mTup, mLst, sSeq, sNx, sIf, sRet, sRetF, sDrop, sSet, sSetF, sto_np, npAt, np_sh, np_ow, np_no, cm_sh, cm_no, DL.nox, fnM, DL.run,
  frz, full_lst, full_ins, nmN, DL.own, mdf, Sl.put, Sl.mut, Option.bind, cmpD, ltD, leD, gtD, geD, addD, subD, negD, modD, mMakF, mkA, sFldS, putD, fldD, mBinO, mOpO, mCmpO, mEqO, mUnO, mLenO, mSubO, mIxO, mPrp, cand_int, cand_tup, cand_lst, cand_scr, cand_str, cand_bl, cand_non, cand_ins, look0, okY_ii, okY_int, sameC_ii, blD, lenD, eqD, neD, Option.map_some, eqB_int,
  List.map, List.length_cons, List.length_nil, List.getElem?_cons_zero, List.getElem?_cons_succ, List.set_cons_zero, List.set_cons_succ, List.append, List.cons_append, List.nil_append, List.replicate, List.take, Nat.reduceAdd, Nat.reduceSub, Bool.not_true, Bool.not_false, decide_true, decide_false, Bool.false_eq_true, reduceIte, ↓reduceIte, iItm, itemsD]) rfl rfl (by rw [dg_len]; simp [small]; omega) (fun d hd => by
      obtain ⟨i, hi, rfl⟩ := List.mem_map.mp hd
      have h := dig_rng hb x i
      simp only [DL.bnd, DL.ret, DL.lft, mVar, mCons, mNil, mCallA, callA, callAF, callB, mCallAF, mCallB, mBin, mUn, mB, mTru, truD, mNot, mAnd, mOr, mBv, mIf, mCb, mChain, mTup, mLst, sSeq, sNx, sIf, sRet, sRetF, sDrop, sSet, sSetF, sto_np, npAt, np_sh, np_ow, np_no, cm_sh, cm_no, DL.nox, fnM, DL.run,
  frz, full_lst, full_ins, nmN, DL.own, mdf, Sl.put, Sl.mut, Option.bind, cmpD, ltD, leD, gtD, geD, addD, subD, negD, modD, mMakF, mkA, sFldS, putD, fldD, mBinO, mOpO, mCmpO, mEqO, mUnO, mLenO, mSubO, mIxO, mPrp, cand_int, cand_tup, cand_lst, cand_scr, cand_str, cand_bl, cand_non, cand_ins, look0, okY_ii, okY_int, sameC_ii, blD, lenD, eqD, neD, Option.map_some, eqB_int,
  List.map, List.length_cons, List.length_nil, List.getElem?_cons_zero, List.getElem?_cons_succ, List.set_cons_zero, List.set_cons_succ, List.append, List.cons_append, List.nil_append, List.replicate, List.take, Nat.reduceAdd, Nat.reduceSub, Bool.not_true, Bool.not_false, decide_true, decide_false, Bool.false_eq_true, reduceIte, ↓reduceIte, e_is_between, h.1, h.2, and_self])
  have h2 : List.map (fun _ => D.bl true) (dg b w x) = List.replicate w (.bl true) := by rw [List.map_const', dg_len]
  rw [h2] at h1
  have h3 : allD [.lst (List.replicate w (.bl true))] = some (.bl true) := by
    simp [allD, bls_true]
  have h4 := e_number b (nat_abs_lt hb hb2) ((List.range w).map (dig b x))
  rw [horner (by omega) x w 0, Int.zero_mul, Int.zero_add, Int.emod_eq_of_lt x0 x1, ← dg_ints] at h4
  show m_Word_of [.sh (.cls 0), .sh (.lst (dg b w x)), .sh (.int b), .no] = _
  unfold m_Word_of
  have key : ∀ q : M D, q [.sh (.cls 0), .sh (.lst (dg b w x)), .sh (.int b), .no] = .ok (.lst (List.replicate w (.bl true))) [.sh (.cls 0), .sh (.lst (dg b w x)), .sh (.int b), .no] →
      sIf (mNot (mTru (mCb allD (mCons (frz q) mNil)))) (fun _ => .bad) sNx [.sh (.cls 0), .sh (.lst (dg b w x)), .sh (.int b), .no] = .ok .nx [.sh (.cls 0), .sh (.lst (dg b w x)), .sh (.int b), .no] := fun q hq => by
    simp only [DL.bnd, DL.ret, DL.lft, mVar, mCons, mNil, mCallA, callA, callAF, callB, mCallAF, mCallB, mBin, mUn, mB, mTru, truD, mNot, mAnd, mOr, mBv, mIf, mCb, mChain, mTup, mLst, sSeq, sNx, sIf, sRet, sRetF, sDrop, sSet, sSetF, sto_np, npAt, np_sh, np_ow, np_no, cm_sh, cm_no, DL.nox, fnM, DL.run,
  frz, full_lst, full_ins, nmN, DL.own, mdf, Sl.put, Sl.mut, Option.bind, cmpD, ltD, leD, gtD, geD, addD, subD, negD, modD, mMakF, mkA, sFldS, putD, fldD, mBinO, mOpO, mCmpO, mEqO, mUnO, mLenO, mSubO, mIxO, mPrp, cand_int, cand_tup, cand_lst, cand_scr, cand_str, cand_bl, cand_non, cand_ins, look0, okY_ii, okY_int, sameC_ii, blD, lenD, eqD, neD, Option.map_some, eqB_int,
  List.map, List.length_cons, List.length_nil, List.getElem?_cons_zero, List.getElem?_cons_succ, List.set_cons_zero, List.set_cons_succ, List.append, List.cons_append, List.nil_append, List.replicate, List.take, Nat.reduceAdd, Nat.reduceSub, Bool.not_true, Bool.not_false, decide_true, decide_false, Bool.false_eq_true, reduceIte, ↓reduceIte, hq, h3]
  rw [seq_nx (e1 := [.sh (.cls 0), .sh (.lst (dg b w x)), .sh (.int b), .no]), seq_nx (e1 := [.sh (.cls 0), .sh (.lst (dg b w x)), .sh (.int b), .no]), seq_nx (key _ h1)]
  · have e1 := e_init hb hb2 hw hw2 x
    rw [Int.emod_eq_of_lt x0 x1] at e1
    simp only [DL.bnd, DL.ret, DL.lft, mVar, mCons, mNil, mCallA, callA, callAF, callB, mCallAF, mCallB, mBin, mUn, mB, mTru, truD, mNot, mAnd, mOr, mBv, mIf, mCb, mChain, mTup, mLst, sSeq, sNx, sIf, sRet, sRetF, sDrop, sSet, sSetF, sto_np, npAt, np_sh, np_ow, np_no, cm_sh, cm_no, DL.nox, fnM, DL.run,
  frz, full_lst, full_ins, nmN, DL.own, mdf, Sl.put, Sl.mut, Option.bind, cmpD, ltD, leD, gtD, geD, addD, subD, negD, modD, mMakF, mkA, sFldS, putD, fldD, mBinO, mOpO, mCmpO, mEqO, mUnO, mLenO, mSubO, mIxO, mPrp, cand_int, cand_tup, cand_lst, cand_scr, cand_str, cand_bl, cand_non, cand_ins, look0, okY_ii, okY_int, sameC_ii, blD, lenD, eqD, neD, Option.map_some, eqB_int,
  List.map, List.length_cons, List.length_nil, List.getElem?_cons_zero, List.getElem?_cons_succ, List.set_cons_zero, List.set_cons_succ, List.append, List.cons_append, List.nil_append, List.replicate, List.take, Nat.reduceAdd, Nat.reduceSub, Bool.not_true, Bool.not_false, decide_true, decide_false, Bool.false_eq_true, reduceIte, ↓reduceIte, mClsF, h4, dg_len, e1, beq_self_eq_true]
  · simp only [DL.bnd, DL.ret, DL.lft, mVar, mCons, mNil, mCallA, callA, callAF, callB, mCallAF, mCallB, mBin, mUn, mB, mTru, truD, mNot, mAnd, mOr, mBv, mIf, mCb, mChain, mTup, mLst, sSeq, sNx, sIf, sRet, sRetF, sDrop, sSet, sSetF, sto_np, npAt, np_sh, np_ow, np_no, cm_sh, cm_no, DL.nox, fnM, DL.run,
  frz, full_lst, full_ins, nmN, DL.own, mdf, Sl.put, Sl.mut, Option.bind, cmpD, ltD, leD, gtD, geD, addD, subD, negD, modD, mMakF, mkA, sFldS, putD, fldD, mBinO, mOpO, mCmpO, mEqO, mUnO, mLenO, mSubO, mIxO, mPrp, cand_int, cand_tup, cand_lst, cand_scr, cand_str, cand_bl, cand_non, cand_ins, look0, okY_ii, okY_int, sameC_ii, blD, lenD, eqD, neD, Option.map_some, eqB_int,
  List.map, List.length_cons, List.length_nil, List.getElem?_cons_zero, List.getElem?_cons_succ, List.set_cons_zero, List.set_cons_succ, List.append, List.cons_append, List.nil_append, List.replicate, List.take, Nat.reduceAdd, Nat.reduceSub, Bool.not_true, Bool.not_false, decide_true, decide_false, Bool.false_eq_true, reduceIte, ↓reduceIte, isi_lt, dg_len, c1, c2]
  · simp only [DL.bnd, DL.ret, DL.lft, mVar, mCons, mNil, mCallA, callA, callAF, callB, mCallAF, mCallB, mBin, mUn, mB, mTru, truD, mNot, mAnd, mOr, mBv, mIf, mCb, mChain, mTup, mLst, sSeq, sNx, sIf, sRet, sRetF, sDrop, sSet, sSetF, sto_np, npAt, np_sh, np_ow, np_no, cm_sh, cm_no, DL.nox, fnM, DL.run,
  frz, full_lst, full_ins, nmN, DL.own, mdf, Sl.put, Sl.mut, Option.bind, cmpD, ltD, leD, gtD, geD, addD, subD, negD, modD, mMakF, mkA, sFldS, putD, fldD, mBinO, mOpO, mCmpO, mEqO, mUnO, mLenO, mSubO, mIxO, mPrp, cand_int, cand_tup, cand_lst, cand_scr, cand_str, cand_bl, cand_non, cand_ins, look0, okY_ii, okY_int, sameC_ii, blD, lenD, eqD, neD, Option.map_some, eqB_int,
  List.map, List.length_cons, List.length_nil, List.getElem?_cons_zero, List.getElem?_cons_succ, List.set_cons_zero, List.set_cons_succ, List.append, List.cons_append, List.nil_append, List.replicate, List.take, Nat.reduceAdd, Nat.reduceSub, Bool.not_true, Bool.not_false, decide_true, decide_false, Bool.false_eq_true, reduceIte, ↓reduceIte, e_check_between hb hb2]
end
end LW

set_option Elab.async false
set_option linter.all false
set_option maxRecDepth 100000
set_option maxHeartbeats 400000
namespace LW
open PySem L2 DL
section
variable {P : Int}
theorem md (x : Int) : x % P = x + P * (-(x / P)) := by
  have := Int.mul_ediv_add_emod x P
  rw [Int.mul_neg]
  omega
theorem ma1 (x y : Int) : (x % P + y) % P = (x + y) % P := by
  conv => lhs; rw [md x, show x + P * (-(x / P)) + y = x + y + P * (-(x / P)) from by omega, Int.add_mul_emod_self_left]
theorem ma2 (x y : Int) : (x + y % P) % P = (x + y) % P := by rw [Int.add_comm, ma1, Int.add_comm]
theorem ms1 (x y : Int) : (x % P - y) % P = (x - y) % P := by
  rw [Int.sub_eq_add_neg, ma1, ← Int.sub_eq_add_neg]
theorem mn (x : Int) : (-(x % P)) % P = (-x) % P := by
  conv => lhs; rw [md x, show -(x + P * (-(x / P))) = -x + P * (x / P) from by rw [Int.mul_neg]; omega, Int.add_mul_emod_self_left]
theorem ms2 (x y : Int) : (x - y % P) % P = (x - y) % P := by
  rw [Int.sub_eq_add_neg, ← ma2, mn, ma2, ← Int.sub_eq_add_neg]
theorem mm (x : Int) : x % P % P = x % P := Int.emod_emod_of_dvd x (Int.dvd_refl P)
theorem mu (x y : Int) : (x % P * y) % P = (x * y) % P := by
  conv => lhs; rw [md x, Int.add_mul, Int.mul_assoc P, Int.add_mul_emod_self_left]
theorem mz (x : Int) : (x * P) % P = 0 := by simp
end
theorem mv_or {w : Nat} (m : Int) (hm : 0 ≤ m) : ((w : Int) < m ∧ mv w m = w) ∨ (m ≤ w ∧ ((mv w m : Nat) : Int) = m) := by
  unfold mv
  by_cases h : (w : Int) < m
  · exact .inl ⟨h, if_pos h⟩
  · rw [if_neg h]
    exact .inr ⟨by omega, by omega⟩
section
variable {b : Int} {w : Nat} (hb : 2 ≤ b)
include hb
theorem mv_add (m n : Int) (hm : 0 ≤ m) (hn : 0 ≤ n) : (mv w m + mv w n ≤ w ∧ mv w (m + n) = mv w m + mv w n) ∨ (w ≤ mv w m + mv w n ∧ mv w (m + n) = w) := by
  have h1 := mv_or (w := w) m hm
  have h2 := mv_or (w := w) n hn
  have h3 := mv_or (w := w) (m + n) (by omega)
  omega
theorem shl2 (x m n : Int) (hm : 0 ≤ m) (hn : 0 ≤ n) : (x * b ^ mv w m % b ^ w * b ^ mv w n) % b ^ w = (x * b ^ mv w (m + n)) % b ^ w := by
  rw [mu, Int.mul_assoc, ← Int.pow_add]
  rcases mv_add hb (w := w) m n hm hn with ⟨h, e⟩ | ⟨h, e⟩
  · rw [e]
  · rw [e, mz]
    obtain ⟨k, hk⟩ := Nat.exists_eq_add_of_le h
    rw [hk, Nat.add_comm, Int.pow_add, ← Int.mul_assoc, mz]
theorem shr_lt {x : Int} (x0 : 0 ≤ x) (x1 : x < b ^ w) (k : Nat) : x / b ^ k % b ^ w = x / b ^ k := by
  have hp : 0 < b ^ k := Int.pow_pos (by omega)
  refine Int.emod_eq_of_lt (Int.ediv_nonneg x0 (by omega)) ?_
  have h1 : x / b ^ k ≤ x := Int.ediv_le_self _ x0
  omega
theorem shr2 {x : Int} (x0 : 0 ≤ x) (x1 : x < b ^ w) (m n : Int) (hm : 0 ≤ m) (hn : 0 ≤ n) : (x / b ^ mv w m % b ^ w / b ^ mv w n) % b ^ w = (x / b ^ mv w (m + n)) % b ^ w := by
  have hp : 0 < b ^ mv w m := Int.pow_pos (by omega)
  rw [shr_lt hb x0 x1, Int.ediv_ediv_of_nonneg (by omega), ← Int.pow_add]
  rcases mv_add hb (w := w) m n hm hn with ⟨h, e⟩ | ⟨h, e⟩
  · rw [e]
  · rw [e, shr_lt hb x0 x1, shr_lt hb x0 x1, Int.ediv_eq_zero_of_lt x0 x1, Int.ediv_eq_zero_of_lt x0]
    obtain ⟨k, hk⟩ := Nat.exists_eq_add_of_le h
    rw [hk, Int.pow_add]
    have h1 : 0 < b ^ k := Int.pow_pos (by omega)
    have h2 : 0 < b ^ w := Int.pow_pos (by omega)
    have h3 : b ^ w * 1 ≤ b ^ w * b ^ k := Int.mul_le_mul_of_nonneg_left (by omega) (by omega)
    omega
theorem low_zero (x : Int) (k i : Nat) (hk : k ≤ w) (hi : i < k) : dig b (x * b ^ k % b ^ w) i = 0 := by
  unfold dig
  have hp : 0 < b ^ i := Int.pow_pos (by omega)
  obtain ⟨c, hc⟩ := Nat.exists_eq_add_of_le (show i + 1 ≤ k by omega)
  obtain ⟨d, hd⟩ := Nat.exists_eq_add_of_le (show i + 1 ≤ w by omega)
  have d1 : b ^ (i + 1) ∣ x * b ^ k := ⟨x * b ^ c, by rw [hc, Int.pow_add, Int.mul_left_comm]⟩
  have d2 : b ^ (i + 1) ∣ b ^ w := ⟨b ^ d, by rw [hd, Int.pow_add]⟩
  obtain ⟨t, ht⟩ : b ^ (i + 1) ∣ x * b ^ k % b ^ w := by
    rw [md (x * b ^ k)]
    exact Int.dvd_add d1 (Int.dvd_trans d2 (Int.dvd_mul_right ..))
  rw [ht, Int.pow_succ, Int.mul_assoc, Int.mul_ediv_cancel_left _ (by omega)]
  exact Int.mul_emod_right ..
end
end LW

set_option Elab.async false
set_option linter.all false
set_option maxRecDepth 100000
set_option maxHeartbeats 1000000
namespace LW
open PySem L2 DL
section
variable {b : Int} {w : Nat} (hb : 2 ≤ b) (hb2 : b ≤ 36) (hw : 1 ≤ w) (hw2 : w ≤ 40)
theorem if_four {c1 c2 c3 c4 : M Bool} {X : S} {env : En} (h1 : c1 env = .ok false env) (h2 : c2 env = .ok false env) (h3 : c3 env = .ok false env) (h4 : c4 env = .ok false env) : sIf (mOr c1 (mOr c2 (mOr c3 c4))) X sNx env = .ok .nx env := by
  simp only [sIf, mOr, DL.bnd, h1, h2, h3, h4, Bool.false_eq_true, if_false, sNx, DL.ret]
theorem ten50 : ∃ N : Int, (∀ env, pw_10_50 env = .ok (.int N) env) ∧ 40 < N := ⟨10 ^ 50, fun _ => rfl, by decide⟩
theorem md_lo (hb : 2 ≤ b) (x : Int) : 0 ≤ x % b ^ w := Int.emod_nonneg x (by have := pow_pos' hb w; omega)
theorem md_hi (hb : 2 ≤ b) (x : Int) : x % b ^ w < b ^ w := Int.emod_lt_of_pos x (pow_pos' hb w)
theorem E_eq (hb : 2 ≤ b) (x y : Int) : F_Word_eq [.sh (Wd b w (x % b ^ w)), .sh (Wd b w (y % b ^ w))] = .ok (.rt (.bl (decide (x % b ^ w = y % b ^ w)))) [.sh (Wd b w (x % b ^ w)), .sh (Wd b w (y % b ^ w))] :=
  e_eq hb (md_lo hb x) (md_hi hb x) (md_lo hb y) (md_hi hb y)
include hb hb2 hw hw2
theorem E_shl (x m : Int) (hm : 0 ≤ m) : F_Word_lshift [.sh (Wd b w (x % b ^ w)), .sh (.int m)] = .ok (.rt (Wd b w ((x % b ^ w * b ^ mv w m) % b ^ w))) [.sh (Wd b w (x % b ^ w)), .sh (.int m)] :=
  e_shl hb hb2 hw hw2 (md_lo hb x) (md_hi hb x) m hm
variable (scr k pool : D) (va vb vc m n : Int) (x6 x12 x13 x14 : Sl)
theorem l6 : m_law_6 [.sh scr, .sh k, .ow pool, .sh (.int b), .sh (.int w), .sh (.int (b ^ w)), x6, .sh (Wd b w (va % b ^ w)), .sh (Wd b w (vb % b ^ w)), .sh (Wd b w (vc % b ^ w)), .sh (Wd b w (0 % b ^ w)), .sh (Wd b w (1 % b ^ w)), x12, x13, x14] =
    .ok .nx [.sh scr, .sh k, .ow pool, .sh (.int b), .sh (.int w), .sh (.int (b ^ w)), x6, .sh (Wd b w (va % b ^ w)), .sh (Wd b w (vb % b ^ w)), .sh (Wd b w (vc % b ^ w)), .sh (Wd b w (0 % b ^ w)), .sh (Wd b w (1 % b ^ w)), x12, x13, x14] := by
  have h1 : (va % b ^ w + vb % b ^ w) % b ^ w = (vb % b ^ w + va % b ^ w) % b ^ w := by rw [Int.add_comm]
  have h2 : ((va % b ^ w + vb % b ^ w) % b ^ w + vc % b ^ w) % b ^ w = (va % b ^ w + (vb % b ^ w + vc % b ^ w) % b ^ w) % b ^ w := by simp only [ma1, ma2, Int.add_assoc]
  have h3 : ((va % b ^ w + vb % b ^ w) % b ^ w - vb % b ^ w) % b ^ w = va % b ^ w := by simp only [ma1, ma2, ms1, ms2]; congr 1; omega
  have h4 : (va % b ^ w + (-(va % b ^ w)) % b ^ w) % b ^ w = 0 % b ^ w := by simp only [ma1, ma2, mn]; congr 1; omega
  have h5 : (va % b ^ w - vb % b ^ w) % b ^ w = (va % b ^ w + (-(vb % b ^ w)) % b ^ w) % b ^ w := by simp only [ma1, ma2, ms1, ms2, mn]; congr 1
  simp only [DL.bnd, DL.ret, DL.lft, mVar, mCons, mNil, mCallA, callA, callAF, callB, mCallAF, mCallB, mBin, mUn, mB, mTru, truD, mNot, mAnd, mOr, mBv, mIf, mCb, mChain, mTup, mLst, sSeq, sNx, sIf, sRet, sRetF, sDrop, sSet, sSetF, sto_np, npAt, np_sh, np_ow, np_no, cm_sh, cm_no, DL.nox, fnM, DL.run,
  frz, full_lst, full_ins, nmN, DL.own, mdf, Sl.put, Sl.mut, Option.bind, cmpD, ltD, leD, gtD, geD, addD, subD, negD, modD, mMakF, mkA, sFldS, putD, fldD, mBinO, mOpO, mCmpO, mEqO, mUnO, mLenO, mSubO, mIxO, mPrp, cand_int, cand_tup, cand_lst, cand_scr, cand_str, cand_bl, cand_non, cand_ins, look0, okY_ii, okY_int, sameC_ii, blD, lenD, eqD, neD, Option.map_some, eqB_int,
  List.map, List.length_cons, List.length_nil, List.getElem?_cons_zero, List.getElem?_cons_succ, List.set_cons_zero, List.set_cons_succ, List.append, List.cons_append, List.nil_append, List.replicate, List.take, Nat.reduceAdd, Nat.reduceSub, Bool.not_true, Bool.not_false, decide_true, decide_false, Bool.false_eq_true, reduceIte, ↓reduceIte, m_law_6, e_add hb hb2 hw hw2, e_sub hb hb2 hw hw2, e_neg hb hb2 hw hw2, E_eq hb, decide_eq_true h1, decide_eq_true h2, decide_eq_true h3, decide_eq_true h4, decide_eq_true h5, bne_self_eq_false]
theorem l7 : m_law_7 [.sh scr, .sh k, .ow pool, .sh (.int b), .sh (.int w), .sh (.int (b ^ w)), x6, .sh (Wd b w (va % b ^ w)), .sh (Wd b w (vb % b ^ w)), .sh (Wd b w (vc % b ^ w)), .sh (Wd b w (0 % b ^ w)), .sh (Wd b w (1 % b ^ w)), x12, x13, x14] =
    .ok .nx [.sh scr, .sh k, .ow pool, .sh (.int b), .sh (.int w), .sh (.int (b ^ w)), x6, .sh (Wd b w (va % b ^ w)), .sh (Wd b w (vb % b ^ w)), .sh (Wd b w (vc % b ^ w)), .sh (Wd b w (0 % b ^ w)), .sh (Wd b w (1 % b ^ w)), x12, x13, x14] := by
  have h1 : ((-(va % b ^ w)) % b ^ w - 1 % b ^ w) % b ^ w = (-1 - va % b ^ w) % b ^ w := by simp only [ms1, ms2, mn]; congr 1; omega
  have h2 : (-1 - (-1 - va % b ^ w) % b ^ w) % b ^ w = va % b ^ w := by simp only [ms1, ms2, mn]; congr 1; omega
  have h3 : (-((va % b ^ w + vb % b ^ w) % b ^ w)) % b ^ w = ((-(va % b ^ w)) % b ^ w - vb % b ^ w) % b ^ w := by
    rw [mn]
    have e : -(va % b ^ w + vb % b ^ w) = -(va % b ^ w) - vb % b ^ w := by omega
    rw [e, ms1]
  have h4 : (va % b ^ w + 0 % b ^ w) % b ^ w = va % b ^ w := by simp only [ma1, ma2]; congr 1; omega
  have h5 : ((va % b ^ w + (-1 - vb % b ^ w) % b ^ w) % b ^ w + 1 % b ^ w) % b ^ w = (va % b ^ w - vb % b ^ w) % b ^ w := by
    rw [ma2, ma1, Int.add_right_comm, ma2]
    congr 1
    omega
  simp only [DL.bnd, DL.ret, DL.lft, mVar, mCons, mNil, mCallA, callA, callAF, callB, mCallAF, mCallB, mBin, mUn, mB, mTru, truD, mNot, mAnd, mOr, mBv, mIf, mCb, mChain, mTup, mLst, sSeq, sNx, sIf, sRet, sRetF, sDrop, sSet, sSetF, sto_np, npAt, np_sh, np_ow, np_no, cm_sh, cm_no, DL.nox, fnM, DL.run,
  frz, full_lst, full_ins, nmN, DL.own, mdf, Sl.put, Sl.mut, Option.bind, cmpD, ltD, leD, gtD, geD, addD, subD, negD, modD, mMakF, mkA, sFldS, putD, fldD, mBinO, mOpO, mCmpO, mEqO, mUnO, mLenO, mSubO, mIxO, mPrp, cand_int, cand_tup, cand_lst, cand_scr, cand_str, cand_bl, cand_non, cand_ins, look0, okY_ii, okY_int, sameC_ii, blD, lenD, eqD, neD, Option.map_some, eqB_int,
  List.map, List.length_cons, List.length_nil, List.getElem?_cons_zero, List.getElem?_cons_succ, List.set_cons_zero, List.set_cons_succ, List.append, List.cons_append, List.nil_append, List.replicate, List.take, Nat.reduceAdd, Nat.reduceSub, Bool.not_true, Bool.not_false, decide_true, decide_false, Bool.false_eq_true, reduceIte, ↓reduceIte, m_law_7, e_add hb hb2 hw hw2, e_sub hb hb2 hw hw2, e_neg hb hb2 hw hw2, e_inv hb hb2 hw hw2, E_eq hb, decide_eq_true h1, decide_eq_true h2, decide_eq_true h3, decide_eq_true h4, decide_eq_true h5, bne_self_eq_false]
theorem mv_zero : mv w 0 = 0 := by
  unfold mv
  rw [if_neg (by omega)]
  rfl
theorem l9 (hm : 0 ≤ m) (hn : 0 ≤ n) : m_law_9 [.sh scr, .sh k, .ow pool, .sh (.int b), .sh (.int w), .sh (.int (b ^ w)), x6, .sh (Wd b w (va % b ^ w)), .sh (Wd b w (vb % b ^ w)), .sh (Wd b w (vc % b ^ w)), .sh (Wd b w (0 % b ^ w)), .sh (Wd b w (1 % b ^ w)), .sh (.int m), .sh (.int n), x14] =
    .ok .nx [.sh scr, .sh k, .ow pool, .sh (.int b), .sh (.int w), .sh (.int (b ^ w)), x6, .sh (Wd b w (va % b ^ w)), .sh (Wd b w (vb % b ^ w)), .sh (Wd b w (vc % b ^ w)), .sh (Wd b w (0 % b ^ w)), .sh (Wd b w (1 % b ^ w)), .sh (.int m), .sh (.int n), x14] := by
  have x0 := md_lo (w := w) hb va
  have x1 := md_hi (w := w) hb va
  have h1 := shl2 (w := w) hb (va % b ^ w) m n hm hn
  have h2 := shr2 (w := w) hb x0 x1 m n hm hn
  have h3 : ((va % b ^ w + vb % b ^ w) % b ^ w * b ^ mv w m) % b ^ w = ((va % b ^ w * b ^ mv w m) % b ^ w + (vb % b ^ w * b ^ mv w m) % b ^ w) % b ^ w := by simp only [ma1, ma2, mu, Int.add_mul]
  have mn0 : 0 ≤ m + n := by omega
  simp only [DL.bnd, DL.ret, DL.lft, mVar, mCons, mNil, mCallA, callA, callAF, callB, mCallAF, mCallB, mBin, mUn, mB, mTru, truD, mNot, mAnd, mOr, mBv, mIf, mCb, mChain, mTup, mLst, sSeq, sNx, sIf, sRet, sRetF, sDrop, sSet, sSetF, sto_np, npAt, np_sh, np_ow, np_no, cm_sh, cm_no, DL.nox, fnM, DL.run,
  frz, full_lst, full_ins, nmN, DL.own, mdf, Sl.put, Sl.mut, Option.bind, cmpD, ltD, leD, gtD, geD, addD, subD, negD, modD, mMakF, mkA, sFldS, putD, fldD, mBinO, mOpO, mCmpO, mEqO, mUnO, mLenO, mSubO, mIxO, mPrp, cand_int, cand_tup, cand_lst, cand_scr, cand_str, cand_bl, cand_non, cand_ins, look0, okY_ii, okY_int, sameC_ii, blD, lenD, eqD, neD, Option.map_some, eqB_int,
  List.map, List.length_cons, List.length_nil, List.getElem?_cons_zero, List.getElem?_cons_succ, List.set_cons_zero, List.set_cons_succ, List.append, List.cons_append, List.nil_append, List.replicate, List.take, Nat.reduceAdd, Nat.reduceSub, Bool.not_true, Bool.not_false, decide_true, decide_false, Bool.false_eq_true, reduceIte, ↓reduceIte, m_law_9, e_add hb hb2 hw hw2, E_shl hb hb2 hw hw2 _ _ hm, E_shl hb hb2 hw hw2 _ _ hn, E_shl hb hb2 hw hw2 _ _ mn0, e_shr hb hb2 hw hw2 _ hm, e_shr hb hb2 hw hw2 _ hn, e_shr hb hb2 hw hw2 _ mn0, E_eq hb, decide_eq_true h1, decide_eq_true h2, decide_eq_true h3, bne_self_eq_false]
theorem l14c1 (q : M D) (N : Int) (pw : q [.sh scr, .sh k, .ow pool, .sh (.int b), .sh (.int w), .sh (.int (b ^ w)), x6, .sh (Wd b w (va % b ^ w)), .sh (Wd b w (vb % b ^ w)), .sh (Wd b w (vc % b ^ w)), .sh (Wd b w (0 % b ^ w)), .sh (Wd b w (1 % b ^ w)), .sh (.int m), .sh (.int n), x14] = .ok (.int N) [.sh scr, .sh k, .ow pool, .sh (.int b), .sh (.int w), .sh (.int (b ^ w)), x6, .sh (Wd b w (va % b ^ w)), .sh (Wd b w (vb % b ^ w)), .sh (Wd b w (vc % b ^ w)), .sh (Wd b w (0 % b ^ w)), .sh (Wd b w (1 % b ^ w)), .sh (.int m), .sh (.int n), x14]) (hN : 40 < N) : mB (mCmpO [(0, F_Word_eq)] true neD (mBinO [(0, F_Word_lshift)] (fun _ _ => none) (mVar 7) q) (mVar 10)) [.sh scr, .sh k, .ow pool, .sh (.int b), .sh (.int w), .sh (.int (b ^ w)), x6, .sh (Wd b w (va % b ^ w)), .sh (Wd b w (vb % b ^ w)), .sh (Wd b w (vc % b ^ w)), .sh (Wd b w (0 % b ^ w)), .sh (Wd b w (1 % b ^ w)), .sh (.int m), .sh (.int n), x14] = .ok false [.sh scr, .sh k, .ow pool, .sh (.int b), .sh (.int w), .sh (.int (b ^ w)), x6, .sh (Wd b w (va % b ^ w)), .sh (Wd b w (vb % b ^ w)), .sh (Wd b w (vc % b ^ w)), .sh (Wd b w (0 % b ^ w)), .sh (Wd b w (1 % b ^ w)), .sh (.int m), .sh (.int n), x14] := by
  have x0 := md_lo (w := w) hb va
  have x1 := md_hi (w := w) hb va
  have big : mv w N = w := by
    unfold mv
    rw [if_pos (by omega)]
  have z : (0 : Int) ≤ N := by omega
  have z0 : (0 : Int) ≤ 0 := by decide
  have h1 : (va % b ^ w * b ^ mv w N) % b ^ w = 0 % b ^ w := by rw [big, mz, Int.zero_emod]
  simp only [DL.bnd, DL.ret, DL.lft, mVar, mCons, mNil, mCallA, callA, callAF, callB, mCallAF, mCallB, mBin, mUn, mB, mTru, truD, mNot, mAnd, mOr, mBv, mIf, mCb, mChain, mTup, mLst, sSeq, sNx, sIf, sRet, sRetF, sDrop, sSet, sSetF, sto_np, npAt, np_sh, np_ow, np_no, cm_sh, cm_no, DL.nox, fnM, DL.run,
  frz, full_lst, full_ins, nmN, DL.own, mdf, Sl.put, Sl.mut, Option.bind, cmpD, ltD, leD, gtD, geD, addD, subD, negD, modD, mMakF, mkA, sFldS, putD, fldD, mBinO, mOpO, mCmpO, mEqO, mUnO, mLenO, mSubO, mIxO, mPrp, cand_int, cand_tup, cand_lst, cand_scr, cand_str, cand_bl, cand_non, cand_ins, look0, okY_ii, okY_int, sameC_ii, blD, lenD, eqD, neD, Option.map_some, eqB_int,
  List.map, List.length_cons, List.length_nil, List.getElem?_cons_zero, List.getElem?_cons_succ, List.set_cons_zero, List.set_cons_succ, List.append, List.cons_append, List.nil_append, List.replicate, List.take, Nat.reduceAdd, Nat.reduceSub, Bool.not_true, Bool.not_false, decide_true, decide_false, Bool.false_eq_true, reduceIte, ↓reduceIte, pw, E_shl hb hb2 hw hw2 _ _ z, E_eq hb, decide_eq_true h1, bne_self_eq_false]
theorem l14c2 (q : M D) (N : Int) (pw : q [.sh scr, .sh k, .ow pool, .sh (.int b), .sh (.int w), .sh (.int (b ^ w)), x6, .sh (Wd b w (va % b ^ w)), .sh (Wd b w (vb % b ^ w)), .sh (Wd b w (vc % b ^ w)), .sh (Wd b w (0 % b ^ w)), .sh (Wd b w (1 % b ^ w)), .sh (.int m), .sh (.int n), x14] = .ok (.int N) [.sh scr, .sh k, .ow pool, .sh (.int b), .sh (.int w), .sh (.int (b ^ w)), x6, .sh (Wd b w (va % b ^ w)), .sh (Wd b w (vb % b ^ w)), .sh (Wd b w (vc % b ^ w)), .sh (Wd b w (0 % b ^ w)), .sh (Wd b w (1 % b ^ w)), .sh (.int m), .sh (.int n), x14]) (hN : 40 < N) : mB (mCmpO [(0, F_Word_eq)] true neD (mBinO [(0, F_Word_rshift)] (fun _ _ => none) (mVar 7) q) (mVar 10)) [.sh scr, .sh k, .ow pool, .sh (.int b), .sh (.int w), .sh (.int (b ^ w)), x6, .sh (Wd b w (va % b ^ w)), .sh (Wd b w (vb % b ^ w)), .sh (Wd b w (vc % b ^ w)), .sh (Wd b w (0 % b ^ w)), .sh (Wd b w (1 % b ^ w)), .sh (.int m), .sh (.int n), x14] = .ok false [.sh scr, .sh k, .ow pool, .sh (.int b), .sh (.int w), .sh (.int (b ^ w)), x6, .sh (Wd b w (va % b ^ w)), .sh (Wd b w (vb % b ^ w)), .sh (Wd b w (vc % b ^ w)), .sh (Wd b w (0 % b ^ w)), .sh (Wd b w (1 % b ^ w)), .sh (.int m), .sh (.int n), x14] := by
  have x0 := md_lo (w := w) hb va
  have x1 := md_hi (w := w) hb va
  have big : mv w N = w := by
    unfold mv
    rw [if_pos (by omega)]
  have z : (0 : Int) ≤ N := by omega
  have z0 : (0 : Int) ≤ 0 := by decide
  have h2 : (va % b ^ w / b ^ mv w N) % b ^ w = 0 % b ^ w := by rw [big, Int.ediv_eq_zero_of_lt x0 x1]
  simp only [DL.bnd, DL.ret, DL.lft, mVar, mCons, mNil, mCallA, callA, callAF, callB, mCallAF, mCallB, mBin, mUn, mB, mTru, truD, mNot, mAnd, mOr, mBv, mIf, mCb, mChain, mTup, mLst, sSeq, sNx, sIf, sRet, sRetF, sDrop, sSet, sSetF, sto_np, npAt, np_sh, np_ow, np_no, cm_sh, cm_no, DL.nox, fnM, DL.run,
  frz, full_lst, full_ins, nmN, DL.own, mdf, Sl.put, Sl.mut, Option.bind, cmpD, ltD, leD, gtD, geD, addD, subD, negD, modD, mMakF, mkA, sFldS, putD, fldD, mBinO, mOpO, mCmpO, mEqO, mUnO, mLenO, mSubO, mIxO, mPrp, cand_int, cand_tup, cand_lst, cand_scr, cand_str, cand_bl, cand_non, cand_ins, look0, okY_ii, okY_int, sameC_ii, blD, lenD, eqD, neD, Option.map_some, eqB_int,
  List.map, List.length_cons, List.length_nil, List.getElem?_cons_zero, List.getElem?_cons_succ, List.set_cons_zero, List.set_cons_succ, List.append, List.cons_append, List.nil_append, List.replicate, List.take, Nat.reduceAdd, Nat.reduceSub, Bool.not_true, Bool.not_false, decide_true, decide_false, Bool.false_eq_true, reduceIte, ↓reduceIte, pw, e_shr hb hb2 hw hw2 _ z, E_eq hb, decide_eq_true h2, bne_self_eq_false]
theorem l14c3  : mB (mCmpO [(0, F_Word_eq)] true neD (mBinO [(0, F_Word_lshift)] (fun _ _ => none) (mVar 7) (DL.ret (.int 0))) (mVar 7)) [.sh scr, .sh k, .ow pool, .sh (.int b), .sh (.int w), .sh (.int (b ^ w)), x6, .sh (Wd b w (va % b ^ w)), .sh (Wd b w (vb % b ^ w)), .sh (Wd b w (vc % b ^ w)), .sh (Wd b w (0 % b ^ w)), .sh (Wd b w (1 % b ^ w)), .sh (.int m), .sh (.int n), x14] = .ok false [.sh scr, .sh k, .ow pool, .sh (.int b), .sh (.int w), .sh (.int (b ^ w)), x6, .sh (Wd b w (va % b ^ w)), .sh (Wd b w (vb % b ^ w)), .sh (Wd b w (vc % b ^ w)), .sh (Wd b w (0 % b ^ w)), .sh (Wd b w (1 % b ^ w)), .sh (.int m), .sh (.int n), x14] := by
  have x0 := md_lo (w := w) hb va
  have x1 := md_hi (w := w) hb va
  have z0 : (0 : Int) ≤ 0 := by decide
  have h3 : (va % b ^ w * b ^ mv w 0) % b ^ w = va % b ^ w := by rw [mv_zero hb hb2 hw hw2, Int.pow_zero, Int.mul_one, mm]
  simp only [DL.bnd, DL.ret, DL.lft, mVar, mCons, mNil, mCallA, callA, callAF, callB, mCallAF, mCallB, mBin, mUn, mB, mTru, truD, mNot, mAnd, mOr, mBv, mIf, mCb, mChain, mTup, mLst, sSeq, sNx, sIf, sRet, sRetF, sDrop, sSet, sSetF, sto_np, npAt, np_sh, np_ow, np_no, cm_sh, cm_no, DL.nox, fnM, DL.run,
  frz, full_lst, full_ins, nmN, DL.own, mdf, Sl.put, Sl.mut, Option.bind, cmpD, ltD, leD, gtD, geD, addD, subD, negD, modD, mMakF, mkA, sFldS, putD, fldD, mBinO, mOpO, mCmpO, mEqO, mUnO, mLenO, mSubO, mIxO, mPrp, cand_int, cand_tup, cand_lst, cand_scr, cand_str, cand_bl, cand_non, cand_ins, look0, okY_ii, okY_int, sameC_ii, blD, lenD, eqD, neD, Option.map_some, eqB_int,
  List.map, List.length_cons, List.length_nil, List.getElem?_cons_zero, List.getElem?_cons_succ, List.set_cons_zero, List.set_cons_succ, List.append, List.cons_append, List.nil_append, List.replicate, List.take, Nat.reduceAdd, Nat.reduceSub, Bool.not_true, Bool.not_false, decide_true, decide_false, Bool.false_eq_true, reduceIte, ↓reduceIte, E_shl hb hb2 hw hw2 _ _ z0, E_eq hb, decide_eq_true h3, bne_self_eq_false]
theorem l14c4  : mB (mCmpO [(0, F_Word_eq)] true neD (mBinO [(0, F_Word_rshift)] (fun _ _ => none) (mVar 7) (DL.ret (.int 0))) (mVar 7)) [.sh scr, .sh k, .ow pool, .sh (.int b), .sh (.int w), .sh (.int (b ^ w)), x6, .sh (Wd b w (va % b ^ w)), .sh (Wd b w (vb % b ^ w)), .sh (Wd b w (vc % b ^ w)), .sh (Wd b w (0 % b ^ w)), .sh (Wd b w (1 % b ^ w)), .sh (.int m), .sh (.int n), x14] = .ok false [.sh scr, .sh k, .ow pool, .sh (.int b), .sh (.int w), .sh (.int (b ^ w)), x6, .sh (Wd b w (va % b ^ w)), .sh (Wd b w (vb % b ^ w)), .sh (Wd b w (vc % b ^ w)), .sh (Wd b w (0 % b ^ w)), .sh (Wd b w (1 % b ^ w)), .sh (.int m), .sh (.int n), x14] := by
  have x0 := md_lo (w := w) hb va
  have x1 := md_hi (w := w) hb va
  have z0 : (0 : Int) ≤ 0 := by decide
  have h4 : (va % b ^ w / b ^ mv w 0) % b ^ w = va % b ^ w := by rw [mv_zero hb hb2 hw hw2, Int.pow_zero, Int.ediv_one, mm]

  simp only [DL.bnd, DL.ret, DL.lft, mVar, mCons, mNil, mCallA, callA, callAF, callB, mCallAF, mCallB, mBin, mUn, mB, mTru, truD, mNot, mAnd, mOr, mBv, mIf, mCb, mChain, mTup, mLst, sSeq, sNx, sIf, sRet, sRetF, sDrop, sSet, sSetF, sto_np, npAt, np_sh, np_ow, np_no, cm_sh, cm_no, DL.nox, fnM, DL.run,
  frz, full_lst, full_ins, nmN, DL.own, mdf, Sl.put, Sl.mut, Option.bind, cmpD, ltD, leD, gtD, geD, addD, subD, negD, modD, mMakF, mkA, sFldS, putD, fldD, mBinO, mOpO, mCmpO, mEqO, mUnO, mLenO, mSubO, mIxO, mPrp, cand_int, cand_tup, cand_lst, cand_scr, cand_str, cand_bl, cand_non, cand_ins, look0, okY_ii, okY_int, sameC_ii, blD, lenD, eqD, neD, Option.map_some, eqB_int,
  List.map, List.length_cons, List.length_nil, List.getElem?_cons_zero, List.getElem?_cons_succ, List.set_cons_zero, List.set_cons_succ, List.append, List.cons_append, List.nil_append, List.replicate, List.take, Nat.reduceAdd, Nat.reduceSub, Bool.not_true, Bool.not_false, decide_true, decide_false, Bool.false_eq_true, reduceIte, ↓reduceIte, e_shr hb hb2 hw hw2 _ z0, E_eq hb, decide_eq_true h4, bne_self_eq_false]
theorem l14 : m_law_14 [.sh scr, .sh k, .ow pool, .sh (.int b), .sh (.int w), .sh (.int (b ^ w)), x6, .sh (Wd b w (va % b ^ w)), .sh (Wd b w (vb % b ^ w)), .sh (Wd b w (vc % b ^ w)), .sh (Wd b w (0 % b ^ w)), .sh (Wd b w (1 % b ^ w)), .sh (.int m), .sh (.int n), x14] = .ok .nx [.sh scr, .sh k, .ow pool, .sh (.int b), .sh (.int w), .sh (.int (b ^ w)), x6, .sh (Wd b w (va % b ^ w)), .sh (Wd b w (vb % b ^ w)), .sh (Wd b w (vc % b ^ w)), .sh (Wd b w (0 % b ^ w)), .sh (Wd b w (1 % b ^ w)), .sh (.int m), .sh (.int n), x14] := by
  obtain ⟨N, pw, hN⟩ := ten50
  exact if_four (l14c1 hb hb2 hw hw2 (q := pw_10_50) (N := N) (pw := pw _) (hN := hN) ..) (l14c2 hb hb2 hw hw2 (q := pw_10_50) (N := N) (pw := pw _) (hN := hN) ..) (l14c3 hb hb2 hw hw2 ..) (l14c4 hb hb2 hw hw2 ..)
theorem mv_one : mv w 1 = 1 := by
  unfold mv
  rw [if_neg (by omega)]
  rfl
theorem l13 : m_law_13 [.sh scr, .sh k, .ow pool, .sh (.int b), .sh (.int w), .sh (.int (b ^ w)), x6, .sh (Wd b w (va % b ^ w)), .sh (Wd b w (vb % b ^ w)), .sh (Wd b w (vc % b ^ w)), .sh (Wd b w (0 % b ^ w)), .sh (Wd b w (1 % b ^ w)), .sh (.int m), .sh (.int n), .sh (Wd b w (va % b ^ w * b ^ mv w 1 % b ^ w))] =
    .ok .nx [.sh scr, .sh k, .ow pool, .sh (.int b), .sh (.int w), .sh (.int (b ^ w)), x6, .sh (Wd b w (va % b ^ w)), .sh (Wd b w (vb % b ^ w)), .sh (Wd b w (vc % b ^ w)), .sh (Wd b w (0 % b ^ w)), .sh (Wd b w (1 % b ^ w)), .sh (.int m), .sh (.int n), .sh (Wd b w (va % b ^ w * b ^ mv w 1 % b ^ w))] := by
  have x0 := md_lo (w := w) hb va
  have x1 := md_hi (w := w) hb va
  have z1 : (0 : Int) ≤ 1 := by decide
  have h3 : (va % b ^ w + b ^ w) % b ^ w = va % b ^ w := by rw [Int.add_emod_right, mm]
  have l : listD [.tup (dg b w (va % b ^ w))] = some (.lst (dg b w (va % b ^ w))) := rfl
  have t0 : decide (va % b ^ w * b ^ mv w 1 % b ^ w = va % b ^ w * b ^ mv w 1 % b ^ w) = true := decide_eq_true rfl
  have t1 : decide (va % b ^ w = va % b ^ w) = true := decide_eq_true rfl
  simp only [DL.bnd, DL.ret, DL.lft, mVar, mCons, mNil, mCallA, callA, callAF, callB, mCallAF, mCallB, mBin, mUn, mB, mTru, truD, mNot, mAnd, mOr, mBv, mIf, mCb, mChain, mTup, mLst, sSeq, sNx, sIf, sRet, sRetF, sDrop, sSet, sSetF, sto_np, npAt, np_sh, np_ow, np_no, cm_sh, cm_no, DL.nox, fnM, DL.run,
  frz, full_lst, full_ins, nmN, DL.own, mdf, Sl.put, Sl.mut, Option.bind, cmpD, ltD, leD, gtD, geD, addD, subD, negD, modD, mMakF, mkA, sFldS, putD, fldD, mBinO, mOpO, mCmpO, mEqO, mUnO, mLenO, mSubO, mIxO, mPrp, cand_int, cand_tup, cand_lst, cand_scr, cand_str, cand_bl, cand_non, cand_ins, look0, okY_ii, okY_int, sameC_ii, blD, lenD, eqD, neD, Option.map_some, eqB_int,
  List.map, List.length_cons, List.length_nil, List.getElem?_cons_zero, List.getElem?_cons_succ, List.set_cons_zero, List.set_cons_succ, List.append, List.cons_append, List.nil_append, List.replicate, List.take, Nat.reduceAdd, Nat.reduceSub, Bool.not_true, Bool.not_false, decide_true, decide_false, Bool.false_eq_true, reduceIte, ↓reduceIte, m_law_13, mCme, l, e_digits_p, e_number_p, e_of hb hb2 hw hw2 x0 x1, e_init hb hb2 hw hw2, dg_len, beq_self_eq_true, E_shl hb hb2 hw hw2 _ _ z1, E_eq hb, t0, t1, decide_eq_true h3, bne_self_eq_false]
end
end LW

set_option Elab.async false
set_option linter.all false
set_option maxRecDepth 100000
set_option maxHeartbeats 1000000
namespace LW
open PySem L2 DL
section
variable (ns : List Int) (k : Nat) (x2 x3 x4 x5 x6 x7 x8 x9 x10 x11 x12 x13 x14 : Sl)
theorem l1 (hk : k < 1000) (h2 : np x2 = true) : ∃ p q, m_law_1 [.sh (.scr ns), .sh (.int (k : Int)), x2, x3, x4, x5, x6, x7, x8, x9, x10, x11, x12, x13, x14] = .ok .nx [.sh (.scr ns), .sh (.int (k : Int)), .ow (Pl p q), x3, x4, x5, x6, x7, x8, x9, x10, x11, x12, x13, x14] := by
  obtain ⟨p, q, _, e⟩ := e_pool ns k hk
  refine ⟨p, q, ?_⟩
  simp only [DL.bnd, DL.ret, DL.lft, mVar, mCons, mNil, mCallA, callA, callAF, callB, mCallAF, mCallB, mBin, mUn, mB, mTru, truD, mNot, mAnd, mOr, mBv, mIf, mCb, mChain, mTup, mLst, sSeq, sNx, sIf, sRet, sRetF, sDrop, sSet, sSetF, sto_np, npAt, np_sh, np_ow, np_no, cm_sh, cm_no, DL.nox, fnM, DL.run,
  frz, full_lst, full_ins, nmN, DL.own, mdf, Sl.put, Sl.mut, Option.bind, cmpD, ltD, leD, gtD, geD, addD, subD, negD, modD, mMakF, mkA, sFldS, putD, fldD, mBinO, mOpO, mCmpO, mEqO, mUnO, mLenO, mSubO, mIxO, mPrp, cand_int, cand_tup, cand_lst, cand_scr, cand_str, cand_bl, cand_non, cand_ins, look0, okY_ii, okY_int, sameC_ii, blD, lenD, eqD, neD, Option.map_some, eqB_int,
  List.map, List.length_cons, List.length_nil, List.getElem?_cons_zero, List.getElem?_cons_succ, List.set_cons_zero, List.set_cons_succ, List.append, List.cons_append, List.nil_append, List.replicate, List.take, Nat.reduceAdd, Nat.reduceSub, Bool.not_true, Bool.not_false, decide_true, decide_false, Bool.false_eq_true, reduceIte, ↓reduceIte, m_law_1, e, h2]
theorem l2 (scr kd : D) (p q : Int) (h3 : np x3 = true) (h4 : np x4 = true) : ∃ (b : Int) (w : Nat) (p' q' : Int), 2 ≤ b ∧ b ≤ 36 ∧ 1 ≤ w ∧ w ≤ 40 ∧ m_law_2 [.sh scr, .sh kd, .ow (Pl p q), x3, x4, x5, x6, x7, x8, x9, x10, x11, x12, x13, x14] = .ok .nx [.sh scr, .sh kd, .ow (Pl p' q'), .sh (.int b), .sh (.int (w : Int)), x5, x6, x7, x8, x9, x10, x11, x12, x13, x14] := by
  have t35 := fun p q => e_take p q 35 (by decide) (by decide)
  have t40 := fun p q => e_take p q 40 (by decide) (by decide)
  have a0 := tkV_lo (p := p) (q := q) (n := 35) (by decide)
  have a1 := tkV_hi (p := p) (q := q) (n := 35) (by decide)
  have c0 := tkV_lo (p := tkP p q 35) (q := tkQ p q 35) (n := 40) (by decide)
  have c1 := tkV_hi (p := tkP p q 35) (q := tkQ p q 35) (n := 40) (by decide)
  obtain ⟨w, hw⟩ := Int.eq_ofNat_of_zero_le (show 0 ≤ 1 + tkV (tkP p q 35) (tkQ p q 35) 40 by omega)
  refine ⟨2 + tkV p q 35, w, tkP (tkP p q 35) (tkQ p q 35) 40, tkQ (tkP p q 35) (tkQ p q 35) 40, by omega, by omega, by omega, by omega, ?_⟩
  have sm : small 2 = true := rfl
  rw [← hw]
  simp only [DL.bnd, DL.ret, DL.lft, mVar, mCons, mNil, mCallA, callA, callAF, callB, mCallAF, mCallB, mBin, mUn, mB, mTru, truD, mNot, mAnd, mOr, mBv, mIf, mCb, mChain, mTup, mLst, sSeq, sNx, sIf, sRet, sRetF, sDrop, sSet, sSetF, sto_np, npAt, np_sh, np_ow, np_no, cm_sh, cm_no, DL.nox, fnM, DL.run,
  frz, full_lst, full_ins, nmN, DL.own, mdf, Sl.put, Sl.mut, Option.bind, cmpD, ltD, leD, gtD, geD, addD, subD, negD, modD, mMakF, mkA, sFldS, putD, fldD, mBinO, mOpO, mCmpO, mEqO, mUnO, mLenO, mSubO, mIxO, mPrp, cand_int, cand_tup, cand_lst, cand_scr, cand_str, cand_bl, cand_non, cand_ins, look0, okY_ii, okY_int, sameC_ii, blD, lenD, eqD, neD, Option.map_some, eqB_int,
  List.map, List.length_cons, List.length_nil, List.getElem?_cons_zero, List.getElem?_cons_succ, List.set_cons_zero, List.set_cons_succ, List.append, List.cons_append, List.nil_append, List.replicate, List.take, Nat.reduceAdd, Nat.reduceSub, Bool.not_true, Bool.not_false, decide_true, decide_false, Bool.false_eq_true, reduceIte, ↓reduceIte, m_law_2, t35, t40, sm, sAsg, tgTup, tgCons, tgName, tgNil, stE_np, h3, h4]
theorem l3 {b : Int} {w : Nat} (hb : 2 ≤ b) (hb2 : b ≤ 36) (hw2 : w ≤ 40) (scr kd pool : D) (h5 : np x5 = true) : m_law_3 [.sh scr, .sh kd, .ow pool, .sh (.int b), .sh (.int (w : Int)), x5, x6, x7, x8, x9, x10, x11, x12, x13, x14] =
    .ok .nx [.sh scr, .sh kd, .ow pool, .sh (.int b), .sh (.int (w : Int)), .sh (.int (b ^ w)), x6, x7, x8, x9, x10, x11, x12, x13, x14] := by
  simp only [DL.bnd, DL.ret, DL.lft, mVar, mCons, mNil, mCallA, callA, callAF, callB, mCallAF, mCallB, mBin, mUn, mB, mTru, truD, mNot, mAnd, mOr, mBv, mIf, mCb, mChain, mTup, mLst, sSeq, sNx, sIf, sRet, sRetF, sDrop, sSet, sSetF, sto_np, npAt, np_sh, np_ow, np_no, cm_sh, cm_no, DL.nox, fnM, DL.run,
  frz, full_lst, full_ins, nmN, DL.own, mdf, Sl.put, Sl.mut, Option.bind, cmpD, ltD, leD, gtD, geD, addD, subD, negD, modD, mMakF, mkA, sFldS, putD, fldD, mBinO, mOpO, mCmpO, mEqO, mUnO, mLenO, mSubO, mIxO, mPrp, cand_int, cand_tup, cand_lst, cand_scr, cand_str, cand_bl, cand_non, cand_ins, look0, okY_ii, okY_int, sameC_ii, blD, lenD, eqD, neD, Option.map_some, eqB_int,
  List.map, List.length_cons, List.length_nil, List.getElem?_cons_zero, List.getElem?_cons_succ, List.set_cons_zero, List.set_cons_succ, List.append, List.cons_append, List.nil_append, List.replicate, List.take, Nat.reduceAdd, Nat.reduceSub, Bool.not_true, Bool.not_false, decide_true, decide_false, Bool.false_eq_true, reduceIte, ↓reduceIte, m_law_3, e_lpower, e_power b (nat_abs_lt hb hb2) w (by omega), h5]
theorem r3 : (List.range 3).map (fun i => D.int ((i : Nat) : Int)) = [.int 0, .int 1, .int 2] := rfl
theorem l4 {b : Int} {w : Nat} (hb : 2 ≤ b) (hb2 : b ≤ 36) (hw : 1 ≤ w) (hw2 : w ≤ 40) (scr kd : D) (p q : Int) (h6 : cm x6 = true) (h7 : np x7 = true) (h8 : np x8 = true) (h9 : np x9 = true) : ∃ va vb vc p' q',
    m_law_4 [.sh scr, .sh kd, .ow (Pl p q), .sh (.int b), .sh (.int (w : Int)), .sh (.int (b ^ w)), x6, x7, x8, x9, x10, x11, x12, x13, x14] =
    .ok .nx [.sh scr, .sh kd, .ow (Pl p' q'), .sh (.int b), .sh (.int (w : Int)), .sh (.int (b ^ w)), x6, .sh (Wd b w (va % b ^ w)), .sh (Wd b w (vb % b ^ w)), .sh (Wd b w (vc % b ^ w)), x10, x11, x12, x13, x14] := by
  have ts := fun p q => e_take p q (b ^ w) (pow_pos' hb w) (pow_log hb hb2 (by omega))
  refine ⟨tkV p q (b ^ w), tkV (tkP p q (b ^ w)) (tkQ p q (b ^ w)) (b ^ w), tkV (tkP (tkP p q (b ^ w)) (tkQ p q (b ^ w)) (b ^ w)) (tkQ (tkP p q (b ^ w)) (tkQ p q (b ^ w)) (b ^ w)) (b ^ w), tkP (tkP (tkP p q (b ^ w)) (tkQ p q (b ^ w)) (b ^ w)) (tkQ (tkP p q (b ^ w)) (tkQ p q (b ^ w)) (b ^ w)) (b ^ w), tkQ (tkP (tkP p q (b ^ w)) (tkQ p q (b ^ w)) (b ^ w)) (tkQ (tkP p q (b ^ w)) (tkQ p q (b ^ w)) (b ^ w)) (b ^ w), ?_⟩
  have sm : small 3 = true := rfl
  have rr : (if (3 : Int) ≤ 1000000 ∧ (-1000000 : Int) ≤ 3 then some (List.map (fun i => D.int ((i : Nat) : Int)) (List.range (Int.toNat 3))) else none) = some [.int 0, .int 1, .int 2] := rfl
  simp only [DL.bnd, DL.ret, DL.lft, mVar, mCons, mNil, mCallA, callA, callAF, callB, mCallAF, mCallB, mBin, mUn, mB, mTru, truD, mNot, mAnd, mOr, mBv, mIf, mCb, mChain, mTup, mLst, sSeq, sNx, sIf, sRet, sRetF, sDrop, sSet, sSetF, sto_np, npAt, np_sh, np_ow, np_no, cm_sh, cm_no, DL.nox, fnM, DL.run,
  frz, full_lst, full_ins, nmN, DL.own, mdf, Sl.put, Sl.mut, Option.bind, cmpD, ltD, leD, gtD, geD, addD, subD, negD, modD, mMakF, mkA, sFldS, putD, fldD, mBinO, mOpO, mCmpO, mEqO, mUnO, mLenO, mSubO, mIxO, mPrp, cand_int, cand_tup, cand_lst, cand_scr, cand_str, cand_bl, cand_non, cand_ins, look0, okY_ii, okY_int, sameC_ii, blD, lenD, eqD, neD, Option.map_some, eqB_int,
  List.map, List.length_cons, List.length_nil, List.getElem?_cons_zero, List.getElem?_cons_succ, List.set_cons_zero, List.set_cons_succ, List.append, List.cons_append, List.nil_append, List.replicate, List.take, Nat.reduceAdd, Nat.reduceSub, Bool.not_true, Bool.not_false, decide_true, decide_false, Bool.false_eq_true, reduceIte, ↓reduceIte, m_law_4, mLc, iArg, rng1D, rr, calmE, List.all_cons, List.all_nil, calmS_cm, h6, Bool.and_true, and_self, sm, lcLoop, tgName, stE_np, wpE, rsE, ts, e_init hb hb2 hw hw2, beq_self_eq_true, List.getD_cons_succ, List.getD_cons_zero, sAsg, tgLst, tgCons, tgNil, h7, h8, h9]
variable {b : Int} {w : Nat} (hb : 2 ≤ b) (hb2 : b ≤ 36) (hw : 1 ≤ w) (hw2 : w ≤ 40) (scr kd pool : D) (va vb vc m n p q : Int)
include hb hb2 hw hw2
theorem l5 (h10 : np x10 = true) (h11 : np x11 = true) : m_law_5 [.sh scr, .sh kd, .ow pool, .sh (.int b), .sh (.int (w : Int)), .sh (.int (b ^ w)), x6, .sh (Wd b w (va % b ^ w)), .sh (Wd b w (vb % b ^ w)), .sh (Wd b w (vc % b ^ w)), x10, x11, x12, x13, x14] = .ok .nx [.sh scr, .sh kd, .ow pool, .sh (.int b), .sh (.int (w : Int)), .sh (.int (b ^ w)), x6, .sh (Wd b w (va % b ^ w)), .sh (Wd b w (vb % b ^ w)), .sh (Wd b w (vc % b ^ w)), .sh (Wd b w (0 % b ^ w)), .sh (Wd b w (1 % b ^ w)), x12, x13, x14] := by
  simp only [DL.bnd, DL.ret, DL.lft, mVar, mCons, mNil, mCallA, callA, callAF, callB, mCallAF, mCallB, mBin, mUn, mB, mTru, truD, mNot, mAnd, mOr, mBv, mIf, mCb, mChain, mTup, mLst, sSeq, sNx, sIf, sRet, sRetF, sDrop, sSet, sSetF, sto_np, npAt, np_sh, np_ow, np_no, cm_sh, cm_no, DL.nox, fnM, DL.run,
  frz, full_lst, full_ins, nmN, DL.own, mdf, Sl.put, Sl.mut, Option.bind, cmpD, ltD, leD, gtD, geD, addD, subD, negD, modD, mMakF, mkA, sFldS, putD, fldD, mBinO, mOpO, mCmpO, mEqO, mUnO, mLenO, mSubO, mIxO, mPrp, cand_int, cand_tup, cand_lst, cand_scr, cand_str, cand_bl, cand_non, cand_ins, look0, okY_ii, okY_int, sameC_ii, blD, lenD, eqD, neD, Option.map_some, eqB_int,
  List.map, List.length_cons, List.length_nil, List.getElem?_cons_zero, List.getElem?_cons_succ, List.set_cons_zero, List.set_cons_succ, List.append, List.cons_append, List.nil_append, List.replicate, List.take, Nat.reduceAdd, Nat.reduceSub, Bool.not_true, Bool.not_false, decide_true, decide_false, Bool.false_eq_true, reduceIte, ↓reduceIte, m_law_5, e_init hb hb2 hw hw2, dg_len, beq_self_eq_true, sPar2, sStos, h10, h11]
theorem l8 (h12 : np x12 = true) (h13 : np x13 = true) : ∃ m n p' q', 0 ≤ m ∧ 0 ≤ n ∧ m_law_8 [.sh scr, .sh kd, .ow (Pl p q), .sh (.int b), .sh (.int (w : Int)), .sh (.int (b ^ w)), x6, .sh (Wd b w (va % b ^ w)), .sh (Wd b w (vb % b ^ w)), .sh (Wd b w (vc % b ^ w)), .sh (Wd b w (0 % b ^ w)), .sh (Wd b w (1 % b ^ w)), x12, x13, x14] = .ok .nx [.sh scr, .sh kd, .ow (Pl p' q'), .sh (.int b), .sh (.int (w : Int)), .sh (.int (b ^ w)), x6, .sh (Wd b w (va % b ^ w)), .sh (Wd b w (vb % b ^ w)), .sh (Wd b w (vc % b ^ w)), .sh (Wd b w (0 % b ^ w)), .sh (Wd b w (1 % b ^ w)), .sh (.int m), .sh (.int n), x14] := by
  have lg : ((w : Int) + 1).natAbs.log2 < 9000 := by
    have h0 : ((w : Int) + 1).natAbs ≠ 0 := by omega
    have h1 : ((w : Int) + 1).natAbs < 2 ^ 6 := by omega
    have := (Nat.log2_lt h0).mpr h1
    omega
  have ts := fun p q => e_take p q ((w : Int) + 1) (by omega) lg
  refine ⟨tkV p q (w + 1), tkV (tkP p q (w + 1)) (tkQ p q (w + 1)) (w + 1), tkP (tkP p q (w + 1)) (tkQ p q (w + 1)) (w + 1), tkQ (tkP p q (w + 1)) (tkQ p q (w + 1)) (w + 1), tkV_lo (by omega), tkV_lo (by omega), ?_⟩
  simp only [DL.bnd, DL.ret, DL.lft, mVar, mCons, mNil, mCallA, callA, callAF, callB, mCallAF, mCallB, mBin, mUn, mB, mTru, truD, mNot, mAnd, mOr, mBv, mIf, mCb, mChain, mTup, mLst, sSeq, sNx, sIf, sRet, sRetF, sDrop, sSet, sSetF, sto_np, npAt, np_sh, np_ow, np_no, cm_sh, cm_no, DL.nox, fnM, DL.run,
  frz, full_lst, full_ins, nmN, DL.own, mdf, Sl.put, Sl.mut, Option.bind, cmpD, ltD, leD, gtD, geD, addD, subD, negD, modD, mMakF, mkA, sFldS, putD, fldD, mBinO, mOpO, mCmpO, mEqO, mUnO, mLenO, mSubO, mIxO, mPrp, cand_int, cand_tup, cand_lst, cand_scr, cand_str, cand_bl, cand_non, cand_ins, look0, okY_ii, okY_int, sameC_ii, blD, lenD, eqD, neD, Option.map_some, eqB_int,
  List.map, List.length_cons, List.length_nil, List.getElem?_cons_zero, List.getElem?_cons_succ, List.set_cons_zero, List.set_cons_succ, List.append, List.cons_append, List.nil_append, List.replicate, List.take, Nat.reduceAdd, Nat.reduceSub, Bool.not_true, Bool.not_false, decide_true, decide_false, Bool.false_eq_true, reduceIte, ↓reduceIte, m_law_8, ts, sPar2, sStos, h12, h13]
theorem l11 (h14 : np x14 = true) : m_law_11 [.sh scr, .sh kd, .ow pool, .sh (.int b), .sh (.int (w : Int)), .sh (.int (b ^ w)), x6, .sh (Wd b w (va % b ^ w)), .sh (Wd b w (vb % b ^ w)), .sh (Wd b w (vc % b ^ w)), .sh (Wd b w (0 % b ^ w)), .sh (Wd b w (1 % b ^ w)), .sh (.int m), .sh (.int n), x14] = .ok .nx [.sh scr, .sh kd, .ow pool, .sh (.int b), .sh (.int (w : Int)), .sh (.int (b ^ w)), x6, .sh (Wd b w (va % b ^ w)), .sh (Wd b w (vb % b ^ w)), .sh (Wd b w (vc % b ^ w)), .sh (Wd b w (0 % b ^ w)), .sh (Wd b w (1 % b ^ w)), .sh (.int m), .sh (.int n), .sh (Wd b w (0 % b ^ w))] := by
  simp only [DL.bnd, DL.ret, DL.lft, mVar, mCons, mNil, mCallA, callA, callAF, callB, mCallAF, mCallB, mBin, mUn, mB, mTru, truD, mNot, mAnd, mOr, mBv, mIf, mCb, mChain, mTup, mLst, sSeq, sNx, sIf, sRet, sRetF, sDrop, sSet, sSetF, sto_np, npAt, np_sh, np_ow, np_no, cm_sh, cm_no, DL.nox, fnM, DL.run,
  frz, full_lst, full_ins, nmN, DL.own, mdf, Sl.put, Sl.mut, Option.bind, cmpD, ltD, leD, gtD, geD, addD, subD, negD, modD, mMakF, mkA, sFldS, putD, fldD, mBinO, mOpO, mCmpO, mEqO, mUnO, mLenO, mSubO, mIxO, mPrp, cand_int, cand_tup, cand_lst, cand_scr, cand_str, cand_bl, cand_non, cand_ins, look0, okY_ii, okY_int, sameC_ii, blD, lenD, eqD, neD, Option.map_some, eqB_int,
  List.map, List.length_cons, List.length_nil, List.getElem?_cons_zero, List.getElem?_cons_succ, List.set_cons_zero, List.set_cons_succ, List.append, List.cons_append, List.nil_append, List.replicate, List.take, Nat.reduceAdd, Nat.reduceSub, Bool.not_true, Bool.not_false, decide_true, decide_false, Bool.false_eq_true, reduceIte, ↓reduceIte, m_law_11, h14]
omit hb hb2 hw hw2 in
theorem cut_low (hb : 2 ≤ b) (x : Int) (hm : 0 ≤ m) : cutD (dg b w (x * b ^ mv w m % b ^ w)) none (some m) = (List.replicate (mv w m) (0 : Int)).map .int := by
  have e : HT.sIx w w (some m) = mv w m := by
    have := mv_or (w := w) m hm
    unfold HT.sIx
    dsimp only
    rw [if_neg (by omega)]
    omega
  have hle : mv w m ≤ w := by
    have := mv_or (w := w) m hm
    omega
  unfold cutD
  rw [dg_len, e, HT.sIx_none, List.drop_zero, Nat.sub_zero, dg_ints, ← List.map_take, ← List.map_take, List.take_range, Nat.min_eq_left hle]
  congr 1
  apply List.ext_getElem
  · simp
  · intro i h1 h2
    simp only [List.getElem_map, List.getElem_range, List.getElem_replicate]
    exact low_zero hb x (mv w m) i hle (by simpa using h1)
omit hb hb2 hw hw2 in
theorem rep_zero (hw2 : w ≤ 40) (hm : 0 ≤ m) : mulD (.tup [.int 0]) (.int (if (w : Int) < m then (w : Int) else m)) = some (.tup ((List.replicate (mv w m) (0 : Int)).map .int)) := by
  have e : (if (w : Int) < m then (w : Int) else m) = ((mv w m : Nat) : Int) := by
    have := mv_or (w := w) m hm
    split <;> omega
  have hle : mv w m ≤ w := by
    have := mv_or (w := w) m hm
    omega
  rw [e, List.map_replicate]
  generalize mv w m = M at *
  match M with
  | 0 => rfl
  | 1 => rfl
  | M + 2 =>
    have c1 : ¬ ((M + 2 : Nat) : Int) = 1 := by omega
    have c2 : ¬ ([D.int 0] ≠ [] ∧ (-1000 : Int) ≤ ((M + 2 : Nat) : Int) ∧ ((M + 2 : Nat) : Int) ≤ 0) := by omega
    have c3 : [D.int 0] ≠ [] ∧ (2 : Int) ≤ ((M + 2 : Nat) : Int) ∧ ((M + 2 : Nat) : Int) ≤ 1000 ∧ [D.int 0].length ≤ 1000 := ⟨by simp, by omega, by omega, by simp⟩
    simp only [mulD, if_neg c1, if_neg c2, if_pos c3, Int.toNat_natCast]
    congr 2
    generalize M + 2 = N
    induction N with
    | zero => rfl
    | succ N ih => rw [List.replicate_succ, List.flatten_cons, ih]; rfl
theorem l10 (hm : 0 ≤ m) : m_law_10 [.sh scr, .sh kd, .ow pool, .sh (.int b), .sh (.int (w : Int)), .sh (.int (b ^ w)), x6, .sh (Wd b w (va % b ^ w)), .sh (Wd b w (vb % b ^ w)), .sh (Wd b w (vc % b ^ w)), .sh (Wd b w (0 % b ^ w)), .sh (Wd b w (1 % b ^ w)), .sh (.int m), .sh (.int n), x14] = .ok .nx [.sh scr, .sh kd, .ow pool, .sh (.int b), .sh (.int (w : Int)), .sh (.int (b ^ w)), x6, .sh (Wd b w (va % b ^ w)), .sh (Wd b w (vb % b ^ w)), .sh (Wd b w (vc % b ^ w)), .sh (Wd b w (0 % b ^ w)), .sh (Wd b w (1 % b ^ w)), .sh (.int m), .sh (.int n), x14] := by
  have h1 : (va % b ^ w / b ^ mv w m % b ^ w * b ^ mv w m % b ^ w + (va % b ^ w - va % b ^ w / b ^ mv w m % b ^ w * b ^ mv w m % b ^ w) % b ^ w) % b ^ w = va % b ^ w := by
    rw [ma2]
    have e : va % b ^ w / b ^ mv w m % b ^ w * b ^ mv w m % b ^ w + (va % b ^ w - va % b ^ w / b ^ mv w m % b ^ w * b ^ mv w m % b ^ w) = va % b ^ w := by omega
    rw [e, mm]
  have sm : small 1 = true := rfl
  have t0 : ∀ xs : List Int, decide (xs = xs) = true := fun _ => decide_eq_true rfl
  simp only [DL.bnd, DL.ret, DL.lft, mVar, mCons, mNil, mCallA, callA, callAF, callB, mCallAF, mCallB, mBin, mUn, mB, mTru, truD, mNot, mAnd, mOr, mBv, mIf, mCb, mChain, mTup, mLst, sSeq, sNx, sIf, sRet, sRetF, sDrop, sSet, sSetF, sto_np, npAt, np_sh, np_ow, np_no, cm_sh, cm_no, DL.nox, fnM, DL.run,
  frz, full_lst, full_ins, nmN, DL.own, mdf, Sl.put, Sl.mut, Option.bind, cmpD, ltD, leD, gtD, geD, addD, subD, negD, modD, mMakF, mkA, sFldS, putD, fldD, mBinO, mOpO, mCmpO, mEqO, mUnO, mLenO, mSubO, mIxO, mPrp, cand_int, cand_tup, cand_lst, cand_scr, cand_str, cand_bl, cand_non, cand_ins, look0, okY_ii, okY_int, sameC_ii, blD, lenD, eqD, neD, Option.map_some, eqB_int,
  List.map, List.length_cons, List.length_nil, List.getElem?_cons_zero, List.getElem?_cons_succ, List.set_cons_zero, List.set_cons_succ, List.append, List.cons_append, List.nil_append, List.replicate, List.take, Nat.reduceAdd, Nat.reduceSub, Bool.not_true, Bool.not_false, decide_true, decide_false, Bool.false_eq_true, reduceIte, ↓reduceIte, m_law_10, E_shl hb hb2 hw hw2 _ _ hm, e_shr hb hb2 hw hw2 _ hm, e_add hb hb2 hw hw2, e_sub hb hb2 hw hw2, E_eq hb, decide_eq_true h1, bne_self_eq_false, e_digits_p, mSl, mNoP, mPart, slD, cut_low _ hb _ hm, sm, min2D, gt_iff_lt, rep_zero _ hw2 hm, eqB_tup, t0]
theorem loop_tot : ∀ (ds : List D) (x6 : Sl) (T : Int), cm x6 = true → ∃ y, cm y = true ∧ sLoop (tgName 6) (sSet 14 (mBinO [(0, F_Word_add)] addD (mVar 14) (mVar 7))) ds [.sh scr, .sh kd, .ow pool, .sh (.int b), .sh (.int (w : Int)), .sh (.int (b ^ w)), x6, .sh (Wd b w (va % b ^ w)), .sh (Wd b w (vb % b ^ w)), .sh (Wd b w (vc % b ^ w)), .sh (Wd b w (0 % b ^ w)), .sh (Wd b w (1 % b ^ w)), .sh (.int m), .sh (.int n), .sh (Wd b w (T % b ^ w))] = .ok .nx [.sh scr, .sh kd, .ow pool, .sh (.int b), .sh (.int (w : Int)), .sh (.int (b ^ w)), y, .sh (Wd b w (va % b ^ w)), .sh (Wd b w (vb % b ^ w)), .sh (Wd b w (vc % b ^ w)), .sh (Wd b w (0 % b ^ w)), .sh (Wd b w (1 % b ^ w)), .sh (.int m), .sh (.int n), .sh (Wd b w ((T + ds.length * va) % b ^ w))]
  | [], x6, T, h => ⟨x6, h, by simp [sLoop, sNx, DL.ret]⟩
  | d :: ds, x6, T, h => by
    obtain ⟨y, hy, e⟩ := loop_tot ds (.sh d) (T + va) rfl
    refine ⟨y, hy, ?_⟩
    have hnp : np x6 = true := by cases x6 <;> first | rfl | (cases h; done)
    have e0 : (T % b ^ w + va % b ^ w) % b ^ w = (T + va) % b ^ w := by rw [ma1, ma2]
    have e3 : T + va + (ds.length : Int) * va = T + ((d :: ds).length : Int) * va := by
      rw [List.length_cons]
      have : ((ds.length + 1 : Nat) : Int) = ds.length + 1 := by omega
      rw [this, Int.add_mul]
      omega
    rw [loop_nx (e1 := [.sh scr, .sh kd, .ow pool, .sh (.int b), .sh (.int (w : Int)), .sh (.int (b ^ w)), .sh d, .sh (Wd b w (va % b ^ w)), .sh (Wd b w (vb % b ^ w)), .sh (Wd b w (vc % b ^ w)), .sh (Wd b w (0 % b ^ w)), .sh (Wd b w (1 % b ^ w)), .sh (.int m), .sh (.int n), .sh (Wd b w (T % b ^ w))]) (e2 := [.sh scr, .sh kd, .ow pool, .sh (.int b), .sh (.int (w : Int)), .sh (.int (b ^ w)), .sh d, .sh (Wd b w (va % b ^ w)), .sh (Wd b w (vb % b ^ w)), .sh (Wd b w (vc % b ^ w)), .sh (Wd b w (0 % b ^ w)), .sh (Wd b w (1 % b ^ w)), .sh (.int m), .sh (.int n), .sh (Wd b w ((T + va) % b ^ w))]), e, e3]
    · simp only [DL.bnd, DL.ret, DL.lft, mVar, mCons, mNil, mCallA, callA, callAF, callB, mCallAF, mCallB, mBin, mUn, mB, mTru, truD, mNot, mAnd, mOr, mBv, mIf, mCb, mChain, mTup, mLst, sSeq, sNx, sIf, sRet, sRetF, sDrop, sSet, sSetF, sto_np, npAt, np_sh, np_ow, np_no, cm_sh, cm_no, DL.nox, fnM, DL.run,
  frz, full_lst, full_ins, nmN, DL.own, mdf, Sl.put, Sl.mut, Option.bind, cmpD, ltD, leD, gtD, geD, addD, subD, negD, modD, mMakF, mkA, sFldS, putD, fldD, mBinO, mOpO, mCmpO, mEqO, mUnO, mLenO, mSubO, mIxO, mPrp, cand_int, cand_tup, cand_lst, cand_scr, cand_str, cand_bl, cand_non, cand_ins, look0, okY_ii, okY_int, sameC_ii, blD, lenD, eqD, neD, Option.map_some, eqB_int,
  List.map, List.length_cons, List.length_nil, List.getElem?_cons_zero, List.getElem?_cons_succ, List.set_cons_zero, List.set_cons_succ, List.append, List.cons_append, List.nil_append, List.replicate, List.take, Nat.reduceAdd, Nat.reduceSub, Bool.not_true, Bool.not_false, decide_true, decide_false, Bool.false_eq_true, reduceIte, ↓reduceIte, tgName, stE_np, hnp]
    · simp only [DL.bnd, DL.ret, DL.lft, mVar, mCons, mNil, mCallA, callA, callAF, callB, mCallAF, mCallB, mBin, mUn, mB, mTru, truD, mNot, mAnd, mOr, mBv, mIf, mCb, mChain, mTup, mLst, sSeq, sNx, sIf, sRet, sRetF, sDrop, sSet, sSetF, sto_np, npAt, np_sh, np_ow, np_no, cm_sh, cm_no, DL.nox, fnM, DL.run,
  frz, full_lst, full_ins, nmN, DL.own, mdf, Sl.put, Sl.mut, Option.bind, cmpD, ltD, leD, gtD, geD, addD, subD, negD, modD, mMakF, mkA, sFldS, putD, fldD, mBinO, mOpO, mCmpO, mEqO, mUnO, mLenO, mSubO, mIxO, mPrp, cand_int, cand_tup, cand_lst, cand_scr, cand_str, cand_bl, cand_non, cand_ins, look0, okY_ii, okY_int, sameC_ii, blD, lenD, eqD, neD, Option.map_some, eqB_int,
  List.map, List.length_cons, List.length_nil, List.getElem?_cons_zero, List.getElem?_cons_succ, List.set_cons_zero, List.set_cons_succ, List.append, List.cons_append, List.nil_append, List.replicate, List.take, Nat.reduceAdd, Nat.reduceSub, Bool.not_true, Bool.not_false, decide_true, decide_false, Bool.false_eq_true, reduceIte, ↓reduceIte, e_add hb hb2 hw hw2, e0]
end
end LW

set_option Elab.async false
set_option linter.all false
set_option maxRecDepth 100000
set_option maxHeartbeats 1000000
namespace LW
open PySem L2 DL
section
variable {b : Int} {w : Nat} (hb : 2 ≤ b) (hb2 : b ≤ 36) (hw : 1 ≤ w) (hw2 : w ≤ 40) (scr kd pool : D) (va vb vc m n p q : Int) (x6 : Sl)
include hb hb2 hw hw2
theorem l12 (h6 : cm x6 = true) : ∃ y, cm y = true ∧ m_law_12 [.sh scr, .sh kd, .ow pool, .sh (.int b), .sh (.int (w : Int)), .sh (.int (b ^ w)), x6, .sh (Wd b w (va % b ^ w)), .sh (Wd b w (vb % b ^ w)), .sh (Wd b w (vc % b ^ w)), .sh (Wd b w (0 % b ^ w)), .sh (Wd b w (1 % b ^ w)), .sh (.int m), .sh (.int n), .sh (Wd b w (0 % b ^ w))] = .ok .nx [.sh scr, .sh kd, .ow pool, .sh (.int b), .sh (.int (w : Int)), .sh (.int (b ^ w)), y, .sh (Wd b w (va % b ^ w)), .sh (Wd b w (vb % b ^ w)), .sh (Wd b w (vc % b ^ w)), .sh (Wd b w (0 % b ^ w)), .sh (Wd b w (1 % b ^ w)), .sh (.int m), .sh (.int n), .sh (Wd b w (va % b ^ w * b ^ mv w 1 % b ^ w))] := by
  obtain ⟨bn, hbn⟩ := Int.eq_ofNat_of_zero_le (show 0 ≤ b by omega)
  obtain ⟨y, hy, e⟩ := loop_tot hb hb2 hw hw2 scr kd pool va vb vc m n ((List.range bn).map fun i => .int ((i : Nat) : Int)) x6 0 h6
  refine ⟨y, hy, ?_⟩
  rw [List.length_map, List.length_range] at e
  have e1 : (0 + (bn : Int) * va) % b ^ w = va % b ^ w * b ^ mv w 1 % b ^ w := by
    rw [mv_one hb hb2 hw hw2, Int.pow_one, mu, ← hbn, Int.zero_add, Int.mul_comm]
  rw [e1] at e
  unfold m_law_12
  exact for_ok (rng_nat bn (by omega) _ _ _ (by rw [← hbn]; simp only [DL.bnd, DL.ret, DL.lft, mVar, mCons, mNil, mCallA, callA, callAF, callB, mCallAF, mCallB, mBin, mUn, mB, mTru, truD, mNot, mAnd, mOr, mBv, mIf, mCb, mChain, mTup, mLst, sSeq, sNx, sIf, sRet, sRetF, sDrop, sSet, sSetF, sto_np, npAt, np_sh, np_ow, np_no, cm_sh, cm_no, DL.nox, fnM, DL.run,
  frz, full_lst, full_ins, nmN, DL.own, mdf, Sl.put, Sl.mut, Option.bind, cmpD, ltD, leD, gtD, geD, addD, subD, negD, modD, mMakF, mkA, sFldS, putD, fldD, mBinO, mOpO, mCmpO, mEqO, mUnO, mLenO, mSubO, mIxO, mPrp, cand_int, cand_tup, cand_lst, cand_scr, cand_str, cand_bl, cand_non, cand_ins, look0, okY_ii, okY_int, sameC_ii, blD, lenD, eqD, neD, Option.map_some, eqB_int,
  List.map, List.length_cons, List.length_nil, List.getElem?_cons_zero, List.getElem?_cons_succ, List.set_cons_zero, List.set_cons_succ, List.append, List.cons_append, List.nil_append, List.replicate, List.take, Nat.reduceAdd, Nat.reduceSub, Bool.not_true, Bool.not_false, decide_true, decide_false, Bool.false_eq_true, reduceIte, ↓reduceIte])) e
end
/-- one turn of the law -/
abbrev bodyL : S := sSeq m_law_1 (sSeq m_law_2 (sSeq m_law_3 (sSeq m_law_4 (sSeq m_law_5 (sSeq m_law_6 (sSeq m_law_7 (sSeq m_law_8 (sSeq m_law_9 (sSeq m_law_10 (sSeq m_law_11 (sSeq m_law_12 (sSeq m_law_13 m_law_14))))))))))))
theorem cm_np {x : Sl} (h : cm x = true) : np x = true := by cases x <;> first | rfl | (cases h; done)
/-- the names between two turns -/
def Mid (ns : List Int) (e : En) : Prop := ∃ x1 x2 x3 x4 x5 x6 x7 x8 x9 x10 x11 x12 x13 x14, e = [.sh (.scr ns), x1, x2, x3, x4, x5, x6, x7, x8, x9, x10, x11, x12, x13, x14] ∧ np x1 = true ∧ np x2 = true ∧ np x3 = true ∧ np x4 = true ∧ np x5 = true ∧ cm x6 = true ∧ np x7 = true ∧ np x8 = true ∧ np x9 = true ∧ np x10 = true ∧ np x11 = true ∧ np x12 = true ∧ np x13 = true ∧ np x14 = true
theorem turn (ns : List Int) (k : Nat) (hk : k < 1000) {e : En} (h : Mid ns e) : ∃ e1 e2, tgName 1 (.int (k : Int)) e = some e1 ∧ bodyL e1 = .ok .nx e2 ∧ Mid ns e2 := by
  obtain ⟨x1, x2, x3, x4, x5, x6, x7, x8, x9, x10, x11, x12, x13, x14, rfl, h1, h2, h3, h4, h5, h6, h7, h8, h9, h10, h11, h12, h13, h14⟩ := h
  obtain ⟨p1, q1, s1⟩ := l1 ns k x2 x3 x4 x5 x6 x7 x8 x9 x10 x11 x12 x13 x14 hk h2
  obtain ⟨b, w, p2, q2, hb, hb2, hw, hw2, s2⟩ := l2 x3 x4 x5 x6 x7 x8 x9 x10 x11 x12 x13 x14 (.scr ns) (.int (k : Int)) p1 q1 h3 h4
  have s3 := l3 x5 x6 x7 x8 x9 x10 x11 x12 x13 x14 hb hb2 hw2 (.scr ns) (.int (k : Int)) (Pl p2 q2) h5
  obtain ⟨va, vb, vc, p4, q4, s4⟩ := l4 x6 x7 x8 x9 x10 x11 x12 x13 x14 hb hb2 hw hw2 (.scr ns) (.int (k : Int)) p2 q2 h6 h7 h8 h9
  have s5 := l5 x6 x10 x11 x12 x13 x14 hb hb2 hw hw2 (.scr ns) (.int (k : Int)) (Pl p4 q4) va vb vc h10 h11
  have s6 := l6 hb hb2 hw hw2 (.scr ns) (.int (k : Int)) (Pl p4 q4) va vb vc x6 x12 x13 x14
  have s7 := l7 hb hb2 hw hw2 (.scr ns) (.int (k : Int)) (Pl p4 q4) va vb vc x6 x12 x13 x14
  obtain ⟨m, n, p8, q8, hm, hn, s8⟩ := l8 x6 x12 x13 x14 hb hb2 hw hw2 (.scr ns) (.int (k : Int)) va vb vc p4 q4 h12 h13
  have s9 := l9 hb hb2 hw hw2 (.scr ns) (.int (k : Int)) (Pl p8 q8) va vb vc m n x6 x14 hm hn
  have s10 := l10 x6 x14 hb hb2 hw hw2 (.scr ns) (.int (k : Int)) (Pl p8 q8) va vb vc m n hm
  have s11 := l11 x6 x14 hb hb2 hw hw2 (.scr ns) (.int (k : Int)) (Pl p8 q8) va vb vc m n h14
  obtain ⟨y, hy, s12⟩ := l12 hb hb2 hw hw2 (.scr ns) (.int (k : Int)) (Pl p8 q8) va vb vc m n x6 h6
  have s13 := l13 hb hb2 hw hw2 (.scr ns) (.int (k : Int)) (Pl p8 q8) va vb vc m n y
  have s14 := l14 hb hb2 hw hw2 (.scr ns) (.int (k : Int)) (Pl p8 q8) va vb vc m n y (.sh (Wd b w (va % b ^ w * b ^ mv w 1 % b ^ w)))
  refine ⟨[.sh (.scr ns), .sh (.int (k : Int)), x2, x3, x4, x5, x6, x7, x8, x9, x10, x11, x12, x13, x14], [.sh (.scr ns), .sh (.int (k : Int)), .ow (Pl p8 q8), .sh (.int b), .sh (.int (w : Int)), .sh (.int (b ^ w)), y, .sh (Wd b w (va % b ^ w)), .sh (Wd b w (vb % b ^ w)), .sh (Wd b w (vc % b ^ w)), .sh (Wd b w (0 % b ^ w)), .sh (Wd b w (1 % b ^ w)), .sh (.int m), .sh (.int n), .sh (Wd b w (va % b ^ w * b ^ mv w 1 % b ^ w))], ?_, ?_, ?_⟩
  · simp only [DL.bnd, DL.ret, DL.lft, mVar, mCons, mNil, mCallA, callA, callAF, callB, mCallAF, mCallB, mBin, mUn, mB, mTru, truD, mNot, mAnd, mOr, mBv, mIf, mCb, mChain, mTup, mLst, sSeq, sNx, sIf, sRet, sRetF, sDrop, sSet, sSetF, sto_np, npAt, np_sh, np_ow, np_no, cm_sh, cm_no, DL.nox, fnM, DL.run,
  frz, full_lst, full_ins, nmN, DL.own, mdf, Sl.put, Sl.mut, Option.bind, cmpD, ltD, leD, gtD, geD, addD, subD, negD, modD, mMakF, mkA, sFldS, putD, fldD, mBinO, mOpO, mCmpO, mEqO, mUnO, mLenO, mSubO, mIxO, mPrp, cand_int, cand_tup, cand_lst, cand_scr, cand_str, cand_bl, cand_non, cand_ins, look0, okY_ii, okY_int, sameC_ii, blD, lenD, eqD, neD, Option.map_some, eqB_int,
  List.map, List.length_cons, List.length_nil, List.getElem?_cons_zero, List.getElem?_cons_succ, List.set_cons_zero, List.set_cons_succ, List.append, List.cons_append, List.nil_append, List.replicate, List.take, Nat.reduceAdd, Nat.reduceSub, Bool.not_true, Bool.not_false, decide_true, decide_false, Bool.false_eq_true, reduceIte, ↓reduceIte, tgName, stE_np, h1]
  · unfold bodyL
    rw [seq_nx s1, seq_nx s2, seq_nx s3, seq_nx s4, seq_nx s5, seq_nx s6, seq_nx s7, seq_nx s8, seq_nx s9, seq_nx s10, seq_nx s11, seq_nx s12, seq_nx s13]
    exact s14
  · exact ⟨_, _, _, _, _, _, _, _, _, _, _, _, _, _, rfl, rfl, rfl, rfl, rfl, rfl, hy, rfl, rfl, rfl, rfl, rfl, rfl, rfl, rfl⟩
theorem turns (ns : List Int) : ∀ (ks : List Nat) (e : En), (∀ k ∈ ks, k < 1000) → Mid ns e → ∃ e2, sLoop (tgName 1) bodyL (ks.map fun i => .int ((i : Nat) : Int)) e = .ok .nx e2 ∧ Mid ns e2
  | [], e, _, h => ⟨e, by simp [sLoop, sNx, DL.ret], h⟩
  | k :: ks, e, hk, h => by
    obtain ⟨e1, e2, h1, h2, h3⟩ := turn ns k (hk k List.mem_cons_self) h
    obtain ⟨e3, h4, h5⟩ := turns ns ks e2 (fun k' z => hk k' (List.mem_cons_of_mem _ z)) h3
    exact ⟨e3, by rw [List.map_cons, loop_nx h1 h2, h4], h5⟩
theorem law_true (ns : List Int) : ∃ e, F_law [.sh (.scr ns)] = .ok (.rt (.bl true)) e := by
  obtain ⟨N, hN, hN2⟩ : ∃ N : Nat, N < 1000 ∧ (if (if (ns.length : Int) < 63 then (ns.length : Int) else 63) > 3 then (if (ns.length : Int) < 63 then (ns.length : Int) else 63) else 3) = (N : Int) := by
    by_cases h : (ns.length : Int) < 63
    · by_cases h2 : (ns.length : Int) > 3
      · exact ⟨ns.length, by omega, by rw [if_pos h, if_pos h2]⟩
      · exact ⟨3, by omega, by rw [if_pos h, if_neg h2]; rfl⟩
    · exact ⟨63, by omega, by rw [if_neg h]; rfl⟩
  obtain ⟨e, h1, h2⟩ := turns ns (List.range N) [.sh (.scr ns), .no, .no, .no, .no, .no, .no, .no, .no, .no, .no, .no, .no, .no, .no] (fun k hk => by have := List.mem_range.mp hk; omega) ⟨_, _, _, _, _, _, _, _, _, _, _, _, _, _, rfl, rfl, rfl, rfl, rfl, rfl, rfl, rfl, rfl, rfl, rfl, rfl, rfl, rfl, rfl⟩
  obtain ⟨x1, x2, x3, x4, x5, x6, x7, x8, x9, x10, x11, x12, x13, x14, rfl, _⟩ := h2
  refine ⟨[.sh (.scr ns)], fn_rt rfl (e := [.sh (.scr ns), x1, x2, x3, x4, x5, x6, x7, x8, x9, x10, x11, x12, x13, x14]) ?_ rfl⟩
  have hr := rng_nat N (by omega) (mCons (mCb max2D (mCons (DL.ret (.int 3)) (mCons (mCb min2D (mCons (DL.ret (.int 63)) (mCons (DL.bnd (mCons (mVar 0) mNil) (mLenO [(0, F_Word_len)] lenD)) mNil))) mNil))) mNil) [.sh (.scr ns), .no, .no, .no, .no, .no, .no, .no, .no, .no, .no, .no, .no, .no, .no] [.sh (.scr ns), .no, .no, .no, .no, .no, .no, .no, .no, .no, .no, .no, .no, .no, .no] (by simp only [DL.bnd, DL.ret, DL.lft, mVar, mCons, mNil, mCallA, callA, callAF, callB, mCallAF, mCallB, mBin, mUn, mB, mTru, truD, mNot, mAnd, mOr, mBv, mIf, mCb, mChain, mTup, mLst, sSeq, sNx, sIf, sRet, sRetF, sDrop, sSet, sSetF, sto_np, npAt, np_sh, np_ow, np_no, cm_sh, cm_no, DL.nox, fnM, DL.run,
  frz, full_lst, full_ins, nmN, DL.own, mdf, Sl.put, Sl.mut, Option.bind, cmpD, ltD, leD, gtD, geD, addD, subD, negD, modD, mMakF, mkA, sFldS, putD, fldD, mBinO, mOpO, mCmpO, mEqO, mUnO, mLenO, mSubO, mIxO, mPrp, cand_int, cand_tup, cand_lst, cand_scr, cand_str, cand_bl, cand_non, cand_ins, look0, okY_ii, okY_int, sameC_ii, blD, lenD, eqD, neD, Option.map_some, eqB_int,
  List.map, List.length_cons, List.length_nil, List.getElem?_cons_zero, List.getElem?_cons_succ, List.set_cons_zero, List.set_cons_succ, List.append, List.cons_append, List.nil_append, List.replicate, List.take, Nat.reduceAdd, Nat.reduceSub, Bool.not_true, Bool.not_false, decide_true, decide_false, Bool.false_eq_true, reduceIte, ↓reduceIte, max2D, min2D, hN2])
  exact (seq_nx (for_ok hr h1)).trans (by simp only [DL.bnd, DL.ret, DL.lft, mVar, mCons, mNil, mCallA, callA, callAF, callB, mCallAF, mCallB, mBin, mUn, mB, mTru, truD, mNot, mAnd, mOr, mBv, mIf, mCb, mChain, mTup, mLst, sSeq, sNx, sIf, sRet, sRetF, sDrop, sSet, sSetF, sto_np, npAt, np_sh, np_ow, np_no, cm_sh, cm_no, DL.nox, fnM, DL.run,
  frz, full_lst, full_ins, nmN, DL.own, mdf, Sl.put, Sl.mut, Option.bind, cmpD, ltD, leD, gtD, geD, addD, subD, negD, modD, mMakF, mkA, sFldS, putD, fldD, mBinO, mOpO, mCmpO, mEqO, mUnO, mLenO, mSubO, mIxO, mPrp, cand_int, cand_tup, cand_lst, cand_scr, cand_str, cand_bl, cand_non, cand_ins, look0, okY_ii, okY_int, sameC_ii, blD, lenD, eqD, neD, Option.map_some, eqB_int,
  List.map, List.length_cons, List.length_nil, List.getElem?_cons_zero, List.getElem?_cons_succ, List.set_cons_zero, List.set_cons_succ, List.append, List.cons_append, List.nil_append, List.replicate, List.take, Nat.reduceAdd, Nat.reduceSub, Bool.not_true, Bool.not_false, decide_true, decide_false, Bool.false_eq_true, reduceIte, ↓reduceIte])
end LW

set_option Elab.async false
set_option linter.all false
set_option maxRecDepth 100000
set_option maxHeartbeats 1000000
namespace LW
open PySem L2 PyProof.Rows DL
abbrev cs : List Nat := [0]
abbrev st_is_integer : Stmt := (PySem.Challenge.pw_carryrounds_k04_whole_rules_of_words.main.body.getD 7 (.Pass ⟨0, 0, 0, 0⟩))
def dx_is_integer : Dx := ⟨fun K => He.ga K "is_integer", "is_integer", "is_integer", defArgs st_is_integer, defBody st_is_integer, defScope st_is_integer, []⟩
theorem sc_is_integer : FnScope ["value"] ["value"] (defScope st_is_integer) := ⟨rfl, rfl, rfl, by decide +kernel, rfl, by decide +kernel, by decide +kernel⟩
abbrev st_is_between : Stmt := (PySem.Challenge.pw_carryrounds_k04_whole_rules_of_words.main.body.getD 8 (.Pass ⟨0, 0, 0, 0⟩))
def dx_is_between : Dx := ⟨fun K => He.ga K "is_between", "is_between", "is_between", defArgs st_is_between, defBody st_is_between, defScope st_is_between, []⟩
theorem sc_is_between : FnScope ["value", "low", "high"] ["value", "low", "high"] (defScope st_is_between) := ⟨rfl, rfl, rfl, by decide +kernel, rfl, by decide +kernel, by decide +kernel⟩
abbrev st_check_between : Stmt := (PySem.Challenge.pw_carryrounds_k04_whole_rules_of_words.main.body.getD 9 (.Pass ⟨0, 0, 0, 0⟩))
def dx_check_between : Dx := ⟨fun K => He.ga K "check_between", "check_between", "check_between", defArgs st_check_between, defBody st_check_between, defScope st_check_between, []⟩
theorem sc_check_between : FnScope ["value", "low", "high"] ["value", "low", "high"] (defScope st_check_between) := ⟨rfl, rfl, rfl, by decide +kernel, rfl, by decide +kernel, by decide +kernel⟩
abbrev st_check_integer : Stmt := (PySem.Challenge.pw_carryrounds_k04_whole_rules_of_words.main.body.getD 10 (.Pass ⟨0, 0, 0, 0⟩))
def dx_check_integer : Dx := ⟨fun K => He.ga K "check_integer", "check_integer", "check_integer", defArgs st_check_integer, defBody st_check_integer, defScope st_check_integer, []⟩
theorem sc_check_integer : FnScope ["value"] ["value"] (defScope st_check_integer) := ⟨rfl, rfl, rfl, by decide +kernel, rfl, by decide +kernel, by decide +kernel⟩
abbrev st_power : Stmt := (PySem.Challenge.pw_carryrounds_k04_whole_rules_of_words.main.body.getD 11 (.Pass ⟨0, 0, 0, 0⟩))
def dx_power : Dx := ⟨fun K => He.ga K "power", "power", "power", defArgs st_power, defBody st_power, defScope st_power, []⟩
theorem sc_power : FnScope ["base", "exponent", "result", "turn"] ["base", "exponent"] (defScope st_power) := ⟨rfl, rfl, rfl, by decide +kernel, rfl, by decide +kernel, by decide +kernel⟩
abbrev st_digits_of : Stmt := (PySem.Challenge.pw_carryrounds_k04_whole_rules_of_words.main.body.getD 12 (.Pass ⟨0, 0, 0, 0⟩))
def dx_digits_of : Dx := ⟨fun K => He.ga K "digits_of", "digits_of", "digits_of", defArgs st_digits_of, defBody st_digits_of, defScope st_digits_of, []⟩
theorem sc_digits_of : FnScope ["number", "base", "width", "place"] ["number", "base", "width"] (defScope st_digits_of) := ⟨rfl, rfl, rfl, by decide +kernel, rfl, by decide +kernel, by decide +kernel⟩
abbrev st_number_of : Stmt := (PySem.Challenge.pw_carryrounds_k04_whole_rules_of_words.main.body.getD 13 (.Pass ⟨0, 0, 0, 0⟩))
def dx_number_of : Dx := ⟨fun K => He.ga K "number_of", "number_of", "number_of", defArgs st_number_of, defBody st_number_of, defScope st_number_of, []⟩
theorem sc_number_of : FnScope ["digits", "base", "result", "digit"] ["digits", "base"] (defScope st_number_of) := ⟨rfl, rfl, rfl, by decide +kernel, rfl, by decide +kernel, by decide +kernel⟩
abbrev st_Word_init : Stmt := (clsBody (PySem.Challenge.pw_carryrounds_k04_whole_rules_of_words.main.body.getD 14 (.Pass ⟨0, 0, 0, 0⟩))).getD 0 (.Pass ⟨0, 0, 0, 0⟩)
def dx_Word_init : Dx := ⟨fun K => He.ma K (He.ga K "Word") "__init__", "__init__", "Word.__init__", defArgs st_Word_init, defBody st_Word_init, defScope st_Word_init, [.int 10, .int 8]⟩
theorem sc_Word_init : FnScope ["self", "value", "base", "width"] ["self", "value", "base", "width"] (defScope st_Word_init) := ⟨rfl, rfl, rfl, by decide +kernel, rfl, by decide +kernel, by decide +kernel⟩
abbrev st_Word_of : Stmt := (clsBody (PySem.Challenge.pw_carryrounds_k04_whole_rules_of_words.main.body.getD 14 (.Pass ⟨0, 0, 0, 0⟩))).getD 1 (.Pass ⟨0, 0, 0, 0⟩)
def dx_Word_of : Dx := ⟨fun K => cmG K "Word" "of", "of", "Word.of", defArgs st_Word_of, defBody st_Word_of, defScope st_Word_of, [.int 10]⟩
theorem sc_Word_of : FnScope ["cls", "digits", "base", "digit"] ["cls", "digits", "base"] (defScope st_Word_of) := ⟨rfl, rfl, rfl, by decide +kernel, rfl, by decide +kernel, by decide +kernel⟩
abbrev st_Word_number : Stmt := (clsBody (PySem.Challenge.pw_carryrounds_k04_whole_rules_of_words.main.body.getD 14 (.Pass ⟨0, 0, 0, 0⟩))).getD 2 (.Pass ⟨0, 0, 0, 0⟩)
def dx_Word_number : Dx := ⟨fun K => prG K "Word" "number", "number", "Word.number", defArgs st_Word_number, defBody st_Word_number, defScope st_Word_number, []⟩
theorem sc_Word_number : FnScope ["self"] ["self"] (defScope st_Word_number) := ⟨rfl, rfl, rfl, by decide +kernel, rfl, by decide +kernel, by decide +kernel⟩
abbrev st_Word_base : Stmt := (clsBody (PySem.Challenge.pw_carryrounds_k04_whole_rules_of_words.main.body.getD 14 (.Pass ⟨0, 0, 0, 0⟩))).getD 3 (.Pass ⟨0, 0, 0, 0⟩)
def dx_Word_base : Dx := ⟨fun K => prG K "Word" "base", "base", "Word.base", defArgs st_Word_base, defBody st_Word_base, defScope st_Word_base, []⟩
theorem sc_Word_base : FnScope ["self"] ["self"] (defScope st_Word_base) := ⟨rfl, rfl, rfl, by decide +kernel, rfl, by decide +kernel, by decide +kernel⟩
abbrev st_Word_width : Stmt := (clsBody (PySem.Challenge.pw_carryrounds_k04_whole_rules_of_words.main.body.getD 14 (.Pass ⟨0, 0, 0, 0⟩))).getD 4 (.Pass ⟨0, 0, 0, 0⟩)
def dx_Word_width : Dx := ⟨fun K => prG K "Word" "width", "width", "Word.width", defArgs st_Word_width, defBody st_Word_width, defScope st_Word_width, []⟩
theorem sc_Word_width : FnScope ["self"] ["self"] (defScope st_Word_width) := ⟨rfl, rfl, rfl, by decide +kernel, rfl, by decide +kernel, by decide +kernel⟩
abbrev st_Word_digits : Stmt := (clsBody (PySem.Challenge.pw_carryrounds_k04_whole_rules_of_words.main.body.getD 14 (.Pass ⟨0, 0, 0, 0⟩))).getD 5 (.Pass ⟨0, 0, 0, 0⟩)
def dx_Word_digits : Dx := ⟨fun K => prG K "Word" "digits", "digits", "Word.digits", defArgs st_Word_digits, defBody st_Word_digits, defScope st_Word_digits, []⟩
theorem sc_Word_digits : FnScope ["self"] ["self"] (defScope st_Word_digits) := ⟨rfl, rfl, rfl, by decide +kernel, rfl, by decide +kernel, by decide +kernel⟩
abbrev st_Word_len : Stmt := (clsBody (PySem.Challenge.pw_carryrounds_k04_whole_rules_of_words.main.body.getD 14 (.Pass ⟨0, 0, 0, 0⟩))).getD 6 (.Pass ⟨0, 0, 0, 0⟩)
def dx_Word_len : Dx := ⟨fun K => He.ma K (He.ga K "Word") "__len__", "__len__", "Word.__len__", defArgs st_Word_len, defBody st_Word_len, defScope st_Word_len, []⟩
theorem sc_Word_len : FnScope ["self"] ["self"] (defScope st_Word_len) := ⟨rfl, rfl, rfl, by decide +kernel, rfl, by decide +kernel, by decide +kernel⟩
abbrev st_Word_eq : Stmt := (clsBody (PySem.Challenge.pw_carryrounds_k04_whole_rules_of_words.main.body.getD 14 (.Pass ⟨0, 0, 0, 0⟩))).getD 7 (.Pass ⟨0, 0, 0, 0⟩)
def dx_Word_eq : Dx := ⟨fun K => He.ma K (He.ga K "Word") "__eq__", "__eq__", "Word.__eq__", defArgs st_Word_eq, defBody st_Word_eq, defScope st_Word_eq, []⟩
theorem sc_Word_eq : FnScope ["self", "other"] ["self", "other"] (defScope st_Word_eq) := ⟨rfl, rfl, rfl, by decide +kernel, rfl, by decide +kernel, by decide +kernel⟩
abbrev st_Word_bool : Stmt := (clsBody (PySem.Challenge.pw_carryrounds_k04_whole_rules_of_words.main.body.getD 14 (.Pass ⟨0, 0, 0, 0⟩))).getD 8 (.Pass ⟨0, 0, 0, 0⟩)
def dx_Word_bool : Dx := ⟨fun K => He.ma K (He.ga K "Word") "__bool__", "__bool__", "Word.__bool__", defArgs st_Word_bool, defBody st_Word_bool, defScope st_Word_bool, []⟩
theorem sc_Word_bool : FnScope ["self"] ["self"] (defScope st_Word_bool) := ⟨rfl, rfl, rfl, by decide +kernel, rfl, by decide +kernel, by decide +kernel⟩
abbrev st_Word_getitem : Stmt := (clsBody (PySem.Challenge.pw_carryrounds_k04_whole_rules_of_words.main.body.getD 14 (.Pass ⟨0, 0, 0, 0⟩))).getD 9 (.Pass ⟨0, 0, 0, 0⟩)
def dx_Word_getitem : Dx := ⟨fun K => He.ma K (He.ga K "Word") "__getitem__", "__getitem__", "Word.__getitem__", defArgs st_Word_getitem, defBody st_Word_getitem, defScope st_Word_getitem, []⟩
theorem sc_Word_getitem : FnScope ["self", "place"] ["self", "place"] (defScope st_Word_getitem) := ⟨rfl, rfl, rfl, by decide +kernel, rfl, by decide +kernel, by decide +kernel⟩
abbrev st_Word_iter : Stmt := (clsBody (PySem.Challenge.pw_carryrounds_k04_whole_rules_of_words.main.body.getD 14 (.Pass ⟨0, 0, 0, 0⟩))).getD 10 (.Pass ⟨0, 0, 0, 0⟩)
def dx_Word_iter : Dx := ⟨fun K => He.ma K (He.ga K "Word") "__iter__", "__iter__", "Word.__iter__", defArgs st_Word_iter, defBody st_Word_iter, defScope st_Word_iter, []⟩
theorem sc_Word_iter : FnScope ["self"] ["self"] (defScope st_Word_iter) := ⟨rfl, rfl, rfl, by decide +kernel, rfl, by decide +kernel, by decide +kernel⟩
abbrev st_Word_add : Stmt := (clsBody (PySem.Challenge.pw_carryrounds_k04_whole_rules_of_words.main.body.getD 14 (.Pass ⟨0, 0, 0, 0⟩))).getD 11 (.Pass ⟨0, 0, 0, 0⟩)
def dx_Word_add : Dx := ⟨fun K => He.ma K (He.ga K "Word") "__add__", "__add__", "Word.__add__", defArgs st_Word_add, defBody st_Word_add, defScope st_Word_add, []⟩
theorem sc_Word_add : FnScope ["self", "other"] ["self", "other"] (defScope st_Word_add) := ⟨rfl, rfl, rfl, by decide +kernel, rfl, by decide +kernel, by decide +kernel⟩
abbrev st_Word_sub : Stmt := (clsBody (PySem.Challenge.pw_carryrounds_k04_whole_rules_of_words.main.body.getD 14 (.Pass ⟨0, 0, 0, 0⟩))).getD 12 (.Pass ⟨0, 0, 0, 0⟩)
def dx_Word_sub : Dx := ⟨fun K => He.ma K (He.ga K "Word") "__sub__", "__sub__", "Word.__sub__", defArgs st_Word_sub, defBody st_Word_sub, defScope st_Word_sub, []⟩
theorem sc_Word_sub : FnScope ["self", "other"] ["self", "other"] (defScope st_Word_sub) := ⟨rfl, rfl, rfl, by decide +kernel, rfl, by decide +kernel, by decide +kernel⟩
abbrev st_Word_neg : Stmt := (clsBody (PySem.Challenge.pw_carryrounds_k04_whole_rules_of_words.main.body.getD 14 (.Pass ⟨0, 0, 0, 0⟩))).getD 13 (.Pass ⟨0, 0, 0, 0⟩)
def dx_Word_neg : Dx := ⟨fun K => He.ma K (He.ga K "Word") "__neg__", "__neg__", "Word.__neg__", defArgs st_Word_neg, defBody st_Word_neg, defScope st_Word_neg, []⟩
theorem sc_Word_neg : FnScope ["self"] ["self"] (defScope st_Word_neg) := ⟨rfl, rfl, rfl, by decide +kernel, rfl, by decide +kernel, by decide +kernel⟩
abbrev st_Word_invert : Stmt := (clsBody (PySem.Challenge.pw_carryrounds_k04_whole_rules_of_words.main.body.getD 14 (.Pass ⟨0, 0, 0, 0⟩))).getD 14 (.Pass ⟨0, 0, 0, 0⟩)
def dx_Word_invert : Dx := ⟨fun K => He.ma K (He.ga K "Word") "__invert__", "__invert__", "Word.__invert__", defArgs st_Word_invert, defBody st_Word_invert, defScope st_Word_invert, []⟩
theorem sc_Word_invert : FnScope ["self"] ["self"] (defScope st_Word_invert) := ⟨rfl, rfl, rfl, by decide +kernel, rfl, by decide +kernel, by decide +kernel⟩
abbrev st_Word_lshift : Stmt := (clsBody (PySem.Challenge.pw_carryrounds_k04_whole_rules_of_words.main.body.getD 14 (.Pass ⟨0, 0, 0, 0⟩))).getD 15 (.Pass ⟨0, 0, 0, 0⟩)
def dx_Word_lshift : Dx := ⟨fun K => He.ma K (He.ga K "Word") "__lshift__", "__lshift__", "Word.__lshift__", defArgs st_Word_lshift, defBody st_Word_lshift, defScope st_Word_lshift, []⟩
theorem sc_Word_lshift : FnScope ["self", "other", "places"] ["self", "other"] (defScope st_Word_lshift) := ⟨rfl, rfl, rfl, by decide +kernel, rfl, by decide +kernel, by decide +kernel⟩
abbrev st_Word_rshift : Stmt := (clsBody (PySem.Challenge.pw_carryrounds_k04_whole_rules_of_words.main.body.getD 14 (.Pass ⟨0, 0, 0, 0⟩))).getD 16 (.Pass ⟨0, 0, 0, 0⟩)
def dx_Word_rshift : Dx := ⟨fun K => He.ma K (He.ga K "Word") "__rshift__", "__rshift__", "Word.__rshift__", defArgs st_Word_rshift, defBody st_Word_rshift, defScope st_Word_rshift, []⟩
theorem sc_Word_rshift : FnScope ["self", "other", "places"] ["self", "other"] (defScope st_Word_rshift) := ⟨rfl, rfl, rfl, by decide +kernel, rfl, by decide +kernel, by decide +kernel⟩
abbrev st_law_pool : Stmt := (PySem.Challenge.pw_carryrounds_k04_whole_rules_of_words.main.body.getD 16 (.Pass ⟨0, 0, 0, 0⟩))
def dx_law_pool : Dx := ⟨fun K => He.ga K "_law_pool", "_law_pool", "_law_pool", defArgs st_law_pool, defBody st_law_pool, defScope st_law_pool, []⟩
theorem sc_law_pool : FnScope ["_law_script", "_law_k", "_law_cell", "_law_mixed"] ["_law_script", "_law_k"] (defScope st_law_pool) := ⟨rfl, rfl, rfl, by decide +kernel, rfl, by decide +kernel, by decide +kernel⟩
abbrev st_law_take : Stmt := (PySem.Challenge.pw_carryrounds_k04_whole_rules_of_words.main.body.getD 17 (.Pass ⟨0, 0, 0, 0⟩))
def dx_law_take : Dx := ⟨fun K => He.ga K "_law_take", "_law_take", "_law_take", defArgs st_law_take, defBody st_law_take, defScope st_law_take, []⟩
theorem sc_law_take : FnScope ["_law_pool_here", "_law_many", "_law_found"] ["_law_pool_here", "_law_many"] (defScope st_law_take) := ⟨rfl, rfl, rfl, by decide +kernel, rfl, by decide +kernel, by decide +kernel⟩
abbrev st_law_power : Stmt := (PySem.Challenge.pw_carryrounds_k04_whole_rules_of_words.main.body.getD 18 (.Pass ⟨0, 0, 0, 0⟩))
def dx_law_power : Dx := ⟨fun K => He.ga K "_law_power", "_law_power", "_law_power", defArgs st_law_power, defBody st_law_power, defScope st_law_power, []⟩
theorem sc_law_power : FnScope ["_law_base", "_law_exponent", "_law_result", "_law_turn"] ["_law_base", "_law_exponent"] (defScope st_law_power) := ⟨rfl, rfl, rfl, by decide +kernel, rfl, by decide +kernel, by decide +kernel⟩
abbrev st_law : Stmt := (PySem.Challenge.pw_carryrounds_k04_whole_rules_of_words.main.body.getD 19 (.Pass ⟨0, 0, 0, 0⟩))
def dx_law : Dx := ⟨fun K => He.ga K "law", "law", "law", defArgs st_law, defBody st_law, defScope st_law, []⟩
theorem sc_law : FnScope ["_law_script", "_law_k", "_law_pool_here", "_law_base", "_law_width", "_law_size", "_law_turn", "_law_a", "_law_b", "_law_c", "_law_zero", "_law_unit", "_law_m", "_law_n", "_law_total"] ["_law_script"] (defScope st_law) := ⟨rfl, rfl, rfl, by decide +kernel, rfl, by decide +kernel, by decide +kernel⟩
def fx : List Fx := [.isf [0],
  .fa (.free "bool"),
  .fa (.free "isinstance"),
  .fa (.free "int"),
  .fa (.free "range"),
  .fld [0],
  .fa (.free "tuple"),
  .fa (.int "MOST_WIDTH" 40),
  .fa (.int "MOST_BASE" 36),
  .fa (.free "len"),
  .fa (.free "all"),
  .fa (.free "list"),
  .fa (.glo "Word"),
  .opn "Word",
  .opb "Word" .Sub,
  .fa (.free "min"),
  .opb "Word" .Add,
  .fa (.free "abs"),
  .fa (.free "max"),
  .opb "Word" .RShift,
  .opb "Word" .LShift,
  .fa (.glo "is_integer"),
  .fa (.glo "is_between"),
  .fa (.glo "check_between"),
  .fa (.glo "check_integer"),
  .fa (.glo "power"),
  .fa (.glo "digits_of"),
  .fa (.glo "number_of"),
  .fa (.glo "_law_pool"),
  .fa (.glo "_law_take"),
  .fa (.glo "_law_power"),
  .fa (.glo "law"),
  .fa (.mkr "Word"),
  .cme "Word" "of",
  .prp "Word" "number",
  .fa (.cls "Word"),
  .prp "Word" "base",
  .prp "Word" "width",
  .prp "Word" "digits",
  .opr "Word" "__len__",
  .opr "Word" "__eq__",
  .opr "Word" "__bool__",
  .opr "Word" "__getitem__",
  .opr "Word" "__iter__",
  .opr "Word" "__add__",
  .opr "Word" "__sub__",
  .opr "Word" "__neg__",
  .opr "Word" "__invert__",
  .opr "Word" "__lshift__",
  .opr "Word" "__rshift__"]
def fn : List Dx := [dx_is_integer, dx_is_between, dx_check_between, dx_check_integer, dx_power, dx_digits_of, dx_number_of, dx_Word_init, dx_Word_of, dx_Word_number, dx_Word_base, dx_Word_width, dx_Word_digits, dx_Word_len, dx_Word_eq, dx_Word_bool, dx_Word_getitem, dx_Word_iter, dx_Word_add, dx_Word_sub, dx_Word_neg, dx_Word_invert, dx_Word_lshift, dx_Word_rshift, dx_law_pool, dx_law_take, dx_law_power, dx_law]
section
variable {P : Program} {w : World} {K : PySem.W.Frag} {mg : Str → Option Value} {base : Heap}
theorem w_is_integer (b0 : Bas fx fn K mg) {f : Addr} (cdv : Value) (A : Around) (outer : List Env) (s : Shared) (H : Hp) (E : XK) (hr : Room 0 (A.deeper (envOfC "is_integer" (defScope st_is_integer) s.heap.objs.size f cdv))) : PSsM (cxOf (L2.CX P w) P w K mg base ["value"] "is_integer" (defScope st_is_integer) f cdv A outer s H E).nox (gOf K cs) WF (defBody st_is_integer) m_is_integer :=
  have nd := sc_is_integer.nd
  ss_one (s_ret (m_and (m_isi (b0.isf 0) (m_var 0) (ce_ty (b0.free 3) rfl) (b0.free 2)) (m_one (m_not (m_isi (b0.isf 0) (m_var 0) (ce_ty (b0.free 1) rfl) (b0.free 2))))))
theorem ok_is_integer (b0 : Bas fx fn K mg) : ∃ fd, FnOk P w K mg base (L2.CX P w) 1 (He.ga K "is_integer") fd ["value"] (spM K (gOf K cs) 1 F_is_integer) ∧ FunD K "is_integer" "is_integer" (defArgs st_is_integer) (defBody st_is_integer) (defScope st_is_integer) dx_is_integer.dfl [] (He.ga K "is_integer") fd := by
  obtain ⟨fd, F⟩ := b0.c.def_ 0 (d := dx_is_integer) rfl
  exact ⟨fd, df_N F sc_is_integer fun cdv A outer s H E hr => w_is_integer b0 cdv A outer s H E hr, F⟩
theorem d_is_integer (b0 : Bas fx fn K mg) : Def0 P w K mg base (gOf K cs) "is_integer" 1 F_is_integer 1 [] := by
  obtain ⟨fd, ok, F⟩ := ok_is_integer (P := P) (w := w) (base := base) b0
  exact mkDef0 ok (b0.glo 21) F.kp (F.bindsN (ps := ["value"]) fun _ _ _ _ _ _ us hl => match us, hl with | [_], _ => rfl) fnM_ar
theorem w_is_between (b0 : Bas fx fn K mg) {f : Addr} (cdv : Value) (A : Around) (outer : List Env) (s : Shared) (H : Hp) (E : XK) (hr : Room 1 (A.deeper (envOfC "is_between" (defScope st_is_between) s.heap.objs.size f cdv))) : PSsM (cxOf (L2.CX P w) P w K mg base ["value", "low", "high"] "is_between" (defScope st_is_between) f cdv A outer s H E).nox (gOf K cs) WF (defBody st_is_between) m_is_between :=
  have nd := sc_is_between.nd
  ss_one (s_ret (m_and (m_call (d_is_integer b0) hr pas0 (a_cons (m_var 0) a_nil)) (m_one (m_chain op_le op_le (m_var 1) (m_var 0) (m_var 2)))))
theorem ok_is_between (b0 : Bas fx fn K mg) : ∃ fd, FnOk P w K mg base (L2.CX P w) 2 (He.ga K "is_between") fd ["value", "low", "high"] (spM K (gOf K cs) 3 F_is_between) ∧ FunD K "is_between" "is_between" (defArgs st_is_between) (defBody st_is_between) (defScope st_is_between) dx_is_between.dfl [] (He.ga K "is_between") fd := by
  obtain ⟨fd, F⟩ := b0.c.def_ 1 (d := dx_is_between) rfl
  exact ⟨fd, df_N F sc_is_between fun cdv A outer s H E hr => w_is_between b0 cdv A outer s H E hr, F⟩
theorem d_is_between (b0 : Bas fx fn K mg) : Def0 P w K mg base (gOf K cs) "is_between" 3 F_is_between 2 [] := by
  obtain ⟨fd, ok, F⟩ := ok_is_between (P := P) (w := w) (base := base) b0
  exact mkDef0 ok (b0.glo 22) F.kp (F.bindsN (ps := ["value", "low", "high"]) fun _ _ _ _ _ _ us hl => match us, hl with | [_, _, _], _ => rfl) fnM_ar
theorem w_check_between (b0 : Bas fx fn K mg) {f : Addr} (cdv : Value) (A : Around) (outer : List Env) (s : Shared) (H : Hp) (E : XK) (hr : Room 2 (A.deeper (envOfC "check_between" (defScope st_check_between) s.heap.objs.size f cdv))) : PSsM (cxOf (L2.CX P w) P w K mg base ["value", "low", "high"] "check_between" (defScope st_check_between) f cdv A outer s H E).nox (gOf K cs) WF (defBody st_check_between) m_check_between :=
  have nd := sc_check_between.nd
  ss_one (s_if (t_not (t_tru (m_call (d_is_between b0) hr pas0 (a_cons (m_var 0) (a_cons (m_var 1) (a_cons (m_var 2) a_nil)))))) (ss_one s_never) ss_nil)
theorem ok_check_between (b0 : Bas fx fn K mg) : ∃ fd, FnOk P w K mg base (L2.CX P w) 3 (He.ga K "check_between") fd ["value", "low", "high"] (spM K (gOf K cs) 3 F_check_between) ∧ FunD K "check_between" "check_between" (defArgs st_check_between) (defBody st_check_between) (defScope st_check_between) dx_check_between.dfl [] (He.ga K "check_between") fd := by
  obtain ⟨fd, F⟩ := b0.c.def_ 2 (d := dx_check_between) rfl
  exact ⟨fd, df_N F sc_check_between fun cdv A outer s H E hr => w_check_between b0 cdv A outer s H E hr, F⟩
theorem d_check_between (b0 : Bas fx fn K mg) : Def0 P w K mg base (gOf K cs) "check_between" 3 F_check_between 3 [] := by
  obtain ⟨fd, ok, F⟩ := ok_check_between (P := P) (w := w) (base := base) b0
  exact mkDef0 ok (b0.glo 23) F.kp (F.bindsN (ps := ["value", "low", "high"]) fun _ _ _ _ _ _ us hl => match us, hl with | [_, _, _], _ => rfl) fnM_ar
theorem w_check_integer (b0 : Bas fx fn K mg) {f : Addr} (cdv : Value) (A : Around) (outer : List Env) (s : Shared) (H : Hp) (E : XK) (hr : Room 1 (A.deeper (envOfC "check_integer" (defScope st_check_integer) s.heap.objs.size f cdv))) : PSsM (cxOf (L2.CX P w) P w K mg base ["value"] "check_integer" (defScope st_check_integer) f cdv A outer s H E).nox (gOf K cs) WF (defBody st_check_integer) m_check_integer :=
  have nd := sc_check_integer.nd
  ss_one (s_if (t_not (t_tru (m_call (d_is_integer b0) hr pas0 (a_cons (m_var 0) a_nil)))) (ss_one s_never) ss_nil)
theorem ok_check_integer (b0 : Bas fx fn K mg) : ∃ fd, FnOk P w K mg base (L2.CX P w) 2 (He.ga K "check_integer") fd ["value"] (spM K (gOf K cs) 1 F_check_integer) ∧ FunD K "check_integer" "check_integer" (defArgs st_check_integer) (defBody st_check_integer) (defScope st_check_integer) dx_check_integer.dfl [] (He.ga K "check_integer") fd := by
  obtain ⟨fd, F⟩ := b0.c.def_ 3 (d := dx_check_integer) rfl
  exact ⟨fd, df_N F sc_check_integer fun cdv A outer s H E hr => w_check_integer b0 cdv A outer s H E hr, F⟩
theorem d_check_integer (b0 : Bas fx fn K mg) : Def0 P w K mg base (gOf K cs) "check_integer" 1 F_check_integer 2 [] := by
  obtain ⟨fd, ok, F⟩ := ok_check_integer (P := P) (w := w) (base := base) b0
  exact mkDef0 ok (b0.glo 24) F.kp (F.bindsN (ps := ["value"]) fun _ _ _ _ _ _ us hl => match us, hl with | [_], _ => rfl) fnM_ar
theorem w_power (b0 : Bas fx fn K mg) {f : Addr} (cdv : Value) (A : Around) (outer : List Env) (s : Shared) (H : Hp) (E : XK) (hr : Room 0 (A.deeper (envOfC "power" (defScope st_power) s.heap.objs.size f cdv))) : PSsM (cxOf (L2.CX P w) P w K mg base ["base", "exponent", "result", "turn"] "power" (defScope st_power) f cdv A outer s H E).nox (gOf K cs) WF (defBody st_power) m_power :=
  have nd := sc_power.nd
  ss_cons (s_set (i := 2) m_int nd)
  (ss_cons (s_for po0 (i_rng1 (a_cons (m_var 1) a_nil) (b0.free 4)) (g_name 3 nd) (ss_one (s_set (i := 2) (m_mul (m_var 2) (m_var 0)) nd)))
  (ss_one (s_ret (m_var 2))))
theorem ok_power (b0 : Bas fx fn K mg) : ∃ fd, FnOk P w K mg base (L2.CX P w) 1 (He.ga K "power") fd ["base", "exponent"] (spM K (gOf K cs) 2 F_power) ∧ FunD K "power" "power" (defArgs st_power) (defBody st_power) (defScope st_power) dx_power.dfl [] (He.ga K "power") fd := by
  obtain ⟨fd, F⟩ := b0.c.def_ 4 (d := dx_power) rfl
  exact ⟨fd, df_N F sc_power fun cdv A outer s H E hr => w_power b0 cdv A outer s H E hr, F⟩
theorem d_power (b0 : Bas fx fn K mg) : Def0 P w K mg base (gOf K cs) "power" 2 F_power 1 [] := by
  obtain ⟨fd, ok, F⟩ := ok_power (P := P) (w := w) (base := base) b0
  exact mkDef0 ok (b0.glo 25) F.kp (F.bindsN (ps := ["base", "exponent"]) fun _ _ _ _ _ _ us hl => match us, hl with | [_, _], _ => rfl) fnM_ar
theorem w_digits_of (b0 : Bas fx fn K mg) {f : Addr} (cdv : Value) (A : Around) (outer : List Env) (s : Shared) (H : Hp) (E : XK) (hr : Room 1 (A.deeper (envOfC "digits_of" (defScope st_digits_of) s.heap.objs.size f cdv))) : PSsM (cxOf (L2.CX P w) P w K mg base ["number", "base", "width", "place"] "digits_of" (defScope st_digits_of) f cdv A outer s H E).nox (gOf K cs) WF (defBody st_digits_of) m_digits_of :=
  have nd := sc_digits_of.nd
  ss_one (s_ret (PEF.sh (f_lc (own := [("place", 3)]) (i_rng1 (a_cons (m_var 2) a_nil) (b0.free 4)) (blkOk_by (by rfl)) nd (fun _ => g_name 3 nd) (fun _ => ts_nil) (fun _ => m_mod (m_div (m_var 0) (m_call (d_power b0) hr pas0 (a_cons (m_var 1) (a_cons (m_var 3) a_nil)))) (m_var 1)))))
theorem ok_digits_of (b0 : Bas fx fn K mg) : ∃ fd, FnOk P w K mg base (L2.CX P w) 2 (He.ga K "digits_of") fd ["number", "base", "width"] (spM K (gOf K cs) 3 F_digits_of) ∧ FunD K "digits_of" "digits_of" (defArgs st_digits_of) (defBody st_digits_of) (defScope st_digits_of) dx_digits_of.dfl [] (He.ga K "digits_of") fd := by
  obtain ⟨fd, F⟩ := b0.c.def_ 5 (d := dx_digits_of) rfl
  exact ⟨fd, df_N F sc_digits_of fun cdv A outer s H E hr => w_digits_of b0 cdv A outer s H E hr, F⟩
theorem d_digits_of (b0 : Bas fx fn K mg) : Def0 P w K mg base (gOf K cs) "digits_of" 3 F_digits_of 2 [] := by
  obtain ⟨fd, ok, F⟩ := ok_digits_of (P := P) (w := w) (base := base) b0
  exact mkDef0 ok (b0.glo 26) F.kp (F.bindsN (ps := ["number", "base", "width"]) fun _ _ _ _ _ _ us hl => match us, hl with | [_, _, _], _ => rfl) fnM_ar
theorem w_number_of (b0 : Bas fx fn K mg) {f : Addr} (cdv : Value) (A : Around) (outer : List Env) (s : Shared) (H : Hp) (E : XK) (hr : Room 0 (A.deeper (envOfC "number_of" (defScope st_number_of) s.heap.objs.size f cdv))) : PSsM (cxOf (L2.CX P w) P w K mg base ["digits", "base", "result", "digit"] "number_of" (defScope st_number_of) f cdv A outer s H E).nox (gOf K cs) WF (defBody st_number_of) m_number_of :=
  have nd := sc_number_of.nd
  ss_cons (s_set (i := 2) m_int nd)
  (ss_cons (s_for po0 (i_seq (m_revL (m_var 0))) (g_name 3 nd) (ss_one (s_set (i := 2) (m_add (m_mul (m_var 2) (m_var 1)) (m_var 3)) nd)))
  (ss_one (s_ret (m_var 2))))
theorem ok_number_of (b0 : Bas fx fn K mg) : ∃ fd, FnOk P w K mg base (L2.CX P w) 1 (He.ga K "number_of") fd ["digits", "base"] (spM K (gOf K cs) 2 F_number_of) ∧ FunD K "number_of" "number_of" (defArgs st_number_of) (defBody st_number_of) (defScope st_number_of) dx_number_of.dfl [] (He.ga K "number_of") fd := by
  obtain ⟨fd, F⟩ := b0.c.def_ 6 (d := dx_number_of) rfl
  exact ⟨fd, df_N F sc_number_of fun cdv A outer s H E hr => w_number_of b0 cdv A outer s H E hr, F⟩
theorem d_number_of (b0 : Bas fx fn K mg) : Def0 P w K mg base (gOf K cs) "number_of" 2 F_number_of 1 [] := by
  obtain ⟨fd, ok, F⟩ := ok_number_of (P := P) (w := w) (base := base) b0
  exact mkDef0 ok (b0.glo 27) F.kp (F.bindsN (ps := ["digits", "base"]) fun _ _ _ _ _ _ us hl => match us, hl with | [_, _], _ => rfl) fnM_ar
theorem w_Word_init (b0 : Bas fx fn K mg) {f : Addr} (cdv : Value) (A : Around) (outer : List Env) (s : Shared) (H : Hp) (E : XK) (hr : Room 3 (A.deeper (envOfC "Word.__init__" (defScope st_Word_init) s.heap.objs.size f cdv))) : PSsM (cxOf (L2.CX P w) P w K mg base ["self", "value", "base", "width"] "Word.__init__" (defScope st_Word_init) f cdv A outer s H E).nox (gOf K cs) WF (defBody st_Word_init) m_Word_init :=
  have nd := sc_Word_init.nd
  ss_cons (s_expr (m_call (d_check_between b0) hr pas0 (a_cons (m_var 2) (a_cons m_int (a_cons (m_gint rfl (b0.int 8)) a_nil)))))
  (ss_cons (s_expr (m_call (d_check_between b0) hr pas0 (a_cons (m_var 3) (a_cons m_int (a_cons (m_gint rfl (b0.int 7)) a_nil)))))
  (ss_cons (s_expr (m_call (d_check_integer b0) hr pas0 (a_cons (m_var 1) a_nil)))
  (ss_cons (s_fld 0 (b0.fld 5) (m_var 2))
  (ss_cons (s_fld 0 (b0.fld 5) (m_mod (m_var 1) (m_call (d_power b0) hr pas0 (a_cons (m_var 2) (a_cons (m_var 3) a_nil)))))
  (ss_one (s_fld 0 (b0.fld 5) (m_ct call_tuple_of rc_tuple (b0.free 6) rfl (a_cons (m_call (d_digits_of b0) hr pas0 (a_cons (m_fldS 0 (b0.fld 5)) (a_cons (m_var 2) (a_cons (m_var 3) a_nil)))) a_nil))))))))
theorem ok_Word_init (b0 : Bas fx fn K mg) : ∃ fd, FnOk P w K mg base (L2.CX P w) 4 (He.ma K (He.ga K "Word") "__init__") fd ["self", "value", "base", "width"] (spM K (gOf K cs) 4 F_Word_init) ∧ FunD K "__init__" "Word.__init__" (defArgs st_Word_init) (defBody st_Word_init) (defScope st_Word_init) dx_Word_init.dfl [] (He.ma K (He.ga K "Word") "__init__") fd := by
  obtain ⟨fd, F⟩ := b0.c.def_ 7 (d := dx_Word_init) rfl
  exact ⟨fd, df_N F sc_Word_init fun cdv A outer s H E hr => w_Word_init b0 cdv A outer s H E hr, F⟩
theorem k_Word_init (b0 : Bas fx fn K mg) : Mak P w K mg base (gOf K cs) "Word" 0 4 F_Word_init 4 [] := by
  obtain ⟨fd, ok, F⟩ := ok_Word_init (P := P) (w := w) (base := base) b0
  exact mkMak ok (b0.mkr 32) (b0.glo 12) (by obtain ⟨ds, v, b⟩ := (F.binds1 (ps := ["self", "value", "base", "width"]) 4 2 (by decide) rfl fun _ _ _ _ _ _ _ us its h1 h2 => match us, h1, its, h2 with | [_, _, _, _], _, [_, _], _ => ⟨_, rfl, rfl⟩); cases v; exact b) rfl fnM_ar
theorem w_Word_of (b0 : Bas fx fn K mg) {f : Addr} (cdv : Value) (A : Around) (outer : List Env) (s : Shared) (H : Hp) (E : XK) (hr : Room 5 (A.deeper (envOfC "Word.of" (defScope st_Word_of) s.heap.objs.size f cdv))) : PSsM (cxOf (L2.CX P w) P w K mg base ["cls", "digits", "base", "digit"] "Word.of" (defScope st_Word_of) f cdv A outer s H E).nox (gOf K cs) WF (defBody st_Word_of) m_Word_of :=
  have nd := sc_Word_of.nd
  ss_cons (s_expr (m_call (d_check_between b0) hr pas0 (a_cons (m_var 2) (a_cons m_int (a_cons (m_gint rfl (b0.int 8)) a_nil)))))
  (ss_cons (s_if (PWM.t (w_or (t_not (t_tru (m_isiT (b0.isf 0) (m_var 1) (ces_cons (ce_ty (b0.free 11) rfl) (ces_cons (ce_ty (b0.free 6) rfl) ces_nil)) (b0.free 2)))) (w_or1 (t_not (t_chain op_le op_le m_int (m_cb call_len rc_len (b0.free 9) rfl (a_cons (m_var 1) a_nil)) (m_gint rfl (b0.int 7))))))) (ss_one s_never) ss_nil)
  (ss_cons (s_if (t_not (t_tru (m_cb (cr_all rfl) rc_all (b0.free 10) rfl (a_cons (PEF.sh (f_lc (own := [("digit", 3)]) (i_seq (m_var 1)) (blkOk_by (by rfl)) nd (fun _ => g_name 3 nd) (fun _ => ts_nil) (fun _ => m_call (d_is_between b0) hr pas0 (a_cons (m_var 3) (a_cons m_int (a_cons (m_sub (m_var 2) m_int) a_nil)))))) a_nil)))) (ss_one s_never) ss_nil)
  (ss_one (s_ret (PEF.sh (f_cls 0 (k_Word_init b0) hr pas0 (a_cons (m_call (d_number_of b0) hr pas0 (a_cons (m_var 1) (a_cons (m_var 2) a_nil))) (a_cons (m_var 2) (a_cons (m_cb call_len rc_len (b0.free 9) rfl (a_cons (m_var 1) a_nil)) a_nil)))))))))
theorem ok_Word_of (b0 : Bas fx fn K mg) : ∃ fd, FnOk P w K mg base (L2.CX P w) 6 (cmG K "Word" "of") fd ["cls", "digits", "base"] (spM K (gOf K cs) 3 F_Word_of) ∧ FunD K "of" "Word.of" (defArgs st_Word_of) (defBody st_Word_of) (defScope st_Word_of) dx_Word_of.dfl [] (cmG K "Word" "of") fd := by
  obtain ⟨fd, F⟩ := b0.c.def_ 8 (d := dx_Word_of) rfl
  exact ⟨fd, df_N F sc_Word_of fun cdv A outer s H E hr => w_Word_of b0 cdv A outer s H E hr, F⟩
theorem c_Word_of (b0 : Bas fx fn K mg) : Cme P w K mg base (gOf K cs) "Word" 0 "of" F_Word_of 6 [] := by
  obtain ⟨fd, ok, F⟩ := ok_Word_of (P := P) (w := w) (base := base) b0
  exact mkCme ok (b0.cme 33) (by obtain ⟨ds, v, b⟩ := (F.binds1 (ps := ["cls", "digits", "base"]) 3 1 (by decide) rfl fun _ _ _ _ _ _ _ us its h1 h2 => match us, h1, its, h2 with | [_, _, _], _, [_], _ => ⟨_, rfl, rfl⟩); cases v; exact b) (b0.glo 12) fnM_ar
theorem w_Word_number (b0 : Bas fx fn K mg) {f : Addr} (cdv : Value) (A : Around) (outer : List Env) (s : Shared) (H : Hp) (E : XK) (hr : Room 0 (A.deeper (envOfC "Word.number" (defScope st_Word_number) s.heap.objs.size f cdv))) : PSsM (cxOf (L2.CX P w) P w K mg base ["self"] "Word.number" (defScope st_Word_number) f cdv A outer s H E).nox (gOf K cs) WF (defBody st_Word_number) m_Word_number :=
  have nd := sc_Word_number.nd
  ss_one (s_ret (m_fld (b0.fld 5) (m_var 0)))
theorem ok_Word_number (b0 : Bas fx fn K mg) : ∃ fd, FnOk P w K mg base (L2.CX P w) 1 (prG K "Word" "number") fd ["self"] (spM K (gOf K cs) 1 F_Word_number) ∧ FunD K "number" "Word.number" (defArgs st_Word_number) (defBody st_Word_number) (defScope st_Word_number) dx_Word_number.dfl [] (prG K "Word" "number") fd := by
  obtain ⟨fd, F⟩ := b0.c.def_ 9 (d := dx_Word_number) rfl
  exact ⟨fd, df_N F sc_Word_number fun cdv A outer s H E hr => w_Word_number b0 cdv A outer s H E hr, F⟩
theorem p_Word_number (b0 : Bas fx fn K mg) : Prp P w K mg base (gOf K cs) 0 "number" F_Word_number 1 := by
  obtain ⟨fd, ok, F⟩ := ok_Word_number (P := P) (w := w) (base := base) b0
  exact mkPrp ok (b0.prp 34) (F.bindsN (ps := ["self"]) fun _ _ _ _ _ _ us hl => match us, hl with | [_], _ => rfl) (b0.cls 35) fnM_ar
theorem w_Word_base (b0 : Bas fx fn K mg) {f : Addr} (cdv : Value) (A : Around) (outer : List Env) (s : Shared) (H : Hp) (E : XK) (hr : Room 0 (A.deeper (envOfC "Word.base" (defScope st_Word_base) s.heap.objs.size f cdv))) : PSsM (cxOf (L2.CX P w) P w K mg base ["self"] "Word.base" (defScope st_Word_base) f cdv A outer s H E).nox (gOf K cs) WF (defBody st_Word_base) m_Word_base :=
  have nd := sc_Word_base.nd
  ss_one (s_ret (m_fld (b0.fld 5) (m_var 0)))
theorem ok_Word_base (b0 : Bas fx fn K mg) : ∃ fd, FnOk P w K mg base (L2.CX P w) 1 (prG K "Word" "base") fd ["self"] (spM K (gOf K cs) 1 F_Word_base) ∧ FunD K "base" "Word.base" (defArgs st_Word_base) (defBody st_Word_base) (defScope st_Word_base) dx_Word_base.dfl [] (prG K "Word" "base") fd := by
  obtain ⟨fd, F⟩ := b0.c.def_ 10 (d := dx_Word_base) rfl
  exact ⟨fd, df_N F sc_Word_base fun cdv A outer s H E hr => w_Word_base b0 cdv A outer s H E hr, F⟩
theorem p_Word_base (b0 : Bas fx fn K mg) : Prp P w K mg base (gOf K cs) 0 "base" F_Word_base 1 := by
  obtain ⟨fd, ok, F⟩ := ok_Word_base (P := P) (w := w) (base := base) b0
  exact mkPrp ok (b0.prp 36) (F.bindsN (ps := ["self"]) fun _ _ _ _ _ _ us hl => match us, hl with | [_], _ => rfl) (b0.cls 35) fnM_ar
theorem w_Word_width (b0 : Bas fx fn K mg) {f : Addr} (cdv : Value) (A : Around) (outer : List Env) (s : Shared) (H : Hp) (E : XK) (hr : Room 0 (A.deeper (envOfC "Word.width" (defScope st_Word_width) s.heap.objs.size f cdv))) : PSsM (cxOf (L2.CX P w) P w K mg base ["self"] "Word.width" (defScope st_Word_width) f cdv A outer s H E).nox (gOf K cs) WF (defBody st_Word_width) m_Word_width :=
  have nd := sc_Word_width.nd
  ss_one (s_ret (m_cb call_len rc_len (b0.free 9) rfl (a_cons (m_fld (b0.fld 5) (m_var 0)) a_nil)))
theorem ok_Word_width (b0 : Bas fx fn K mg) : ∃ fd, FnOk P w K mg base (L2.CX P w) 1 (prG K "Word" "width") fd ["self"] (spM K (gOf K cs) 1 F_Word_width) ∧ FunD K "width" "Word.width" (defArgs st_Word_width) (defBody st_Word_width) (defScope st_Word_width) dx_Word_width.dfl [] (prG K "Word" "width") fd := by
  obtain ⟨fd, F⟩ := b0.c.def_ 11 (d := dx_Word_width) rfl
  exact ⟨fd, df_N F sc_Word_width fun cdv A outer s H E hr => w_Word_width b0 cdv A outer s H E hr, F⟩
theorem p_Word_width (b0 : Bas fx fn K mg) : Prp P w K mg base (gOf K cs) 0 "width" F_Word_width 1 := by
  obtain ⟨fd, ok, F⟩ := ok_Word_width (P := P) (w := w) (base := base) b0
  exact mkPrp ok (b0.prp 37) (F.bindsN (ps := ["self"]) fun _ _ _ _ _ _ us hl => match us, hl with | [_], _ => rfl) (b0.cls 35) fnM_ar
theorem w_Word_digits (b0 : Bas fx fn K mg) {f : Addr} (cdv : Value) (A : Around) (outer : List Env) (s : Shared) (H : Hp) (E : XK) (hr : Room 0 (A.deeper (envOfC "Word.digits" (defScope st_Word_digits) s.heap.objs.size f cdv))) : PSsM (cxOf (L2.CX P w) P w K mg base ["self"] "Word.digits" (defScope st_Word_digits) f cdv A outer s H E).nox (gOf K cs) WF (defBody st_Word_digits) m_Word_digits :=
  have nd := sc_Word_digits.nd
  ss_one (s_ret (m_fld (b0.fld 5) (m_var 0)))
theorem ok_Word_digits (b0 : Bas fx fn K mg) : ∃ fd, FnOk P w K mg base (L2.CX P w) 1 (prG K "Word" "digits") fd ["self"] (spM K (gOf K cs) 1 F_Word_digits) ∧ FunD K "digits" "Word.digits" (defArgs st_Word_digits) (defBody st_Word_digits) (defScope st_Word_digits) dx_Word_digits.dfl [] (prG K "Word" "digits") fd := by
  obtain ⟨fd, F⟩ := b0.c.def_ 12 (d := dx_Word_digits) rfl
  exact ⟨fd, df_N F sc_Word_digits fun cdv A outer s H E hr => w_Word_digits b0 cdv A outer s H E hr, F⟩
theorem p_Word_digits (b0 : Bas fx fn K mg) : Prp P w K mg base (gOf K cs) 0 "digits" F_Word_digits 1 := by
  obtain ⟨fd, ok, F⟩ := ok_Word_digits (P := P) (w := w) (base := base) b0
  exact mkPrp ok (b0.prp 38) (F.bindsN (ps := ["self"]) fun _ _ _ _ _ _ us hl => match us, hl with | [_], _ => rfl) (b0.cls 35) fnM_ar
theorem w_Word_len (b0 : Bas fx fn K mg) {f : Addr} (cdv : Value) (A : Around) (outer : List Env) (s : Shared) (H : Hp) (E : XK) (hr : Room 0 (A.deeper (envOfC "Word.__len__" (defScope st_Word_len) s.heap.objs.size f cdv))) : PSsM (cxOf (L2.CX P w) P w K mg base ["self"] "Word.__len__" (defScope st_Word_len) f cdv A outer s H E).nox (gOf K cs) WF (defBody st_Word_len) m_Word_len :=
  have nd := sc_Word_len.nd
  ss_one (s_ret (m_cb call_len rc_len (b0.free 9) rfl (a_cons (m_fld (b0.fld 5) (m_var 0)) a_nil)))
theorem ok_Word_len (b0 : Bas fx fn K mg) : ∃ fd, FnOk P w K mg base (L2.CX P w) 1 (He.ma K (He.ga K "Word") "__len__") fd ["self"] (spM K (gOf K cs) 1 F_Word_len) ∧ FunD K "__len__" "Word.__len__" (defArgs st_Word_len) (defBody st_Word_len) (defScope st_Word_len) dx_Word_len.dfl [] (He.ma K (He.ga K "Word") "__len__") fd := by
  obtain ⟨fd, F⟩ := b0.c.def_ 13 (d := dx_Word_len) rfl
  exact ⟨fd, df_N F sc_Word_len fun cdv A outer s H E hr => w_Word_len b0 cdv A outer s H E hr, F⟩
theorem o_Word_len (b0 : Bas fx fn K mg) : Opr P w K mg base (gOf K cs) 0 "__len__" 1 F_Word_len 1 := by
  obtain ⟨fd, ok, F⟩ := ok_Word_len (P := P) (w := w) (base := base) b0
  exact mkOpr ok (b0.opr 39) (F.bindsN (ps := ["self"]) fun _ _ _ _ _ _ us hl => match us, hl with | [_], _ => rfl) fnM_ar
theorem w_Word_eq (b0 : Bas fx fn K mg) {f : Addr} (cdv : Value) (A : Around) (outer : List Env) (s : Shared) (H : Hp) (E : XK) (hr : Room 0 (A.deeper (envOfC "Word.__eq__" (defScope st_Word_eq) s.heap.objs.size f cdv))) : PSsM (cxOf (L2.CX P w) P w K mg base ["self", "other"] "Word.__eq__" (defScope st_Word_eq) f cdv A outer s H E).nox (gOf K cs) WF (defBody st_Word_eq) m_Word_eq :=
  have nd := sc_Word_eq.nd
  ss_one (s_ret (m_and (m_isi (b0.isf 0) (m_var 1) (ce_cl (b0.glo 12)) (b0.free 2)) (m_and (m_eq hr (m_fld (b0.fld 5) (m_var 0)) (m_fld (b0.fld 5) (m_var 1))) (m_one (m_eq hr (m_fld (b0.fld 5) (m_var 0)) (m_fld (b0.fld 5) (m_var 1)))))))
theorem ok_Word_eq (b0 : Bas fx fn K mg) : ∃ fd, FnOk P w K mg base (L2.CX P w) 1 (He.ma K (He.ga K "Word") "__eq__") fd ["self", "other"] (spM K (gOf K cs) 2 F_Word_eq) ∧ FunD K "__eq__" "Word.__eq__" (defArgs st_Word_eq) (defBody st_Word_eq) (defScope st_Word_eq) dx_Word_eq.dfl [] (He.ma K (He.ga K "Word") "__eq__") fd := by
  obtain ⟨fd, F⟩ := b0.c.def_ 14 (d := dx_Word_eq) rfl
  exact ⟨fd, df_N F sc_Word_eq fun cdv A outer s H E hr => w_Word_eq b0 cdv A outer s H E hr, F⟩
theorem o_Word_eq (b0 : Bas fx fn K mg) : Opr P w K mg base (gOf K cs) 0 "__eq__" 2 F_Word_eq 1 := by
  obtain ⟨fd, ok, F⟩ := ok_Word_eq (P := P) (w := w) (base := base) b0
  exact mkOpr ok (b0.opr 40) (F.bindsN (ps := ["self", "other"]) fun _ _ _ _ _ _ us hl => match us, hl with | [_, _], _ => rfl) fnM_ar
theorem w_Word_bool (b0 : Bas fx fn K mg) {f : Addr} (cdv : Value) (A : Around) (outer : List Env) (s : Shared) (H : Hp) (E : XK) (hr : Room 2 (A.deeper (envOfC "Word.__bool__" (defScope st_Word_bool) s.heap.objs.size f cdv))) : PSsM (cxOf (L2.CX P w) P w K mg base ["self"] "Word.__bool__" (defScope st_Word_bool) f cdv A outer s H E).nox (gOf K cs) WF (defBody st_Word_bool) m_Word_bool :=
  have nd := sc_Word_bool.nd
  ss_one (s_ret (m_ct call_bool1 rc_bool (b0.free 1) rfl (a_cons (m_neO (.cons (o_Word_eq b0) .nil) (.cons (b0.opn 13) .nil) hr pas0 (m_fld (b0.fld 5) (m_var 0)) m_int) a_nil)))
theorem ok_Word_bool (b0 : Bas fx fn K mg) : ∃ fd, FnOk P w K mg base (L2.CX P w) 3 (He.ma K (He.ga K "Word") "__bool__") fd ["self"] (spM K (gOf K cs) 1 F_Word_bool) ∧ FunD K "__bool__" "Word.__bool__" (defArgs st_Word_bool) (defBody st_Word_bool) (defScope st_Word_bool) dx_Word_bool.dfl [] (He.ma K (He.ga K "Word") "__bool__") fd := by
  obtain ⟨fd, F⟩ := b0.c.def_ 15 (d := dx_Word_bool) rfl
  exact ⟨fd, df_N F sc_Word_bool fun cdv A outer s H E hr => w_Word_bool b0 cdv A outer s H E hr, F⟩
theorem o_Word_bool (b0 : Bas fx fn K mg) : Opr P w K mg base (gOf K cs) 0 "__bool__" 1 F_Word_bool 3 := by
  obtain ⟨fd, ok, F⟩ := ok_Word_bool (P := P) (w := w) (base := base) b0
  exact mkOpr ok (b0.opr 41) (F.bindsN (ps := ["self"]) fun _ _ _ _ _ _ us hl => match us, hl with | [_], _ => rfl) fnM_ar
theorem w_Word_getitem (b0 : Bas fx fn K mg) {f : Addr} (cdv : Value) (A : Around) (outer : List Env) (s : Shared) (H : Hp) (E : XK) (hr : Room 3 (A.deeper (envOfC "Word.__getitem__" (defScope st_Word_getitem) s.heap.objs.size f cdv))) : PSsM (cxOf (L2.CX P w) P w K mg base ["self", "place"] "Word.__getitem__" (defScope st_Word_getitem) f cdv A outer s H E).nox (gOf K cs) WF (defBody st_Word_getitem) m_Word_getitem :=
  have nd := sc_Word_getitem.nd
  ss_cons (s_expr (m_call (d_check_between b0) hr pas0 (a_cons (m_var 1) (a_cons m_int (a_cons (m_sub (m_lenO (.cons (o_Word_len b0) .nil) hr pas0 (b0.free 9) (a_cons (m_fld (b0.fld 5) (m_var 0)) a_nil)) m_int) a_nil)))))
  (ss_one (s_ret (m_ix (m_fld (b0.fld 5) (m_var 0)) (m_var 1))))
theorem ok_Word_getitem (b0 : Bas fx fn K mg) : ∃ fd, FnOk P w K mg base (L2.CX P w) 4 (He.ma K (He.ga K "Word") "__getitem__") fd ["self", "place"] (spM K (gOf K cs) 2 F_Word_getitem) ∧ FunD K "__getitem__" "Word.__getitem__" (defArgs st_Word_getitem) (defBody st_Word_getitem) (defScope st_Word_getitem) dx_Word_getitem.dfl [] (He.ma K (He.ga K "Word") "__getitem__") fd := by
  obtain ⟨fd, F⟩ := b0.c.def_ 16 (d := dx_Word_getitem) rfl
  exact ⟨fd, df_N F sc_Word_getitem fun cdv A outer s H E hr => w_Word_getitem b0 cdv A outer s H E hr, F⟩
theorem o_Word_getitem (b0 : Bas fx fn K mg) : Opr P w K mg base (gOf K cs) 0 "__getitem__" 2 F_Word_getitem 4 := by
  obtain ⟨fd, ok, F⟩ := ok_Word_getitem (P := P) (w := w) (base := base) b0
  exact mkOpr ok (b0.opr 42) (F.bindsN (ps := ["self", "place"]) fun _ _ _ _ _ _ us hl => match us, hl with | [_, _], _ => rfl) fnM_ar
theorem w_Word_iter (b0 : Bas fx fn K mg) {f : Addr} (cdv : Value) (A : Around) (outer : List Env) (s : Shared) (H : Hp) (E : XK) (hr : Room 0 (A.deeper (envOfC "Word.__iter__" (defScope st_Word_iter) s.heap.objs.size f cdv))) : PSsM (cxOf (L2.CX P w) P w K mg base ["self"] "Word.__iter__" (defScope st_Word_iter) f cdv A outer s H E).nox (gOf K cs) WF (defBody st_Word_iter) m_Word_iter :=
  have nd := sc_Word_iter.nd
  ss_one s_never
theorem ok_Word_iter (b0 : Bas fx fn K mg) : ∃ fd, FnOk P w K mg base (L2.CX P w) 1 (He.ma K (He.ga K "Word") "__iter__") fd ["self"] (spM K (gOf K cs) 1 F_Word_iter) ∧ FunD K "__iter__" "Word.__iter__" (defArgs st_Word_iter) (defBody st_Word_iter) (defScope st_Word_iter) dx_Word_iter.dfl [] (He.ma K (He.ga K "Word") "__iter__") fd := by
  obtain ⟨fd, F⟩ := b0.c.def_ 17 (d := dx_Word_iter) rfl
  exact ⟨fd, df_N F sc_Word_iter fun cdv A outer s H E hr => w_Word_iter b0 cdv A outer s H E hr, F⟩
theorem o_Word_iter (b0 : Bas fx fn K mg) : Opr P w K mg base (gOf K cs) 0 "__iter__" 1 F_Word_iter 1 := by
  obtain ⟨fd, ok, F⟩ := ok_Word_iter (P := P) (w := w) (base := base) b0
  exact mkOpr ok (b0.opr 43) (F.bindsN (ps := ["self"]) fun _ _ _ _ _ _ us hl => match us, hl with | [_], _ => rfl) fnM_ar
theorem w_Word_add (b0 : Bas fx fn K mg) {f : Addr} (cdv : Value) (A : Around) (outer : List Env) (s : Shared) (H : Hp) (E : XK) (hr : Room 5 (A.deeper (envOfC "Word.__add__" (defScope st_Word_add) s.heap.objs.size f cdv))) : PSsM (cxOf (L2.CX P w) P w K mg base ["self", "other"] "Word.__add__" (defScope st_Word_add) f cdv A outer s H E).nox (gOf K cs) WF (defBody st_Word_add) m_Word_add :=
  have nd := sc_Word_add.nd
  ss_cons (s_if (PWM.t (w_or (t_neO (.cons (o_Word_eq b0) .nil) (.cons (b0.opn 13) .nil) hr pas0 (m_fld (b0.fld 5) (m_var 0)) (m_fld (b0.fld 5) (m_var 1))) (w_or1 (t_neO (.cons (o_Word_eq b0) .nil) (.cons (b0.opn 13) .nil) hr pas0 (m_lenO (.cons (o_Word_len b0) .nil) hr pas0 (b0.free 9) (a_cons (m_fld (b0.fld 5) (m_var 0)) a_nil)) (m_lenO (.cons (o_Word_len b0) .nil) hr pas0 (b0.free 9) (a_cons (m_fld (b0.fld 5) (m_var 1)) a_nil)))))) (ss_one s_never) ss_nil)
  (ss_one (s_ret (PEF.sh (f_make (k_Word_init b0) hr pas0 (a_cons (m_add (m_fld (b0.fld 5) (m_var 0)) (m_fld (b0.fld 5) (m_var 1))) (a_cons (m_fld (b0.fld 5) (m_var 0)) (a_cons (m_lenO (.cons (o_Word_len b0) .nil) hr pas0 (b0.free 9) (a_cons (m_fld (b0.fld 5) (m_var 0)) a_nil)) a_nil)))))))
theorem ok_Word_add (b0 : Bas fx fn K mg) : ∃ fd, FnOk P w K mg base (L2.CX P w) 6 (He.ma K (He.ga K "Word") "__add__") fd ["self", "other"] (spM K (gOf K cs) 2 F_Word_add) ∧ FunD K "__add__" "Word.__add__" (defArgs st_Word_add) (defBody st_Word_add) (defScope st_Word_add) dx_Word_add.dfl [] (He.ma K (He.ga K "Word") "__add__") fd := by
  obtain ⟨fd, F⟩ := b0.c.def_ 18 (d := dx_Word_add) rfl
  exact ⟨fd, df_N F sc_Word_add fun cdv A outer s H E hr => w_Word_add b0 cdv A outer s H E hr, F⟩
theorem o_Word_add (b0 : Bas fx fn K mg) : Opr P w K mg base (gOf K cs) 0 "__add__" 2 F_Word_add 6 := by
  obtain ⟨fd, ok, F⟩ := ok_Word_add (P := P) (w := w) (base := base) b0
  exact mkOpr ok (b0.opr 44) (F.bindsN (ps := ["self", "other"]) fun _ _ _ _ _ _ us hl => match us, hl with | [_, _], _ => rfl) fnM_ar
theorem w_Word_sub (b0 : Bas fx fn K mg) {f : Addr} (cdv : Value) (A : Around) (outer : List Env) (s : Shared) (H : Hp) (E : XK) (hr : Room 5 (A.deeper (envOfC "Word.__sub__" (defScope st_Word_sub) s.heap.objs.size f cdv))) : PSsM (cxOf (L2.CX P w) P w K mg base ["self", "other"] "Word.__sub__" (defScope st_Word_sub) f cdv A outer s H E).nox (gOf K cs) WF (defBody st_Word_sub) m_Word_sub :=
  have nd := sc_Word_sub.nd
  ss_cons (s_if (PWM.t (w_or (t_neO (.cons (o_Word_eq b0) .nil) (.cons (b0.opn 13) .nil) hr pas0 (m_fld (b0.fld 5) (m_var 0)) (m_fld (b0.fld 5) (m_var 1))) (w_or1 (t_neO (.cons (o_Word_eq b0) .nil) (.cons (b0.opn 13) .nil) hr pas0 (m_lenO (.cons (o_Word_len b0) .nil) hr pas0 (b0.free 9) (a_cons (m_fld (b0.fld 5) (m_var 0)) a_nil)) (m_lenO (.cons (o_Word_len b0) .nil) hr pas0 (b0.free 9) (a_cons (m_fld (b0.fld 5) (m_var 1)) a_nil)))))) (ss_one s_never) ss_nil)
  (ss_one (s_ret (PEF.sh (f_make (k_Word_init b0) hr pas0 (a_cons (m_sub (m_fld (b0.fld 5) (m_var 0)) (m_fld (b0.fld 5) (m_var 1))) (a_cons (m_fld (b0.fld 5) (m_var 0)) (a_cons (m_lenO (.cons (o_Word_len b0) .nil) hr pas0 (b0.free 9) (a_cons (m_fld (b0.fld 5) (m_var 0)) a_nil)) a_nil)))))))
theorem ok_Word_sub (b0 : Bas fx fn K mg) : ∃ fd, FnOk P w K mg base (L2.CX P w) 6 (He.ma K (He.ga K "Word") "__sub__") fd ["self", "other"] (spM K (gOf K cs) 2 F_Word_sub) ∧ FunD K "__sub__" "Word.__sub__" (defArgs st_Word_sub) (defBody st_Word_sub) (defScope st_Word_sub) dx_Word_sub.dfl [] (He.ma K (He.ga K "Word") "__sub__") fd := by
  obtain ⟨fd, F⟩ := b0.c.def_ 19 (d := dx_Word_sub) rfl
  exact ⟨fd, df_N F sc_Word_sub fun cdv A outer s H E hr => w_Word_sub b0 cdv A outer s H E hr, F⟩
theorem o_Word_sub (b0 : Bas fx fn K mg) : Opr P w K mg base (gOf K cs) 0 "__sub__" 2 F_Word_sub 6 := by
  obtain ⟨fd, ok, F⟩ := ok_Word_sub (P := P) (w := w) (base := base) b0
  exact mkOpr ok (b0.opr 45) (F.bindsN (ps := ["self", "other"]) fun _ _ _ _ _ _ us hl => match us, hl with | [_, _], _ => rfl) fnM_ar
theorem w_Word_neg (b0 : Bas fx fn K mg) {f : Addr} (cdv : Value) (A : Around) (outer : List Env) (s : Shared) (H : Hp) (E : XK) (hr : Room 5 (A.deeper (envOfC "Word.__neg__" (defScope st_Word_neg) s.heap.objs.size f cdv))) : PSsM (cxOf (L2.CX P w) P w K mg base ["self"] "Word.__neg__" (defScope st_Word_neg) f cdv A outer s H E).nox (gOf K cs) WF (defBody st_Word_neg) m_Word_neg :=
  have nd := sc_Word_neg.nd
  ss_one (s_ret (PEF.sh (f_make (k_Word_init b0) hr pas0 (a_cons (m_neg (m_fld (b0.fld 5) (m_var 0))) (a_cons (m_fld (b0.fld 5) (m_var 0)) (a_cons (m_lenO (.cons (o_Word_len b0) .nil) hr pas0 (b0.free 9) (a_cons (m_fld (b0.fld 5) (m_var 0)) a_nil)) a_nil))))))
theorem ok_Word_neg (b0 : Bas fx fn K mg) : ∃ fd, FnOk P w K mg base (L2.CX P w) 6 (He.ma K (He.ga K "Word") "__neg__") fd ["self"] (spM K (gOf K cs) 1 F_Word_neg) ∧ FunD K "__neg__" "Word.__neg__" (defArgs st_Word_neg) (defBody st_Word_neg) (defScope st_Word_neg) dx_Word_neg.dfl [] (He.ma K (He.ga K "Word") "__neg__") fd := by
  obtain ⟨fd, F⟩ := b0.c.def_ 20 (d := dx_Word_neg) rfl
  exact ⟨fd, df_N F sc_Word_neg fun cdv A outer s H E hr => w_Word_neg b0 cdv A outer s H E hr, F⟩
theorem o_Word_neg (b0 : Bas fx fn K mg) : Opr P w K mg base (gOf K cs) 0 "__neg__" 1 F_Word_neg 6 := by
  obtain ⟨fd, ok, F⟩ := ok_Word_neg (P := P) (w := w) (base := base) b0
  exact mkOpr ok (b0.opr 46) (F.bindsN (ps := ["self"]) fun _ _ _ _ _ _ us hl => match us, hl with | [_], _ => rfl) fnM_ar
theorem w_Word_invert (b0 : Bas fx fn K mg) {f : Addr} (cdv : Value) (A : Around) (outer : List Env) (s : Shared) (H : Hp) (E : XK) (hr : Room 6 (A.deeper (envOfC "Word.__invert__" (defScope st_Word_invert) s.heap.objs.size f cdv))) : PSsM (cxOf (L2.CX P w) P w K mg base ["self"] "Word.__invert__" (defScope st_Word_invert) f cdv A outer s H E).nox (gOf K cs) WF (defBody st_Word_invert) m_Word_invert :=
  have nd := sc_Word_invert.nd
  ss_one (s_ret (PEF.sh (f_make (k_Word_init b0) hr pas0 (a_cons (m_subO (.cons (o_Word_sub b0) .nil) (.cons (b0.opb 14) .nil) hr pas0 (m_negO (.cons (o_Word_neg b0) .nil) hr pas0 m_int) (m_fld (b0.fld 5) (m_var 0))) (a_cons (m_fld (b0.fld 5) (m_var 0)) (a_cons (m_lenO (.cons (o_Word_len b0) .nil) hr pas0 (b0.free 9) (a_cons (m_fld (b0.fld 5) (m_var 0)) a_nil)) a_nil))))))
theorem ok_Word_invert (b0 : Bas fx fn K mg) : ∃ fd, FnOk P w K mg base (L2.CX P w) 7 (He.ma K (He.ga K "Word") "__invert__") fd ["self"] (spM K (gOf K cs) 1 F_Word_invert) ∧ FunD K "__invert__" "Word.__invert__" (defArgs st_Word_invert) (defBody st_Word_invert) (defScope st_Word_invert) dx_Word_invert.dfl [] (He.ma K (He.ga K "Word") "__invert__") fd := by
  obtain ⟨fd, F⟩ := b0.c.def_ 21 (d := dx_Word_invert) rfl
  exact ⟨fd, df_N F sc_Word_invert fun cdv A outer s H E hr => w_Word_invert b0 cdv A outer s H E hr, F⟩
theorem o_Word_invert (b0 : Bas fx fn K mg) : Opr P w K mg base (gOf K cs) 0 "__invert__" 1 F_Word_invert 7 := by
  obtain ⟨fd, ok, F⟩ := ok_Word_invert (P := P) (w := w) (base := base) b0
  exact mkOpr ok (b0.opr 47) (F.bindsN (ps := ["self"]) fun _ _ _ _ _ _ us hl => match us, hl with | [_], _ => rfl) fnM_ar
theorem w_Word_lshift (b0 : Bas fx fn K mg) {f : Addr} (cdv : Value) (A : Around) (outer : List Env) (s : Shared) (H : Hp) (E : XK) (hr : Room 5 (A.deeper (envOfC "Word.__lshift__" (defScope st_Word_lshift) s.heap.objs.size f cdv))) : PSsM (cxOf (L2.CX P w) P w K mg base ["self", "other", "places"] "Word.__lshift__" (defScope st_Word_lshift) f cdv A outer s H E).nox (gOf K cs) WF (defBody st_Word_lshift) m_Word_lshift :=
  have nd := sc_Word_lshift.nd
  ss_cons (s_set (i := 2) (m_cb (call_min2 rfl) rc_min2 (b0.free 15) rfl (a_cons (m_var 1) (a_cons (m_lenO (.cons (o_Word_len b0) .nil) hr pas0 (b0.free 9) (a_cons (m_fld (b0.fld 5) (m_var 0)) a_nil)) a_nil))) nd)
  (ss_one (s_ret (PEF.sh (f_make (k_Word_init b0) hr pas0 (a_cons (m_mul (m_fld (b0.fld 5) (m_var 0)) (m_call (d_power b0) hr pas0 (a_cons (m_fld (b0.fld 5) (m_var 0)) (a_cons (m_var 2) a_nil)))) (a_cons (m_fld (b0.fld 5) (m_var 0)) (a_cons (m_lenO (.cons (o_Word_len b0) .nil) hr pas0 (b0.free 9) (a_cons (m_fld (b0.fld 5) (m_var 0)) a_nil)) a_nil)))))))
theorem ok_Word_lshift (b0 : Bas fx fn K mg) : ∃ fd, FnOk P w K mg base (L2.CX P w) 6 (He.ma K (He.ga K "Word") "__lshift__") fd ["self", "other"] (spM K (gOf K cs) 2 F_Word_lshift) ∧ FunD K "__lshift__" "Word.__lshift__" (defArgs st_Word_lshift) (defBody st_Word_lshift) (defScope st_Word_lshift) dx_Word_lshift.dfl [] (He.ma K (He.ga K "Word") "__lshift__") fd := by
  obtain ⟨fd, F⟩ := b0.c.def_ 22 (d := dx_Word_lshift) rfl
  exact ⟨fd, df_N F sc_Word_lshift fun cdv A outer s H E hr => w_Word_lshift b0 cdv A outer s H E hr, F⟩
theorem o_Word_lshift (b0 : Bas fx fn K mg) : Opr P w K mg base (gOf K cs) 0 "__lshift__" 2 F_Word_lshift 6 := by
  obtain ⟨fd, ok, F⟩ := ok_Word_lshift (P := P) (w := w) (base := base) b0
  exact mkOpr ok (b0.opr 48) (F.bindsN (ps := ["self", "other"]) fun _ _ _ _ _ _ us hl => match us, hl with | [_, _], _ => rfl) fnM_ar
theorem w_Word_rshift (b0 : Bas fx fn K mg) {f : Addr} (cdv : Value) (A : Around) (outer : List Env) (s : Shared) (H : Hp) (E : XK) (hr : Room 5 (A.deeper (envOfC "Word.__rshift__" (defScope st_Word_rshift) s.heap.objs.size f cdv))) : PSsM (cxOf (L2.CX P w) P w K mg base ["self", "other", "places"] "Word.__rshift__" (defScope st_Word_rshift) f cdv A outer s H E).nox (gOf K cs) WF (defBody st_Word_rshift) m_Word_rshift :=
  have nd := sc_Word_rshift.nd
  ss_cons (s_set (i := 2) (m_cb (call_min2 rfl) rc_min2 (b0.free 15) rfl (a_cons (m_var 1) (a_cons (m_lenO (.cons (o_Word_len b0) .nil) hr pas0 (b0.free 9) (a_cons (m_fld (b0.fld 5) (m_var 0)) a_nil)) a_nil))) nd)
  (ss_one (s_ret (PEF.sh (f_make (k_Word_init b0) hr pas0 (a_cons (m_div (m_fld (b0.fld 5) (m_var 0)) (m_call (d_power b0) hr pas0 (a_cons (m_fld (b0.fld 5) (m_var 0)) (a_cons (m_var 2) a_nil)))) (a_cons (m_fld (b0.fld 5) (m_var 0)) (a_cons (m_lenO (.cons (o_Word_len b0) .nil) hr pas0 (b0.free 9) (a_cons (m_fld (b0.fld 5) (m_var 0)) a_nil)) a_nil)))))))
theorem ok_Word_rshift (b0 : Bas fx fn K mg) : ∃ fd, FnOk P w K mg base (L2.CX P w) 6 (He.ma K (He.ga K "Word") "__rshift__") fd ["self", "other"] (spM K (gOf K cs) 2 F_Word_rshift) ∧ FunD K "__rshift__" "Word.__rshift__" (defArgs st_Word_rshift) (defBody st_Word_rshift) (defScope st_Word_rshift) dx_Word_rshift.dfl [] (He.ma K (He.ga K "Word") "__rshift__") fd := by
  obtain ⟨fd, F⟩ := b0.c.def_ 23 (d := dx_Word_rshift) rfl
  exact ⟨fd, df_N F sc_Word_rshift fun cdv A outer s H E hr => w_Word_rshift b0 cdv A outer s H E hr, F⟩
theorem o_Word_rshift (b0 : Bas fx fn K mg) : Opr P w K mg base (gOf K cs) 0 "__rshift__" 2 F_Word_rshift 6 := by
  obtain ⟨fd, ok, F⟩ := ok_Word_rshift (P := P) (w := w) (base := base) b0
  exact mkOpr ok (b0.opr 49) (F.bindsN (ps := ["self", "other"]) fun _ _ _ _ _ _ us hl => match us, hl with | [_, _], _ => rfl) fnM_ar
theorem w_law_pool (b0 : Bas fx fn K mg) {f : Addr} (cdv : Value) (A : Around) (outer : List Env) (s : Shared) (H : Hp) (E : XK) (hr : Room 6 (A.deeper (envOfC "_law_pool" (defScope st_law_pool) s.heap.objs.size f cdv))) : PSsM (cxOf (L2.CX P w) P w K mg base ["_law_script", "_law_k", "_law_cell", "_law_mixed"] "_law_pool" (defScope st_law_pool) f cdv A outer s H E).nox (gOf K cs) WF (defBody st_law_pool) m_law_pool :=
  have nd := sc_law_pool.nd
  ss_cons (s_set (i := 2) m_int nd)
  (ss_cons (s_if (t_lt (m_var 1) (m_lenO (.cons (o_Word_len b0) .nil) hr pas0 (b0.free 9) (a_cons (m_var 0) a_nil))) (ss_one (s_set (i := 2) (m_cb call_abs rc_abs (b0.free 17) rfl (a_cons (m_ixO (.cons (o_Word_getitem b0) .nil) hr pas0 (m_var 0) (m_var 1)) a_nil)) nd)) ss_nil)
  (ss_cons (s_set (i := 3) (m_mod (m_mul (m_addO (.cons (o_Word_add b0) .nil) (.cons (b0.opb 16) .nil) hr pas0 (m_addO (.cons (o_Word_add b0) .nil) (.cons (b0.opb 16) .nil) hr pas0 (m_addO (.cons (o_Word_add b0) .nil) (.cons (b0.opb 16) .nil) hr pas0 (m_mod (m_var 2) m_int) (m_mul (m_mul m_int (m_var 1)) (m_var 1))) (m_mul m_int (m_var 1))) m_int) m_int) m_int) nd)
  (ss_one (s_retF (f_lst (a_cons (m_mul (m_var 2) (m_ct call_int1 rc_int (b0.free 3) rfl (a_cons (m_ge (m_var 2) (m_pow m_int m_int)) a_nil))) (a_cons (m_mod (m_mul (m_var 3) (m_var 3)) m_int) a_nil)))))))
theorem ok_law_pool (b0 : Bas fx fn K mg) : ∃ fd, FnOk P w K mg base (L2.CX P w) 7 (He.ga K "_law_pool") fd ["_law_script", "_law_k"] (spM K (gOf K cs) 2 F_law_pool) ∧ FunD K "_law_pool" "_law_pool" (defArgs st_law_pool) (defBody st_law_pool) (defScope st_law_pool) dx_law_pool.dfl [] (He.ga K "_law_pool") fd := by
  obtain ⟨fd, F⟩ := b0.c.def_ 24 (d := dx_law_pool) rfl
  exact ⟨fd, df_N F sc_law_pool fun cdv A outer s H E hr => w_law_pool b0 cdv A outer s H E hr, F⟩
theorem d_law_pool (b0 : Bas fx fn K mg) : Def0 P w K mg base (gOf K cs) "_law_pool" 2 F_law_pool 7 [] := by
  obtain ⟨fd, ok, F⟩ := ok_law_pool (P := P) (w := w) (base := base) b0
  exact mkDef0 ok (b0.glo 28) F.kp (F.bindsN (ps := ["_law_script", "_law_k"]) fun _ _ _ _ _ _ us hl => match us, hl with | [_, _], _ => rfl) fnM_ar
theorem w_law_take (b0 : Bas fx fn K mg) {f : Addr} (cdv : Value) (A : Around) (outer : List Env) (s : Shared) (H : Hp) (E : XK) (hr : Room 6 (A.deeper (envOfC "_law_take" (defScope st_law_take) s.heap.objs.size f cdv))) : PSsM (cxOf (L2.CX P w) P w K mg base ["_law_pool_here", "_law_many", "_law_found"] "_law_take" (defScope st_law_take) f cdv A outer s H E).nox (gOf K cs) WF (defBody st_law_take) m_law_take :=
  have nd := sc_law_take.nd
  ss_cons (s_if (t_gt (m_ixS 0 m_int) m_int) (ss_cons (s_set (i := 2) (m_mod (m_ixS 0 m_int) (m_var 1)) nd)
  (ss_cons (s_put 0 (m_div (m_ixS 0 m_int) (m_var 1)) m_int)
  (ss_one (s_ret (m_var 2))))) ss_nil)
  (ss_cons (s_put 0 (m_mod (m_addO (.cons (o_Word_add b0) .nil) (.cons (b0.opb 16) .nil) hr pas0 (m_mul (m_ixS 0 m_int) m_int) m_int) m_int) m_int)
  (ss_one (s_ret (m_mod (m_div (m_mod (m_mul (m_ixS 0 m_int) (m_ixS 0 m_int)) m_int) m_int) (m_var 1)))))
theorem ok_law_take (b0 : Bas fx fn K mg) : ∃ fd, FnOk P w K mg base (L2.CX P w) 7 (He.ga K "_law_take") fd ["_law_pool_here", "_law_many"] (spM K (gOf K cs) 2 F_law_take) ∧ FunD K "_law_take" "_law_take" (defArgs st_law_take) (defBody st_law_take) (defScope st_law_take) dx_law_take.dfl [] (He.ga K "_law_take") fd := by
  obtain ⟨fd, F⟩ := b0.c.def_ 25 (d := dx_law_take) rfl
  exact ⟨fd, df_N F sc_law_take fun cdv A outer s H E hr => w_law_take b0 cdv A outer s H E hr, F⟩
theorem d_law_take (b0 : Bas fx fn K mg) : Def0 P w K mg base (gOf K cs) "_law_take" 2 F_law_take 7 [] := by
  obtain ⟨fd, ok, F⟩ := ok_law_take (P := P) (w := w) (base := base) b0
  exact mkDef0 ok (b0.glo 29) F.kp (F.bindsN (ps := ["_law_pool_here", "_law_many"]) fun _ _ _ _ _ _ us hl => match us, hl with | [_, _], _ => rfl) fnM_ar
theorem w_law_power (b0 : Bas fx fn K mg) {f : Addr} (cdv : Value) (A : Around) (outer : List Env) (s : Shared) (H : Hp) (E : XK) (hr : Room 0 (A.deeper (envOfC "_law_power" (defScope st_law_power) s.heap.objs.size f cdv))) : PSsM (cxOf (L2.CX P w) P w K mg base ["_law_base", "_law_exponent", "_law_result", "_law_turn"] "_law_power" (defScope st_law_power) f cdv A outer s H E).nox (gOf K cs) WF (defBody st_law_power) m_law_power :=
  have nd := sc_law_power.nd
  ss_cons (s_set (i := 2) m_int nd)
  (ss_cons (s_for po0 (i_rng1 (a_cons (m_var 1) a_nil) (b0.free 4)) (g_name 3 nd) (ss_one (s_set (i := 2) (m_mul (m_var 2) (m_var 0)) nd)))
  (ss_one (s_ret (m_var 2))))
theorem ok_law_power (b0 : Bas fx fn K mg) : ∃ fd, FnOk P w K mg base (L2.CX P w) 1 (He.ga K "_law_power") fd ["_law_base", "_law_exponent"] (spM K (gOf K cs) 2 F_law_power) ∧ FunD K "_law_power" "_law_power" (defArgs st_law_power) (defBody st_law_power) (defScope st_law_power) dx_law_power.dfl [] (He.ga K "_law_power") fd := by
  obtain ⟨fd, F⟩ := b0.c.def_ 26 (d := dx_law_power) rfl
  exact ⟨fd, df_N F sc_law_power fun cdv A outer s H E hr => w_law_power b0 cdv A outer s H E hr, F⟩
theorem d_law_power (b0 : Bas fx fn K mg) : Def0 P w K mg base (gOf K cs) "_law_power" 2 F_law_power 1 [] := by
  obtain ⟨fd, ok, F⟩ := ok_law_power (P := P) (w := w) (base := base) b0
  exact mkDef0 ok (b0.glo 30) F.kp (F.bindsN (ps := ["_law_base", "_law_exponent"]) fun _ _ _ _ _ _ us hl => match us, hl with | [_, _], _ => rfl) fnM_ar
theorem w_law (b0 : Bas fx fn K mg) {f : Addr} (cdv : Value) (A : Around) (outer : List Env) (s : Shared) (H : Hp) (E : XK) (hr : Room 7 (A.deeper (envOfC "law" (defScope st_law) s.heap.objs.size f cdv))) : PSsM (cxOf (L2.CX P w) P w K mg base ["_law_script", "_law_k", "_law_pool_here", "_law_base", "_law_width", "_law_size", "_law_turn", "_law_a", "_law_b", "_law_c", "_law_zero", "_law_unit", "_law_m", "_law_n", "_law_total"] "law" (defScope st_law) f cdv A outer s H E).nox (gOf K cs) WF (defBody st_law) m_law :=
  have nd := sc_law.nd
  ss_cons (s_for po0 (i_rng1 (a_cons (m_cb (call_max2 rfl) rc_max2 (b0.free 18) rfl (a_cons m_int (a_cons (m_cb (call_min2 rfl) rc_min2 (b0.free 15) rfl (a_cons m_int (a_cons (m_lenO (.cons (o_Word_len b0) .nil) hr pas0 (b0.free 9) (a_cons (m_var 0) a_nil)) a_nil))) a_nil))) a_nil) (b0.free 4)) (g_name 1 nd) (ss_cons (s_setF (i := 2) (f_call (d_law_pool b0) hr pas0 (a_cons (m_var 0) (a_cons (m_var 1) a_nil))) nd)
  (ss_cons (s_asg (m_tup (a_cons (m_addO (.cons (o_Word_add b0) .nil) (.cons (b0.opb 16) .nil) hr pas0 m_int (m_callL 2 (d_law_take b0) hr pas0 (a_cons m_int a_nil))) (a_cons (m_addO (.cons (o_Word_add b0) .nil) (.cons (b0.opb 16) .nil) hr pas0 m_int (m_callL 2 (d_law_take b0) hr pas0 (a_cons m_int a_nil))) a_nil))) (g_tup (gs_cons (g_name 3 nd) (gs_cons (g_name 4 nd) gs_nil))))
  (ss_cons (s_set (i := 5) (m_call (d_law_power b0) hr pas0 (a_cons (m_var 3) (a_cons (m_var 4) a_nil))) nd)
  (ss_cons (s_asg (PEF.sh (f_lc (own := [("_law_turn", 6)]) (i_rng1 (a_cons m_int a_nil) (b0.free 4)) (blkOk_by (by rfl)) nd (fun _ => g_name 6 nd) (fun _ => ts_nil) (fun _ => PEF.sh (f_make (k_Word_init b0) hr pas0 (a_cons (m_callL 2 (d_law_take b0) hr pas0 (a_cons (m_var 5) a_nil)) (a_cons (m_var 3) (a_cons (m_var 4) a_nil))))))) (g_lst (gs_cons (g_name 7 nd) (gs_cons (g_name 8 nd) (gs_cons (g_name 9 nd) gs_nil)))))
  (ss_cons (s_par2 10 11 (a_cons (PEF.sh (f_make (k_Word_init b0) hr pas0 (a_cons m_int (a_cons (m_var 3) (a_cons (m_var 4) a_nil))))) (a_cons (PEF.sh (f_make (k_Word_init b0) hr pas0 (a_cons m_int (a_cons (m_var 3) (a_cons (m_var 4) a_nil))))) a_nil)) nd)
  (ss_cons (s_if (PWM.t (w_or (t_neO (.cons (o_Word_eq b0) .nil) (.cons (b0.opn 13) .nil) hr pas0 (m_addO (.cons (o_Word_add b0) .nil) (.cons (b0.opb 16) .nil) hr pas0 (m_var 7) (m_var 8)) (m_addO (.cons (o_Word_add b0) .nil) (.cons (b0.opb 16) .nil) hr pas0 (m_var 8) (m_var 7))) (w_or (t_neO (.cons (o_Word_eq b0) .nil) (.cons (b0.opn 13) .nil) hr pas0 (m_addO (.cons (o_Word_add b0) .nil) (.cons (b0.opb 16) .nil) hr pas0 (m_addO (.cons (o_Word_add b0) .nil) (.cons (b0.opb 16) .nil) hr pas0 (m_var 7) (m_var 8)) (m_var 9)) (m_addO (.cons (o_Word_add b0) .nil) (.cons (b0.opb 16) .nil) hr pas0 (m_var 7) (m_addO (.cons (o_Word_add b0) .nil) (.cons (b0.opb 16) .nil) hr pas0 (m_var 8) (m_var 9)))) (w_or (t_neO (.cons (o_Word_eq b0) .nil) (.cons (b0.opn 13) .nil) hr pas0 (m_subO (.cons (o_Word_sub b0) .nil) (.cons (b0.opb 14) .nil) hr pas0 (m_addO (.cons (o_Word_add b0) .nil) (.cons (b0.opb 16) .nil) hr pas0 (m_var 7) (m_var 8)) (m_var 8)) (m_var 7)) (w_or (t_neO (.cons (o_Word_eq b0) .nil) (.cons (b0.opn 13) .nil) hr pas0 (m_addO (.cons (o_Word_add b0) .nil) (.cons (b0.opb 16) .nil) hr pas0 (m_var 7) (m_negO (.cons (o_Word_neg b0) .nil) hr pas0 (m_var 7))) (m_var 10)) (w_or1 (t_neO (.cons (o_Word_eq b0) .nil) (.cons (b0.opn 13) .nil) hr pas0 (m_subO (.cons (o_Word_sub b0) .nil) (.cons (b0.opb 14) .nil) hr pas0 (m_var 7) (m_var 8)) (m_addO (.cons (o_Word_add b0) .nil) (.cons (b0.opb 16) .nil) hr pas0 (m_var 7) (m_negO (.cons (o_Word_neg b0) .nil) hr pas0 (m_var 8)))))))))) (ss_one (s_ret m_bl)) ss_nil)
  (ss_cons (s_if (PWM.t (w_or (t_neO (.cons (o_Word_eq b0) .nil) (.cons (b0.opn 13) .nil) hr pas0 (m_subO (.cons (o_Word_sub b0) .nil) (.cons (b0.opb 14) .nil) hr pas0 (m_negO (.cons (o_Word_neg b0) .nil) hr pas0 (m_var 7)) (m_var 11)) (m_invO (.cons (o_Word_invert b0) .nil) hr pas0 (m_var 7))) (w_or (t_neO (.cons (o_Word_eq b0) .nil) (.cons (b0.opn 13) .nil) hr pas0 (m_invO (.cons (o_Word_invert b0) .nil) hr pas0 (m_invO (.cons (o_Word_invert b0) .nil) hr pas0 (m_var 7))) (m_var 7)) (w_or (t_neO (.cons (o_Word_eq b0) .nil) (.cons (b0.opn 13) .nil) hr pas0 (m_negO (.cons (o_Word_neg b0) .nil) hr pas0 (m_addO (.cons (o_Word_add b0) .nil) (.cons (b0.opb 16) .nil) hr pas0 (m_var 7) (m_var 8))) (m_subO (.cons (o_Word_sub b0) .nil) (.cons (b0.opb 14) .nil) hr pas0 (m_negO (.cons (o_Word_neg b0) .nil) hr pas0 (m_var 7)) (m_var 8))) (w_or (t_neO (.cons (o_Word_eq b0) .nil) (.cons (b0.opn 13) .nil) hr pas0 (m_addO (.cons (o_Word_add b0) .nil) (.cons (b0.opb 16) .nil) hr pas0 (m_var 7) (m_var 10)) (m_var 7)) (w_or1 (t_neO (.cons (o_Word_eq b0) .nil) (.cons (b0.opn 13) .nil) hr pas0 (m_addO (.cons (o_Word_add b0) .nil) (.cons (b0.opb 16) .nil) hr pas0 (m_addO (.cons (o_Word_add b0) .nil) (.cons (b0.opb 16) .nil) hr pas0 (m_var 7) (m_invO (.cons (o_Word_invert b0) .nil) hr pas0 (m_var 8))) (m_var 11)) (m_subO (.cons (o_Word_sub b0) .nil) (.cons (b0.opb 14) .nil) hr pas0 (m_var 7) (m_var 8))))))))) (ss_one (s_ret m_bl)) ss_nil)
  (ss_cons (s_par2 12 13 (a_cons (m_callL 2 (d_law_take b0) hr pas0 (a_cons (m_addO (.cons (o_Word_add b0) .nil) (.cons (b0.opb 16) .nil) hr pas0 (m_var 4) m_int) a_nil)) (a_cons (m_callL 2 (d_law_take b0) hr pas0 (a_cons (m_addO (.cons (o_Word_add b0) .nil) (.cons (b0.opb 16) .nil) hr pas0 (m_var 4) m_int) a_nil)) a_nil)) nd)
  (ss_cons (s_if (PWM.t (w_or (t_neO (.cons (o_Word_eq b0) .nil) (.cons (b0.opn 13) .nil) hr pas0 (m_shlO (.cons (o_Word_lshift b0) .nil) (.cons (b0.opb 20) .nil) hr pas0 (m_shlO (.cons (o_Word_lshift b0) .nil) (.cons (b0.opb 20) .nil) hr pas0 (m_var 7) (m_var 12)) (m_var 13)) (m_shlO (.cons (o_Word_lshift b0) .nil) (.cons (b0.opb 20) .nil) hr pas0 (m_var 7) (m_addO (.cons (o_Word_add b0) .nil) (.cons (b0.opb 16) .nil) hr pas0 (m_var 12) (m_var 13)))) (w_or (t_neO (.cons (o_Word_eq b0) .nil) (.cons (b0.opn 13) .nil) hr pas0 (m_shrO (.cons (o_Word_rshift b0) .nil) (.cons (b0.opb 19) .nil) hr pas0 (m_shrO (.cons (o_Word_rshift b0) .nil) (.cons (b0.opb 19) .nil) hr pas0 (m_var 7) (m_var 12)) (m_var 13)) (m_shrO (.cons (o_Word_rshift b0) .nil) (.cons (b0.opb 19) .nil) hr pas0 (m_var 7) (m_addO (.cons (o_Word_add b0) .nil) (.cons (b0.opb 16) .nil) hr pas0 (m_var 12) (m_var 13)))) (w_or1 (t_neO (.cons (o_Word_eq b0) .nil) (.cons (b0.opn 13) .nil) hr pas0 (m_shlO (.cons (o_Word_lshift b0) .nil) (.cons (b0.opb 20) .nil) hr pas0 (m_addO (.cons (o_Word_add b0) .nil) (.cons (b0.opb 16) .nil) hr pas0 (m_var 7) (m_var 8)) (m_var 12)) (m_addO (.cons (o_Word_add b0) .nil) (.cons (b0.opb 16) .nil) hr pas0 (m_shlO (.cons (o_Word_lshift b0) .nil) (.cons (b0.opb 20) .nil) hr pas0 (m_var 7) (m_var 12)) (m_shlO (.cons (o_Word_lshift b0) .nil) (.cons (b0.opb 20) .nil) hr pas0 (m_var 8) (m_var 12)))))))) (ss_one (s_ret m_bl)) ss_nil)
  (ss_cons (s_if (PWM.t (w_or (t_neO (.cons (o_Word_eq b0) .nil) (.cons (b0.opn 13) .nil) hr pas0 (m_addO (.cons (o_Word_add b0) .nil) (.cons (b0.opb 16) .nil) hr pas0 (m_shlO (.cons (o_Word_lshift b0) .nil) (.cons (b0.opb 20) .nil) hr pas0 (m_shrO (.cons (o_Word_rshift b0) .nil) (.cons (b0.opb 19) .nil) hr pas0 (m_var 7) (m_var 12)) (m_var 12)) (m_subO (.cons (o_Word_sub b0) .nil) (.cons (b0.opb 14) .nil) hr pas0 (m_var 7) (m_shlO (.cons (o_Word_lshift b0) .nil) (.cons (b0.opb 20) .nil) hr pas0 (m_shrO (.cons (o_Word_rshift b0) .nil) (.cons (b0.opb 19) .nil) hr pas0 (m_var 7) (m_var 12)) (m_var 12)))) (m_var 7)) (w_or1 (t_neO (.cons (o_Word_eq b0) .nil) (.cons (b0.opn 13) .nil) hr pas0 (m_sl (m_prp (.cons (p_Word_digits b0) .nil) (m_shlO (.cons (o_Word_lshift b0) .nil) (.cons (b0.opb 20) .nil) hr pas0 (m_var 7) (m_var 12)) hr) o_none (o_some (m_var 12))) (m_mul (m_tup (a_cons m_int a_nil)) (m_cb (call_min2 rfl) rc_min2 (b0.free 15) rfl (a_cons (m_var 12) (a_cons (m_var 4) a_nil)))))))) (ss_one (s_ret m_bl)) ss_nil)
  (ss_cons (s_set (i := 14) (m_var 10) nd)
  (ss_cons (s_for po0 (i_rng1 (a_cons (m_var 3) a_nil) (b0.free 4)) (g_name 6 nd) (ss_one (s_set (i := 14) (m_addO (.cons (o_Word_add b0) .nil) (.cons (b0.opb 16) .nil) hr pas0 (m_var 14) (m_var 7)) nd)))
  (ss_cons (s_if (PWM.t (w_or (t_neO (.cons (o_Word_eq b0) .nil) (.cons (b0.opn 13) .nil) hr pas0 (m_var 14) (m_shlO (.cons (o_Word_lshift b0) .nil) (.cons (b0.opb 20) .nil) hr pas0 (m_var 7) m_int)) (w_or (t_neO (.cons (o_Word_eq b0) .nil) (.cons (b0.opn 13) .nil) hr pas0 (m_cme (c_Word_of b0) hr pas0 (a_cons (m_ct call_list_of rc_list (b0.free 11) rfl (a_cons (m_prp (.cons (p_Word_digits b0) .nil) (m_var 7) hr) a_nil)) (a_cons (m_var 3) a_nil))) (m_var 7)) (w_or1 (t_neO (.cons (o_Word_eq b0) .nil) (.cons (b0.opn 13) .nil) hr pas0 (PEF.sh (f_make (k_Word_init b0) hr pas0 (a_cons (m_addO (.cons (o_Word_add b0) .nil) (.cons (b0.opb 16) .nil) hr pas0 (m_prp (.cons (p_Word_number b0) .nil) (m_var 7) hr) (m_var 5)) (a_cons (m_var 3) (a_cons (m_var 4) a_nil))))) (m_var 7)))))) (ss_one (s_ret m_bl)) ss_nil)
  (ss_one (s_if (PWM.t (w_or (t_neO (.cons (o_Word_eq b0) .nil) (.cons (b0.opn 13) .nil) hr pas0 (m_shlO (.cons (o_Word_lshift b0) .nil) (.cons (b0.opb 20) .nil) hr pas0 (m_var 7) (m_pow m_int m_int)) (m_var 10)) (w_or (t_neO (.cons (o_Word_eq b0) .nil) (.cons (b0.opn 13) .nil) hr pas0 (m_shrO (.cons (o_Word_rshift b0) .nil) (.cons (b0.opb 19) .nil) hr pas0 (m_var 7) (m_pow m_int m_int)) (m_var 10)) (w_or (t_neO (.cons (o_Word_eq b0) .nil) (.cons (b0.opn 13) .nil) hr pas0 (m_shlO (.cons (o_Word_lshift b0) .nil) (.cons (b0.opb 20) .nil) hr pas0 (m_var 7) m_int) (m_var 7)) (w_or1 (t_neO (.cons (o_Word_eq b0) .nil) (.cons (b0.opn 13) .nil) hr pas0 (m_shrO (.cons (o_Word_rshift b0) .nil) (.cons (b0.opb 19) .nil) hr pas0 (m_var 7) m_int) (m_var 7))))))) (ss_one (s_ret m_bl)) ss_nil))))))))))))))))
  (ss_one (s_ret m_bl))
theorem ok_law (b0 : Bas fx fn K mg) : ∃ fd, FnOk P w K mg base (L2.CX P w) 8 (He.ga K "law") fd ["_law_script"] (spM K (gOf K cs) 1 F_law) ∧ FunD K "law" "law" (defArgs st_law) (defBody st_law) (defScope st_law) dx_law.dfl [] (He.ga K "law") fd := by
  obtain ⟨fd, F⟩ := b0.c.def_ 27 (d := dx_law) rfl
  exact ⟨fd, df_N F sc_law fun cdv A outer s H E hr => w_law b0 cdv A outer s H E hr, F⟩
theorem d_law (b0 : Bas fx fn K mg) : Def0 P w K mg base (gOf K cs) "law" 1 F_law 8 [] := by
  obtain ⟨fd, ok, F⟩ := ok_law (P := P) (w := w) (base := base) b0
  exact mkDef0 ok (b0.glo 31) F.kp (F.bindsN (ps := ["_law_script"]) fun _ _ _ _ _ _ us hl => match us, hl with | [_], _ => rfl) fnM_ar
end
end LW

set_option Elab.async false
set_option linter.all false
set_option maxRecDepth 100000
set_option maxHeartbeats 0
namespace LW
open PySem PySem.Spec PyProof.Rows L2 DL
abbrev R : PySem.W.OpenRow := PySem.W.OpenLaw.row PySem.Challenge.rw_carryrounds_k04_whole_rules_of_words
abbrev hk : PySem.W.Hook := hookF 5 fx fn
def ob (s : PySem.W.SharedT) : Got := see 5 fx fn (HandSHeadRun.getT s)
theorem ob_eq (s : PySem.W.SharedT) : ob s = hk.obs s.abs := see_eq (HandSHeadRun.getT_eq s)
theorem run (w : World) : HandSHeadRun.RunEq R (PySem.W.view R.prog [19]) hk ob 3000 ((["CarryError", "InvalidNumber", "InvalidWord", "MOST_BASE", "MOST_WIDTH", "is_integer", "is_between", "check_between", "check_integer", "power", "digits_of", "number_of", "Word", "_law_pool", "_law_take", "_law_power"] : List PySem.Str)) w := by
  intro os
  kernel_rfl
end LW

set_option Elab.async false
set_option linter.all false
set_option maxRecDepth 100000
set_option maxHeartbeats 400000
namespace DL
open PySem L2 PyProof.Rows
/-! ### the law's def, where nothing catches -/
theorem fn0 {P : Program} {w : World} {K : PySem.W.Frag} {mg : Str → Option Value} {base : Heap} {k : Nat} {f : Addr} {fd : FuncData} {ps : List Str} {sp : Sp} (F : FnOk P w K mg base (L2.CX P w) k f fd ps sp) :
    FnOk P w K mg base CX0 k f fd ps (fun vs H Q _ => sp vs H Q E0) :=
  ⟨fun vs H Q E h => F.len vs H Q E0 h, fun A outer s H args us vs Q E hr he hb hv hs => codeAny_mono (F.run A outer s H args us vs Q E0 hr he hb hv hs) fun r s' h => by
    cases r with
    | ok fl => cases fl <;> exact h
    | error e =>
      obtain ⟨_, _, _, _, _, _, _, _, _, _, _, _, z⟩ := h
      exact z.elim⟩
/-- the law's promise at the script -/
theorem sp_end {K : PySem.W.Frag} {g : G} {F : Fm} {ns : List Int} {H : Hp} {a : Addr} (hF : ∃ e, F [.sh (.scr ns)] = .ok (.rt (.bl true)) e) (hS : SqL K H a (ns.map V.int)) : spM K g 1 F [.ref a] H (fun v _ => v = .bl true) E0 := by
  obtain ⟨e, hF⟩ := hF
  refine ⟨H, [.sh (.scr ns)], sr_sh (ds := [.scr ns]) (Ex.refl H) (.cons (.scr hS) .nil), rfl, ?_⟩
  rw [hF]
  intro σ' Hf' H' st v r
  cases r
  rfl
end DL

set_option Elab.async false
set_option linter.all false
set_option maxRecDepth 100000
set_option maxHeartbeats 0
namespace LW
open PySem PySem.Spec PyProof.Rows L2 DL
theorem facts {P : Program} {w : World} {K : PySem.W.Frag} {h : Heap} {mg : Str → Option Value} {f : Addr} (X : K.In h) (G : h.Ns mainGlobals mg) (hfa : mg ("law" : Str) = some (.ref f)) (c : Says fx fn K) :
    ∃ fd : FuncData, (∀ (s : Shared) (v : Value), BindsTo s fd ⟨[v], []⟩ [("_law_script", v)]) ∧ ∀ base : Heap, K.In base → base.Ns mainGlobals mg → FnOk P w K mg base CX0 8 f fd ["_law_script"] (fun vs H Q _ => spM K (gOf K cs) 1 F_law vs H Q DL.E0) := by
  have b0 : Bas fx fn K mg := ⟨⟨h, X, G⟩, c⟩
  have e := hfa.symm.trans (b0.glo (x := "law") 31)
  cases e
  obtain ⟨fd, F⟩ := b0.c.def_ 27 (d := dx_law) rfl
  have b := FunD.bindsA (ps := ["_law_script"]) F fun _ _ _ _ _ _ us hl => match us, hl with | [_], _ => rfl
  refine ⟨fd, fun s v => b s [v] rfl, fun base _ _ => ?_⟩
  obtain ⟨fd2, ok, F2⟩ := ok_law (P := P) (w := w) (base := base) b0
  have e2 : fd2 = fd := by
    obtain ⟨oc, od, dV, kV, doc, pm, an, cdv, ct, osl, rfl, lk, _⟩ := F.ex
    obtain ⟨oc2, od2, dV2, kV2, doc2, pm2, an2, cdv2, ct2, osl2, rfl, lk2, _⟩ := F2.ex
    have q := lk.symm.trans lk2
    simp only [Option.some.injEq, Obj.mk.injEq, Data.func.injEq] at q
    exact q.2.2.1.symm
  rw [← e2]
  exact fn0 ok
end LW
open PySem PySem.W PySem.Calls PyProof.Rows
theorem PySem.Challenge.cw_carryrounds_k04_whole_rules_of_words_holds : PySem.Challenge.rw_carryrounds_k04_whole_rules_of_words.Holds := by
  w_on; o_law
  refine HandSHeadRun.head_any (r := OpenLaw.row PySem.Challenge.rw_carryrounds_k04_whole_rules_of_words) (q := view (OpenLaw.row PySem.Challenge.rw_carryrounds_k04_whole_rules_of_words).prog [19]) (H := LW.hk) (ob := LW.ob) (M := 3000) (loose := ((["CarryError", "InvalidNumber", "InvalidWord", "MOST_BASE", "MOST_WIDTH", "is_integer", "is_between", "check_between", "check_integer", "power", "digits_of", "number_of", "Word", "_law_pool", "_law_take", "_law_power"] : List PySem.Str))) (d := HandSHeadRun.topDef (OpenLaw.row PySem.Challenge.rw_carryrounds_k04_whole_rules_of_words).prog 19) (kwd := []) LW.ob_eq
    (by kernel_rfl) (fun s => by kernel_rfl) LW.run (by kernel_rfl) (by kernel_rfl) (by kernel_rfl) (by rfl) (by first | assumption | decide +kernel) (by decide +kernel) ⟨rfl, rfl, rfl, rfl, rfl, by decide +kernel⟩ ?hw ?hc
  case hw => w_witness2
  case hc =>
    refine L2.walk_ofE (l := PySem.Challenge.rw_carryrounds_k04_whole_rules_of_words) (n := 63) (k := 8) (x := "_law_script") (CX := L2.CX0) rfl (by decide) (by kernel_rfl) ⟨rfl, by decide, by decide⟩ ?F (fun _ _ _ _ z => z)
    intro w mg fa h Y G hmg0
    obtain ⟨K, KX, c⟩ := Y
    have hmg : mg ("law" : PySem.Str) = some (.ref fa) := by
      have e : (HandSHeadRun.topDef (OpenLaw.row PySem.Challenge.rw_carryrounds_k04_whole_rules_of_words).prog 19).name = ("law" : PySem.Str) := by kernel_rfl
      rw [← e]
      exact hmg0
    obtain ⟨fd, hb, hF⟩ := LW.facts (P := (PySem.Challenge.rw_carryrounds_k04_whole_rules_of_words).prog) (w := w) KX G hmg c
    exact ⟨K, fd, fun vs H Q _ => DL.spM K (DL.gOf K LW.cs) 1 LW.F_law vs H Q DL.E0, KX, hb, fun H a ns hl _ hS => DL.sp_end (LW.law_true ns) hS, hF⟩
