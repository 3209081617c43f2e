import PyProof.Rows.All
import Wide.All
import OpenK.AllK
import Wide.FinOn
import HandS.ForMost
import HandS.ForExc
import HandS.Wide
import HandS.TupMul
import HandS.TupAny
import HandS.IsInst
import HandS.Flow
import HandS.Zip
import HandS.Property
import HandS.Defaults
import HandS.ClsMeth
import HandS.OwnEq
import HandS.SlotsOwn
import HandS.Style
import HandS.Text
import HandS.Head0
import HandS.Head1
import HandS.Head2
import HandS.HeadEnd
import HandS.HeadHook1
import HandS.HeadHook2
import HandS.ExcInit
import HandS.ExcField
import KE.KIsAll
import KE.KExcIs
import HandS.Star
import HandS.Flt
import PyProof.Rows.Range3
import PyProof.CallFns
import HandS.RaiseMore
import HandS.More
import KE.DatumOrd
import HandS.Conv
import PyProof.ReprRoads
import PyProof.ReprBulk
import HandS.CallSlots
import HandS.Dict
import HandS.MakeKwOnly
import KE.GoesMore
import HandS.HotCalls
import PySem.Challenge.RW_carryrounds_k02_errors_of_words
import KE.KStateDown
set_option Elab.async false
set_option linter.all false
set_option maxRecDepth 100000
set_option maxHeartbeats 400000
namespace DL
open PySem L2
/-! values without a heap, and what stands for them in the abstract heap -/
inductive D where
  | non | bl (b : Bool) | int (i : Int) | str (x : Str) | ty (n : String)
  | tup (xs : List D) | lst (xs : List D)
  | dic (ks : List Key) (xs : List D) | dct (ks : List (List Key)) (xs : List D)
  | ins (c : Nat) (xs : List D)
  | cls (c : Nat)
  | scr (ns : List Int)

/-- the classes: their addresses, the names of their fields in the order of their first stores; exception classes: address, field -/
structure G where
  cl : Nat → Addr
  xl : Nat → Addr
  ok : Nat → Bool
def nmT : Nat → List Str
  | 0 => ["radix", "amount", "row"]
  | 1 => ["content", "radix", "row", "times"]
  | 2 => ["lines", "straight"]
  | 3 => ["numbers"]
  | 4 => ["parts", "known", "maker"]
  | 5 => ["words", "signs", "here", "soonest", "awaited", "units", "sent"]
  | 6 => ["where", "start", "unit", "sources", "made", "extra", "awaited", "freed"]
  | 7 => ["machine", "code", "fault", "acts", "moments", "timed", "numbers", "truths", "is_over", "greatest"]
  | 8 => ["numbers"]
  | 9 => ["machine", "moment", "count", "inside", "timed", "numbers"]
  | 10 => ["entry", "is_removal"]
  | 11 => ["session", "known", "order", "done", "histories", "present"]
  | 12 => ["machine", "known", "order", "done", "histories", "present"]
  | 13 => ["session", "given"]
  | _ => []
/-- how many -/
def nmN : Nat → Nat
  | 0 => 3 | 1 => 4 | 2 => 2 | 3 => 1 | 4 => 3 | 5 => 7 | 6 => 8 | 7 => 10 | 8 => 1 | 9 => 6 | 10 => 2 | 11 => 6 | 12 => 6 | 13 => 2 | _ => 0
theorem nmN_eq (c : Nat) : (nmT c).length = nmN c := by
  unfold nmT nmN
  split <;> rfl
def xfT : Nat → Str
  | 8 => "line" | 9 => "limit" | 10 => "user" | 11 => "user" | _ => "value"

def Ex (H H' : Hp) : Prop := ∀ a o, H a = some o → H' a = some o
theorem Ex.refl (H : Hp) : Ex H H := fun _ _ h => h
theorem Ex.trans {H H1 H2 : Hp} (a : Ex H H1) (b : Ex H1 H2) : Ex H H2 := fun x o h => b x o (a x o h)
theorem Ex.new {H : Hp} {p : Addr} {o : HO} (h : H p = none) : Ex H (upd H p o) := fun a u e => by
  rw [upd_ne (ne_of_none e h)]
  exact e
theorem Ex.back {H H' : Hp} (e : Ex H H') {p : Addr} (h : H' p = none) : H p = none := by
  cases h1 : H p with
  | none => rfl
  | some o => rw [e p o h1] at h; cases h
theorem Ex.rd {H H' : Hp} {a : Addr} {u : HO} (e : Ex H H') (h : Rd H a u) : Rd H' a u := by
  rcases h with h | ⟨o, h⟩
  · exact Or.inl (e a _ h)
  · exact Or.inr ⟨o, e a _ h⟩
theorem Ex.l {K : PySem.W.Frag} {H H' : Hp} {a : Addr} {xs : List V} (e : Ex H H') (h : SqL K H a xs) : SqL K H' a xs := by
  rcases h with h | h
  · exact Or.inl (e.rd h)
  · exact Or.inr h
theorem Ex.t {K : PySem.W.Frag} {H H' : Hp} {a : Addr} {xs : List V} (e : Ex H H') (h : SqT K H a xs) : SqT K H' a xs := by
  rcases h with h | h
  · exact Or.inl (e.rd h)
  · exact Or.inr h

mutual
inductive Rep (K : PySem.W.Frag) (g : G) (H : Hp) : D → V → Prop
  | non : Rep K g H .non .non
  | bl (b : Bool) : Rep K g H (.bl b) (.bl b)
  | int (i : Int) : Rep K g H (.int i) (.int i)
  | str (x : Str) : Rep K g H (.str x) (.str x)
  | ty (n : String) : Rep K g H (.ty n) (.ty n)
  | cls (c : Nat) : Rep K g H (.cls c) (.ref (g.cl c))
  | tup {a : Addr} {ds : List D} {vs : List V} : SqT K H a vs → Reps K g H ds vs → Rep K g H (.tup ds) (.ref a)
  | lst {a : Addr} {ds : List D} {vs : List V} : H a = some (.lst vs) → Reps K g H ds vs → Rep K g H (.lst ds) (.ref a)
  | scr {a : Addr} {ns : List Int} : SqL K H a (ns.map V.int) → Rep K g H (.scr ns) (.ref a)
  | dic {a : Addr} {ks : List Key} {ds : List D} {vs : List V} : Rd H a (.dK (ks.zip vs)) → Reps K g H ds vs → ks.length = ds.length → Rep K g H (.dic ks ds) (.ref a)
  | dct {a : Addr} {ks : List (List Key)} {ds : List D} {vs : List V} : Rd H a (.dT (ks.zip vs)) → Reps K g H ds vs → ks.length = ds.length → Rep K g H (.dct ks ds) (.ref a)
  | ins {a dx : Addr} {c : Nat} {ds : List D} {vs : List V} : H a = some (.ins (g.cl c) dx ((nmT c).zip vs)) → Reps K g H ds vs → ds.length = (nmT c).length → g.ok c = true → Rep K g H (.ins c ds) (.ref a)
inductive Reps (K : PySem.W.Frag) (g : G) (H : Hp) : List D → List V → Prop
  | nil : Reps K g H [] []
  | cons {d : D} {ds : List D} {v : V} {vs : List V} : Rep K g H d v → Reps K g H ds vs → Reps K g H (d :: ds) (v :: vs)
end

section
variable {K : PySem.W.Frag} {g : G} {H H' : Hp}
mutual
theorem Rep.mono (e : Ex H H') : ∀ {d : D} {v : V}, Rep K g H d v → Rep K g H' d v
  | _, _, .non => .non
  | _, _, .bl b => .bl b
  | _, _, .int b => .int b
  | _, _, .str b => .str b
  | _, _, .ty b => .ty b
  | _, _, .cls b => .cls b
  | _, _, .tup h r => .tup (e.t h) (Reps.mono e r)
  | _, _, .lst h r => .lst (e _ _ h) (Reps.mono e r)
  | _, _, .scr h => .scr (e.l h)
  | _, _, .dic h r l => .dic (e.rd h) (Reps.mono e r) l
  | _, _, .dct h r l => .dct (e.rd h) (Reps.mono e r) l
  | _, _, .ins h r l k => .ins (e _ _ h) (Reps.mono e r) l k
theorem Reps.mono (e : Ex H H') : ∀ {d : List D} {v : List V}, Reps K g H d v → Reps K g H' d v
  | _, _, .nil => .nil
  | _, _, .cons a b => .cons (Rep.mono e a) (Reps.mono e b)
end
theorem Reps.len : ∀ {d : List D} {v : List V}, Reps K g H d v → d.length = v.length
  | _, _, .nil => rfl
  | _, _, .cons _ b => by rw [List.length_cons, List.length_cons, Reps.len b]
theorem Reps.append : ∀ {d e : List D} {v w : List V}, Reps K g H d v → Reps K g H e w → Reps K g H (d ++ e) (v ++ w)
  | _, _, _, _, .nil, h => h
  | _, _, _, _, .cons a b, h => .cons a (Reps.append b h)
theorem Reps.get : ∀ {d : List D} {v : List V} {i : Nat} {x : V}, Reps K g H d v → v[i]? = some x → ∃ y, d[i]? = some y ∧ Rep K g H y x
  | _, _, _, _, .nil, h => by simp at h
  | _, _, 0, _, .cons a b, h => by simp at h; subst h; exact ⟨_, rfl, a⟩
  | _, _, i + 1, _, .cons a b, h => by
    rw [List.getElem?_cons_succ] at h
    obtain ⟨y, h1, h2⟩ := Reps.get b h
    exact ⟨y, by rw [List.getElem?_cons_succ]; exact h1, h2⟩
theorem Reps.getD : ∀ {d : List D} {v : List V} {i : Nat} {y : D}, Reps K g H d v → d[i]? = some y → ∃ x, v[i]? = some x ∧ Rep K g H y x
  | _, _, _, _, .nil, h => by simp at h
  | _, _, 0, _, .cons a b, h => by simp at h; subst h; exact ⟨_, rfl, a⟩
  | _, _, i + 1, _, .cons a b, h => by
    rw [List.getElem?_cons_succ] at h
    obtain ⟨y, h1, h2⟩ := Reps.getD b h
    exact ⟨y, by rw [List.getElem?_cons_succ]; exact h1, h2⟩
theorem Reps.set : ∀ {d : List D} {v : List V} (i : Nat) {x : V} {y : D}, Reps K g H d v → Rep K g H y x → Reps K g H (d.set i y) (v.set i x)
  | _, _, _, _, _, .nil, _ => by simp; exact .nil
  | _, _, 0, _, _, .cons a b, h => .cons h b
  | _, _, i + 1, _, _, .cons a b, h => .cons a (Reps.set i b h)
theorem Reps.take : ∀ {d : List D} {v : List V} (i : Nat), Reps K g H d v → Reps K g H (d.take i) (v.take i)
  | _, _, 0, _ => .nil
  | _, _, _ + 1, .nil => .nil
  | _, _, i + 1, .cons a b => .cons a (Reps.take i b)
theorem Reps.drop : ∀ {d : List D} {v : List V} (i : Nat), Reps K g H d v → Reps K g H (d.drop i) (v.drop i)
  | _, _, 0, h => h
  | _, _, _ + 1, .nil => .nil
  | _, _, i + 1, .cons a b => Reps.drop i b
theorem Reps.reverse : ∀ {d : List D} {v : List V}, Reps K g H d v → Reps K g H d.reverse v.reverse
  | _, _, .nil => .nil
  | _, _, .cons a b => by
    rw [List.reverse_cons, List.reverse_cons]
    exact Reps.append (Reps.reverse b) (.cons a .nil)
end

/-- an object that its holder may change -/
inductive RepO (K : PySem.W.Frag) (g : G) (Hf : Hp) : D → HO → Prop
  | lst {ds : List D} {vs : List V} : Reps K g Hf ds vs → RepO K g Hf (.lst ds) (.lst vs)
  | dic {ks : List Key} {ds : List D} {vs : List V} : Reps K g Hf ds vs → ks.length = ds.length → RepO K g Hf (.dic ks ds) (.dK (ks.zip vs))
  | dct {ks : List (List Key)} {ds : List D} {vs : List V} : Reps K g Hf ds vs → ks.length = ds.length → RepO K g Hf (.dct ks ds) (.dT (ks.zip vs))
  | ins {c : Nat} {dx : Addr} {ds : List D} {vs : List V} : Reps K g Hf ds vs → ds.length ≤ (nmT c).length → g.ok c = true → RepO K g Hf (.ins c ds) (.ins (g.cl c) dx ((nmT c).zip vs))
theorem RepO.mono {K : PySem.W.Frag} {g : G} {H H' : Hp} (e : Ex H H') {d : D} {o : HO} (h : RepO K g H d o) : RepO K g H' d o := by
  cases h with
  | lst h => exact .lst (h.mono e)
  | dic h l => exact .dic (h.mono e) l
  | dct h l => exact .dct (h.mono e) l
  | ins h l k => exact .ins (h.mono e) l k
/-- made, and from now on not changed -/
def full : D → Bool
  | .ins c ds => ds.length == nmN c
  | _ => true
theorem RepO.rep {K : PySem.W.Frag} {g : G} {H : Hp} {a : Addr} {d : D} {o : HO} (h : RepO K g H d o) (e : H a = some o) (f : full d = true) : Rep K g H d (.ref a) := by
  cases h with
  | lst h => exact .lst e h
  | dic h l => exact .dic (Or.inl e) h l
  | dct h l => exact .dct (Or.inl e) h l
  | ins h l k => exact .ins e h (by rw [nmN_eq]; simpa [full] using f) k

/-! the names of a running def: nothing | a value | a value that only this name holds and may change | such a one, lent by the caller -/
inductive Sl where
  | no | sh (d : D) | ow (d : D) | pn (d : D)
abbrev En := List Sl
def Sl.mut : Sl → Option D
  | .ow d => some d
  | .pn d => some d
  | _ => none
def Sl.ok (K : PySem.W.Frag) (g : G) (Hf H : Hp) : Sl → Option V → Prop
  | .no, _ => True
  | .sh d, o => ∃ v, o = some v ∧ Rep K g Hf d v
  | .ow d, o => ∃ p u, o = some (.ref p) ∧ H p = some u ∧ Hf p = none ∧ RepO K g Hf d u
  | .pn d, o => ∃ p u, o = some (.ref p) ∧ H p = some u ∧ Hf p = none ∧ RepO K g Hf d u
theorem Sl.ok_mut {K : PySem.W.Frag} {g : G} {Hf H : Hp} : ∀ {s : Sl} {o : Option V} {d : D}, s.mut = some d → (s.ok K g Hf H o ↔ ∃ p u, o = some (.ref p) ∧ H p = some u ∧ Hf p = none ∧ RepO K g Hf d u)
  | .ow d, o, _, h => by cases h; exact Iff.rfl
  | .pn d, o, _, h => by cases h; exact Iff.rfl
  | .no, o, _, h => by cases h
  | .sh d, o, _, h => by cases h

def Own (env : En) (σ : L2.St) (a : Addr) : Prop := ∃ (i : Nat) (s : Sl) (d : D), env[i]? = some s ∧ s.mut = some d ∧ σ[i]? = some (some (V.ref a))
structure SR (K : PySem.W.Frag) (g : G) (env : En) (σ : L2.St) (Hf H : Hp) : Prop where
  ex : Ex Hf H
  len : σ.length = env.length
  sl : ∀ (i : Nat) (s : Sl) (o : Option V), env[i]? = some s → σ[i]? = some o → s.ok K g Hf H o
  ne : ∀ (i j : Nat) (s t : Sl) (d d' : D) (p : Addr), i ≠ j → env[i]? = some s → env[j]? = some t → s.mut = some d → t.mut = some d' → σ[i]? = some (some (V.ref p)) → σ[j]? ≠ some (some (V.ref p))
structure Step (K : PySem.W.Frag) (g : G) (env : En) (σ : L2.St) (Hf H : Hp) (env' : En) (σ' : L2.St) (Hf' H' : Hp) : Prop where
  f : Ex Hf Hf'
  sr : SR K g env' σ' Hf' H'
  kp : ∀ a u, H a = some u → Hf a = none → ¬ Own env σ a → H' a = some u ∧ Hf' a = none
  ow : ∀ a, Own env' σ' a → Own env σ a ∨ H a = none
  th : ∀ a, H' a = none → H a = none
  pn : ∀ (i : Nat) (d : D), env[i]? = some (Sl.pn d) → (∃ d', env'[i]? = some (Sl.pn d')) ∧ σ'[i]? = σ[i]?
  le : env'.length = env.length
section
variable {K : PySem.W.Frag} {g : G} {env env1 env2 : En} {σ σ1 σ2 : L2.St} {Hf H Hf1 H1 Hf2 H2 : Hp}
theorem Step.refl (s : SR K g env σ Hf H) : Step K g env σ Hf H env σ Hf H :=
  ⟨Ex.refl _, s, fun _ _ h h' _ => ⟨h, h'⟩, fun _ h => .inl h, fun _ h => h, fun _ d h => ⟨⟨d, h⟩, rfl⟩, rfl⟩
theorem Step.trans (a : Step K g env σ Hf H env1 σ1 Hf1 H1) (b : Step K g env1 σ1 Hf1 H1 env2 σ2 Hf2 H2) : Step K g env σ Hf H env2 σ2 Hf2 H2 where
  f := a.f.trans b.f
  sr := b.sr
  kp x u h h' n := by
    obtain ⟨h1, h2⟩ := a.kp x u h h' n
    refine b.kp x u h1 h2 fun o => ?_
    rcases a.ow x o with q | q
    · exact n q
    · rw [h] at q; cases q
  ow x o := by
    rcases b.ow x o with q | q
    · exact a.ow x q
    · exact .inr (a.th x q)
  th x h := a.th x (b.th x h)
  pn i d h := by
    obtain ⟨⟨d1, h1⟩, e1⟩ := a.pn i d h
    obtain ⟨h2, e2⟩ := b.pn i d1 h1
    exact ⟨h2, e2.trans e1⟩
  le := b.le.trans a.le
/-- only new objects: frozen ones in Hf1 -/
structure Grow (Hf H Hf' H' : Hp) : Prop where
  f : Ex Hf Hf'
  fh : Ex Hf' H'
  h : Ex H H'
  n : ∀ a u, H a = some u → Hf a = none → Hf' a = none
theorem Grow.refl (e : Ex Hf H) : Grow Hf H Hf H := ⟨Ex.refl _, e, Ex.refl _, fun _ _ _ h => h⟩
theorem Grow.trans {a : Grow Hf H Hf1 H1} (b : Grow Hf1 H1 Hf2 H2) : Grow Hf H Hf2 H2 :=
  ⟨a.f.trans b.f, b.fh, a.h.trans b.h, fun x u h h' => b.n x u (a.h x u h) (a.n x u h h')⟩
theorem Grow.new {p : Addr} {o : HO} (e : Ex Hf H) (h : H p = none) : Grow Hf H (upd Hf p o) (upd H p o) where
  f := Ex.new (e.back h)
  fh a u q := by
    by_cases c : a = p
    · subst c; rw [upd_same] at q ⊢; exact q
    · rw [upd_ne c] at q ⊢; exact e a u q
  h := Ex.new h
  n a u q q' := by rw [upd_ne (ne_of_none q h)]; exact q'
theorem SR.grow (s : SR K g env σ Hf H) (w : Grow Hf H Hf1 H1) : SR K g env σ Hf1 H1 where
  ex := w.fh
  len := s.len
  sl i x o h h' := by
    have q := s.sl i x o h h'
    cases x with
    | no => trivial
    | sh d => obtain ⟨v, e, r⟩ := q; exact ⟨v, e, r.mono w.f⟩
    | ow d => obtain ⟨p, u, e, h1, h2, r⟩ := q; exact ⟨p, u, e, w.h _ _ h1, w.n _ _ h1 h2, r.mono w.f⟩
    | pn d => obtain ⟨p, u, e, h1, h2, r⟩ := q; exact ⟨p, u, e, w.h _ _ h1, w.n _ _ h1 h2, r.mono w.f⟩
  ne := s.ne
theorem Grow.step (w : Grow Hf H Hf1 H1) (s : SR K g env σ Hf H) : Step K g env σ Hf H env σ Hf1 H1 :=
  ⟨w.f, s.grow w, fun a u h h' _ => ⟨w.h a u h, w.n a u h h'⟩, fun _ h => .inl h, fun _ h => w.h.back h, fun _ d h => ⟨⟨d, h⟩, rfl⟩, rfl⟩
/-- where a mutable slot stands -/
theorem SR.at_ (s : SR K g env σ Hf H) {i : Nat} {x : Sl} {d : D} (h : env[i]? = some x) (m : x.mut = some d) : ∃ p u, σ[i]? = some (some (V.ref p)) ∧ H p = some u ∧ Hf p = none ∧ RepO K g Hf d u := by
  have hi : i < σ.length := by rw [s.len]; exact (List.getElem?_eq_some_iff.mp h).1
  obtain ⟨p, u, e, h1, h2, h3⟩ := (Sl.ok_mut m).mp (s.sl i x _ h (List.getElem?_eq_getElem hi))
  exact ⟨p, u, by rw [List.getElem?_eq_getElem hi, e], h1, h2, h3⟩
theorem SR.sh_ (s : SR K g env σ Hf H) {i : Nat} {d : D} (h : env[i]? = some (.sh d)) : ∃ v, σ[i]? = some (some v) ∧ Rep K g Hf d v := by
  have hi : i < σ.length := by rw [s.len]; exact (List.getElem?_eq_some_iff.mp h).1
  obtain ⟨v, e, r⟩ := s.sl i _ _ h (List.getElem?_eq_getElem hi)
  exact ⟨v, by rw [List.getElem?_eq_getElem hi, e], r⟩
end
end DL

set_option Elab.async false
set_option linter.all false
set_option maxRecDepth 100000
set_option maxHeartbeats 400000
namespace DL
open PySem L2
/-! what a piece of a def comes to, by the names' values alone -/
inductive Rs (α : Type) where
  | ok (a : α) (e : En) | ex (c : Nat) (d : D) (e : En) | bad
abbrev M (α : Type) := En → Rs α
def bnd {α β : Type} (m : M α) (k : α → M β) : M β := fun e => match m e with
  | .ok a e' => k a e'
  | .ex c d e' => .ex c d e'
  | .bad => .bad
def ret {α : Type} (a : α) : M α := fun e => .ok a e
def lft {α : Type} (o : Option α) : M α := fun e => match o with
  | some a => .ok a e
  | none => .bad
/-- no exception leaves -/
def nox {α : Type} (m : M α) : M α := fun e => match m e with
  | .ex _ _ _ => .bad
  | r => r
inductive Ctl where
  | nx | bk | ct | rt (d : D) | rto (d : D)
section
variable (K : PySem.W.Frag) (g : G) (W : WX)
/-- an exception of the class c with the field d -/
def XGot (env : En) (σ : L2.St) (Hf H : Hp) (c : Nat) (d : D) (env' : En) : Prop :=
  ∀ dx v fs σ' Hf' H', Step K g env σ Hf H env' σ' Hf' H' → Rep K g Hf' d v → H' dx = some (.xd fs) → fs.lookup (xfT c) = some v → Hf' dx = none → ¬ Own env' σ' dx → H dx = none → W (.ref (g.xl c)) (some dx) σ' H'
def Aft {α : Type} (env : En) (σ : L2.St) (Hf H : Hp) (r : Rs α) (P : α → En → Hp → Hp → Prop) : Prop :=
  match r with
  | .ok a env' => ∀ Hf' H', Step K g env σ Hf H env' σ Hf' H' → P a env' Hf' H'
  | .ex c d env' => XGot K g W env σ Hf H c d env'
  | .bad => False
/-- a new object of ours at p -/
structure New (env : En) (σ : L2.St) (H : Hp) (Hf' H' : Hp) (d : D) (p : Addr) : Prop where
  at_ : ∃ u, H' p = some u ∧ RepO K g Hf' d u
  nf : Hf' p = none
  no : ¬ Own env σ p
  nw : H p = none
def EvM (te : TE) (m : M D) : Prop := ∀ env σ Hf H, SR K g env σ Hf H → ∀ Q : VK, Aft K g W env σ Hf H (m env) (fun d _ Hf' H' => ∀ v, Rep K g Hf' d v → Q v H') → te σ H Q
def EvF (te : TE) (m : M D) : Prop := ∀ env σ Hf H, SR K g env σ Hf H → ∀ Q : VK, Aft K g W env σ Hf H (m env) (fun d env' Hf' H' => ∀ p, New K g env' σ H Hf' H' d p → Q (.ref p) H') → te σ H Q
def EvB (tt : TT) (m : M Bool) : Prop := ∀ env σ Hf H, SR K g env σ Hf H → ∀ Q : Bool → Hp → Prop, Aft K g W env σ Hf H (m env) (fun b _ _ H' => Q b H') → tt σ H Q
def EvL (ta : TA) (m : M (List D)) : Prop := ∀ env σ Hf H, SR K g env σ Hf H → ∀ Q : List V → Hp → Prop, Aft K g W env σ Hf H (m env) (fun ds _ Hf' H' => ∀ vs, Reps K g Hf' ds vs → Q vs H') → ta σ H Q
/-- a two-place, a one-place operation on values, a call on values -/
def RvOk (r : R2) (f : D → D → Option D) : Prop := ∀ Hf H x y dx dy Q, Ex Hf H → Rep K g Hf dx x → Rep K g Hf dy y →
  (match f dx dy with
   | some z => ∀ v Hf' H', Grow Hf H Hf' H' → Rep K g Hf' z v → Q v H'
   | none => False) → r x y H Q
def RuOk (r : V → Hp → VK → Prop) (f : D → Option D) : Prop := ∀ Hf H x dx Q, Ex Hf H → Rep K g Hf dx x →
  (match f dx with
   | some z => ∀ v Hf' H', Grow Hf H Hf' H' → Rep K g Hf' z v → Q v H'
   | none => False) → r x H Q
def RcOk (r : List V → Hp → VK → Prop) (f : List D → Option D) : Prop := ∀ Hf H xs ds Q, Ex Hf H → Reps K g Hf ds xs →
  (match f ds with
   | some z => ∀ v Hf' H', Grow Hf H Hf' H' → Rep K g Hf' z v → Q v H'
   | none => False) → r xs H Q
/-- .. whose result is new and may be kept for oneself -/
def RcOkF (r : List V → Hp → VK → Prop) (f : List D → Option D) : Prop := ∀ Hf H xs ds Q, Ex Hf H → Reps K g Hf ds xs →
  (match f ds with
   | some z => ∀ p Hf' H' u, Grow Hf H Hf' H' → H p = none → H' p = some u → Hf' p = none → RepO K g Hf' z u → Q (.ref p) H'
   | none => False) → r xs H Q
end
section
variable {K : PySem.W.Frag} {g : G} {W : WX} {α β : Type} {env env1 env' : En} {σ σ' : L2.St} {Hf H Hf1 H1 Hf' H' : Hp}
theorem Aft.imp {r : Rs α} {P P' : α → En → Hp → Hp → Prop} (h : Aft K g W env σ Hf H r P) (k : ∀ a e Hf' H', r = .ok a e → Step K g env σ Hf H e σ Hf' H' → P a e Hf' H' → P' a e Hf' H') : Aft K g W env σ Hf H r P' := by
  cases r with
  | ok a e => exact fun Hf' H' s => k a e Hf' H' rfl s (h Hf' H' s)
  | ex c d e => exact h
  | bad => exact h
theorem XGot.after {c : Nat} {d : D} {e : En} (s : Step K g env σ Hf H env1 σ' Hf1 H1) (h : XGot K g W env σ Hf H c d e) : XGot K g W env1 σ' Hf1 H1 c d e := fun dx v fs σ2 Hf2 H2 s2 r e1 e2 e3 e4 e5 => h dx v fs σ2 Hf2 H2 (s.trans s2) r e1 e2 e3 e4 (s.th dx e5)
theorem Aft.bnd {m : M α} {k : α → M β} {P : β → En → Hp → Hp → Prop} (h : Aft K g W env σ Hf H (DL.bnd m k env) P) :
    Aft K g W env σ Hf H (m env) fun a env1 Hf1 H1 => Aft K g W env1 σ Hf1 H1 (k a env1) P := by
  unfold DL.bnd at h
  revert h
  cases m env with
  | ok a e =>
    intro h Hf1 H1 s
    show Aft K g W e σ Hf1 H1 (k a e) P
    revert h
    show Aft K g W env σ Hf H (k a e) P → _
    cases k a e with
    | ok b e2 => exact fun h Hf2 H2 s2 => h Hf2 H2 (s.trans s2)
    | ex c d e2 => exact fun h => XGot.after s h
    | bad => exact fun h => h
  | ex c d e => exact fun h => h
  | bad => exact fun h => h
theorem Aft.ret {a : α} {P : α → En → Hp → Hp → Prop} (s : SR K g env σ Hf H) (h : Aft K g W env σ Hf H (DL.ret a env) P) : P a env Hf H := h Hf H (Step.refl s)
theorem Aft.lft {o : Option α} {P : α → En → Hp → Hp → Prop} (s : SR K g env σ Hf H) (h : Aft K g W env σ Hf H (DL.lft o env) P) : ∃ a, o = some a ∧ ∀ Hf' H', Grow Hf H Hf' H' → P a env Hf' H' := by
  cases o with
  | none => exact h.elim
  | some a => exact ⟨a, rfl, fun Hf' H' w => h Hf' H' (w.step s)⟩
theorem Own.sub_set {i : Nat} {s : Sl} {v : Option V} {a : Addr} (h : Own (env.set i s) (σ.set i v) a) (hl : σ.length = env.length) : Own env σ a ∨ (s.mut.isSome = true ∧ v = some (.ref a)) := by
  obtain ⟨j, t, d, h1, h2, h3⟩ := h
  by_cases c : i = j
  · subst c
    by_cases hi : i < env.length
    · rw [List.getElem?_set_self hi] at h1
      rw [List.getElem?_set_self (by omega)] at h3
      cases h1
      exact .inr ⟨by rw [h2]; rfl, by injection h3⟩
    · rw [List.getElem?_eq_none (by rw [List.length_set]; omega)] at h1; cases h1
  · rw [List.getElem?_set_ne c] at h1 h3
    exact .inl ⟨j, t, d, h1, h2, h3⟩
/-- freezing an own thing: it joins what never changes -/
theorem grow_freeze {p : Addr} {u : HO} (e : Ex Hf H) (hp : H p = some u) (hn : Hf p = none) : Ex Hf (upd Hf p u) ∧ Ex (upd Hf p u) H :=
  ⟨Ex.new hn, fun a o q => by
    by_cases c : a = p
    · subst c; rw [upd_same] at q; rw [← q]; exact hp
    · rw [upd_ne c] at q; exact e a o q⟩
/-- a new thing, frozen at once -/
theorem New.freeze {d : D} {p : Addr} (s : Step K g env σ Hf H env' σ' Hf' H') (n : New K g env' σ' H Hf' H' d p) (f : full d = true) : ∃ Hf2, Step K g env σ Hf H env' σ' Hf2 H' ∧ Rep K g Hf2 d (.ref p) := by
  obtain ⟨u, hu, r⟩ := n.at_
  obtain ⟨e1, e2⟩ := grow_freeze s.sr.ex hu n.nf
  refine ⟨upd Hf' p u, ⟨s.f.trans e1, ⟨e2, s.sr.len, fun i x o h h' => ?_, s.sr.ne⟩, fun a v h h' no => ?_, s.ow, s.th, s.pn, s.le⟩, (r.mono e1).rep upd_same f⟩
  · have q := s.sr.sl i x o h h'
    cases x with
    | no => trivial
    | sh d => obtain ⟨v, e, r⟩ := q; exact ⟨v, e, r.mono e1⟩
    | ow d => obtain ⟨q, w, e, h1, h2, r⟩ := q; exact ⟨q, w, e, h1, by rw [upd_ne (fun c => n.no ⟨i, _, d, h, rfl, by rw [h', e, c]⟩)]; exact h2, r.mono e1⟩
    | pn d => obtain ⟨q, w, e, h1, h2, r⟩ := q; exact ⟨q, w, e, h1, by rw [upd_ne (fun c => n.no ⟨i, _, d, h, rfl, by rw [h', e, c]⟩)]; exact h2, r.mono e1⟩
  · obtain ⟨q1, q2⟩ := s.kp a v h h' no
    refine ⟨q1, ?_⟩
    rw [upd_ne (fun c => by rw [c, n.nw] at h; cases h)]
    exact q2
theorem RvOk.ev {r : R2} {f : D → D → Option D} {ta tb : TE} {ma mb : M D} (hr : RvOk K g r f) (ha : EvM K g W ta ma) (hb : EvM K g W tb mb) : EvM K g W (tOp r ta tb) (bnd ma fun x => bnd mb fun y => lft (f x y)) :=
  fun env σ Hf H s Q h => ha env σ Hf H s _ (h.bnd.imp fun x e1 Hf1 H1 _ s1 h1 v r1 => hb e1 σ Hf1 H1 s1.sr _ (h1.bnd.imp fun y e2 Hf2 H2 _ s2 h2 w r2 => by
    obtain ⟨z, hz, k⟩ := Aft.lft s2.sr h2
    refine hr Hf2 H2 v w x y Q s2.sr.ex (r1.mono s2.f) r2 ?_
    rw [hz]
    exact fun v Hf' H' w r => k Hf' H' w v r))
theorem RuOk.ev {r : V → Hp → VK → Prop} {f : D → Option D} {ta : TE} {ma : M D} (hr : RuOk K g r f) (ha : EvM K g W ta ma) : EvM K g W (tUn r ta) (bnd ma fun x => lft (f x)) :=
  fun env σ Hf H s Q h => ha env σ Hf H s _ (h.bnd.imp fun x e1 Hf1 H1 _ s1 h1 v r1 => by
    obtain ⟨z, hz, k⟩ := Aft.lft s1.sr h1
    refine hr Hf1 H1 v x Q s1.sr.ex r1 ?_
    rw [hz]
    exact fun v Hf' H' w r => k Hf' H' w v r)
theorem RcOk.ev {r : List V → Hp → VK → Prop} {f : List D → Option D} {ta : TA} {ma : M (List D)} (hr : RcOk K g r f) (ha : EvL K g W ta ma) : EvM K g W (tCB r ta) (bnd ma fun x => lft (f x)) :=
  fun env σ Hf H s Q h => ha env σ Hf H s _ (h.bnd.imp fun x e1 Hf1 H1 _ s1 h1 v r1 => by
    obtain ⟨z, hz, k⟩ := Aft.lft s1.sr h1
    refine hr Hf1 H1 v x Q s1.sr.ex r1 ?_
    rw [hz]
    exact fun v Hf' H' w r => k Hf' H' w v r)
theorem RcOkF.ev {r : List V → Hp → VK → Prop} {f : List D → Option D} {ta : TA} {ma : M (List D)} (hr : RcOkF K g r f) (ha : EvL K g W ta ma) : EvF K g W (tCB r ta) (bnd ma fun x => lft (f x)) :=
  fun env σ Hf H s Q h => ha env σ Hf H s _ (h.bnd.imp fun x e1 Hf1 H1 _ s1 h1 v r1 => by
    obtain ⟨z, hz, k⟩ := Aft.lft s1.sr h1
    refine hr Hf1 H1 v x Q s1.sr.ex r1 ?_
    rw [hz]
    refine fun p Hf' H' u w e1 e2 e3 e4 => k Hf' H' w p ⟨⟨u, e2, e4⟩, e3, fun o => ?_, s1.th p e1⟩
    obtain ⟨i, x, d, q1, q2, q3⟩ := o
    obtain ⟨p', u', c1, c2, _⟩ := s1.sr.at_ q1 q2
    rw [q3] at c1
    cases c1
    rw [e1] at c2
    cases c2)
/-- a fresh thing, shared at once -/
def frz (m : M D) : M D := fun env => match m env with
  | .ok d e => if full d = true then .ok d e else .bad
  | r => r
theorem EvF.ev {te : TE} {m : M D} (h : EvF K g W te m) : EvM K g W te (frz m) := by
  intro env σ Hf H s Q q
  refine h env σ Hf H s Q ?_
  revert q
  unfold frz
  cases m env with
  | ok d e =>
    dsimp only
    intro q Hf1 H1 s1 p n
    by_cases c : full d = true
    · rw [if_pos c] at q
      obtain ⟨Hf2, s2, r⟩ := n.freeze s1 c
      exact q Hf2 H1 s2 _ r
    · rw [if_neg c] at q
      exact q.elim
  | ex c d e => exact fun q => q
  | bad => exact fun q => q
end
end DL

set_option Elab.async false
set_option linter.all false
set_option maxRecDepth 100000
set_option maxHeartbeats 4000000
namespace DL
open PySem PySem.Spec PyProof.Rows L2
/-! ### tuple * int, the small cases: once is the tuple itself, never is the empty one -/
theorem tup_once (l : Addr) (items : Array Value) (n : Nat) (dd : Option Addr) (sl : Array (Option Value)) (x : Int) (u : Tok) (b0 : (decide (x < -(2 ^ 63)) || decide (x ≥ 2 ^ 63)) = false) (b1 : (items.isEmpty || x == 1) = true) :
    Meets (Builtin.«tuple.__mul__» ⟨[.ref l, .int x u], []⟩) (fun _ R s => s.heap.get? l = some { cls := .type "tuple", dict := dd, data := .seq items n, slots := sl } ∧ R (.ok (.ret (Value.ref l))) s) :=
  .of_wp fun prog w A R s h => by
    obtain ⟨hp, g, d, tk, os⟩ := s
    obtain ⟨hl, h⟩ := h
    have f1 := AutoSeq1.idx_int
    wp_walk using wpAny_loadPart' hl
    repeat (first
      | (refine wpAny_ite_false (decide_eq_false (by rw [b0]; exact Bool.false_ne_true)) ?_; wp_walk using wpAny_loadPart' hl)
      | (refine wpAny_ite_true (decide_eq_true b1) ?_; wp_walk using wpAny_loadPart' hl))
    exact ⟨_, rfl, h⟩
theorem tup_never (l : Addr) (items : Array Value) (n : Nat) (dd : Option Addr) (sl : Array (Option Value)) (x : Int) (u : Tok) (b0 : (decide (x < -(2 ^ 63)) || decide (x ≥ 2 ^ 63)) = false) (b1 : (items.isEmpty || x == 1) = false) (b2 : (decide (x ≤ 0) || items.isEmpty) = true) :
    Meets (Builtin.«tuple.__mul__» ⟨[.ref l, .int x u], []⟩) (fun _ R s => s.heap.get? l = some { cls := .type "tuple", dict := dd, data := .seq items n, slots := sl } ∧
      R (.ok (.ret (Value.ref s.heap.objs.size))) { s with heap := s.heap.push { cls := Value.type "tuple", data := Data.seq #[] }, toks := s.toks }) :=
  .of_wp fun prog w A R s h => by
    obtain ⟨hp, g, d, tk, os⟩ := s
    obtain ⟨hl, h⟩ := h
    have f1 := AutoSeq1.idx_int
    wp_walk using wpAny_loadPart' hl
    repeat (first
      | (refine wpAny_ite_false (decide_eq_false (by rw [b0]; exact Bool.false_ne_true)) ?_; wp_walk using wpAny_loadPart' hl)
      | (refine wpAny_ite_false (decide_eq_false (by rw [b1]; exact Bool.false_ne_true)) ?_; wp_walk using wpAny_loadPart' hl)
      | (refine wpAny_ite_true (decide_eq_true b2) ?_; wp_walk using wpAny_loadPart' hl))
    exact ⟨_, rfl, h⟩
def rRepS (K : PySem.W.Frag) : R2 := fun x y H Q => ∃ l k xs, x = .ref l ∧ y = .int k ∧ SqT K H l xs ∧ -1000 ≤ k ∧ ((k = 1 ∧ Q (.ref l) H) ∨ (xs ≠ [] ∧ k ≤ 0 ∧ ∀ p, H p = none → Q (.ref p) (upd H p (.tup []))))
theorem op_repS {X : Cx} : OpR X (binaryOp .Mult) (rRepS X.K) := by
  intro pins s σ H x y v u Q I rx ry h
  obtain ⟨l, k, xs, rfl, rfl, hT, hk, q⟩ := h
  cases rx
  obtain ⟨t, rfl⟩ := ry
  obtain ⟨its, r, ⟨⟨cls, dd, data, sl⟩, ho, hc, n, hd⟩, hs⟩ := I.tuple hT
  simp only at hc hd
  subst hc hd
  have b0 : (decide (k < -(2 ^ 63)) || decide (k ≥ 2 ^ 63)) = false := by
    have : k < 2 := by rcases q with ⟨e, _⟩ | ⟨_, e, _⟩ <;> omega
    rw [decide_eq_false (by omega), decide_eq_false (by omega)] <;> rfl
  have fin : ∀ {R : Value → Shared → Prop}, wpAny (model X.prog X.w) X.A (call (.builtin "tuple.__mul__") [.ref l, .int k t]) R X.xe s → (∀ v s', R v s' → (EP X pins σ Q) v s' ∧ v ≠ .notImplemented) → wpAny (model X.prog X.w) X.A (call (.builtin "tuple.__mul__") [.ref l, .int k t]) (EP X pins σ Q) X.xe s := fun h k => wpAny_mono h (fun v s' z => (k v s' z).1) fun _ _ z => z
  rcases q with ⟨k1, q⟩ | ⟨hne, k0, q⟩
  · have b1 : (its.toArray.isEmpty || k == 1) = true := by rw [beq_iff_eq.mpr k1, Bool.or_true]
    exact wpAny_binaryOp_repeat_ref (T := "tuple") (U := "int") (by decide) ⟨_, ho, rfl⟩ (fun s' => typeIs_int s' k t) noFill_tuple_mul F.fills_int_mul F.slot_int_rmul repeat_tuple F.slot_int_index.lookup
      (call_meets F.slot_int_rmul (typeIs_int s k t) F.entry_int_rmul (F.args_int_rmul_2 _ _) (int_rmul_tuple k t l its.toArray n dd sl)
        ⟨ho, rfl, ⟨_, ho, rfl⟩, call_meets F.slot_tuple_mul ⟨_, ho, rfl⟩ F.entry_tuple_mul (F.args_tuple_mul_2 _ _) (tup_once l its.toArray n dd sl k t b0 b1) ⟨ho, ⟨.ref l, H, I, rfl, q⟩⟩⟩)
  · have b1 : (its.toArray.isEmpty || k == 1) = false := by
      have e1 : its.toArray.isEmpty = false := by
        cases r with
        | nil => exact absurd rfl hne
        | cons a b => rfl
      rw [e1, Bool.false_or]
      exact beq_eq_false_iff_ne.mpr (by omega)
    have b2 : (decide (k ≤ 0) || its.toArray.isEmpty) = true := by rw [decide_eq_true k0, Bool.true_or]
    refine wpAny_binaryOp_repeat_ref (T := "tuple") (U := "int") (by decide) ⟨_, ho, rfl⟩ (fun s' => typeIs_int s' k t) noFill_tuple_mul F.fills_int_mul F.slot_int_rmul repeat_tuple F.slot_int_index.lookup
      (call_meets F.slot_int_rmul (typeIs_int s k t) F.entry_int_rmul (F.args_int_rmul_2 _ _) (int_rmul_tuple k t l its.toArray n dd sl)
        ⟨ho, rfl, ⟨_, ho, rfl⟩, call_meets F.slot_tuple_mul ⟨_, ho, rfl⟩ F.entry_tuple_mul (F.args_tuple_mul_2 _ _) (tup_never l its.toArray n dd sl k t b0 b1 b2) ⟨ho, ?_⟩⟩)
    refine ⟨.ref s.heap.objs.size, _, I.laid (t' := s.toks) (o := .tup []) (fun b ob q => Heap.get?_push_of_some _ q) (Nat.le_refl _) ?_, rfl, q _ (I.hok.fresh (Nat.le_refl _))⟩
    exact ⟨Nat.zero_le _, _, .nil, IsTup.new _ _⟩
end DL

set_option Elab.async false
set_option linter.all false
set_option maxRecDepth 100000
set_option maxHeartbeats 400000
namespace DL
open PySem L2
/-! expressions: a rule of the layer and what it comes to, in one -/
structure PEM (X : Cx) (g : G) (W : WX) (e : Expr) (m : M D) : Prop where
  ex : ∃ t, PE X e t ∧ EvM X.K g W t m
structure PEF (X : Cx) (g : G) (W : WX) (e : Expr) (m : M D) : Prop where
  ex : ∃ t, PE X e t ∧ EvF X.K g W t m
structure PTM (X : Cx) (g : G) (W : WX) (e : Expr) (m : M Bool) : Prop where
  ex : ∃ t, PT X e t ∧ EvB X.K g W t m
structure PWM (X : Cx) (g : G) (W : WX) (e : Expr) (m : M Bool) : Prop where
  ex : ∃ t, PW X e t ∧ EvB X.K g W t m
structure PAM (X : Cx) (g : G) (W : WX) (es : List Expr) (m : M (List D)) : Prop where
  ex : ∃ t, PA X es t ∧ EvL X.K g W t m

/-! ### new things -/
section
variable {K : PySem.W.Frag} {g : G} {W : WX} {env : En} {σ : L2.St} {Hf H : Hp} {p : Addr}
theorem new_lst {vs : List V} {ds : List D} (e : Ex Hf H) (hp : H p = none) (r : Reps K g Hf ds vs) : Grow Hf H (upd Hf p (.lst vs)) (upd H p (.lst vs)) ∧ Rep K g (upd Hf p (.lst vs)) (.lst ds) (.ref p) :=
  ⟨Grow.new e hp, .lst upd_same (r.mono (Ex.new (e.back hp)))⟩
theorem new_tup {vs : List V} {ds : List D} (e : Ex Hf H) (hp : H p = none) (r : Reps K g Hf ds vs) : Grow Hf H (upd Hf p (.tup vs)) (upd H p (.tup vs)) ∧ Rep K g (upd Hf p (.tup vs)) (.tup ds) (.ref p) :=
  ⟨Grow.new e hp, .tup (SqT.of upd_same) (r.mono (Ex.new (e.back hp)))⟩
/-- a new list kept for oneself -/
theorem own_new {u : HO} (e : Ex Hf H) (hp : H p = none) : Grow Hf H Hf (upd H p u) :=
  ⟨Ex.refl _, e.trans (Ex.new hp), Ex.new hp, fun _ _ _ h => h⟩
theorem Own.there (s : SR K g env σ Hf H) {a : Addr} (o : Own env σ a) : H a ≠ none := by
  obtain ⟨i, x, d, q1, q2, q3⟩ := o
  obtain ⟨p', u', c1, c2, _⟩ := s.at_ q1 q2
  rw [q3] at c1
  cases c1
  rw [c2]
  exact fun h => nomatch h
end
/-! ### names, constants -/
def mVar (i : Nat) : M D := fun env => match env[i]? with
  | some (.sh d) => .ok d env
  | some (.ow d) => if full d = true then .ok d (env.set i (.sh d)) else .bad
  | _ => .bad
section
variable {K : PySem.W.Frag} {g : G} {W : WX} {env : En} {σ : L2.St} {Hf H : Hp}
/-- a slot's own thing is shared from now on -/
theorem freeze_slot (s : SR K g env σ Hf H) {i : Nat} {d : D} (h : env[i]? = some (.ow d)) (f : full d = true) :
    ∃ p Hf', σ[i]? = some (some (.ref p)) ∧ Step K g env σ Hf H (env.set i (.sh d)) σ Hf' H ∧ Rep K g Hf' d (.ref p) := by
  obtain ⟨p, u, e1, e2, e3, r⟩ := s.at_ h rfl
  obtain ⟨x1, x2⟩ := grow_freeze s.ex e2 e3
  have hi : i < env.length := (List.getElem?_eq_some_iff.mp h).1
  have rr : Rep K g (upd Hf p u) d (.ref p) := (r.mono x1).rep upd_same f
  have set_ne : ∀ j (x : Sl), (env.set i (.sh d))[j]? = some x → (j = i ∧ x = .sh d) ∨ (j ≠ i ∧ env[j]? = some x) := fun j x q => by
    by_cases c : i = j
    · subst c
      rw [List.getElem?_set_self hi] at q
      exact .inl ⟨rfl, (Option.some.inj q).symm⟩
    · rw [List.getElem?_set_ne c] at q
      exact .inr ⟨fun z => c z.symm, q⟩
  have nep : ∀ (j : Nat) (x : Sl) (d' : D), j ≠ i → env[j]? = some x → x.mut = some d' → σ[j]? ≠ some (some (.ref p)) := fun j x d' c q m => s.ne i j _ x d d' p (fun z => c z.symm) h q rfl m e1
  refine ⟨p, upd Hf p u, e1, ⟨x1, ⟨x2, by rw [List.length_set]; exact s.len, fun j x o q q' => ?_, fun j k x y a b z n1 h1 h2 m1 m2 => ?_⟩, fun a v q q' no => ⟨q, ?_⟩, fun a o => ?_, fun a q => q, fun j z q => ?_, by rw [List.length_set]⟩, rr⟩
  · rcases set_ne j x q with ⟨rfl, rfl⟩ | ⟨c, q⟩
    · rw [e1] at q'
      cases q'
      exact ⟨_, rfl, rr⟩
    · have w := s.sl j x o q q'
      cases x with
      | no => trivial
      | sh d' => obtain ⟨v, e, r⟩ := w; exact ⟨v, e, r.mono x1⟩
      | ow d' => obtain ⟨z, w, e, h1, h2, r⟩ := w; exact ⟨z, w, e, h1, by rw [upd_ne (fun c' => nep j _ d' c q rfl (by rw [q', e, c']))]; exact h2, r.mono x1⟩
      | pn d' => obtain ⟨z, w, e, h1, h2, r⟩ := w; exact ⟨z, w, e, h1, by rw [upd_ne (fun c' => nep j _ d' c q rfl (by rw [q', e, c']))]; exact h2, r.mono x1⟩
  · rcases set_ne j x h1 with ⟨rfl, rfl⟩ | ⟨_, h1⟩
    · cases m1
    · rcases set_ne k y h2 with ⟨rfl, rfl⟩ | ⟨_, h2⟩
      · cases m2
      · exact s.ne j k x y a b z n1 h1 h2 m1 m2
  · rw [upd_ne (fun c => no ⟨i, _, d, h, rfl, by rw [e1, c]⟩)]
    exact q'
  · obtain ⟨j, x, d', q1, q2, q3⟩ := o
    rcases set_ne j x q1 with ⟨rfl, rfl⟩ | ⟨_, q1⟩
    · cases q2
    · exact .inl ⟨j, x, d', q1, q2, q3⟩
  · by_cases c : i = j
    · subst c
      rw [h] at q
      cases q
    · rw [List.getElem?_set_ne c]
      exact ⟨⟨z, q⟩, rfl⟩
theorem ev_var (i : Nat) : EvM K g W (tVar i) (mVar i) := by
  intro env σ Hf H s Q h
  unfold mVar at h
  revert h
  cases e : env[i]? with
  | none => exact fun h => h.elim
  | some x =>
    cases x with
    | no => exact fun h => h.elim
    | pn d => exact fun h => h.elim
    | sh d =>
      intro h
      obtain ⟨v, e1, r⟩ := s.sh_ e
      exact ⟨v, e1, h Hf H (Step.refl s) v r⟩
    | ow d =>
      dsimp only
      intro h
      by_cases c : full d = true
      · rw [if_pos c] at h
        obtain ⟨p, Hf', e1, st, r⟩ := freeze_slot s e c
        exact ⟨_, e1, h Hf' H st _ r⟩
      · rw [if_neg c] at h
        exact h.elim
theorem ev_c {d : D} {v : V} (r : ∀ Hf, Rep K g Hf d v) : EvM K g W (tC v) (ret d) := fun env σ Hf H s Q h => Aft.ret s h v (r Hf)
end
section
variable {X : Cx} {g : G} {W : WX}
theorem m_var (i : Nat) {x : Str} {pos : Pos} (hN : X.N[i]? = some x := by rfl) (hv : Vis X.env.scope x := by first | exact Or.inl rfl | exact Or.inr (Or.inl rfl) | exact Or.inr (Or.inr rfl)) (hd : (x == ("__debug__" : Str)) = false := by decide)
    (hcd : (x == ("__classdict__" : Str)) = false := by decide) : PEM X g W (.Name x pos) (mVar i) := ⟨_, pe_var hN hv hd hcd, ev_var i⟩
theorem m_int {i j pos} : PEM X g W (.Constant (.int i) j pos) (ret (.int i)) := ⟨_, pe_int, ev_c fun _ => .int i⟩
theorem m_bl {i j pos} : PEM X g W (.Constant (.bool i) j pos) (ret (.bl i)) := ⟨_, pe_bl, ev_c fun _ => .bl i⟩
theorem m_str {i j pos} : PEM X g W (.Constant (.str i) j pos) (ret (.str i)) := ⟨_, pe_str, ev_c fun _ => .str i⟩
theorem m_non {j pos} : PEM X g W (.Constant .none j pos) (ret .non) := ⟨_, pe_non, ev_c fun _ => .non⟩
/-- a name of the module: a number -/
theorem m_gint {x : Str} {i : Int} {pos : Pos} (hg : Gl X x) (hm : ∃ t, X.mg x = some (.int i t)) (hd : (x == ("__debug__" : Str)) = false := by decide) : PEM X g W (.Name x pos) (ret (.int i)) := by
  obtain ⟨t, hm⟩ := hm
  exact ⟨_, pe_glob (v := .int i) hg hm ⟨t, rfl⟩ hd, ev_c fun _ => .int i⟩
theorem m_gstr {x z : Str} {pos : Pos} (hg : Gl X x) (hm : ∃ t, X.mg x = some (.str z t)) (hd : (x == ("__debug__" : Str)) = false := by decide) : PEM X g W (.Name x pos) (ret (.str z)) := by
  obtain ⟨t, hm⟩ := hm
  exact ⟨_, pe_glob (v := .str z) hg hm ⟨t, rfl⟩ hd, ev_c fun _ => .str z⟩
end
/-! ### arithmetic -/
def addD : D → D → Option D
  | .int i, .int j => some (.int (i + j))
  | .str a, .str b => if a.length + b.length ≤ 16777216 then some (.str (a ++ b)) else none
  | .lst a, .lst b => if a.length + b.length ≤ 16777216 then some (.lst (a ++ b)) else none
  | .tup a, .tup b => if a.length + b.length ≤ 16777216 then some (.tup (a ++ b)) else none
  | _, _ => none
def subD : D → D → Option D
  | .int i, .int j => some (.int (i - j))
  | _, _ => none
def mulOk (i j : Int) : Bool := decide (i.natAbs.log2 + j.natAbs.log2 < 1000000)
def mulOk2 (i j : Int) : Bool := decide (i.natAbs < 2 ^ 64) || decide (j.natAbs < 2 ^ 64)
def mulD : D → D → Option D
  | .int i, .int j => if mulOk2 i j = true then some (.int (i * j)) else if mulOk i j = true then some (.int (i * j)) else none
  | .lst a, .int k => if -1000000 ≤ k ∧ k ≤ 1000000 ∧ a.length * k.toNat ≤ 16777216 then some (.lst (List.replicate k.toNat a).flatten) else none
  | .tup a, .int k => if k = 1 then some (.tup a) else if a ≠ [] ∧ -1000 ≤ k ∧ k ≤ 0 then some (.tup []) else if a ≠ [] ∧ 2 ≤ k ∧ k ≤ 1000 ∧ a.length ≤ 1000 then some (.tup (List.replicate k.toNat a).flatten) else none
  | _, _ => none
def divD : D → D → Option D
  | .int i, .int j => if 0 < j ∧ j.natAbs.log2 < 9000 then some (.int (i / j)) else none
  | _, _ => none
def modD : D → D → Option D
  | .int i, .int j => if 0 < j then some (.int (i % j)) else none
  | _, _ => none
def powD : D → D → Option D
  | .int i, .int j => if 0 ≤ j ∧ j ≤ 1000 ∧ i.natAbs < 2 ^ 64 then some (.int (i ^ j.toNat)) else none
  | _, _ => none
section
variable {K : PySem.W.Frag} {g : G} {W : WX}
def rAddU (K : PySem.W.Frag) : R2 := fun x y H Q => rI0 (fun i j => .int (i + j)) x y H Q ∨ ((∃ i j, x = .str i ∧ y = .str j ∧ i.length + j.length ≤ sizeLine ∧ Q (.str (i ++ j)) H) ∨ (rCat x y H Q ∨ rCatA K x y H Q))
theorem rv_add : RvOk K g (rAddU K) addD := by
  intro Hf H x y dx dy Q e rx ry h
  cases rx <;> cases ry <;> try exact (show False from h).elim
  case int.int i j => exact .inl ⟨i, j, rfl, rfl, h _ Hf H (Grow.refl e) (.int _)⟩
  case str.str a b =>
    dsimp only [addD] at h
    split at h
    · rename_i z hz
      split at hz
      · rename_i c
        cases hz
        exact .inr (.inl ⟨a, b, rfl, rfl, by rw [sizeLine_eq]; exact c, h _ Hf H (Grow.refl e) (.str _)⟩)
      · cases hz
    · exact h.elim
  case lst.lst a ds vs h1 r1 b es ws h2 r2 =>
    dsimp only [addD] at h
    split at h
    · rename_i z hz
      split at hz
      · rename_i c
        cases hz
        refine .inr (.inr (.inl ⟨_, _, _, _, rfl, rfl, e _ _ h1, e _ _ h2, by rw [sizeLine_eq, ← r1.len, ← r2.len]; exact c, fun p hp => ?_⟩))
        obtain ⟨w, r⟩ := new_lst e hp (r1.append r2)
        exact h _ _ _ w r
      · cases hz
    · exact h.elim
  case tup.tup a ds vs h1 r1 b es ws h2 r2 =>
    dsimp only [addD] at h
    split at h
    · rename_i z hz
      split at hz
      · rename_i c
        cases hz
        refine .inr (.inr (.inr ⟨_, _, _, _, rfl, rfl, e.t h1, e.t h2, by rw [sizeLine_eq, ← r1.len, ← r2.len]; exact c, fun q => ?_, fun _ q => ?_, fun _ _ p hp => ?_⟩))
        · subst q; cases r1
          rw [List.nil_append] at h
          exact h _ Hf H (Grow.refl e) (.tup h2 r2)
        · subst q; cases r2
          rw [List.append_nil] at h
          exact h _ Hf H (Grow.refl e) (.tup h1 r1)
        · obtain ⟨w, r⟩ := new_tup e hp (r1.append r2)
          exact h _ _ _ w r
      · cases hz
    · exact h.elim
theorem rv_sub : RvOk K g (rI0 fun i j => .int (i - j)) subD := by
  intro Hf H x y dx dy Q e rx ry h
  cases rx <;> cases ry <;> try exact (show False from h).elim
  case int.int i j => exact ⟨i, j, rfl, rfl, h _ Hf H (Grow.refl e) (.int _)⟩
theorem rv_intc {C : Int → Int → Prop} {f : Int → Int → Int} {c : Int → Int → Prop} [∀ i j, Decidable (c i j)] {F : D → D → Option D} (hc : ∀ i j, c i j → C i j)
    (h1 : ∀ i j, F (.int i) (.int j) = if c i j then some (.int (f i j)) else none) (h2 : ∀ a b z, F a b = some z → ∃ i j, a = .int i ∧ b = .int j) : RvOk K g (rI C fun i j => .int (f i j)) F := by
  intro Hf H x y dx dy Q e rx ry h
  cases hz : F dx dy with
  | none => rw [hz] at h; exact h.elim
  | some z =>
    obtain ⟨i, j, rfl, rfl⟩ := h2 _ _ _ hz
    rw [hz] at h
    rw [h1] at hz
    cases rx
    cases ry
    split at hz
    · rename_i q
      cases hz
      exact ⟨i, j, rfl, rfl, hc _ _ q, h _ Hf H (Grow.refl e) (.int _)⟩
    · cases hz
theorem rv_div : RvOk K g (rI CDivW fun i j => .int (i / j)) divD := rv_intc (c := fun i j => 0 < j ∧ j.natAbs.log2 < 9000) (fun _ _ h => h) (fun _ _ => rfl) fun a b z h => by
  cases a <;> cases b <;> simp [divD] at h <;> exact ⟨_, _, rfl, rfl⟩
theorem rv_mod : RvOk K g (rI (fun _ j => 0 < j) fun i j => .int (i % j)) modD := rv_intc (c := fun i j => 0 < j) (fun _ _ h => h) (fun _ _ => rfl) fun a b z h => by
  cases a <;> cases b <;> simp [modD] at h <;> exact ⟨_, _, rfl, rfl⟩
theorem rv_pow : RvOk K g (rI CPow fun i j => .int (i ^ j.toNat)) powD := rv_intc (c := fun i j => 0 ≤ j ∧ j ≤ 1000 ∧ i.natAbs < 2 ^ 64) (fun _ _ h => ⟨h.1, by have := h.2.1; omega, h.2.2⟩) (fun _ _ => rfl) fun a b z h => by
  cases a <;> cases b <;> simp [powD] at h <;> exact ⟨_, _, rfl, rfl⟩
theorem Reps.rep {Hf : Hp} {ds : List D} {vs : List V} (r : Reps K g Hf ds vs) : ∀ k : Nat, Reps K g Hf (List.replicate k ds).flatten (List.replicate k vs).flatten
  | 0 => .nil
  | k + 1 => by
    rw [List.replicate_succ, List.replicate_succ, List.flatten_cons, List.flatten_cons]
    exact r.append (Reps.rep r k)
def rMulU (K : PySem.W.Frag) : R2 := fun x y H Q => rI CMulW (fun i j => .int (i * j)) x y H Q ∨ (rI CMul (fun i j => .int (i * j)) x y H Q ∨ (rRep x y H Q ∨ (rRepT K x y H Q ∨ rRepS K x y H Q)))
theorem mulOk2_ok {i j : Int} (c : mulOk2 i j = true) : CMul i j := by
  unfold mulOk2 at c
  rw [Bool.or_eq_true] at c
  rcases c with c | c
  · have := of_decide_eq_true c
    exact .inl ⟨by omega, by omega⟩
  · have := of_decide_eq_true c
    exact .inr ⟨by omega, by omega⟩
theorem rv_mul : RvOk K g (rMulU K) mulD := by
  intro Hf H x y dx dy Q e rx ry h
  cases rx <;> cases ry <;> try exact (show False from h).elim
  case int.int i j =>
    dsimp only [mulD] at h
    by_cases c : mulOk2 i j = true
    · rw [if_pos c] at h
      exact .inr (.inl ⟨i, j, rfl, rfl, mulOk2_ok c, h _ Hf H (Grow.refl e) (.int _)⟩)
    · rw [if_neg c] at h
      by_cases c : mulOk i j = true
      · rw [if_pos c] at h
        exact .inl ⟨i, j, rfl, rfl, of_decide_eq_true (p := i.natAbs.log2 + j.natAbs.log2 < 1000000) c, h _ Hf H (Grow.refl e) (.int _)⟩
      · rw [if_neg c] at h
        exact h.elim
  case lst.int a ds vs h1 r1 k =>
    dsimp only [mulD] at h
    split at h
    · rename_i z hz
      split at hz
      · rename_i c
        cases hz
        refine .inr (.inr (.inl ⟨_, k, _, rfl, rfl, e _ _ h1, by omega, by omega, by rw [sizeLine_eq, ← r1.len]; exact c.2.2, fun p hp => ?_⟩))
        obtain ⟨w, r⟩ := new_lst e hp (r1.rep k.toNat)
        exact h _ _ _ w r
      · cases hz
    · exact h.elim
  case tup.int a ds vs h1 r1 k =>
    dsimp only [mulD] at h
    by_cases c : k = 1
    · rw [if_pos c] at h
      exact .inr (.inr (.inr (.inr ⟨_, k, _, rfl, rfl, e.t h1, by omega, .inl ⟨c, h _ Hf H (Grow.refl e) (.tup h1 r1)⟩⟩)))
    · rw [if_neg c] at h
      by_cases c0 : ds ≠ [] ∧ -1000 ≤ k ∧ k ≤ 0
      · rw [if_pos c0] at h
        refine .inr (.inr (.inr (.inr ⟨_, k, _, rfl, rfl, e.t h1, c0.2.1, .inr ⟨fun q => ?_, c0.2.2, fun p hp => ?_⟩⟩)))
        · subst q; cases r1; exact c0.1 rfl
        · obtain ⟨w, r⟩ := new_tup (K := K) (g := g) e hp .nil
          exact h _ _ _ w r
      · rw [if_neg c0] at h
        by_cases c : ds ≠ [] ∧ 2 ≤ k ∧ k ≤ 1000 ∧ ds.length ≤ 1000
        · rw [if_pos c] at h
          refine .inr (.inr (.inr (.inl ⟨_, k, _, rfl, rfl, e.t h1, fun q => ?_, c.2.1, c.2.2.1, by rw [← r1.len]; exact c.2.2.2, fun p hp => ?_⟩)))
          · subst q; cases r1; exact c.1 rfl
          · obtain ⟨w, r⟩ := new_tup e hp (r1.rep k.toNat)
            exact h _ _ _ w r
        · rw [if_neg c] at h
          exact h.elim
end
def mBin (f : D → D → Option D) (a b : M D) : M D := bnd a fun x => bnd b fun y => lft (f x y)
def mUn (f : D → Option D) (a : M D) : M D := bnd a fun x => lft (f x)
def negD : D → Option D
  | .int i => some (.int (-i))
  | _ => none
section
variable {X : Cx} {g : G} {W : WX} {a b : Expr} {ma mb : M D} {pos : Pos}
theorem m_bin {op : Operator} {r : R2} {f : D → D → Option D} (ho : OpR X (binaryOp op) r) (hr : RvOk X.K g r f) (ha : PEM X g W a ma) (hb : PEM X g W b mb) : PEM X g W (.BinOp a op b pos) (mBin f ma mb) := by
  obtain ⟨ta, h1, h2⟩ := ha
  obtain ⟨tb, h3, h4⟩ := hb
  exact ⟨_, pe_op ho h1 h3, hr.ev h2 h4⟩
theorem m_add (ha : PEM X g W a ma) (hb : PEM X g W b mb) : PEM X g W (.BinOp a .Add b pos) (mBin addD ma mb) := m_bin (op_add.or (op_add_str.or (op_cat.or op_catA))) rv_add ha hb
theorem m_sub (ha : PEM X g W a ma) (hb : PEM X g W b mb) : PEM X g W (.BinOp a .Sub b pos) (mBin subD ma mb) := m_bin op_sub rv_sub ha hb
theorem m_mul (ha : PEM X g W a ma) (hb : PEM X g W b mb) : PEM X g W (.BinOp a .Mult b pos) (mBin mulD ma mb) := m_bin (op_mulW.or (op_mul.or (op_rep.or (op_repT.or op_repS)))) rv_mul ha hb
theorem m_div (ha : PEM X g W a ma) (hb : PEM X g W b mb) : PEM X g W (.BinOp a .FloorDiv b pos) (mBin divD ma mb) := m_bin op_fdivW rv_div ha hb
theorem m_mod (ha : PEM X g W a ma) (hb : PEM X g W b mb) : PEM X g W (.BinOp a .Mod b pos) (mBin modD ma mb) := m_bin op_mod rv_mod ha hb
theorem m_pow (ha : PEM X g W a ma) (hb : PEM X g W b mb) : PEM X g W (.BinOp a .Pow b pos) (mBin powD ma mb) := m_bin op_pow rv_pow ha hb
theorem m_un {op : UnaryOp} {r : V → Hp → VK → Prop} {f : D → Option D} (ho : UnR X (unaryOp op) r) (hr : RuOk X.K g r f) (ha : PEM X g W a ma) : PEM X g W (.UnaryOp op a pos) (mUn f ma) := by
  obtain ⟨ta, h1, h2⟩ := ha
  exact ⟨_, pe_un ho h1, hr.ev h2⟩
theorem m_neg (ha : PEM X g W a ma) : PEM X g W (.UnaryOp .USub a pos) (mUn negD ma) := m_un un_neg (fun Hf H x dx Q e rx h => by
  cases rx <;> try exact (show False from h).elim
  case int i => exact ⟨i, rfl, h _ Hf H (Grow.refl e) (.int _)⟩) ha
end
end DL

set_option Elab.async false
set_option linter.all false
set_option maxRecDepth 100000
set_option maxHeartbeats 400000
namespace DL
open PySem L2
/-! ### lists of arguments, displays -/
def mNil : M (List D) := ret []
def mCons (a : M D) (b : M (List D)) : M (List D) := bnd a fun x => bnd b fun xs => ret (x :: xs)
def small (n : Nat) : Bool := decide (n ≤ 16777216)
def mTup (a : M (List D)) : M D := bnd a fun xs => lft (if small xs.length = true then some (.tup xs) else none)
def mLst (a : M (List D)) : M D := bnd a fun xs => lft (if small xs.length = true then some (.lst xs) else none)
section
variable {K : PySem.W.Frag} {g : G} {W : WX}
theorem ev_nil : EvL K g W tNil mNil := fun env σ Hf H s Q h => Aft.ret s h [] .nil
theorem ev_cons {ta : TE} {tr : TA} {a : M D} {b : M (List D)} (ha : EvM K g W ta a) (hb : EvL K g W tr b) : EvL K g W (tCons ta tr) (mCons a b) :=
  fun env σ Hf H s Q h => ha env σ Hf H s _ (h.bnd.imp fun x e1 Hf1 H1 _ s1 h1 v r1 => hb e1 σ Hf1 H1 s1.sr _ (h1.bnd.imp fun xs e2 Hf2 H2 _ s2 h2 vs r2 => Aft.ret s2.sr h2 (v :: vs) (.cons (r1.mono s2.f) r2)))
theorem small_le {n : Nat} (h : small n = true) : n ≤ sizeLine := by
  rw [sizeLine_eq]
  exact of_decide_eq_true h
theorem lft_if {α : Type} {c : Prop} [Decidable c] {z : α} {env : En} {σ : L2.St} {Hf H : Hp} {P : α → En → Hp → Hp → Prop} (s : SR K g env σ Hf H) (h : Aft K g W env σ Hf H (DL.lft (if c then some z else none) env) P) :
    c ∧ ∀ Hf' H', Grow Hf H Hf' H' → P z env Hf' H' := by
  obtain ⟨a, ha, k⟩ := Aft.lft s h
  split at ha
  · rename_i q
    cases ha
    exact ⟨q, k⟩
  · cases ha
theorem ev_tup {ta : TA} {a : M (List D)} (ha : EvL K g W ta a) : EvM K g W (tTup ta) (mTup a) :=
  fun env σ Hf H s Q h => ha env σ Hf H s _ (h.bnd.imp fun xs e1 Hf1 H1 _ s1 h1 vs r1 => by
    obtain ⟨c, k⟩ := lft_if s1.sr h1
    refine ⟨by rw [← r1.len]; exact small_le c, fun p hp => ?_⟩
    obtain ⟨w, r⟩ := new_tup s1.sr.ex hp r1
    exact k _ _ w _ r)
theorem ev_lst {ta : TA} {a : M (List D)} (ha : EvL K g W ta a) : EvM K g W (tLst ta) (mLst a) :=
  fun env σ Hf H s Q h => ha env σ Hf H s _ (h.bnd.imp fun xs e1 Hf1 H1 _ s1 h1 vs r1 => by
    obtain ⟨c, k⟩ := lft_if s1.sr h1
    refine ⟨by rw [← r1.len]; exact small_le c, fun p hp => ?_⟩
    obtain ⟨w, r⟩ := new_lst s1.sr.ex hp r1
    exact k _ _ w _ r)
theorem new_own {env e1 : En} {σ : L2.St} {Hf H Hf1 H1 : Hp} (s1 : Step K g env σ Hf H e1 σ Hf1 H1) {p : Addr} (hp : H1 p = none) {u : HO} {d : D} (r : RepO K g Hf1 d u) : New K g e1 σ H Hf1 (upd H1 p u) d p :=
  ⟨⟨u, upd_same, r⟩, s1.sr.ex.back hp, fun o => Own.there s1.sr o hp, s1.th p hp⟩
theorem evf_lst {ta : TA} {a : M (List D)} (ha : EvL K g W ta a) : EvF K g W (tLst ta) (mLst a) :=
  fun env σ Hf H s Q h => ha env σ Hf H s _ (h.bnd.imp fun xs e1 Hf1 H1 _ s1 h1 vs r1 => by
    obtain ⟨c, k⟩ := lft_if s1.sr h1
    refine ⟨by rw [← r1.len]; exact small_le c, fun p hp => ?_⟩
    exact k Hf1 _ (own_new s1.sr.ex hp) p (new_own s1 hp (.lst r1)))
end
section
variable {X : Cx} {g : G} {W : WX} {e : Expr} {es : List Expr} {a : M D} {b : M (List D)} {pos : Pos}
theorem a_nil : PAM X g W [] mNil := ⟨_, pa_nil, ev_nil⟩
theorem a_cons (ha : PEM X g W e a) (hb : PAM X g W es b) (hs : starEach (e :: es) X.env = (false, eval e X.env) :: starEach es X.env := by rfl) : PAM X g W (e :: es) (mCons a b) := by
  obtain ⟨t, h1, h2⟩ := ha
  obtain ⟨u, h3, h4⟩ := hb
  exact ⟨_, pa_cons h1 h3 hs, ev_cons h2 h4⟩
theorem m_tup {x1} (h : PAM X g W es b) : PEM X g W (.Tuple es x1 pos) (mTup b) := by
  obtain ⟨t, h1, h2⟩ := h
  exact ⟨_, pe_tup h1, ev_tup h2⟩
theorem m_lst (h : PAM X g W es b) : PEM X g W (.List es pos) (mLst b) := by
  obtain ⟨t, h1, h2⟩ := h
  exact ⟨_, pe_lst h1, ev_lst h2⟩
theorem f_lst (h : PAM X g W es b) : PEF X g W (.List es pos) (mLst b) := by
  obtain ⟨t, h1, h2⟩ := h
  exact ⟨_, pe_lst h1, evf_lst h2⟩
end
/-! ### tests -/
def mB (m : M D) : M Bool := bnd m fun x => lft (match x with
  | .bl b => some b
  | _ => none)
def mAnd (a b : M Bool) : M Bool := bnd a fun x => if x = true then b else ret false
def mOr (a b : M Bool) : M Bool := bnd a fun x => if x = true then ret true else b
def mNot (a : M Bool) : M Bool := bnd a fun x => ret (!x)
def mBv (m : M Bool) : M D := bnd m fun x => ret (.bl x)
def mIf (c : M Bool) (a b : M D) : M D := bnd c fun x => if x = true then a else b
/-- truth of any value -/
def truD : D → Option Bool
  | .non => some false
  | .bl b => some b
  | .int i => some (i != 0)
  | .str y => if small y.length = true then some ((y.length : Int) != 0) else none
  | .lst xs => some (!xs.isEmpty)
  | .tup xs => some (!xs.isEmpty)
  | _ => none
def mTru (m : M D) : M Bool := bnd m fun x => lft (truD x)
section
variable {K : PySem.W.Frag} {g : G} {W : WX}
theorem ev_B {te : TE} {m : M D} (h : EvM K g W te m) : EvB K g W (tB te) (mB m) :=
  fun env σ Hf H s Q q => h env σ Hf H s _ (q.bnd.imp fun x e1 Hf1 H1 _ s1 h1 v r1 => by
    obtain ⟨b, hb, k⟩ := Aft.lft s1.sr h1
    cases r1 <;> try (cases hb; done)
    case bl b' => cases hb; exact ⟨_, rfl, k Hf1 H1 (Grow.refl s1.sr.ex)⟩)
theorem ev_Test {te : TE} {m : M D} (h : EvM K g W te m) : EvB K g W (tTest te) (mB m) := ev_B h
theorem ev_and {t u : TT} {a b : M Bool} (ha : EvB K g W t a) (hb : EvB K g W u b) : EvB K g W (tAnd t u) (mAnd a b) :=
  fun env σ Hf H s Q q => ha env σ Hf H s _ (q.bnd.imp fun x e1 Hf1 H1 _ s1 h1 => by
    cases x with
    | true => exact hb e1 σ Hf1 H1 s1.sr Q h1
    | false => exact Aft.ret s1.sr h1)
theorem ev_or {t u : TT} {a b : M Bool} (ha : EvB K g W t a) (hb : EvB K g W u b) : EvB K g W (tOr t u) (mOr a b) :=
  fun env σ Hf H s Q q => ha env σ Hf H s _ (q.bnd.imp fun x e1 Hf1 H1 _ s1 h1 => by
    cases x with
    | true => exact Aft.ret s1.sr h1
    | false => exact hb e1 σ Hf1 H1 s1.sr Q h1)
theorem ev_not {t : TT} {a : M Bool} (ha : EvB K g W t a) : EvB K g W (tNot t) (mNot a) :=
  fun env σ Hf H s Q q => ha env σ Hf H s _ (q.bnd.imp fun x e1 Hf1 H1 _ s1 h1 => Aft.ret s1.sr h1)
theorem ev_if {t : TT} {ta tb : TE} {c : M Bool} {a b : M D} (hc : EvB K g W t c) (ha : EvM K g W ta a) (hb : EvM K g W tb b) : EvM K g W (tIf t ta tb) (mIf c a b) :=
  fun env σ Hf H s Q q => hc env σ Hf H s _ (q.bnd.imp fun x e1 Hf1 H1 _ s1 h1 => by
    cases x with
    | true => exact ha e1 σ Hf1 H1 s1.sr Q h1
    | false => exact hb e1 σ Hf1 H1 s1.sr Q h1)
/-- and, or as values of bools -/
theorem ev_andV {ta tb : TE} {a b : M D} (ha : EvM K g W ta a) (hb : EvM K g W tb b) : EvM K g W (tAndV ta tb) (bnd (mB a) fun x => if x = true then b else ret (.bl false)) :=
  fun env σ Hf H s Q q => ha env σ Hf H s _ ((q.bnd).bnd.imp fun x e1 Hf1 H1 _ s1 h1 v r1 => by
    obtain ⟨c, hb', k⟩ := Aft.lft s1.sr h1
    cases r1 <;> try (cases hb'; done)
    case bl b' =>
      cases hb'
      refine ⟨_, rfl, ?_⟩
      have z := k Hf1 H1 (Grow.refl s1.sr.ex)
      cases c with
      | true => exact hb e1 σ Hf1 H1 s1.sr Q z
      | false => exact Aft.ret s1.sr z _ (.bl false))
theorem ev_orV {ta tb : TE} {a b : M D} (ha : EvM K g W ta a) (hb : EvM K g W tb b) : EvM K g W (tOrV ta tb) (bnd (mB a) fun x => if x = true then ret (.bl true) else b) :=
  fun env σ Hf H s Q q => ha env σ Hf H s _ ((q.bnd).bnd.imp fun x e1 Hf1 H1 _ s1 h1 v r1 => by
    obtain ⟨c, hb', k⟩ := Aft.lft s1.sr h1
    cases r1 <;> try (cases hb'; done)
    case bl b' =>
      cases hb'
      refine ⟨_, rfl, ?_⟩
      have z := k Hf1 H1 (Grow.refl s1.sr.ex)
      cases c with
      | true => exact Aft.ret s1.sr z _ (.bl true)
      | false => exact hb e1 σ Hf1 H1 s1.sr Q z)
theorem ev_notV {ta : TE} {a : M D} (ha : EvM K g W ta a) : EvM K g W (tNotV ta) (mBv (mNot (mB a))) :=
  fun env σ Hf H s Q q => ha env σ Hf H s _ ((q.bnd).bnd.bnd.imp fun x e1 Hf1 H1 _ s1 h1 v r1 => by
    obtain ⟨c, hb', k⟩ := Aft.lft s1.sr h1
    cases r1 <;> try (cases hb'; done)
    case bl b' =>
      cases hb'
      have z := k Hf1 H1 (Grow.refl s1.sr.ex)
      exact ⟨_, rfl, Aft.ret s1.sr (Aft.ret s1.sr z) _ (.bl _)⟩)
theorem tru_of {Hf H : Hp} {d : D} {v : V} {b : Bool} (e : Ex Hf H) (r : Rep K g Hf d v) (h : truD d = some b) : TruV K v H b := by
  cases r <;> try (cases h; done)
  case non => cases h; rfl
  case bl => cases h; rfl
  case int => cases h; rfl
  case str y =>
    dsimp only [truD] at h
    split at h
    · rename_i c; cases h; exact ⟨small_le c, rfl⟩
    · cases h
  case lst a ds vs h1 r1 =>
    cases h
    refine .inl ⟨vs, SqL.of (e _ _ h1), ?_⟩
    cases r1 <;> rfl
  case tup a ds vs h1 r1 =>
    cases h
    refine .inr (.inl ⟨vs, e.t h1, ?_⟩)
    cases r1 <;> rfl
theorem ev_Tru {ta : TE} {a : M D} (ha : EvM K g W ta a) : EvB K g W (fun σ H Q => ta σ H fun x H' => ∃ k, TruV K x H' k ∧ Q k H') (mTru a) :=
  fun env σ Hf H s Q q => ha env σ Hf H s _ (q.bnd.imp fun x e1 Hf1 H1 _ s1 h1 v r1 => by
    obtain ⟨b, hb, k⟩ := Aft.lft s1.sr h1
    exact ⟨b, tru_of s1.sr.ex r1 hb, k Hf1 H1 (Grow.refl s1.sr.ex)⟩)
end
section
variable {X : Cx} {g : G} {W : WX} {a b c : Expr} {ma mb : M D} {ta tb : M Bool} {rest : List Expr} {pos : Pos}
theorem t_val {e : Expr} {m : M D} (h : PEM X g W e m) (he : ∀ whole, isTrue e X.env whole = (do let v ← whole; standAt e.pos; holding [v] (truthy v)) := by intro _; rfl) : PTM X g W e (mB m) := by
  obtain ⟨t, h1, h2⟩ := h
  exact ⟨_, pt_val h1 he, ev_B h2⟩
theorem t_tru {e : Expr} {m : M D} (h : PEM X g W e m) (he : ∀ whole, isTrue e X.env whole = (do let v ← whole; standAt e.pos; holding [v] (truthy v)) := by intro _; rfl) : PTM X g W e (mTru m) := by
  obtain ⟨t, h1, h2⟩ := h
  exact ⟨_, pt_truth h1 he, ev_Tru h2⟩
theorem t_cmp {op : CmpOp} {r : R2} {f : D → D → Option D} (ho : OpR X (compareOp op) r) (hr : RvOk X.K g r f) (ha : PEM X g W a ma) (hb : PEM X g W b mb) (hm : behindInMarks op b = false) : PTM X g W (.Compare a [op] [b] pos) (mB (mBin f ma mb)) := by
  obtain ⟨ta, h1, h2⟩ := ha
  obtain ⟨tb, h3, h4⟩ := hb
  exact ⟨_, pt_cmpR ho h1 h3 hm, ev_Test (hr.ev h2 h4)⟩
theorem m_cmp {op : CmpOp} {r : R2} {f : D → D → Option D} (ho : OpR X (compareOp op) r) (hr : RvOk X.K g r f) (ha : PEM X g W a ma) (hb : PEM X g W b mb) (hm : behindInMarks op b = false) : PEM X g W (.Compare a [op] [b] pos) (mBin f ma mb) := by
  obtain ⟨ta, h1, h2⟩ := ha
  obtain ⟨tb, h3, h4⟩ := hb
  exact ⟨_, pe_cmpR ho h1 h3 hm, hr.ev h2 h4⟩
theorem w_and1 (h : PTM X g W a ta) : PWM X g W (.BoolOp .And [a] pos) ta := by obtain ⟨t, h1, h2⟩ := h; exact ⟨_, pw_and1 h1, h2⟩
theorem w_or1 (h : PTM X g W a ta) : PWM X g W (.BoolOp .Or [a] pos) ta := by obtain ⟨t, h1, h2⟩ := h; exact ⟨_, pw_or1 h1, h2⟩
theorem w_and (h : PTM X g W a ta) (k : PWM X g W (.BoolOp .And (b :: rest) pos) tb) : PWM X g W (.BoolOp .And (a :: b :: rest) pos) (mAnd ta tb) := by
  obtain ⟨t, h1, h2⟩ := h
  obtain ⟨u, h3, h4⟩ := k
  exact ⟨_, pw_and h1 h3, ev_and h2 h4⟩
theorem w_or (h : PTM X g W a ta) (k : PWM X g W (.BoolOp .Or (b :: rest) pos) tb) : PWM X g W (.BoolOp .Or (a :: b :: rest) pos) (mOr ta tb) := by
  obtain ⟨t, h1, h2⟩ := h
  obtain ⟨u, h3, h4⟩ := k
  exact ⟨_, pw_or h1 h3, ev_or h2 h4⟩
theorem PWM.t {e : Expr} {m : M Bool} (h : PWM X g W e m) : PTM X g W e m := by obtain ⟨t, h1, h2⟩ := h; exact ⟨_, h1.pt, h2⟩
theorem t_not (h : PTM X g W a ta) : PTM X g W (.UnaryOp .Not a pos) (mNot ta) := by obtain ⟨t, h1, h2⟩ := h; exact ⟨_, pt_not h1, ev_not h2⟩
theorem m_not (h : PEM X g W a ma) : PEM X g W (.UnaryOp .Not a pos) (mBv (mNot (mB ma))) := by obtain ⟨t, h1, h2⟩ := h; exact ⟨_, pe_not h1, ev_notV h2⟩
theorem m_one {op} (h : PEM X g W a ma) : PEM X g W (.BoolOp op [a] pos) ma := by obtain ⟨t, h1, h2⟩ := h; exact ⟨_, pe_one h1, h2⟩
theorem m_and (h : PEM X g W a ma) (k : PEM X g W (.BoolOp .And (b :: rest) pos) mb) : PEM X g W (.BoolOp .And (a :: b :: rest) pos) (bnd (mB ma) fun x => if x = true then mb else ret (.bl false)) := by
  obtain ⟨t, h1, h2⟩ := h
  obtain ⟨u, h3, h4⟩ := k
  exact ⟨_, pe_and h1 h3, ev_andV h2 h4⟩
theorem m_or (h : PEM X g W a ma) (k : PEM X g W (.BoolOp .Or (b :: rest) pos) mb) : PEM X g W (.BoolOp .Or (a :: b :: rest) pos) (bnd (mB ma) fun x => if x = true then ret (.bl true) else mb) := by
  obtain ⟨t, h1, h2⟩ := h
  obtain ⟨u, h3, h4⟩ := k
  exact ⟨_, pe_or h1 h3, ev_orV h2 h4⟩
theorem m_ifx {tc : M Bool} (hc : PTM X g W c tc) (ha : PEM X g W a ma) (hb : PEM X g W b mb) : PEM X g W (.IfExp c a b pos) (mIf tc ma mb) := by
  obtain ⟨t, h1, h2⟩ := hc
  obtain ⟨u, h3, h4⟩ := ha
  obtain ⟨w, h5, h6⟩ := hb
  exact ⟨_, pe_ifExp h1 h3 h5, ev_if h2 h4 h6⟩
end
/-! ### data, == -/
mutual
def toPD : D → Option PyData
  | .non => some .none
  | .bl b => some (.bool b)
  | .int i => some (.int i)
  | .str x => some (.str x)
  | .lst xs => (toPDs xs).map .list
  | .tup xs => (toPDs xs).map .tuple
  | _ => none
def toPDs : List D → Option (List PyData)
  | [] => some []
  | x :: xs => match toPD x, toPDs xs with
    | some y, some ys => some (y :: ys)
    | _, _ => none
end
section
variable {K : PySem.W.Frag} {g : G} {H H' : Hp}
mutual
theorem Rep.dp (e : Ex H H') : ∀ {d : D} {v : V} {p : PyData}, Rep K g H d v → toPD d = some p → Dp K H' v p
  | _, _, _, .non, h => by cases h; exact .non
  | _, _, _, .bl b, h => by cases h; exact .bl b
  | _, _, _, .int b, h => by cases h; exact .int b
  | _, _, _, .str b, h => by cases h; exact .str b
  | _, _, _, .lst (ds := ds) a r, h => by
    unfold toPD at h
    cases q : toPDs ds with
    | none => rw [q] at h; cases h
    | some ys => rw [q] at h; cases h; exact .lst (SqL.of (e _ _ a)) (Reps.dp e r q)
  | _, _, _, .tup (ds := ds) a r, h => by
    unfold toPD at h
    cases q : toPDs ds with
    | none => rw [q] at h; cases h
    | some ys => rw [q] at h; cases h; exact .tup (e.t a) (Reps.dp e r q)
  | _, _, _, .ty _, h => by cases h
  | _, _, _, .scr _, h => by cases h
  | _, _, _, .dic _ _ _, h => by cases h
  | _, _, _, .dct _ _ _, h => by cases h
  | _, _, _, .ins _ _ _ _, h => by cases h
theorem Reps.dp (e : Ex H H') : ∀ {d : List D} {v : List V} {p : List PyData}, Reps K g H d v → toPDs d = some p → DpAll K H' v p
  | _, _, _, .nil, h => by cases h; exact .nil
  | _, _, _, .cons (d := x) (ds := xs) a b, h => by
    unfold toPDs at h
    cases q1 : toPD x with
    | none => rw [q1] at h; cases h
    | some y =>
      cases q2 : toPDs xs with
      | none => rw [q1, q2] at h; cases h
      | some ys => rw [q1, q2] at h; cases h; exact .cons (Rep.dp e a q1) (Reps.dp e b q2)
end
end
def eqB (a b : D) : Option Bool := match toPD a, toPD b with
  | some x, some y => if SeqAt.shaped x = true ∧ SeqAt.shaped y = true then some (PyData.eqv x y) else none
  | _, _ => none
def eqD (a b : D) : Option D := (eqB a b).map .bl
def neD (a b : D) : Option D := (eqB a b).map fun k => .bl (!k)
def cmpD (f : Int → Int → Bool) : D → D → Option D
  | .int i, .int j => some (.bl (f i j))
  | _, _ => none
def isND (neg : Bool) : D → D → Option D
  | .non, .non => some (.bl (!neg))
  | .dic _ _, .non => none
  | .ty _, .non => some (.bl neg)
  | _, .non => some (.bl neg)
  | _, _ => none
section
variable {K : PySem.W.Frag} {g : G}
theorem eqB_some {a b : D} {k : Bool} (h : eqB a b = some k) : ∃ x y, toPD a = some x ∧ toPD b = some y ∧ SeqAt.shaped x = true ∧ SeqAt.shaped y = true ∧ k = PyData.eqv x y := by
  unfold eqB at h
  cases q1 : toPD a with
  | none => rw [q1] at h; cases h
  | some x =>
    cases q2 : toPD b with
    | none => rw [q1, q2] at h; cases h
    | some y =>
      rw [q1, q2] at h
      dsimp only at h
      split at h
      · rename_i c; cases h; exact ⟨x, y, rfl, rfl, c.1, c.2, rfl⟩
      · cases h
theorem rv_eq : RvOk K g (rEqD K) eqD := by
  intro Hf H x y dx dy Q e rx ry h
  unfold eqD at h
  cases q : eqB dx dy with
  | none => rw [q] at h; exact h.elim
  | some k =>
    rw [q] at h
    obtain ⟨a, b, h1, h2, h3, h4, rfl⟩ := eqB_some q
    exact ⟨a, b, rx.dp e h1, ry.dp e h2, h3, h4, h _ Hf H (Grow.refl e) (.bl _)⟩
theorem rv_ne : RvOk K g (rNeD K) neD := by
  intro Hf H x y dx dy Q e rx ry h
  unfold neD at h
  cases q : eqB dx dy with
  | none => rw [q] at h; exact h.elim
  | some k =>
    rw [q] at h
    obtain ⟨a, b, h1, h2, h3, h4, rfl⟩ := eqB_some q
    exact ⟨a, b, rx.dp e h1, ry.dp e h2, h3, h4, h _ Hf H (Grow.refl e) (.bl _)⟩
theorem rv_cmp (f : Int → Int → Bool) : RvOk K g (rI0 fun i j => .bl (f i j)) (cmpD f) := by
  intro Hf H x y dx dy Q e rx ry h
  cases rx <;> cases ry <;> try exact (show False from h).elim
  case int.int i j => exact ⟨i, j, rfl, rfl, h _ Hf H (Grow.refl e) (.bl _)⟩
theorem rv_isN : RvOk K g (fun x y H Q => y = .non ∧ Q (.bl (decide (x = .non))) H) (isND false) := by
  intro Hf H x y dx dy Q e rx ry h
  cases rx <;> cases ry <;> first
    | exact (show False from h).elim
    | exact ⟨rfl, h _ Hf H (Grow.refl e) (.bl _)⟩
theorem rv_notN : RvOk K g (fun x y H Q => y = .non ∧ Q (.bl (!decide (x = .non))) H) (isND true) := by
  intro Hf H x y dx dy Q e rx ry h
  cases rx <;> cases ry <;> first
    | exact (show False from h).elim
    | exact ⟨rfl, h _ Hf H (Grow.refl e) (.bl _)⟩
end
section
variable {X : Cx} {g : G} {W : WX} {a b c : Expr} {ma mb mc : M D} {pos : Pos} {k : Nat}
theorem t_eq (hr : Room k X.A) (ha : PEM X g W a ma) (hb : PEM X g W b mb) : PTM X g W (.Compare a [.Eq] [b] pos) (mB (mBin eqD ma mb)) := t_cmp (op_eqD hr.units) rv_eq ha hb (nomark _)
theorem t_ne (hr : Room k X.A) (ha : PEM X g W a ma) (hb : PEM X g W b mb) : PTM X g W (.Compare a [.NotEq] [b] pos) (mB (mBin neD ma mb)) := t_cmp (op_neD hr.units) rv_ne ha hb (nomark _)
theorem m_eq (hr : Room k X.A) (ha : PEM X g W a ma) (hb : PEM X g W b mb) : PEM X g W (.Compare a [.Eq] [b] pos) (mBin eqD ma mb) := m_cmp (op_eqD hr.units) rv_eq ha hb (nomark _)
theorem m_ne (hr : Room k X.A) (ha : PEM X g W a ma) (hb : PEM X g W b mb) : PEM X g W (.Compare a [.NotEq] [b] pos) (mBin neD ma mb) := m_cmp (op_neD hr.units) rv_ne ha hb (nomark _)
abbrev ltD := cmpD fun i j => decide (i < j)
abbrev leD := cmpD fun i j => decide (i ≤ j)
abbrev gtD := cmpD fun i j => decide (j < i)
abbrev geD := cmpD fun i j => decide (j ≤ i)
theorem t_lt (ha : PEM X g W a ma) (hb : PEM X g W b mb) : PTM X g W (.Compare a [.Lt] [b] pos) (mB (mBin ltD ma mb)) := t_cmp op_lt (rv_cmp _) ha hb (nomark _)
theorem t_le (ha : PEM X g W a ma) (hb : PEM X g W b mb) : PTM X g W (.Compare a [.LtE] [b] pos) (mB (mBin leD ma mb)) := t_cmp op_le (rv_cmp _) ha hb (nomark _)
theorem t_gt (ha : PEM X g W a ma) (hb : PEM X g W b mb) : PTM X g W (.Compare a [.Gt] [b] pos) (mB (mBin gtD ma mb)) := t_cmp op_gt (rv_cmp _) ha hb (nomark _)
theorem t_ge (ha : PEM X g W a ma) (hb : PEM X g W b mb) : PTM X g W (.Compare a [.GtE] [b] pos) (mB (mBin geD ma mb)) := t_cmp op_ge (rv_cmp _) ha hb (nomark _)
theorem m_lt (ha : PEM X g W a ma) (hb : PEM X g W b mb) : PEM X g W (.Compare a [.Lt] [b] pos) (mBin ltD ma mb) := m_cmp op_lt (rv_cmp _) ha hb (nomark _)
theorem m_le (ha : PEM X g W a ma) (hb : PEM X g W b mb) : PEM X g W (.Compare a [.LtE] [b] pos) (mBin leD ma mb) := m_cmp op_le (rv_cmp _) ha hb (nomark _)
theorem m_gt (ha : PEM X g W a ma) (hb : PEM X g W b mb) : PEM X g W (.Compare a [.Gt] [b] pos) (mBin gtD ma mb) := m_cmp op_gt (rv_cmp _) ha hb (nomark _)
theorem m_ge (ha : PEM X g W a ma) (hb : PEM X g W b mb) : PEM X g W (.Compare a [.GtE] [b] pos) (mBin geD ma mb) := m_cmp op_ge (rv_cmp _) ha hb (nomark _)
theorem t_isN (ha : PEM X g W a ma) (hb : PEM X g W b mb) : PTM X g W (.Compare a [.Is] [b] pos) (mB (mBin (isND false) ma mb)) := t_cmp op_isN rv_isN ha hb (nomark _)
theorem t_notN (ha : PEM X g W a ma) (hb : PEM X g W b mb) : PTM X g W (.Compare a [.IsNot] [b] pos) (mB (mBin (isND true) ma mb)) := t_cmp op_notN rv_notN ha hb (nomark _)
theorem m_isN (ha : PEM X g W a ma) (hb : PEM X g W b mb) : PEM X g W (.Compare a [.Is] [b] pos) (mBin (isND false) ma mb) := m_cmp op_isN rv_isN ha hb (nomark _)
theorem m_notN (ha : PEM X g W a ma) (hb : PEM X g W b mb) : PEM X g W (.Compare a [.IsNot] [b] pos) (mBin (isND true) ma mb) := m_cmp op_notN rv_notN ha hb (nomark _)
/-- a op b op' c -/
def mChain (f f' : D → D → Option D) (a b c : M D) : M D := bnd a fun x => bnd b fun y => bnd (lft (f x y)) fun z => match z with
  | .bl true => bnd c fun w => lft (f' y w)
  | .bl false => ret (.bl false)
  | _ => lft none
theorem cmpD_some {p : Int → Int → Bool} {x y z : D} (h : cmpD p x y = some z) : ∃ i j, x = .int i ∧ y = .int j ∧ z = .bl (p i j) := by
  cases x <;> cases y <;> simp [cmpD] at h <;> exact ⟨_, _, rfl, rfl, h.symm⟩
theorem m_chain {op op' : CmpOp} {p p' : Int → Int → Bool} (ho : OpR X (compareOp op) (rI0 fun i j => .bl (p i j))) (ho' : OpR X (compareOp op') (rI0 fun i j => .bl (p' i j))) (ha : PEM X g W a ma) (hb : PEM X g W b mb) (hc : PEM X g W c mc)
    (hm : lastMarks [op, op'] [b, c] = false := by with_unfolding_all rfl) : PEM X g W (.Compare a [op, op'] [b, c] pos) (mChain (cmpD p) (cmpD p') ma mb mc) := by
  obtain ⟨ta, h1, h2⟩ := ha
  obtain ⟨tb, h3, h4⟩ := hb
  obtain ⟨tc, h5, h6⟩ := hc
  refine ⟨_, pe_chain ho ho' h1 h3 h5 hm, fun env σ Hf H s Q h => h2 env σ Hf H s _ (h.bnd.imp fun x e1 Hf1 H1 _ s1 k1 v r1 => h4 e1 σ Hf1 H1 s1.sr _ (k1.bnd.imp fun y e2 Hf2 H2 _ s2 k2 w r2 => ?_))⟩
  obtain ⟨z, hz, k3⟩ := Aft.lft s2.sr k2.bnd
  have k4 := k3 Hf2 H2 (Grow.refl s2.sr.ex)
  obtain ⟨i, j, rfl, rfl, rfl⟩ := cmpD_some hz
  cases r1
  cases r2
  refine ⟨i, j, rfl, rfl, _, rfl, ?_⟩
  cases q : p i j with
  | true =>
    rw [q] at k4
    rw [if_pos rfl]
    refine h6 e2 σ Hf2 H2 s2.sr _ (k4.bnd.imp fun u e3 Hf3 H3 _ s3 k5 t r3 => ?_)
    obtain ⟨z, hz, k6⟩ := Aft.lft s3.sr k5
    obtain ⟨i', l, e', rfl, rfl⟩ := cmpD_some hz
    cases e'
    cases r3
    exact ⟨j, l, rfl, rfl, k6 Hf3 H3 (Grow.refl s3.sr.ex) _ (.bl _)⟩
  | false =>
    rw [q] at k4
    rw [if_neg (by decide)]
    exact Aft.ret s2.sr k4 _ (.bl false)
end
end DL

set_option Elab.async false
set_option linter.all false
set_option maxRecDepth 100000
set_option maxHeartbeats 400000
namespace DL
open PySem L2
/-! ### items -/
def ixD : D → D → Option D
  | .lst xs, .int i => atI xs i
  | .tup xs, .int i => atI xs i
  | .str z, .int i => if small z.length = true then (atI z.cps.toList i).map fun c => .str ⟨#[c]⟩ else none
  | .scr ns, .int i => (atI ns i).map .int
  | _, _ => none
section
variable {K : PySem.W.Frag} {g : G} {W : WX}
theorem atI_reps {Hf : Hp} {ds : List D} {vs : List V} {i : Int} {z : D} (r : Reps K g Hf ds vs) (h : atI ds i = some z) : ∃ v, atI vs i = some v ∧ Rep K g Hf z v := by
  unfold atI at h ⊢
  rw [← r.len]
  cases q : ixN ds.length i with
  | none => rw [q] at h; cases h
  | some j =>
    rw [q] at h
    exact Reps.getD r h
theorem rv_ix : RvOk K g (rIx K) ixD := by
  intro Hf H x y dx dy Q e rx ry h
  cases hz : ixD dx dy with
  | none => rw [hz] at h; exact h.elim
  | some z =>
    rw [hz] at h
    cases rx <;> cases ry <;> try (cases hz; done)
    case lst.int h1 r1 i =>
      obtain ⟨v, hv, r⟩ := atI_reps r1 hz
      exact .inl ⟨_, _, _, v, rfl, rfl, SqL.of (e _ _ h1), hv, h v Hf H (Grow.refl e) r⟩
    case tup.int h1 r1 i =>
      obtain ⟨v, hv, r⟩ := atI_reps r1 hz
      exact .inr (.inl ⟨_, _, _, v, rfl, rfl, e.t h1, hv, h v Hf H (Grow.refl e) r⟩)
    case str.int s i =>
      dsimp only [ixD] at hz
      split at hz
      · rename_i c
        cases q : atI s.cps.toList i with
        | none => rw [q] at hz; cases hz
        | some k =>
          rw [q] at hz
          cases hz
          exact .inr (.inr ⟨s, i, k, rfl, rfl, small_le c, q, h _ Hf H (Grow.refl e) (.str _)⟩)
      · cases hz
    case scr.int ns h1 i =>
      dsimp only [ixD] at hz
      cases q : atI ns i with
      | none => rw [q] at hz; cases hz
      | some k =>
        rw [q] at hz
        cases hz
        refine .inl ⟨_, _, _, .int k, rfl, rfl, e.l h1, ?_, h _ Hf H (Grow.refl e) (.int _)⟩
        unfold atI at q ⊢
        rw [List.length_map]
        cases w : ixN ns.length i with
        | none => rw [w] at q; cases q
        | some j =>
          rw [w] at q
          show (ns.map V.int)[j]? = some (.int k)
          have q' : ns[j]? = some k := q
          rw [List.getElem?_map, q']
          rfl
end
/-! ### what a name holds, read without taking it -/
def Sl.val : Sl → Option D
  | .sh d => some d
  | .ow d => some d
  | .pn d => some d
  | .no => none
def scl : D → Bool
  | .non => true | .bl _ => true | .int _ => true | .str _ => true | _ => false
def peek (i : Nat) : M D := fun env => match env[i]?.bind Sl.val with
  | some d => .ok d env
  | none => .bad
section
variable {K : PySem.W.Frag} {g : G} {W : WX} {env : En} {σ : L2.St} {Hf H : Hp}
/-- seen as if it were shared -/
theorem SR.view (s : SR K g env σ Hf H) {i : Nat} {d : D} (h : env[i]?.bind Sl.val = some d) (f : full d = true) : ∃ v Hf', σ[i]? = some (some v) ∧ Ex Hf Hf' ∧ Ex Hf' H ∧ Rep K g Hf' d v := by
  cases e : env[i]? with
  | none => rw [e] at h; cases h
  | some x =>
    rw [e] at h
    cases x with
    | no => cases h
    | sh d' => cases h; obtain ⟨v, e1, r⟩ := s.sh_ e; exact ⟨v, Hf, e1, Ex.refl _, s.ex, r⟩
    | ow d' => cases h; obtain ⟨p, u, e1, e2, e3, r⟩ := s.at_ e rfl; obtain ⟨x1, x2⟩ := grow_freeze s.ex e2 e3; exact ⟨_, _, e1, x1, x2, (r.mono x1).rep upd_same f⟩
    | pn d' => cases h; obtain ⟨p, u, e1, e2, e3, r⟩ := s.at_ e rfl; obtain ⟨x1, x2⟩ := grow_freeze s.ex e2 e3; exact ⟨_, _, e1, x1, x2, (r.mono x1).rep upd_same f⟩
theorem Rep.scl {H H' : Hp} {d : D} {v : V} (r : Rep K g H d v) (h : scl d = true) : Rep K g H' d v := by
  cases r <;> first | (cases h; done) | constructor
theorem Grow.sc {Hf' H' : Hp} (w : Grow Hf' H Hf' H') (e : Ex Hf H) : Grow Hf H Hf H' := ⟨Ex.refl _, e.trans w.h, w.h, fun _ _ _ h => h⟩
/-- f(x), a scalar comes back -/
def mPk1 (f : D → Option D) (i : Nat) : M D := bnd (peek i) fun d => lft (if full d = true then (f d).bind fun z => if scl z = true then some z else none else none)
/-- x op e -/
def mPk2 (f : D → D → Option D) (i : Nat) (b : M D) : M D := bnd (peek i) fun _ => bnd b fun y => bnd (peek i) fun d => lft (if full d = true then (f d y).bind fun z => if scl z = true then some z else none else none)
theorem peek_ok {i : Nat} {P : D → En → Hp → Hp → Prop} (s : SR K g env σ Hf H) (h : Aft K g W env σ Hf H (peek i env) P) : ∃ d, env[i]?.bind Sl.val = some d ∧ P d env Hf H := by
  unfold peek at h
  cases e : env[i]?.bind Sl.val with
  | none => rw [e] at h; exact h.elim
  | some d => rw [e] at h; exact ⟨d, rfl, h Hf H (Step.refl s)⟩
theorem sc_bind {o : Option D} {z : D} (h : (o.bind fun z => if DL.scl z = true then some z else none) = some z) : o = some z ∧ DL.scl z = true := by
  cases o with
  | none => cases h
  | some w =>
    by_cases c : DL.scl w = true
    · have h' : (if DL.scl w = true then some w else none) = some z := h
      rw [if_pos c] at h'
      cases h'
      exact ⟨rfl, c⟩
    · have h' : (if DL.scl w = true then some w else none) = some z := h
      rw [if_neg c] at h'
      cases h'
theorem ev_pk1 {r : List V → Hp → VK → Prop} {f : List D → Option D} (hr : RcOk K g r f) (i : Nat) : EvM K g W (tCB r (tCons (tVar i) tNil)) (mPk1 (fun d => f [d]) i) :=
  fun env σ Hf H s Q h => by
    obtain ⟨d, hd, h1⟩ := peek_ok s h.bnd
    obtain ⟨z, hz, k⟩ := Aft.lft s h1
    split at hz
    · rename_i c
      obtain ⟨h2, h3⟩ := sc_bind hz
      obtain ⟨v, Hf', e1, x1, x2, r1⟩ := s.view hd c
      refine ⟨v, e1, hr Hf' H [v] [d] Q x2 (.cons r1 .nil) ?_⟩
      rw [show f [d] = some z from h2]
      exact fun v Hf2 H2 w r => k Hf H2 ⟨Ex.refl _, s.ex.trans w.h, w.h, fun _ _ _ h => h⟩ v (r.scl h3)
    · cases hz
theorem SR.val_at (s : SR K g env σ Hf H) {i : Nat} {d : D} (h : env[i]?.bind Sl.val = some d) : ∃ v, σ[i]? = some (some v) := by
  cases e : env[i]? with
  | none => rw [e] at h; cases h
  | some x =>
    cases x with
    | no => rw [e] at h; cases h
    | sh d' => obtain ⟨v, e1, r⟩ := s.sh_ e; exact ⟨v, e1⟩
    | ow d' => obtain ⟨p, u, e1, _⟩ := s.at_ e rfl; exact ⟨_, e1⟩
    | pn d' => obtain ⟨p, u, e1, _⟩ := s.at_ e rfl; exact ⟨_, e1⟩
theorem ev_pk2 {r : R2} {f : D → D → Option D} {tb : TE} {b : M D} (hr : RvOk K g r f) (i : Nat) (hb : EvM K g W tb b) : EvM K g W (tOp r (tVar i) tb) (mPk2 f i b) :=
  fun env σ Hf H s Q h => by
    obtain ⟨d0, hd0, h0⟩ := peek_ok s h.bnd
    obtain ⟨v, hv⟩ := s.val_at hd0
    refine ⟨v, hv, hb env σ Hf H s _ (h0.bnd.imp fun y e1 Hf1 H1 _ s1 h1 w r1 => ?_)⟩
    obtain ⟨d, hd, h2⟩ := peek_ok s1.sr h1.bnd
    obtain ⟨z, hz, k⟩ := Aft.lft s1.sr h2
    split at hz
    · rename_i c
      obtain ⟨h2, h3⟩ := sc_bind hz
      obtain ⟨v', Hf', e1, x1, x2, r2⟩ := s1.sr.view hd c
      rw [hv] at e1
      cases e1
      refine hr Hf' H1 v w d y Q x2 r2 (r1.mono x1) ?_
      rw [h2]
      exact fun v Hf2 H2 w r => k Hf1 H2 ⟨Ex.refl _, s1.sr.ex.trans w.h, w.h, fun _ _ _ h => h⟩ v (r.scl h3)
    · cases hz
def mIxS (i : Nat) (b : M D) : M D := bnd (peek i) fun _ => bnd b fun y => bnd (peek i) fun d => lft (ixD d y)
theorem ev_ixS (i : Nat) {tb : TE} {b : M D} (hb : EvM K g W tb b) : EvM K g W (tOp (rIx K) (tVar i) tb) (mIxS i b) :=
  fun env σ Hf H s Q h => by
    obtain ⟨d0, hd0, h0⟩ := peek_ok s h.bnd
    obtain ⟨v, hv⟩ := s.val_at hd0
    refine ⟨v, hv, hb env σ Hf H s _ (h0.bnd.imp fun y e1 Hf1 H1 _ s1 h1 w r1 => ?_)⟩
    obtain ⟨d, hd, h2⟩ := peek_ok s1.sr h1.bnd
    obtain ⟨z, hz, k⟩ := Aft.lft s1.sr h2
    have own : ∀ x : Sl, e1[i]? = some x → x.mut = some d → rIx K v w H1 Q := fun x ex mx => by
      obtain ⟨p, u, c1, c2, c3, r⟩ := s1.sr.at_ ex mx
      rw [hv] at c1
      cases c1
      cases r with
      | lst r =>
        cases r1 <;> try (cases hz; done)
        case int j =>
          obtain ⟨v', hv', r'⟩ := atI_reps r hz
          exact .inl ⟨_, _, _, v', rfl, rfl, SqL.of c2, hv', k _ _ (Grow.refl s1.sr.ex) v' r'⟩
      | dic _ _ => cases r1 <;> cases hz
      | dct _ _ => cases r1 <;> cases hz
      | ins _ _ _ => cases r1 <;> cases hz
    cases e : e1[i]? with
    | none => rw [e] at hd; cases hd
    | some x =>
      cases x with
      | no => rw [e] at hd; cases hd
      | sh d' =>
        rw [e] at hd
        cases hd
        obtain ⟨v', e2, r2⟩ := s1.sr.sh_ e
        rw [hv] at e2
        cases e2
        refine rv_ix Hf1 H1 v w d y Q s1.sr.ex r2 r1 ?_
        rw [hz]
        exact fun v Hf2 H2 w r => k Hf2 H2 w v r
      | ow d' => rw [e] at hd; cases hd; exact own _ e rfl
      | pn d' => rw [e] at hd; cases hd; exact own _ e rfl
end
section
variable {X : Cx} {g : G} {W : WX} {a b : Expr} {ma mb : M D} {pos : Pos}
theorem m_ix (ha : PEM X g W a ma) (hb : PEM X g W b mb) (hs : PlainIx b := by exact fun _ _ => rfl) : PEM X g W (.Subscript a b pos) (mBin ixD ma mb) := by
  obtain ⟨ta, h1, h2⟩ := ha
  obtain ⟨tb, h3, h4⟩ := hb
  exact ⟨_, pe_ix ix_seq h1 h3 hs, rv_ix.ev h2 h4⟩
theorem m_ixS (i : Nat) {x : Str} {p2 : Pos} (hb : PEM X g W b mb) (hN : X.N[i]? = some x := by rfl) (hv : Vis X.env.scope x := by first | exact Or.inl rfl | exact Or.inr (Or.inl rfl) | exact Or.inr (Or.inr rfl))
    (hs : PlainIx b := by exact fun _ _ => rfl) (hd : (x == ("__debug__" : Str)) = false := by decide) (hcd : (x == ("__classdict__" : Str)) = false := by decide) : PEM X g W (.Subscript (.Name x p2) b pos) (mIxS i mb) := by
  obtain ⟨tb, h3, h4⟩ := hb
  exact ⟨_, pe_ix ix_seq (pe_var hN hv hd hcd) h3 hs, ev_ixS i h4⟩
/-- x op e, the name x only looked at -/
theorem m_cmpS (i : Nat) {op : CmpOp} {r : R2} {f : D → D → Option D} {x : Str} {p2 : Pos} (ho : OpR X (compareOp op) r) (hr : RvOk X.K g r f) (hb : PEM X g W b mb) (hm : behindInMarks op b = false) (hN : X.N[i]? = some x := by rfl)
    (hv : Vis X.env.scope x := by first | exact Or.inl rfl | exact Or.inr (Or.inl rfl) | exact Or.inr (Or.inr rfl)) (hd : (x == ("__debug__" : Str)) = false := by decide) (hcd : (x == ("__classdict__" : Str)) = false := by decide) : PEM X g W (.Compare (.Name x p2) [op] [b] pos) (mPk2 f i mb) := by
  obtain ⟨tb, h3, h4⟩ := hb
  exact ⟨_, pe_cmpR ho (pe_var hN hv hd hcd) h3 hm, ev_pk2 hr i h4⟩
theorem t_cmpS (i : Nat) {op : CmpOp} {r : R2} {f : D → D → Option D} {x : Str} {p2 : Pos} (ho : OpR X (compareOp op) r) (hr : RvOk X.K g r f) (hb : PEM X g W b mb) (hm : behindInMarks op b = false) (hN : X.N[i]? = some x := by rfl)
    (hv : Vis X.env.scope x := by first | exact Or.inl rfl | exact Or.inr (Or.inl rfl) | exact Or.inr (Or.inr rfl)) (hd : (x == ("__debug__" : Str)) = false := by decide) (hcd : (x == ("__classdict__" : Str)) = false := by decide) : PTM X g W (.Compare (.Name x p2) [op] [b] pos) (mB (mPk2 f i mb)) := by
  obtain ⟨tb, h3, h4⟩ := hb
  exact ⟨_, pt_cmpR ho (pe_var hN hv hd hcd) h3 hm, ev_Test (ev_pk2 hr i h4)⟩
theorem t_eqS {k : Nat} (i : Nat) {x : Str} {p2 : Pos} (hr : Room k X.A) (hb : PEM X g W b mb) (hN : X.N[i]? = some x := by rfl)
    (hv : Vis X.env.scope x := by first | exact Or.inl rfl | exact Or.inr (Or.inl rfl) | exact Or.inr (Or.inr rfl)) (hd : (x == ("__debug__" : Str)) = false := by decide) (hcd : (x == ("__classdict__" : Str)) = false := by decide) : PTM X g W (.Compare (.Name x p2) [.Eq] [b] pos) (mB (mPk2 eqD i mb)) :=
  t_cmpS i (op_eqD hr.units) rv_eq hb (nomark _) hN hv hd hcd
theorem t_neS {k : Nat} (i : Nat) {x : Str} {p2 : Pos} (hr : Room k X.A) (hb : PEM X g W b mb) (hN : X.N[i]? = some x := by rfl)
    (hv : Vis X.env.scope x := by first | exact Or.inl rfl | exact Or.inr (Or.inl rfl) | exact Or.inr (Or.inr rfl)) (hd : (x == ("__debug__" : Str)) = false := by decide) (hcd : (x == ("__classdict__" : Str)) = false := by decide) : PTM X g W (.Compare (.Name x p2) [.NotEq] [b] pos) (mB (mPk2 neD i mb)) :=
  t_cmpS i (op_neD hr.units) rv_ne hb (nomark _) hN hv hd hcd
end
/-! ### calls of built-ins -/
def mCb (f : List D → Option D) (a : M (List D)) : M D := bnd a fun xs => lft (f xs)
def lenD : List D → Option D
  | [.lst xs] => some (.int xs.length)
  | [.tup xs] => some (.int xs.length)
  | [.scr xs] => some (.int xs.length)
  | [.str x] => if small x.length = true then some (.int x.length) else none
  | _ => none
def listD : List D → Option D
  | [.lst xs] => some (.lst xs)
  | [.tup xs] => some (.lst xs)
  | _ => none
def tupleD : List D → Option D
  | [.lst xs] => some (.tup xs)
  | [.tup xs] => some (.tup xs)
  | _ => none
def absD : List D → Option D
  | [.int i] => some (.int (if i < 0 then -i else i))
  | _ => none
def intD : List D → Option D
  | [.int i] => some (.int i)
  | [.bl k] => some (.int (if k then 1 else 0))
  | _ => none
def boolD : List D → Option D
  | [.int i] => some (.bl (i != 0))
  | [.bl k] => some (.bl k)
  | _ => none
def max2D : List D → Option D
  | [.int i, .int j] => some (.int (if j > i then j else i))
  | _ => none
def min2D : List D → Option D
  | [.int i, .int j] => some (.int (if j < i then j else i))
  | _ => none
def asInts : List D → Option (List Int)
  | [] => some []
  | .int i :: r => (asInts r).map (i :: ·)
  | _ => none
def asBls : List D → Option (List Bool)
  | [] => some []
  | .bl i :: r => (asBls r).map (i :: ·)
  | _ => none
def maxL (ns : List Int) : Int := ns.foldl max (ns.headD 0)
def minL (ns : List Int) : Int := ns.foldl min (ns.headD 0)
def max1D : List D → Option D
  | [.lst xs] => (asInts xs).bind fun ns => if ns = [] then none else some (.int (maxL ns))
  | _ => none
def min1D : List D → Option D
  | [.lst xs] => (asInts xs).bind fun ns => if ns = [] then none else some (.int (minL ns))
  | _ => none
def sumD : List D → Option D
  | [.lst xs] => (asInts xs).map fun ns => .int ns.sum
  | _ => none
def allD : List D → Option D
  | [.lst xs] => (asBls xs).map fun ns => .bl (ns.all id)
  | _ => none
def anyD : List D → Option D
  | [.lst xs] => (asBls xs).map fun ns => .bl (ns.any id)
  | _ => none
section
variable {K : PySem.W.Frag} {g : G} {W : WX}
theorem asInts_reps : ∀ {Hf : Hp} {ds : List D} {vs : List V} {ns : List Int}, Reps K g Hf ds vs → asInts ds = some ns → vs = ns.map V.int
  | _, _, _, _, .nil, h => by cases h; rfl
  | _, _, _, _, .cons (d := d) (ds := ds) a b, h => by
    cases a <;> try (cases h; done)
    case int i =>
      unfold asInts at h
      cases q : asInts ds with
      | none => rw [q] at h; cases h
      | some r => rw [q] at h; cases h; rw [asInts_reps b q]; rfl
theorem asBls_reps : ∀ {Hf : Hp} {ds : List D} {vs : List V} {ns : List Bool}, Reps K g Hf ds vs → asBls ds = some ns → vs = ns.map V.bl
  | _, _, _, _, .nil, h => by cases h; rfl
  | _, _, _, _, .cons (d := d) (ds := ds) a b, h => by
    cases a <;> try (cases h; done)
    case bl i =>
      unfold asBls at h
      cases q : asBls ds with
      | none => rw [q] at h; cases h
      | some r => rw [q] at h; cases h; rw [asBls_reps b q]; rfl
theorem asInts_map (ns : List Int) : asInts (ns.map D.int) = some ns := by
  induction ns with
  | nil => rfl
  | cons a r ih => rw [List.map_cons]; unfold asInts; rw [ih]; rfl
theorem asBls_map (ns : List Bool) : asBls (ns.map D.bl) = some ns := by
  induction ns with
  | nil => rfl
  | cons a r ih => rw [List.map_cons]; unfold asBls; rw [ih]; rfl
theorem rc_of {r : List V → Hp → VK → Prop} {f : List D → Option D} (h : ∀ Hf H xs ds z Q, Ex Hf H → Reps K g Hf ds xs → f ds = some z → (∀ v Hf' H', Grow Hf H Hf' H' → Rep K g Hf' z v → Q v H') → r xs H Q) : RcOk K g r f := by
  intro Hf H xs ds Q e r1 q
  cases hz : f ds with
  | none => rw [hz] at q; exact q.elim
  | some z => rw [hz] at q; exact h Hf H xs ds z Q e r1 hz q
theorem rc_len : RcOk K g (fun xs H Q => ∃ x n, xs = [x] ∧ LenV K x H n ∧ Q (.int n) H) lenD := rc_of fun Hf H xs ds z Q e r h q => by
  cases r with
  | nil => cases h
  | cons a b =>
    cases b with
    | cons c d => cases a <;> cases h
    | nil =>
      cases a <;> try (cases h; done)
      case str x =>
        dsimp only [lenD] at h
        split at h
        · rename_i c
          cases h
          exact ⟨_, _, rfl, ⟨small_le c, rfl⟩, q _ Hf H (Grow.refl e) (.int _)⟩
        · cases h
      case lst h1 r1 => cases h; exact ⟨_, _, rfl, .inl ⟨_, SqL.of (e _ _ h1), r1.len⟩, q _ Hf H (Grow.refl e) (.int _)⟩
      case tup h1 r1 => cases h; exact ⟨_, _, rfl, .inr ⟨_, e.t h1, r1.len⟩, q _ Hf H (Grow.refl e) (.int _)⟩
      case scr h1 => cases h; exact ⟨_, _, rfl, .inl ⟨_, e.l h1, by rw [List.length_map]⟩, q _ Hf H (Grow.refl e) (.int _)⟩
theorem one_of {Hf : Hp} {xs : List V} {ds : List D} {f : List D → Option D} {z : D} (r : Reps K g Hf ds xs) (h : f ds = some z) (h0 : f [] = none) (h2 : ∀ a b c, f (a :: b :: c) = none) : ∃ d v, ds = [d] ∧ xs = [v] ∧ Rep K g Hf d v := by
  cases r with
  | nil => rw [h0] at h; cases h
  | cons a b =>
    cases b with
    | nil => exact ⟨_, _, rfl, rfl, a⟩
    | cons c d => rw [h2] at h; cases h
theorem rc_list : RcOk K g (fun xs H Q => ∃ p ys, xs = [.ref p] ∧ (SqL K H p ys ∨ SqT K H p ys) ∧ ∀ l, H l = none → Q (.ref l) (upd H l (.lst ys))) listD := rc_of fun Hf H xs ds z Q e r h q => by
  obtain ⟨d, v, rfl, rfl, r0⟩ := one_of r h rfl (fun a b c => by cases a <;> rfl)
  cases r0 <;> try (cases h; done)
  case lst h1 r1 => cases h; exact ⟨_, _, rfl, .inl (SqL.of (e _ _ h1)), fun l hl => q _ _ _ (new_lst e hl r1).1 (new_lst e hl r1).2⟩
  case tup h1 r1 => cases h; exact ⟨_, _, rfl, .inr (e.t h1), fun l hl => q _ _ _ (new_lst e hl r1).1 (new_lst e hl r1).2⟩
theorem rf_list : RcOkF K g (fun xs H Q => ∃ p ys, xs = [.ref p] ∧ (SqL K H p ys ∨ SqT K H p ys) ∧ ∀ l, H l = none → Q (.ref l) (upd H l (.lst ys))) listD := by
  intro Hf H xs ds Q e r q
  cases hz : listD ds with
  | none => rw [hz] at q; exact q.elim
  | some z =>
    rw [hz] at q
    obtain ⟨d, v, rfl, rfl, r0⟩ := one_of r hz rfl (fun a b c => by cases a <;> rfl)
    cases r0 <;> try (cases hz; done)
    case lst h1 r1 => cases hz; exact ⟨_, _, rfl, .inl (SqL.of (e _ _ h1)), fun l hl => q l Hf _ _ (own_new e hl) hl upd_same (e.back hl) (.lst r1)⟩
    case tup h1 r1 => cases hz; exact ⟨_, _, rfl, .inr (e.t h1), fun l hl => q l Hf _ _ (own_new e hl) hl upd_same (e.back hl) (.lst r1)⟩
theorem rc_tuple : RcOk K g (fun xs H Q => ∃ p ys, xs = [.ref p] ∧ ((SqL K H p ys ∧ ∀ l, H l = none → Q (.ref l) (upd H l (.tup ys))) ∨ (SqT K H p ys ∧ Q (.ref p) H))) tupleD := rc_of fun Hf H xs ds z Q e r h q => by
  obtain ⟨d, v, rfl, rfl, r0⟩ := one_of r h rfl (fun a b c => by cases a <;> rfl)
  cases r0 <;> try (cases h; done)
  case lst h1 r1 => cases h; exact ⟨_, _, rfl, .inl ⟨SqL.of (e _ _ h1), fun l hl => q _ _ _ (new_tup e hl r1).1 (new_tup e hl r1).2⟩⟩
  case tup h1 r1 => cases h; exact ⟨_, _, rfl, .inr ⟨e.t h1, q _ Hf H (Grow.refl e) (.tup h1 r1)⟩⟩
theorem rc_abs : RcOk K g (fun xs H Q => ∃ i, xs = [.int i] ∧ Q (.int (if i < 0 then -i else i)) H) absD := rc_of fun Hf H xs ds z Q e r h q => by
  obtain ⟨d, v, rfl, rfl, r0⟩ := one_of r h rfl (fun a b c => by cases a <;> rfl)
  cases r0 <;> try (cases h; done)
  case int i => cases h; exact ⟨i, rfl, q _ Hf H (Grow.refl e) (.int _)⟩
theorem rc_int : RcOk K g (fun xs H Q => (∃ i, xs = [.int i] ∧ Q (.int i) H) ∨ ∃ k, xs = [.bl k] ∧ Q (.int (if k then 1 else 0)) H) intD := rc_of fun Hf H xs ds z Q e r h q => by
  obtain ⟨d, v, rfl, rfl, r0⟩ := one_of r h rfl (fun a b c => by cases a <;> rfl)
  cases r0 <;> try (cases h; done)
  case int i => cases h; exact .inl ⟨i, rfl, q _ Hf H (Grow.refl e) (.int _)⟩
  case bl i => cases h; exact .inr ⟨i, rfl, q _ Hf H (Grow.refl e) (.int _)⟩
theorem rc_bool : RcOk K g (fun xs H Q => (∃ i, xs = [.int i] ∧ Q (.bl (i != 0)) H) ∨ ∃ k, xs = [.bl k] ∧ Q (.bl k) H) boolD := rc_of fun Hf H xs ds z Q e r h q => by
  obtain ⟨d, v, rfl, rfl, r0⟩ := one_of r h rfl (fun a b c => by cases a <;> rfl)
  cases r0 <;> try (cases h; done)
  case int i => cases h; exact .inl ⟨i, rfl, q _ Hf H (Grow.refl e) (.bl _)⟩
  case bl i => cases h; exact .inr ⟨i, rfl, q _ Hf H (Grow.refl e) (.bl _)⟩
theorem two_ints {Hf : Hp} {xs : List V} {ds : List D} {f : List D → Option D} {z : D} {F : Int → Int → D} (r : Reps K g Hf ds xs) (h : f ds = some z) (h1 : ∀ ds z, f ds = some z → ∃ i j, ds = [.int i, .int j] ∧ z = F i j) : ∃ i j, xs = [.int i, .int j] ∧ z = F i j := by
  obtain ⟨i, j, rfl, rfl⟩ := h1 ds z h
  cases r with
  | cons a b =>
    cases b with
    | cons c d =>
      cases d
      cases a
      cases c
      exact ⟨i, j, rfl, rfl⟩
theorem rc_max2 : RcOk K g (fun xs H Q => ∃ i j, xs = [.int i, .int j] ∧ Q (.int (if j > i then j else i)) H) max2D := rc_of fun Hf H xs ds z Q e r h q => by
  obtain ⟨i, j, rfl, rfl⟩ := two_ints (F := fun i j => .int (if j > i then j else i)) r h (fun ds z h => by
    unfold max2D at h
    split at h
    · cases h; exact ⟨_, _, rfl, rfl⟩
    · cases h)
  exact ⟨i, j, rfl, q _ Hf H (Grow.refl e) (.int _)⟩
theorem rc_min2 : RcOk K g (fun xs H Q => ∃ i j, xs = [.int i, .int j] ∧ Q (.int (if j < i then j else i)) H) min2D := rc_of fun Hf H xs ds z Q e r h q => by
  obtain ⟨i, j, rfl, rfl⟩ := two_ints (F := fun i j => .int (if j < i then j else i)) r h (fun ds z h => by
    unfold min2D at h
    split at h
    · cases h; exact ⟨_, _, rfl, rfl⟩
    · cases h)
  exact ⟨i, j, rfl, q _ Hf H (Grow.refl e) (.int _)⟩
theorem foldl_max (ns : List Int) : ∀ a : Int, (ns.foldl max a = a ∨ ns.foldl max a ∈ ns) ∧ a ≤ ns.foldl max a ∧ ∀ y ∈ ns, y ≤ ns.foldl max a := by
  induction ns with
  | nil => exact fun a => ⟨.inl rfl, Int.le_refl _, fun _ h => nomatch h⟩
  | cons x r ih =>
    intro a
    rw [List.foldl_cons]
    obtain ⟨h1, h2, h3⟩ := ih (max a x)
    refine ⟨?_, Int.le_trans (Int.le_max_left _ _) h2, fun y hy => ?_⟩
    · rcases h1 with h1 | h1
      · rw [h1]
        rcases Int.le_total a x with q | q
        · rw [Int.max_eq_right q]; exact .inr List.mem_cons_self
        · rw [Int.max_eq_left q]; exact .inl rfl
      · exact .inr (List.mem_cons_of_mem _ h1)
    · rcases List.mem_cons.mp hy with rfl | hy
      · exact Int.le_trans (Int.le_max_right _ _) h2
      · exact h3 y hy
theorem foldl_min (ns : List Int) : ∀ a : Int, (ns.foldl min a = a ∨ ns.foldl min a ∈ ns) ∧ ns.foldl min a ≤ a ∧ ∀ y ∈ ns, ns.foldl min a ≤ y := by
  induction ns with
  | nil => exact fun a => ⟨.inl rfl, Int.le_refl _, fun _ h => nomatch h⟩
  | cons x r ih =>
    intro a
    rw [List.foldl_cons]
    obtain ⟨h1, h2, h3⟩ := ih (min a x)
    refine ⟨?_, Int.le_trans h2 (Int.min_le_left _ _), fun y hy => ?_⟩
    · rcases h1 with h1 | h1
      · rw [h1]
        rcases Int.le_total a x with q | q
        · rw [Int.min_eq_left q]; exact .inl rfl
        · rw [Int.min_eq_right q]; exact .inr List.mem_cons_self
      · exact .inr (List.mem_cons_of_mem _ h1)
    · rcases List.mem_cons.mp hy with rfl | hy
      · exact Int.le_trans h2 (Int.min_le_right _ _)
      · exact h3 y hy
theorem maxL_ok {ns : List Int} (h : ns ≠ []) : maxL ns ∈ ns ∧ ∀ y ∈ ns, y ≤ maxL ns := by
  cases ns with
  | nil => exact absurd rfl h
  | cons a r =>
    obtain ⟨h1, h2, h3⟩ := foldl_max (a :: r) a
    refine ⟨?_, h3⟩
    rcases h1 with h1 | h1
    · show (a :: r).foldl max a ∈ _
      rw [h1]; exact List.mem_cons_self
    · exact h1
theorem minL_ok {ns : List Int} (h : ns ≠ []) : minL ns ∈ ns ∧ ∀ y ∈ ns, minL ns ≤ y := by
  cases ns with
  | nil => exact absurd rfl h
  | cons a r =>
    obtain ⟨h1, h2, h3⟩ := foldl_min (a :: r) a
    refine ⟨?_, h3⟩
    rcases h1 with h1 | h1
    · show (a :: r).foldl min a ∈ _
      rw [h1]; exact List.mem_cons_self
    · exact h1
theorem rc_max1 : RcOk K g (rMax K) max1D := rc_of fun Hf H xs ds z Q e r h q => by
  obtain ⟨d, v, rfl, rfl, r0⟩ := one_of r h rfl (fun a b c => by cases a <;> rfl)
  cases r0 <;> try (cases h; done)
  case lst ds vs h1 r1 =>
    dsimp only [max1D] at h
    cases c : asInts ds with
    | none => rw [c] at h; cases h
    | some ns =>
      rw [c] at h
      have h' : (if ns = [] then none else some (D.int (maxL ns))) = some z := h
      split at h'
      · cases h'
      · rename_i hn
        cases h'
        have := asInts_reps r1 c
        subst this
        refine ⟨_, ns, rfl, SqL.of (e _ _ h1), List.length_pos_iff.mpr hn, fun m hm hle => ?_⟩
        have em : m = maxL ns := Int.le_antisymm ((maxL_ok hn).2 m hm) (hle _ (maxL_ok hn).1)
        rw [em]
        exact q _ Hf H (Grow.refl e) (.int _)
theorem rc_min1 : RcOk K g (rMin K) min1D := rc_of fun Hf H xs ds z Q e r h q => by
  obtain ⟨d, v, rfl, rfl, r0⟩ := one_of r h rfl (fun a b c => by cases a <;> rfl)
  cases r0 <;> try (cases h; done)
  case lst ds vs h1 r1 =>
    dsimp only [min1D] at h
    cases c : asInts ds with
    | none => rw [c] at h; cases h
    | some ns =>
      rw [c] at h
      have h' : (if ns = [] then none else some (D.int (minL ns))) = some z := h
      split at h'
      · cases h'
      · rename_i hn
        cases h'
        have := asInts_reps r1 c
        subst this
        refine ⟨_, ns, rfl, SqL.of (e _ _ h1), List.length_pos_iff.mpr hn, fun m hm hle => ?_⟩
        have em : m = minL ns := Int.le_antisymm (hle _ (minL_ok hn).1) ((minL_ok hn).2 m hm)
        rw [em]
        exact q _ Hf H (Grow.refl e) (.int _)
theorem rc_sum : RcOk K g (rSum K) sumD := rc_of fun Hf H xs ds z Q e r h q => by
  obtain ⟨d, v, rfl, rfl, r0⟩ := one_of r h rfl (fun a b c => by cases a <;> rfl)
  cases r0 <;> try (cases h; done)
  case lst ds vs h1 r1 =>
    dsimp only [sumD] at h
    cases c : asInts ds with
    | none => rw [c] at h; cases h
    | some ns =>
      rw [c] at h
      cases h
      have := asInts_reps r1 c
      subst this
      exact ⟨_, ns, rfl, SqL.of (e _ _ h1), q _ Hf H (Grow.refl e) (.int _)⟩
theorem rc_all : RcOk K g (rAll K) allD := rc_of fun Hf H xs ds z Q e r h q => by
  obtain ⟨d, v, rfl, rfl, r0⟩ := one_of r h rfl (fun a b c => by cases a <;> rfl)
  cases r0 <;> try (cases h; done)
  case lst ds vs h1 r1 =>
    dsimp only [allD] at h
    cases c : asBls ds with
    | none => rw [c] at h; cases h
    | some ns =>
      rw [c] at h
      cases h
      have := asBls_reps r1 c
      subst this
      exact ⟨_, ns, rfl, SqL.of (e _ _ h1), q _ Hf H (Grow.refl e) (.bl _)⟩
theorem rc_any : RcOk K g (rAny K) anyD := rc_of fun Hf H xs ds z Q e r h q => by
  obtain ⟨d, v, rfl, rfl, r0⟩ := one_of r h rfl (fun a b c => by cases a <;> rfl)
  cases r0 <;> try (cases h; done)
  case lst ds vs h1 r1 =>
    dsimp only [anyD] at h
    cases c : asBls ds with
    | none => rw [c] at h; cases h
    | some ns =>
      rw [c] at h
      cases h
      have := asBls_reps r1 c
      subst this
      exact ⟨_, ns, rfl, SqL.of (e _ _ h1), q _ Hf H (Grow.refl e) (.bl _)⟩
end
section
variable {X : Cx} {g : G} {W : WX} {x : Str} {p pos : Pos} {e : Expr} {es : List Expr} {ma : M (List D)} {id T : String} {r : List V → Hp → VK → Prop} {f : List D → Option D}
theorem m_cb (hc : CallR X (.builtin id) r) (hr : RcOk X.K g r f) (hm : X.mg x = none) (hv : bootBuiltins x = some (.builtin id)) (ha : PAM X g W (e :: es) ma) (hg : Gl X x := by rfl) (hn : x ≠ "__name__" := by decide) (hdb : (x == ("__debug__" : Str)) = false := by decide)
    (he : starEach (e :: es) X.env = (false, eval e X.env) :: starEach es X.env := by rfl) (hpl : (backTo pos (starEach es X.env)).any (·.1) = false := by rfl) : PEM X g W (.Call (.Name x p) (e :: es) [] pos) (mCb f ma) := by
  obtain ⟨t, h1, h2⟩ := ha
  exact ⟨_, pe_callB hc hg hm hv h1 hn hdb he hpl, hr.ev h2⟩
theorem m_ct (hc : CallR X (.type T) r) (hr : RcOk X.K g r f) (hm : X.mg x = none) (hv : bootBuiltins x = some (.type T)) (ha : PAM X g W (e :: es) ma) (hg : Gl X x := by rfl) (hn : x ≠ "__name__" := by decide) (hdb : (x == ("__debug__" : Str)) = false := by decide)
    (he : starEach (e :: es) X.env = (false, eval e X.env) :: starEach es X.env := by rfl) (hpl : (backTo pos (starEach es X.env)).any (·.1) = false := by rfl) : PEM X g W (.Call (.Name x p) (e :: es) [] pos) (mCb f ma) := by
  obtain ⟨t, h1, h2⟩ := ha
  exact ⟨_, pe_callTy hc hg hm hv h1 hn hdb he hpl, hr.ev h2⟩
theorem f_ct (hc : CallR X (.type T) r) (hr : RcOkF X.K g r f) (hm : X.mg x = none) (hv : bootBuiltins x = some (.type T)) (ha : PAM X g W (e :: es) ma) (hg : Gl X x := by rfl) (hn : x ≠ "__name__" := by decide) (hdb : (x == ("__debug__" : Str)) = false := by decide)
    (he : starEach (e :: es) X.env = (false, eval e X.env) :: starEach es X.env := by rfl) (hpl : (backTo pos (starEach es X.env)).any (·.1) = false := by rfl) : PEF X g W (.Call (.Name x p) (e :: es) [] pos) (mCb f ma) := by
  obtain ⟨t, h1, h2⟩ := ha
  exact ⟨_, pe_callTy hc hg hm hv h1 hn hdb he hpl, hr.ev h2⟩
/-- f(x), the name x only looked at -/
theorem m_cbS (i : Nat) {y : Str} {p3 : Pos} (hc : CallR X (.builtin id) r) (hr : RcOk X.K g r f) (hm : X.mg x = none) (hv : bootBuiltins x = some (.builtin id)) (hN : X.N[i]? = some y := by rfl)
    (hvi : Vis X.env.scope y := by first | exact Or.inl rfl | exact Or.inr (Or.inl rfl) | exact Or.inr (Or.inr rfl)) (hg : Gl X x := by rfl) (hn : x ≠ "__name__" := by decide) (hdb : (x == ("__debug__" : Str)) = false := by decide) (hd : (y == ("__debug__" : Str)) = false := by decide) (hcd : (y == ("__classdict__" : Str)) = false := by decide)
    (he : starEach [.Name y p3] X.env = (false, eval (.Name y p3) X.env) :: starEach [] X.env := by rfl) (hpl : (backTo pos (starEach [] X.env)).any (·.1) = false := by rfl) : PEM X g W (.Call (.Name x p) [.Name y p3] [] pos) (mPk1 (fun d => f [d]) i) :=
  ⟨_, pe_callB hc hg hm hv (pa_cons (pe_var hN hvi hd hcd) pa_nil he) hn hdb he hpl, ev_pk1 hr i⟩
end
end DL

set_option Elab.async false
set_option linter.all false
set_option maxRecDepth 100000
set_option maxHeartbeats 400000
namespace DL
open PySem L2
/-! ### statements -/
abbrev S := M Ctl
section
variable (K : PySem.W.Frag) (g : G) (W : WX)
/-- what is behind a statement -/
def Out (env : En) (σ : L2.St) (Hf H : Hp) (r : Rs Ctl) (Z : Ends) : Prop :=
  match r with
  | .ok .nx env' => ∀ σ' Hf' H', Step K g env σ Hf H env' σ' Hf' H' → Z.nx σ' H'
  | .ok .bk env' => ∀ σ' Hf' H', Step K g env σ Hf H env' σ' Hf' H' → Z.bk σ' H'
  | .ok .ct env' => ∀ σ' Hf' H', Step K g env σ Hf H env' σ' Hf' H' → Z.ct σ' H'
  | .ok (.rt d) env' => ∀ σ' Hf' H', Step K g env σ Hf H env' σ' Hf' H' → ∀ v, Rep K g Hf' d v → Z.rt v H'
  | .ok (.rto d) env' => ∀ σ' Hf' H', Step K g env σ Hf H env' σ' Hf' H' → ∀ p, New K g env' σ' H Hf' H' d p → Z.rt (.ref p) H'
  | .ex c d env' => XGot K g W env σ Hf H c d env'
  | .bad => False
def EvS (ts : TS) (m : S) : Prop := ∀ env σ Hf H, SR K g env σ Hf H → ∀ Z : Ends, Out K g W env σ Hf H (m env) Z → ts Z σ H
end
def sSeq (a b : S) : S := fun e => match a e with
  | .ok .nx e' => b e'
  | r => r
def sNx : S := ret .nx
def sIf (c : M Bool) (a b : S) : S := bnd c fun x => if x = true then a else b
def sRet (m : M D) : S := bnd m fun d => ret (.rt d)
def sRetF (m : M D) : S := bnd m fun d => ret (.rto d)
def sDrop (m : M D) : S := bnd m fun _ => ret .nx
/-- a name is stored -/
def sto (i : Nat) (x : Sl) : S := fun env => match env[i]? with
  | some (.pn _) => .bad
  | some _ => .ok .nx (env.set i x)
  | none => .bad
def sSet (i : Nat) (m : M D) : S := bnd m fun d => sto i (.sh d)
def sSetF (i : Nat) (m : M D) : S := bnd m fun d => sto i (.ow d)
section
variable {K : PySem.W.Frag} {g : G} {W : WX} {env env1 env' : En} {σ σ1 σ' : L2.St} {Hf H Hf1 H1 Hf' H' : Hp}
theorem Out.after {r : Rs Ctl} {Z : Ends} (s : Step K g env σ Hf H env1 σ1 Hf1 H1) (h : Out K g W env σ Hf H r Z) : Out K g W env1 σ1 Hf1 H1 r Z := by
  cases r with
  | bad => exact h
  | ex c d e => exact XGot.after s h
  | ok x e =>
    cases x with
    | nx => exact fun σ2 Hf2 H2 s2 => h σ2 Hf2 H2 (s.trans s2)
    | bk => exact fun σ2 Hf2 H2 s2 => h σ2 Hf2 H2 (s.trans s2)
    | ct => exact fun σ2 Hf2 H2 s2 => h σ2 Hf2 H2 (s.trans s2)
    | rt d => exact fun σ2 Hf2 H2 s2 => h σ2 Hf2 H2 (s.trans s2)
    | rto d => exact fun σ2 Hf2 H2 s2 p n => h σ2 Hf2 H2 (s.trans s2) p ⟨n.at_, n.nf, n.no, s.th p n.nw⟩
theorem Out.bnd {α : Type} {m : M α} {k : α → S} {Z : Ends} (h : Out K g W env σ Hf H (DL.bnd m k env) Z) :
    Aft K g W env σ Hf H (m env) fun a env1 Hf1 H1 => Out K g W env1 σ Hf1 H1 (k a env1) Z := by
  unfold DL.bnd at h
  revert h
  cases m env with
  | ok a e => exact fun h Hf1 H1 s => Out.after s h
  | ex c d e => exact fun h => h
  | bad => exact fun h => h
/-- weakening what is wanted -/
theorem Out.imp {r : Rs Ctl} {Z Z' : Ends} (h : Out K g W env σ Hf H r Z)
    (hn : ∀ e σ' Hf' H', r = .ok .nx e → Step K g env σ Hf H e σ' Hf' H' → Z.nx σ' H' → Z'.nx σ' H')
    (hb : ∀ e σ' Hf' H', r = .ok .bk e → Step K g env σ Hf H e σ' Hf' H' → Z.bk σ' H' → Z'.bk σ' H')
    (hc : ∀ e σ' Hf' H', r = .ok .ct e → Step K g env σ Hf H e σ' Hf' H' → Z.ct σ' H' → Z'.ct σ' H')
    (hr : ∀ v H', Z.rt v H' → Z'.rt v H') : Out K g W env σ Hf H r Z' := by
  cases r with
  | bad => exact h
  | ex c d e => exact h
  | ok x e =>
    cases x with
    | nx => exact fun σ2 Hf2 H2 s2 => hn e σ2 Hf2 H2 rfl s2 (h σ2 Hf2 H2 s2)
    | bk => exact fun σ2 Hf2 H2 s2 => hb e σ2 Hf2 H2 rfl s2 (h σ2 Hf2 H2 s2)
    | ct => exact fun σ2 Hf2 H2 s2 => hc e σ2 Hf2 H2 rfl s2 (h σ2 Hf2 H2 s2)
    | rt d => exact fun σ2 Hf2 H2 s2 v r => hr _ _ (h σ2 Hf2 H2 s2 v r)
    | rto d => exact fun σ2 Hf2 H2 s2 p n => hr _ _ (h σ2 Hf2 H2 s2 p n)
theorem ev_seq {t u : TS} {a b : S} (ha : EvS K g W t a) (hb : EvS K g W u b) : EvS K g W (tSeq t u) (sSeq a b) := by
  intro env σ Hf H s Z h
  refine ha env σ Hf H s { Z with nx := u Z } ?_
  unfold sSeq at h
  revert h
  cases a env with
  | bad => exact fun h => h
  | ex c d e => exact fun h => h
  | ok x e =>
    cases x with
    | nx => exact fun h σ1 Hf1 H1 s1 => hb e σ1 Hf1 H1 s1.sr Z (Out.after s1 h)
    | bk => exact fun h => h
    | ct => exact fun h => h
    | rt d => exact fun h => h
    | rto d => exact fun h => h
theorem ev_next : EvS K g W tNext sNx := fun env σ Hf H s Z h => h σ Hf H (Step.refl s)
theorem ev_break : EvS K g W tBreak (ret .bk) := fun env σ Hf H s Z h => h σ Hf H (Step.refl s)
theorem ev_cont : EvS K g W tCont (ret .ct) := fun env σ Hf H s Z h => h σ Hf H (Step.refl s)
theorem ev_never : EvS K g W tNever (fun _ => .bad) := fun env σ Hf H s Z h => h
theorem ev_drop {te : TE} {m : M D} (he : EvM K g W te m) : EvS K g W (tDrop te) (sDrop m) :=
  fun env σ Hf H s Z h => he env σ Hf H s _ (h.bnd.imp fun x e1 Hf1 H1 _ s1 h1 v _ => h1 σ Hf1 H1 (Step.refl s1.sr))
theorem ev_ret {te : TE} {m : M D} (he : EvM K g W te m) : EvS K g W (tRet te) (sRet m) :=
  fun env σ Hf H s Z h => he env σ Hf H s _ (h.bnd.imp fun x e1 Hf1 H1 _ s1 h1 v r => h1 σ Hf1 H1 (Step.refl s1.sr) v r)
theorem ev_retF {te : TE} {m : M D} (he : EvF K g W te m) : EvS K g W (tRet te) (sRetF m) := by
  intro env σ Hf H s Z h
  refine he env σ Hf H s _ ?_
  unfold sRetF DL.bnd at h
  revert h
  cases m env with
  | bad => exact fun h => h
  | ex c d e => exact fun h => h
  | ok x e => exact fun h Hf1 H1 s1 p n => h σ Hf1 H1 s1 p n
theorem ev_retN : EvS K g W tRetN (ret (.rt .non)) := fun env σ Hf H s Z h => h σ Hf H (Step.refl s) _ .non
theorem ev_ifS {tc : TT} {t u : TS} {c : M Bool} {a b : S} (hc : EvB K g W tc c) (ha : EvS K g W t a) (hb : EvS K g W u b) : EvS K g W (tIfS tc t u) (sIf c a b) :=
  fun env σ Hf H s Z h => hc env σ Hf H s _ (h.bnd.imp fun x e1 Hf1 H1 _ s1 h1 => by
    cases x with
    | true => exact ha e1 σ Hf1 H1 s1.sr Z h1
    | false => exact hb e1 σ Hf1 H1 s1.sr Z h1)
/-! storing -/
theorem Own.at_set {i : Nat} {x : Sl} {v : V} {a : Addr} (h : Own (env.set i x) (σ.set i (some v)) a) : (∃ d, x.mut = some d ∧ v = .ref a) ∨ (∃ j s d, j ≠ i ∧ env[j]? = some s ∧ s.mut = some d ∧ σ[j]? = some (some (.ref a))) := by
  obtain ⟨j, t, d, h1, h2, h3⟩ := h
  by_cases c : i = j
  · subst c
    have hi : i < env.length := by
      have := (List.getElem?_eq_some_iff.mp h1).1
      rwa [List.length_set] at this
    have hj : i < σ.length := by
      have := (List.getElem?_eq_some_iff.mp h3).1
      rwa [List.length_set] at this
    rw [List.getElem?_set_self hi] at h1
    rw [List.getElem?_set_self hj] at h3
    cases h1
    exact .inl ⟨d, h2, Option.some.inj (Option.some.inj h3)⟩
  · rw [List.getElem?_set_ne c] at h1 h3
    exact .inr ⟨j, t, d, fun z => c z.symm, h1, h2, h3⟩
/-- a slot gets a value: what it must be -/
theorem store_step {i : Nat} {x y : Sl} {v : V} (s : SR K g env σ Hf H) (hy : env[i]? = some y) (hp : ∀ d, y ≠ .pn d) (ok : x.ok K g Hf H (some v)) (hnew : ∀ p, x.mut.isSome = true → v = .ref p → ¬ Own env σ p) (hpn : ∀ d, x ≠ .pn d)
    (s0 : Step K g env1 σ1 Hf1 H1 env σ Hf H) (hn : ∀ p, x.mut.isSome = true → v = .ref p → H1 p = none) : Step K g env1 σ1 Hf1 H1 (env.set i x) (σ.set i (some v)) Hf H := by
  have hi : i < env.length := (List.getElem?_eq_some_iff.mp hy).1
  have hj : i < σ.length := by rw [s.len]; exact hi
  refine ⟨s0.f, ⟨s.ex, by rw [List.length_set, List.length_set]; exact s.len, fun j z o q q' => ?_, fun j k z w a b p n1 h1 h2 m1 m2 e1 e2 => ?_⟩, fun a u q q' no => s0.kp a u q q' no, fun a o => ?_, s0.th, fun j d q => ?_, by rw [List.length_set]; exact s0.le⟩
  · by_cases c : i = j
    · subst c
      rw [List.getElem?_set_self hi] at q
      rw [List.getElem?_set_self hj] at q'
      cases q
      cases q'
      exact ok
    · rw [List.getElem?_set_ne c] at q q'
      exact s.sl j z o q q'
  · by_cases c : i = j
    · subst c
      rw [List.getElem?_set_self hi] at h1
      rw [List.getElem?_set_self hj] at e1
      rw [List.getElem?_set_ne n1] at h2 e2
      cases h1
      cases e1
      exact hnew p (by rw [m1]; rfl) rfl ⟨k, w, b, h2, m2, e2⟩
    · by_cases c' : i = k
      · subst c'
        rw [List.getElem?_set_self hi] at h2
        rw [List.getElem?_set_self hj] at e2
        rw [List.getElem?_set_ne c] at h1 e1
        cases h2
        cases e2
        exact hnew p (by rw [m2]; rfl) rfl ⟨j, z, a, h1, m1, e1⟩
      · rw [List.getElem?_set_ne c] at h1 e1
        rw [List.getElem?_set_ne c'] at h2 e2
        exact s.ne j k z w a b p n1 h1 h2 m1 m2 e1 e2
  · rcases Own.at_set o with ⟨d, m, rfl⟩ | ⟨j, t, d, _, h1, h2, h3⟩
    · exact .inr (hn a (by rw [m]; rfl) rfl)
    · exact s0.ow a ⟨j, t, d, h1, h2, h3⟩
  · obtain ⟨⟨d', h'⟩, e'⟩ := s0.pn j d q
    have c : i ≠ j := fun c => by
      subst c
      rw [hy] at h'
      cases h'
      exact hp d' rfl
    exact ⟨⟨d', by rw [List.getElem?_set_ne c]; exact h'⟩, by rw [List.getElem?_set_ne c]; exact e'⟩
theorem sto_ok {i : Nat} {x : Sl} {Z : Ends} (h : Out K g W env σ Hf H (sto i x env) Z) : ∃ y, env[i]? = some y ∧ (∀ d, y ≠ .pn d) ∧ ∀ σ' Hf' H', Step K g env σ Hf H (env.set i x) σ' Hf' H' → Z.nx σ' H' := by
  unfold sto at h
  cases e : env[i]? with
  | none => rw [e] at h; exact h.elim
  | some y =>
    rw [e] at h
    cases y with
    | pn d => exact h.elim
    | no => exact ⟨_, rfl, (fun d q => nomatch q), h⟩
    | sh d => exact ⟨_, rfl, (fun d q => nomatch q), h⟩
    | ow d => exact ⟨_, rfl, (fun d q => nomatch q), h⟩
theorem ev_set {i : Nat} {te : TE} {m : M D} (he : EvM K g W te m) : EvS K g W (tAsg te (gName i)) (sSet i m) :=
  fun env σ Hf H s Z h => he env σ Hf H s _ (h.bnd.imp fun x e1 Hf1 H1 _ s1 h1 v r => by
    obtain ⟨y, hy, hp, k⟩ := sto_ok h1
    exact k _ Hf1 H1 (store_step s1.sr hy hp ⟨v, rfl, r⟩ (fun p q => nomatch q) (fun d q => nomatch q) (Step.refl s1.sr) (fun p q => nomatch q)))
theorem ev_setF {i : Nat} {te : TE} {m : M D} (he : EvF K g W te m) : EvS K g W (tAsg te (gName i)) (sSetF i m) := by
  intro env σ Hf H s Z h
  refine he env σ Hf H s _ ?_
  unfold sSetF DL.bnd at h
  revert h
  cases m env with
  | bad => exact fun h => h
  | ex c d e => exact fun h => h
  | ok d e =>
    intro h Hf1 H1 s1 p n
    dsimp only at h
    unfold sto at h
    obtain ⟨u, hu, ru⟩ := n.at_
    cases q : e[i]? with
    | none => rw [q] at h; exact h.elim
    | some y =>
      rw [q] at h
      cases y with
      | pn d => exact h.elim
      | _ => exact h _ Hf1 H1 (store_step s1.sr q (fun d z => nomatch z) ⟨p, u, rfl, hu, n.nf, ru⟩ (fun p' _ z => by cases z; exact n.no) (fun d z => nomatch z) s1 (fun p' _ z => by cases z; exact n.nw))
end
/-! rules -/
structure PSM (X : Cx) (g : G) (W : WX) (st : Stmt) (m : S) : Prop where
  ex : ∃ t, PS X st t ∧ EvS X.K g W t m
structure PSsM (X : Cx) (g : G) (W : WX) (st : List Stmt) (m : S) : Prop where
  ex : ∃ t, PSs X st t ∧ EvS X.K g W t m
section
variable {X : Cx} {g : G} {W : WX} {st : Stmt} {rest : List Stmt} {a b : S} {e : Expr} {m : M D} {pos : Pos}
theorem ss_nil : PSsM X g W [] sNx := ⟨_, pss_nil, ev_next⟩
theorem ss_cons (h : PSM X g W st a) (k : PSsM X g W rest b) : PSsM X g W (st :: rest) (sSeq a b) := by
  obtain ⟨t, h1, h2⟩ := h
  obtain ⟨u, h3, h4⟩ := k
  exact ⟨_, pss_cons h1 h3, ev_seq h2 h4⟩
theorem ss_one (h : PSM X g W st a) : PSsM X g W [st] a := by
  obtain ⟨t, h1, h2⟩ := h
  exact ⟨_, pss_one h1, h2⟩
theorem s_pass : PSM X g W (.Pass pos) sNx := ⟨_, ps_pass, ev_next⟩
theorem s_break : PSM X g W (.Break pos) (ret .bk) := ⟨_, ps_break, ev_break⟩
theorem s_cont : PSM X g W (.Continue pos) (ret .ct) := ⟨_, ps_continue, ev_cont⟩
theorem s_never : PSM X g W st (fun _ => .bad) := ⟨_, ps_never, ev_never⟩
theorem s_expr (he : PEM X g W e m) (hs : swapsWith e none pos.line X.env = pure false := by rfl) : PSM X g W (.Expr e pos) (sDrop m) := by
  obtain ⟨t, h1, h2⟩ := he
  exact ⟨_, ps_expr h1 hs, ev_drop h2⟩
theorem s_ret (he : PEM X g W e m) : PSM X g W (.Return (some e) pos) (sRet m) := by
  obtain ⟨t, h1, h2⟩ := he
  exact ⟨_, ps_ret h1, ev_ret h2⟩
theorem s_retF (he : PEF X g W e m) : PSM X g W (.Return (some e) pos) (sRetF m) := by
  obtain ⟨t, h1, h2⟩ := he
  exact ⟨_, ps_ret h1, ev_retF h2⟩
theorem s_retN : PSM X g W (.Return none pos) (ret (.rt .non)) := ⟨_, ps_retN, ev_retN⟩
theorem s_if {c : Expr} {x y : List Stmt} {tc : M Bool} (hc : PTM X g W c tc) (ha : PSsM X g W x a) (hb : PSsM X g W y b) : PSM X g W (.If c x y pos) (sIf tc a b) := by
  obtain ⟨t, h1, h2⟩ := hc
  obtain ⟨u, h3, h4⟩ := ha
  obtain ⟨w, h5, h6⟩ := hb
  exact ⟨_, ps_if h1 h3 h5, ev_ifS h2 h4 h6⟩
theorem s_set {i : Nat} {x : Str} {pos' : Pos} (he : PEM X g W e m) (hN : X.N.Nodup) (hi : X.N[i]? = some x := by rfl) (hx : Loc X.env.scope x := by first | exact Or.inl rfl | exact Or.inr rfl)
    (hs : swapsWith e (some (.Name x pos')) pos.line X.env = pure false := by rfl) (hf : X.fn x = true ∨ X.env.scope.names.lookup x = some .local := by first | exact .inl rfl | exact .inr rfl | assumption) : PSM X g W (.Assign [.Name x pos'] e pos) (sSet i m) := by
  obtain ⟨t, h1, h2⟩ := he
  exact ⟨_, ps_set hN hi hx h1 hs hf, ev_set h2⟩
theorem s_setF {i : Nat} {x : Str} {pos' : Pos} (he : PEF X g W e m) (hN : X.N.Nodup) (hi : X.N[i]? = some x := by rfl) (hx : Loc X.env.scope x := by first | exact Or.inl rfl | exact Or.inr rfl)
    (hs : swapsWith e (some (.Name x pos')) pos.line X.env = pure false := by rfl) (hf : X.fn x = true ∨ X.env.scope.names.lookup x = some .local := by first | exact .inl rfl | exact .inr rfl | assumption) : PSM X g W (.Assign [.Name x pos'] e pos) (sSetF i m) := by
  obtain ⟨t, h1, h2⟩ := he
  exact ⟨_, ps_set hN hi hx h1 hs hf, ev_setF h2⟩
end
end DL

set_option Elab.async false
set_option linter.all false
set_option maxRecDepth 100000
set_option maxHeartbeats 400000
namespace DL
open PySem L2
/-! ### targets -/
def stE (i : Nat) (x : Sl) (env : En) : Option En := match env[i]? with
  | some (.pn _) => none
  | some _ => some (env.set i x)
  | none => none
abbrev Tg := D → En → Option En
abbrev Tgs := List D → En → Option En
def tgName (i : Nat) : Tg := fun d => stE i (.sh d)
def tgNil : Tgs := fun ds env => match ds with
  | [] => some env
  | _ => none
def tgCons (t : Tg) (u : Tgs) : Tgs := fun ds env => match ds with
  | d :: r => (t d env).bind (u r)
  | [] => none
def tgTup (n : Nat) (t : Tgs) : Tg := fun d env => match d with
  | .tup ds => if ds.length = n then t ds env else none
  | _ => none
def tgLst (n : Nat) (t : Tgs) : Tg := fun d env => match d with
  | .lst ds => if ds.length = n then t ds env else none
  | _ => none
section
variable (K : PySem.W.Frag) (g : G)
def EvG (gt : TG) (t : Tg) (ts : List Nat) : Prop := ∀ env σ Hf H v d, SR K g env σ Hf H → Rep K g Hf d v → ∀ Q : L2.St → Hp → Prop,
  (match t d env with
   | some env' => ∀ σ' Hf' H', Step K g env σ Hf H env' σ' Hf' H' → (∀ j, j ∉ ts → σ'[j]? = σ[j]?) → Q σ' H'
   | none => False) → gt v σ H Q
def EvGs (gt : TGs) (t : Tgs) (ts : List Nat) : Prop := ∀ env σ Hf H vs ds, SR K g env σ Hf H → Reps K g Hf ds vs → ∀ Q : L2.St → Hp → Prop,
  (match t ds env with
   | some env' => ∀ σ' Hf' H', Step K g env σ Hf H env' σ' Hf' H' → (∀ j, j ∉ ts → σ'[j]? = σ[j]?) → Q σ' H'
   | none => False) → gt vs σ H Q
end
section
variable {K : PySem.W.Frag} {g : G} {env env1 env' : En} {σ σ1 σ' : L2.St} {Hf H Hf1 H1 Hf' H' : Hp}
theorem evg_name (i : Nat) : EvG K g (gName i) (tgName i) [i] := by
  intro env σ Hf H v d s r Q h
  unfold tgName stE at h
  have set_out : ∀ j, j ∉ [i] → (σ.set i (some v))[j]? = σ[j]? := fun j hj => by
    rw [List.getElem?_set_ne (fun c => hj (by rw [c]; exact List.mem_singleton.mpr rfl))]
  cases q : env[i]? with
  | none => rw [q] at h; exact h.elim
  | some y =>
    rw [q] at h
    cases y with
    | pn d => exact h.elim
    | _ => exact h _ Hf H (store_step s q (fun d z => nomatch z) ⟨v, rfl, r⟩ (fun p z => nomatch z) (fun d z => nomatch z) (Step.refl s) (fun p z => nomatch z)) set_out
theorem evg_nil : EvGs K g gNil tgNil [] := by
  intro env σ Hf H vs ds s r Q h
  cases r with
  | nil => exact ⟨rfl, h σ Hf H (Step.refl s) fun _ _ => rfl⟩
  | cons a b => exact h.elim
theorem evg_cons {t : TG} {u : TGs} {a : Tg} {b : Tgs} {ts us : List Nat} (ha : EvG K g t a ts) (hb : EvGs K g u b us) : EvGs K g (gCons t u) (tgCons a b) (ts ++ us) := by
  intro env σ Hf H vs ds s r Q h
  cases r with
  | nil => exact h.elim
  | @cons d ds v vs r1 r2 =>
    refine ⟨v, vs, rfl, ha env σ Hf H v d s r1 _ ?_⟩
    change (match (a d env).bind (b ds) with
      | some env' => ∀ σ' Hf' H', Step K g env σ Hf H env' σ' Hf' H' → (∀ j, j ∉ ts ++ us → σ'[j]? = σ[j]?) → Q σ' H'
      | none => False) at h
    cases q : a d env with
    | none => rw [q] at h; exact h.elim
    | some e =>
      rw [q] at h
      intro σ1 Hf1 H1 s1 o1
      refine hb e σ1 Hf1 H1 vs ds s1.sr (r2.mono s1.f) Q ?_
      revert h
      show (match b ds e with
        | some env' => ∀ σ' Hf' H', Step K g env σ Hf H env' σ' Hf' H' → (∀ j, j ∉ ts ++ us → σ'[j]? = σ[j]?) → Q σ' H'
        | none => False) → _
      cases b ds e with
      | none => exact fun h => h
      | some e2 => exact fun h σ2 Hf2 H2 s2 o2 => h σ2 Hf2 H2 (s1.trans s2) fun j hj => (o2 j fun c => hj (List.mem_append_right _ c)).trans (o1 j fun c => hj (List.mem_append_left _ c))
theorem evg_tup {u : TGs} {b : Tgs} {us : List Nat} {n : Nat} (hb : EvGs K g u b us) : EvG K g (gTup K n u) (tgTup n b) us := by
  intro env σ Hf H v d s r Q h
  cases r <;> try exact (show False from h).elim
  case tup a ds vs h1 r1 =>
    dsimp only [tgTup] at h
    by_cases c : ds.length = n
    · rw [if_pos c] at h
      exact ⟨a, vs, rfl, s.ex.t h1, by rw [← r1.len]; exact c, hb env σ Hf H vs ds s r1 Q h⟩
    · rw [if_neg c] at h
      exact h.elim
theorem evg_lst {u : TGs} {b : Tgs} {us : List Nat} {n : Nat} (hb : EvGs K g u b us) : EvG K g (gLst K n u) (tgLst n b) us := by
  intro env σ Hf H v d s r Q h
  cases r <;> try exact (show False from h).elim
  case lst a ds vs h1 r1 =>
    dsimp only [tgLst] at h
    by_cases c : ds.length = n
    · rw [if_pos c] at h
      exact ⟨a, vs, rfl, SqL.of (s.ex _ _ h1), by rw [← r1.len]; exact c, hb env σ Hf H vs ds s r1 Q h⟩
    · rw [if_neg c] at h
      exact h.elim
end
structure PGM (X : Cx) (g : G) (e : Expr) (t : Tg) (ts : List Nat) : Prop where
  ex : ∃ u, PG X e u ∧ EvG X.K g u t ts
structure PGsM (X : Cx) (g : G) (e : List Expr) (t : Tgs) (ts : List Nat) : Prop where
  ex : ∃ u, PGs X e u ∧ EvGs X.K g u t ts
section
variable {X : Cx} {g : G} {W : WX} {e : Expr} {es : List Expr} {t : Tg} {u : Tgs} {ts us : List Nat} {pos : Pos} {m : M D}
theorem g_name (i : Nat) {x : Str} (hN : X.N.Nodup) (hi : X.N[i]? = some x := by rfl) (hx : Loc X.env.scope x := by first | exact Or.inl rfl | exact Or.inr rfl) (hf : X.fn x = true ∨ X.env.scope.names.lookup x = some .local := by first | exact .inl rfl | exact .inr rfl | assumption) :
    PGM X g (.Name x pos) (tgName i) [i] := ⟨_, pg_name hN hi hx hf, evg_name i⟩
theorem gs_nil : PGsM X g [] tgNil [] := ⟨_, pgs_nil, evg_nil⟩
theorem gs_cons (h : PGM X g e t ts) (k : PGsM X g es u us) (hs : (assignEach (e :: es) X.env).map (·.2) = assign e X.env :: (assignEach es X.env).map (·.2) := by rfl) : PGsM X g (e :: es) (tgCons t u) (ts ++ us) := by
  obtain ⟨a, h1, h2⟩ := h
  obtain ⟨b, h3, h4⟩ := k
  exact ⟨_, pgs_cons h1 h3 hs, evg_cons h2 h4⟩
theorem g_tup {k n : Nat} (h : PGsM X g es u us) (hc : X.calm = true := by rfl) (hn : (assignEach es X.env).length = n := by rfl) (hst : (assignEach es X.env).findIdx? (·.1) = none := by rfl) : PGM X g (.Tuple es k pos) (tgTup n u) us := by
  obtain ⟨a, h1, h2⟩ := h
  exact ⟨_, pg_tup hc h1 hn hst, evg_tup h2⟩
theorem g_lst {k n : Nat} (h : PGsM X g es u us) (hc : X.calm = true := by rfl) (hn : (assignEach es X.env).length = n := by rfl) (hst : (assignEach es X.env).findIdx? (·.1) = none := by rfl) : PGM X g (.Tuple es k pos) (tgLst n u) us := by
  obtain ⟨a, h1, h2⟩ := h
  exact ⟨_, pg_lst hc h1 hn hst, evg_lst h2⟩
/-- target = e -/
def sAsg (m : M D) (t : Tg) : S := bnd m fun d env => match t d env with
  | some e => .ok .nx e
  | none => .bad
theorem ev_asg {K : PySem.W.Frag} {te : TE} {gt : TG} (he : EvM K g W te m) (hg : EvG K g gt t ts) : EvS K g W (tAsg te gt) (sAsg m t) :=
  fun env σ Hf H s Z h => he env σ Hf H s _ (h.bnd.imp fun d e1 Hf1 H1 _ s1 h1 v r => by
    refine hg e1 σ Hf1 H1 v d s1.sr r Z.nx ?_
    cases q : t d e1 with
    | none => rw [q] at h1; exact h1
    | some e2 => rw [q] at h1; exact fun σ2 Hf2 H2 s2 _ => h1 σ2 Hf2 H2 s2)
theorem s_asg {tg : Expr} (he : PEM X g W e m) (hg : PGM X g tg t ts) (hs : swapsWithSole [tg] e pos.line X.env = pure false := by rfl) (hw : swappedStores [tg] e X.env = pure none := by rfl)
    (h1 : (assignEach [tg] X.env).map (·.2) = [assign tg X.env] := by rfl) : PSM X g W (.Assign [tg] e pos) (sAsg m t) := by
  obtain ⟨a, k1, k2⟩ := he
  obtain ⟨b, k3, k4⟩ := hg
  exact ⟨_, ps_asg k1 k3 hs hw h1, ev_asg k2 k4⟩
end
end DL

set_option Elab.async false
set_option linter.all false
set_option maxRecDepth 100000
set_option maxHeartbeats 400000
namespace DL
open PySem L2
/-! ### what a loop walks -/
section
variable (K : PySem.W.Frag) (g : G) (W : WX)
def Yl (J : It) (ds : List D) (Hf0 : Hp) : Prop := ∀ (i : Nat) (Hf H : Hp), Ex Hf0 Hf → Ex Hf H →
  (∀ d, ds[i]? = some d → J.go i H ∧ ∀ x H', J.yld i H x H' → ∃ Hf', Grow Hf H Hf' H' ∧ Rep K g Hf' d x) ∧ (ds.length = i → J.stop i H)
def EvI (wi : TI) (mi : M (List D)) : Prop := ∀ env σ Hf H, SR K g env σ Hf H → ∀ R : It → Hp → Prop,
  Aft K g W env σ Hf H (mi env) (fun ds _ Hf' H' => ∀ J, Yl K g J ds Hf' → R J H') → wi σ H R
end
structure PIM (X : Cx) (g : G) (W : WX) (tg e : Expr) (mi : M (List D)) : Prop where
  ex : ∃ t, PI X tg e t ∧ EvI X.K g W t mi
/-- a list, a tuple or a text -/
def iSeq (K : PySem.W.Frag) (tl : TE) : TI := fun σ H R => tl σ H fun x H1 => (∃ a, x = .ref a ∧ (∃ xs, SqL K H1 a xs) ∧ R (Itl K a) H1) ∨ (∃ a, x = .ref a ∧ (∃ xs, SqT K H1 a xs) ∧ R (Itt K a) H1) ∨ ∃ z, x = .str z ∧ R (Its z) H1
section
variable {X : Cx} {tg : Expr}
theorem pi_seq {l : Expr} {tl : TE} (hl : PE X l tl) : PI X tg l (iSeq X.K tl) := by
  refine ⟨fun pins s σ H R I h => ?_⟩
  refine thn (hl.run pins s σ H _ I h) fun v s1 ⟨x, H1, I1, r1, q1⟩ => ?_
  rcases q1 with ⟨a, e, ⟨xs, hq⟩, q⟩ | ⟨a, e, ⟨xs, hq⟩, q⟩ | ⟨z, e, q⟩
  · subst e
    cases r1
    obtain ⟨its, rv, p, hz⟩ := I1.list hq
    refine wpAny_pyIter_list p.isList ?_
    refine ⟨s1.heap.objs.size, [s1.heap.objs.size], _, _, H1, rfl, I1.kept (t' := s1.toks) fun b o e => Heap.get?_push_of_some _ e, turn_list a _, ⟨_, Heap.get?_push_size _ rfl, rfl, rfl⟩, fun b hb => ?_, q⟩
    have e : b = s1.heap.objs.size := by simpa using hb
    subst e
    exact I1.fpOk (Nat.le_refl _) (I1.hok.fresh (Nat.le_refl _))
  · subst e
    cases r1
    obtain ⟨its, rv, p, hz⟩ := I1.tuple hq
    refine wpAny_pyIter_tuple (show s1.heap.IsTuple a its.toArray from p) ?_
    refine ⟨s1.heap.objs.size, [s1.heap.objs.size], _, _, H1, rfl, I1.kept (t' := s1.toks) fun b o e => Heap.get?_push_of_some _ e, turn_tuple a _, ⟨_, Heap.get?_push_size _ rfl, rfl, rfl⟩, fun b hb => ?_, q⟩
    have e : b = s1.heap.objs.size := by simpa using hb
    subst e
    exact I1.fpOk (Nat.le_refl _) (I1.hok.fresh (Nat.le_refl _))
  · subst e
    obtain ⟨t, rfl⟩ := r1
    cases ha : z.cps.all (· < 128)
    · exact wpAny_pyIter_wide ha (pi_one (tk := s1.toks) I1 _ (turn_str _ z t "str_iterator" (.inr rfl)) ⟨_, Heap.get?_push_size _ rfl, rfl, rfl⟩ q)
    · exact wpAny_pyIter_ascii ha (pi_one (tk := s1.toks) I1 _ (turn_str _ z t "str_ascii_iterator" (.inl rfl)) ⟨_, Heap.get?_push_size _ rfl, rfl, rfl⟩ q)
end
def itemsD : D → Option (List D)
  | .lst xs => some xs
  | .tup xs => some xs
  | .str z => some (z.cps.toList.map fun c => .str ⟨#[c]⟩)
  | _ => none
def iItm (m : M D) : M (List D) := bnd m fun d => lft (itemsD d)
def enuL : Nat → List D → List D
  | _, [] => []
  | n, x :: xs => .tup [.int (n : Int), x] :: enuL (n + 1) xs
def enuD : List D → Option (List D)
  | [.lst xs] => some (enuL 0 xs)
  | _ => none
def zipL : List D → List D → List D
  | x :: xs, y :: ys => .tup [x, y] :: zipL xs ys
  | _, _ => []
def zipD : List D → Option (List D)
  | [.lst xs, .lst ys] => some (zipL xs ys)
  | [.tup xs, .tup ys] => some (zipL xs ys)
  | _ => none
theorem enuL_get : ∀ (xs : List D) (n i : Nat), (enuL n xs)[i]? = (xs[i]?).map fun x => .tup [.int ((n + i : Nat) : Int), x]
  | [], n, i => by simp [enuL]
  | x :: xs, n, 0 => by simp [enuL]
  | x :: xs, n, i + 1 => by
    rw [enuL, List.getElem?_cons_succ, List.getElem?_cons_succ, enuL_get xs (n + 1) i]
    congr 1
    funext y
    rw [show n + 1 + i = n + (i + 1) by omega]
theorem enuL_len : ∀ (xs : List D) (n : Nat), (enuL n xs).length = xs.length
  | [], n => rfl
  | x :: xs, n => by rw [enuL, List.length_cons, List.length_cons, enuL_len]
theorem zipL_get : ∀ (xs ys : List D) (i : Nat) (d : D), (zipL xs ys)[i]? = some d → ∃ x y, xs[i]? = some x ∧ ys[i]? = some y ∧ d = .tup [x, y]
  | [], ys, i, d, h => by simp [zipL] at h
  | x :: xs, [], i, d, h => by simp [zipL] at h
  | x :: xs, y :: ys, 0, d, h => by simp [zipL] at h; exact ⟨x, y, rfl, rfl, h.symm⟩
  | x :: xs, y :: ys, i + 1, d, h => by
    rw [zipL, List.getElem?_cons_succ] at h
    obtain ⟨a, b, h1, h2, h3⟩ := zipL_get xs ys i d h
    exact ⟨a, b, by rw [List.getElem?_cons_succ]; exact h1, by rw [List.getElem?_cons_succ]; exact h2, h3⟩
theorem zipL_len : ∀ (xs ys : List D), (zipL xs ys).length = min xs.length ys.length
  | [], ys => by simp [zipL]
  | x :: xs, [] => by simp [zipL]
  | x :: xs, y :: ys => by rw [zipL, List.length_cons, List.length_cons, List.length_cons, zipL_len]; omega
section
variable {K : PySem.W.Frag} {g : G} {W : WX} {Hf0 : Hp}
theorem yl_list {a : Addr} {vs : List V} {ds : List D} (h : Hf0 a = some (.lst vs)) (r : Reps K g Hf0 ds vs) : Yl K g (Itl K a) ds Hf0 := fun i Hf H e1 e2 => by
  have hs : SqL K H a vs := SqL.of (e2 _ _ (e1 _ _ h))
  refine ⟨fun d hd => ?_, fun q => ⟨vs, hs, by rw [← r.len, q]; exact Nat.le_refl _⟩⟩
  obtain ⟨v, hv, rv⟩ := Reps.getD r hd
  refine ⟨⟨vs, v, hs, hv⟩, fun x H' hx => ?_⟩
  obtain ⟨rfl, hx⟩ := hx
  have := hx vs hs
  rw [hv] at this
  cases this
  exact ⟨Hf, Grow.refl e2, rv.mono e1⟩
theorem yl_tup {a : Addr} {vs : List V} {ds : List D} (h : SqT K Hf0 a vs) (r : Reps K g Hf0 ds vs) : Yl K g (Itt K a) ds Hf0 := fun i Hf H e1 e2 => by
  have hs : SqT K H a vs := e2.t (e1.t h)
  refine ⟨fun d hd => ?_, fun q => ⟨vs, hs, by rw [← r.len, q]; exact Nat.le_refl _⟩⟩
  obtain ⟨v, hv, rv⟩ := Reps.getD r hd
  refine ⟨⟨vs, v, hs, hv⟩, fun x H' hx => ?_⟩
  obtain ⟨rfl, hx⟩ := hx
  have := hx vs hs
  rw [hv] at this
  cases this
  exact ⟨Hf, Grow.refl e2, rv.mono e1⟩
theorem yl_str {z : Str} : Yl K g (Its z) (z.cps.toList.map fun c => .str ⟨#[c]⟩) Hf0 := fun i Hf H e1 e2 => by
  refine ⟨fun d hd => ?_, fun q => ?_⟩
  · rw [List.getElem?_map] at hd
    cases c : z.cps.toList[i]? with
    | none => rw [c] at hd; cases hd
    | some k =>
      rw [c] at hd
      cases hd
      have hi : z.cps[i]? = some k := by rw [← Array.getElem?_toList]; exact c
      refine ⟨(Array.getElem?_eq_some_iff.mp hi).1, fun x H' hx => ?_⟩
      obtain ⟨rfl, k', hk, rfl⟩ := hx
      rw [hi] at hk
      cases hk
      exact ⟨Hf, Grow.refl e2, .str _⟩
  · rw [List.length_map, Array.length_toList] at q
    exact Nat.le_of_eq q
theorem evi_seq {tl : TE} {m : M D} (h : EvM K g W tl m) : EvI K g W (iSeq K tl) (iItm m) :=
  fun env σ Hf H s R q => h env σ Hf H s _ (q.bnd.imp fun d e1 Hf1 H1 _ s1 h1 v r => by
    obtain ⟨ds, hd, k⟩ := Aft.lft s1.sr h1
    have k' := k Hf1 H1 (Grow.refl s1.sr.ex)
    cases r <;> try (cases hd; done)
    case lst e r _ => cases hd; exact .inl ⟨_, rfl, ⟨_, SqL.of (s1.sr.ex _ _ e)⟩, k' _ (yl_list e r)⟩
    case tup e r _ => cases hd; exact .inr (.inl ⟨_, rfl, ⟨_, s1.sr.ex.t e⟩, k' _ (yl_tup e r)⟩)
    case str _ => cases hd; exact .inr (.inr ⟨_, rfl, k' _ yl_str⟩))
theorem yl_range (a : Int) (n : Nat) : Yl K g (Itr a n) ((List.range n).map fun i => .int (a + ((i : Nat) : Int))) Hf0 := fun i Hf H e1 e2 => by
  refine ⟨fun d hd => ?_, fun q => ?_⟩
  · rw [List.getElem?_map] at hd
    cases c : (List.range n)[i]? with
    | none => rw [c] at hd; cases hd
    | some k =>
      rw [c] at hd
      cases hd
      have hi := (List.getElem?_eq_some_iff.mp c)
      obtain ⟨hi, hk⟩ := hi
      rw [List.getElem_range] at hk
      subst hk
      rw [List.length_range] at hi
      refine ⟨hi, fun x H' hx => ?_⟩
      obtain ⟨rfl, rfl⟩ := hx
      exact ⟨Hf, Grow.refl e2, .int _⟩
  · rw [List.length_map, List.length_range] at q
    exact Nat.le_of_eq q
theorem yl_range0 (n : Nat) : Yl K g (Itr 0 n) ((List.range n).map fun i => .int ((i : Nat) : Int)) Hf0 := by
  have h := yl_range (K := K) (g := g) (Hf0 := Hf0) 0 n
  simpa using h
def rng1D : List D → Option (List D)
  | [.int n] => if n ≤ 1000000 ∧ -1000000 ≤ n then some ((List.range n.toNat).map fun i => .int ((i : Nat) : Int)) else none
  | _ => none
def rng2D : List D → Option (List D)
  | [.int a, .int b] => if -1000000 ≤ a ∧ a ≤ 1000000 ∧ -1000000 ≤ b ∧ b ≤ 1000000 then some ((List.range (b - a).toNat).map fun i => .int (a + ((i : Nat) : Int))) else none
  | _ => none
def iArg (f : List D → Option (List D)) (m : M (List D)) : M (List D) := bnd m fun d => lft (f d)
theorem evi_rng1 {ta : TA} {m : M (List D)} (h : EvL K g W ta m) : EvI K g W (iRng1 ta) (iArg rng1D m) :=
  fun env σ Hf H s R q => h env σ Hf H s _ (q.bnd.imp fun ds e1 Hf1 H1 _ s1 h1 vs r => by
    obtain ⟨z, hz, k⟩ := Aft.lft s1.sr h1
    have k' := k Hf1 H1 (Grow.refl s1.sr.ex)
    unfold rng1D at hz
    split at hz
    · rename_i n _
      split at hz
      · rename_i c
        cases hz
        cases r with
        | cons a b =>
          cases b
          cases a
          exact ⟨n, rfl, by omega, by omega, k' _ (yl_range0 _)⟩
      · cases hz
    · cases hz)
theorem evi_rng2 {ta : TA} {m : M (List D)} (h : EvL K g W ta m) : EvI K g W (iRng2 ta) (iArg rng2D m) :=
  fun env σ Hf H s R q => h env σ Hf H s _ (q.bnd.imp fun ds e1 Hf1 H1 _ s1 h1 vs r => by
    obtain ⟨z, hz, k⟩ := Aft.lft s1.sr h1
    have k' := k Hf1 H1 (Grow.refl s1.sr.ex)
    unfold rng2D at hz
    split at hz
    · rename_i n m _
      split at hz
      · rename_i c
        cases hz
        cases r with
        | cons a b =>
          cases b with
          | cons b c' =>
            cases c'
            cases a
            cases b
            exact ⟨n, m, rfl, by omega, k' _ (yl_range _ _)⟩
      · cases hz
    · cases hz)
theorem yl_enum {a : Addr} {vs : List V} {ds : List D} (h : Hf0 a = some (.lst vs)) (r : Reps K g Hf0 ds vs) : Yl K g (Ite K a) (enuL 0 ds) Hf0 := fun i Hf H e1 e2 => by
  have hs : SqL K H a vs := SqL.of (e2 _ _ (e1 _ _ h))
  refine ⟨fun d hd => ?_, fun q => ⟨vs, hs, by rw [← r.len, ← q, enuL_len]; exact Nat.le_refl _⟩⟩
  rw [enuL_get] at hd
  cases c : ds[i]? with
  | none => rw [c] at hd; cases hd
  | some y =>
    rw [c] at hd
    cases hd
    obtain ⟨v, hv, rv⟩ := Reps.getD r c
    refine ⟨⟨vs, v, hs, hv⟩, fun x H' hx => ?_⟩
    obtain ⟨T, z, rfl, hT, rfl, hz⟩ := hx
    have := hz vs hs
    rw [hv] at this
    cases this
    obtain ⟨w, rr⟩ := new_tup (vs := [.int ((i : Nat) : Int), v]) (ds := [.int ((i : Nat) : Int), y]) e2 hT (.cons (.int _) (.cons (rv.mono e1) .nil))
    exact ⟨_, w, by rw [Nat.zero_add]; exact rr⟩
theorem evi_enum {ta : TA} {m : M (List D)} (h : EvL K g W ta m) : EvI K g W (iEnum K ta) (iArg enuD m) :=
  fun env σ Hf H s R q => h env σ Hf H s _ (q.bnd.imp fun ds e1 Hf1 H1 _ s1 h1 vs r => by
    obtain ⟨z, hz, k⟩ := Aft.lft s1.sr h1
    have k' := k Hf1 H1 (Grow.refl s1.sr.ex)
    unfold enuD at hz
    split at hz
    · cases hz
      cases r with
      | cons a b =>
        cases b
        cases a with
        | lst e r => exact ⟨_, _, rfl, SqL.of (s1.sr.ex _ _ e), k' _ (yl_enum e r)⟩
    · cases hz)
theorem yl_zip {a b : Addr} {vs ws : List V} {ds es : List D} (h : Hf0 a = some (.lst vs)) (r : Reps K g Hf0 ds vs) (h' : Hf0 b = some (.lst ws)) (r' : Reps K g Hf0 es ws) : Yl K g (Itz K a b) (zipL ds es) Hf0 := fun i Hf H e1 e2 => by
  have hs : SqL K H a vs := SqL.of (e2 _ _ (e1 _ _ h))
  have hs' : SqL K H b ws := SqL.of (e2 _ _ (e1 _ _ h'))
  refine ⟨fun d hd => ?_, fun q => ⟨vs, ws, hs, hs', by rw [← r.len, ← r'.len, ← q, zipL_len]; omega⟩⟩
  obtain ⟨x, y, hx, hy, rfl⟩ := zipL_get _ _ _ _ hd
  obtain ⟨v, hv, rv⟩ := Reps.getD r hx
  obtain ⟨w, hw, rw'⟩ := Reps.getD r' hy
  refine ⟨⟨vs, ws, v, w, hs, hs', hv, hw⟩, fun x H' hx => ?_⟩
  obtain ⟨T, z, u, rfl, hT, rfl, hz, hu⟩ := hx
  have q1 := hz vs hs
  have q2 := hu ws hs'
  rw [hv] at q1
  rw [hw] at q2
  cases q1
  cases q2
  obtain ⟨w, rr⟩ := new_tup (vs := [v, w]) (ds := [_, _]) e2 hT (.cons (rv.mono e1) (.cons (rw'.mono e1) .nil))
  exact ⟨_, w, rr⟩
theorem yl_zipT {a b : Addr} {vs ws : List V} {ds es : List D} (h : SqT K Hf0 a vs) (r : Reps K g Hf0 ds vs) (h' : SqT K Hf0 b ws) (r' : Reps K g Hf0 es ws) : Yl K g (RZ.ItzT K a b) (zipL ds es) Hf0 := fun i Hf H e1 e2 => by
  have hs : SqT K H a vs := e2.t (e1.t h)
  have hs' : SqT K H b ws := e2.t (e1.t h')
  refine ⟨fun d hd => ?_, fun q => ⟨vs, ws, hs, hs', by rw [← r.len, ← r'.len, ← q, zipL_len]; omega⟩⟩
  obtain ⟨x, y, hx, hy, rfl⟩ := zipL_get _ _ _ _ hd
  obtain ⟨v, hv, rv⟩ := Reps.getD r hx
  obtain ⟨w, hw, rw'⟩ := Reps.getD r' hy
  refine ⟨⟨vs, ws, v, w, hs, hs', hv, hw⟩, fun x H' hx => ?_⟩
  obtain ⟨T, z, u, rfl, hT, rfl, hz, hu⟩ := hx
  have q1 := hz vs hs
  have q2 := hu ws hs'
  rw [hv] at q1
  rw [hw] at q2
  cases q1
  cases q2
  obtain ⟨w, rr⟩ := new_tup (vs := [v, w]) (ds := [_, _]) e2 hT (.cons (rv.mono e1) (.cons (rw'.mono e1) .nil))
  exact ⟨_, w, rr⟩
theorem evi_zip {ta : TA} {m : M (List D)} (h : EvL K g W ta m) : EvI K g W (RZ.iZipA K ta) (iArg zipD m) :=
  fun env σ Hf H s R q => h env σ Hf H s _ (q.bnd.imp fun ds e1 Hf1 H1 _ s1 h1 vs r => by
    obtain ⟨z, hz, k⟩ := Aft.lft s1.sr h1
    have k' := k Hf1 H1 (Grow.refl s1.sr.ex)
    unfold zipD at hz
    split at hz
    · cases hz
      cases r with
      | cons a b =>
        cases b with
        | cons b c =>
          cases c
          cases a with
          | lst e r =>
            cases b with
            | lst e' r' => exact ⟨_, _, _, _, rfl, .inl ⟨SqL.of (s1.sr.ex _ _ e), SqL.of (s1.sr.ex _ _ e'), k' _ (yl_zip e r e' r')⟩⟩
    · cases hz
      cases r with
      | cons a b =>
        cases b with
        | cons b c =>
          cases c
          cases a with
          | tup e r =>
            cases b with
            | tup e' r' => exact ⟨_, _, _, _, rfl, .inr ⟨s1.sr.ex.t e, s1.sr.ex.t e', k' _ (yl_zipT e r e' r')⟩⟩
    · cases hz)
end
section
variable {X : Cx} {g : G} {W : WX} {tg e e2 : Expr} {es : List Expr} {m : M D} {ma : M (List D)} {p pos tpos : Pos} {elts : List Expr} {kk : Nat}
theorem i_seq (h : PEM X g W e m) : PIM X g W tg e (iItm m) := by
  obtain ⟨t, h1, h2⟩ := h
  exact ⟨_, pi_seq h1, evi_seq h2⟩
theorem i_rng1 {a : Expr} (h : PAM X g W [a] ma) (hm : X.mg "range" = none) (hg : Gl X "range" := by rfl) (hs : starEach [a] X.env = [(false, eval a X.env)] := by rfl) : PIM X g W tg (.Call (.Name "range" p) [a] [] pos) (iArg rng1D ma) := by
  obtain ⟨t, h1, h2⟩ := h
  exact ⟨_, pi_range1 hg hm h1 hs, evi_rng1 h2⟩
theorem i_rng2 {a b : Expr} (h : PAM X g W [a, b] ma) (hm : X.mg "range" = none) (hg : Gl X "range" := by rfl) (hs : starEach [a, b] X.env = [(false, eval a X.env), (false, eval b X.env)] := by rfl) (hs2 : starEach [b] X.env = [(false, eval b X.env)] := by rfl) :
    PIM X g W tg (.Call (.Name "range" p) [a, b] [] pos) (iArg rng2D ma) := by
  obtain ⟨t, h1, h2⟩ := h
  exact ⟨_, pi_range2 hg hm h1 hs hs2, evi_rng2 h2⟩
theorem i_enum (h : PAM X g W [e] ma) (hm : X.mg "enumerate" = none) (hg : Gl X "enumerate" := by rfl) (hs : starEach [e] X.env = [(false, eval e X.env)] := by rfl) : PIM X g W (.Tuple elts kk tpos) (.Call (.Name "enumerate" p) [e] [] pos) (iArg enuD ma) := by
  obtain ⟨t, h1, h2⟩ := h
  exact ⟨_, pi_enum hg hm h1 hs, evi_enum h2⟩
theorem i_zip (h : PAM X g W [e, e2] ma) (hm : X.mg "zip" = none) (hg : Gl X "zip" := by rfl) (hs : starEach [e, e2] X.env = (false, eval e X.env) :: starEach [e2] X.env := by rfl) (hpl : (backTo pos (starEach [e2] X.env)).any (·.1) = false := by rfl) :
    PIM X g W (.Tuple elts kk tpos) (.Call (.Name "zip" p) [e, e2] [] pos) (iArg zipD ma) := by
  obtain ⟨t, h1, h2⟩ := h
  exact ⟨_, RZ.pi_zipA hg hm h1 hs hpl, evi_zip h2⟩
end
end DL

set_option Elab.async false
set_option linter.all false
set_option maxRecDepth 100000
set_option maxHeartbeats 400000
namespace DL
open PySem L2
/-! ### for, while -/
def sLoop (t : Tg) (b : S) : List D → S
  | [] => sNx
  | d :: ds => fun env => match t d env with
    | none => .bad
    | some e1 => match b e1 with
      | .ok .nx e2 => sLoop t b ds e2
      | .ok .ct e2 => sLoop t b ds e2
      | .ok .bk e2 => .ok .nx e2
      | r => r
def sFor (mi : M (List D)) (t : Tg) (b : S) : S := bnd mi fun ds => sLoop t b ds
def sWhile (c : M Bool) (b : S) : Nat → S
  | 0 => fun _ => .bad
  | n + 1 => bnd c fun x => if x = true then (fun env => match b env with
      | .ok .nx e2 => sWhile c b n e2
      | .ok .ct e2 => sWhile c b n e2
      | .ok .bk e2 => .ok .nx e2
      | r => r) else sNx
section
variable {K : PySem.W.Frag} {g : G} {W : WX}
/-- a body's end, in a loop -/
theorem Out.turn {env : En} {σ : L2.St} {Hf H : Hp} {r : Rs Ctl} {nextL : S} {Z : Ends} {N : L2.St → Hp → Prop}
    (h : Out K g W env σ Hf H (match r with
      | .ok .nx e2 => nextL e2
      | .ok .ct e2 => nextL e2
      | .ok .bk e2 => .ok .nx e2
      | r => r) Z) (hN : ∀ e2 σ2 Hf2 H2, SR K g e2 σ2 Hf2 H2 → Ex Hf Hf2 → Out K g W e2 σ2 Hf2 H2 (nextL e2) Z → N σ2 H2) : Out K g W env σ Hf H r { Z with nx := N, ct := N, bk := Z.nx } := by
  cases r with
  | bad => exact h
  | ex c d e => exact h
  | ok x e =>
    cases x with
    | nx => exact fun σ2 Hf2 H2 s2 => hN e σ2 Hf2 H2 s2.sr s2.f (Out.after s2 h)
    | ct => exact fun σ2 Hf2 H2 s2 => hN e σ2 Hf2 H2 s2.sr s2.f (Out.after s2 h)
    | bk => exact fun σ2 Hf2 H2 s2 => h σ2 Hf2 H2 s2
    | rt d => exact h
    | rto d => exact h
theorem ev_for {wi : TI} {gt : TG} {tb : TS} {mi : M (List D)} {t : Tg} {ts : List Nat} {b : S} (hi : EvI K g W wi mi) (hg : EvG K g gt t ts) (hb : EvS K g W tb b) : EvS K g W (tFor wi gt tb) (sFor mi t b) := by
  intro env σ Hf H s Z h
  refine hi env σ Hf H s _ (h.bnd.imp fun ds e1 Hf1 H1 _ s1 h1 J hJ => ?_)
  refine ⟨fun i m σ' H' => ∃ env' Hf', SR K g env' σ' Hf' H' ∧ Ex Hf1 Hf' ∧ m + i = ds.length ∧ Out K g W env' σ' Hf' H' (sLoop t b (ds.drop i) env') Z, ⟨ds.length, e1, Hf1, s1.sr, Ex.refl _, rfl, h1⟩, ?_⟩
  rintro i m σ' H' ⟨env', Hf', s', x', hm, ho⟩
  obtain ⟨y1, y2⟩ := hJ i Hf' H' x' s'.ex
  cases q : ds.drop i with
  | nil =>
    rw [q] at ho
    have hi : ds.length = i := by
      have : ds.length ≤ i := List.drop_eq_nil_iff.mp q
      omega
    exact .inl ⟨y2 hi, ho σ' Hf' H' (Step.refl s')⟩
  | cons d rest =>
    rw [q] at ho
    have hlt : i < ds.length := by
      rcases Nat.lt_or_ge i ds.length with c | c
      · exact c
      · rw [List.drop_eq_nil_iff.mpr c] at q; cases q
    have hd : ds[i]? = some d := by
      have := List.getElem?_drop (xs := ds) (i := i) (j := 0)
      rw [q] at this
      simpa using this.symm
    have hr : ds.drop (i + 1) = rest := by
      have := List.drop_drop (l := ds) (i := 1) (j := i)
      rw [q] at this
      simpa [Nat.add_comm] using this.symm
    obtain ⟨go, yld⟩ := y1 d hd
    refine .inr ⟨go, fun σ2 H2 => ∃ m', m' < m ∧ ∃ env2 Hf2, SR K g env2 σ2 Hf2 H2 ∧ Ex Hf1 Hf2 ∧ m' + (i + 1) = ds.length ∧ Out K g W env2 σ2 Hf2 H2 (sLoop t b (ds.drop (i + 1)) env2) Z, fun σ2 H2 q => q, fun x H2 hy => ?_⟩
    obtain ⟨Hf2, w, rx⟩ := yld x H2 hy
    have sg := w.step s'
    refine hg env' σ' Hf2 H2 x d sg.sr rx _ ?_
    have ho2 := Out.after sg ho
    unfold sLoop at ho2
    revert ho2
    cases c : t d env' with
    | none => exact fun h => h
    | some e2 =>
      intro ho2 σ3 Hf3 H3 s3 _
      refine hb e2 σ3 Hf3 H3 s3.sr _ (Out.turn (nextL := sLoop t b rest) (Out.after s3 ho2) fun e4 σ4 Hf4 H4 s4 x4 o4 => ⟨m - 1, by omega, e4, Hf4, s4, ((x'.trans w.f).trans s3.f).trans x4, by omega, by rw [hr]; exact o4⟩)
theorem ev_while {tc : TT} {tb : TS} {c : M Bool} {b : S} (hc : EvB K g W tc c) (hb : EvS K g W tb b) (n : Nat) : EvS K g W (tWhile tc tb) (sWhile c b n) := by
  intro env σ Hf H s Z h
  refine ⟨fun m σ' H' => ∃ env' Hf', SR K g env' σ' Hf' H' ∧ Out K g W env' σ' Hf' H' (sWhile c b m env') Z, ⟨n, env, Hf, s, h⟩, ?_⟩
  rintro m σ' H' ⟨env', Hf', s', ho⟩
  cases m with
  | zero => exact ho.elim
  | succ m =>
    refine hc env' σ' Hf' H' s' _ (ho.bnd.imp fun x e1 Hf1 H1 _ s1 h1 => ?_)
    cases x with
    | true =>
      refine ⟨fun σ2 H2 => ∃ m', m' < m + 1 ∧ ∃ env2 Hf2, SR K g env2 σ2 Hf2 H2 ∧ Out K g W env2 σ2 Hf2 H2 (sWhile c b m' env2) Z, fun σ2 H2 q => q, ?_⟩
      exact hb e1 σ' Hf1 H1 s1.sr _ (Out.turn (nextL := sWhile c b m) h1 fun e4 σ4 Hf4 H4 s4 _ o4 => ⟨m, Nat.lt_succ_self _, e4, Hf4, s4, o4⟩)
    | false => exact h1 σ' Hf1 H1 (Step.refl s1.sr)
end
/-! ### comprehensions -/
def wpE (env : En) : List Nat → En
  | [] => env
  | v :: vs => (wpE env vs).set v .no
def rsE (env old : En) : List Nat → En
  | [] => env
  | v :: vs => (rsE env old vs).set v (old.getD v .no)
def calmS : Option Sl → Bool
  | some (.sh _) => true
  | some .no => true
  | _ => false
def calmE (env : En) (vs : List Nat) : Bool := vs.all fun v => calmS env[v]?
/-- the items, one after the other; behind each the block's own names are forgotten -/
def lcLoop (t : Tg) (c : M Bool) (m : M D) (vs : List Nat) : List D → List D → M (List D)
  | [], acc => ret acc
  | d :: ds, acc => fun env => match t d env with
    | none => .bad
    | some e1 => (bnd c fun b => if b = true then bnd m fun z => fun e2 => if calmE e2 vs = true then lcLoop t c m vs ds (acc ++ [z]) (wpE e2 vs) else .bad
        else fun e2 => if calmE e2 vs = true then lcLoop t c m vs ds acc (wpE e2 vs) else .bad) e1
def mLc (mi : M (List D)) (t : Tg) (c : M Bool) (m : M D) (vs : List Nat) : M D := bnd mi fun ds env =>
  if calmE env vs = true ∧ small ds.length = true then (match nox (lcLoop t c m vs ds []) (wpE env vs) with
    | .ok acc e => .ok (.lst acc) (rsE e env vs)
    | _ => .bad) else .bad
section
variable {K : PySem.W.Frag} {g : G} {W : WX} {env env1 env' : En} {σ σ1 σ' : L2.St} {Hf H Hf1 H1 Hf' H' : Hp}
theorem wpE_len (env : En) : ∀ vs : List Nat, (wpE env vs).length = env.length
  | [] => rfl
  | v :: vs => by rw [wpE, List.length_set, wpE_len env vs]
theorem rsE_len (env old : En) : ∀ vs : List Nat, (rsE env old vs).length = env.length
  | [] => rfl
  | v :: vs => by rw [rsE, List.length_set, rsE_len env old vs]
theorem wpE_out {env : En} {j : Nat} : ∀ {vs : List Nat}, j ∉ vs → (wpE env vs)[j]? = env[j]?
  | [], _ => rfl
  | v :: vs, h => by
    rw [wpE, List.getElem?_set_ne (fun c => h (by rw [c]; exact List.mem_cons_self)), wpE_out fun c => h (List.mem_cons_of_mem _ c)]
theorem wpE_in {env : En} {j : Nat} : ∀ {vs : List Nat}, j ∈ vs → j < env.length → (wpE env vs)[j]? = some .no
  | v :: vs, h, hl => by
    rw [wpE]
    by_cases c : v = j
    · subst c
      rw [List.getElem?_set_self (by rw [wpE_len]; exact hl)]
    · rw [List.getElem?_set_ne c]
      exact wpE_in (by rcases List.mem_cons.mp h with q | q; exact absurd q.symm c; exact q) hl
theorem rsE_out {env old : En} {j : Nat} : ∀ {vs : List Nat}, j ∉ vs → (rsE env old vs)[j]? = env[j]?
  | [], _ => rfl
  | v :: vs, h => by
    rw [rsE, List.getElem?_set_ne (fun c => h (by rw [c]; exact List.mem_cons_self)), rsE_out fun c => h (List.mem_cons_of_mem _ c)]
theorem rsE_in {env old : En} {j : Nat} (hl : env.length = old.length) : ∀ {vs : List Nat}, j ∈ vs → (rsE env old vs)[j]? = old[j]?
  | v :: vs, h => by
    rw [rsE]
    by_cases c : v = j
    · subst c
      by_cases q : v < env.length
      · rw [List.getElem?_set_self (by rw [rsE_len]; exact q), List.getElem?_eq_getElem (by omega), List.getD_eq_getElem?_getD, List.getElem?_eq_getElem (by omega)]
        rfl
      · rw [List.getElem?_eq_none (by rw [List.length_set, rsE_len]; omega), List.getElem?_eq_none (by omega)]
    · rw [List.getElem?_set_ne c]
      exact rsE_in hl (by rcases List.mem_cons.mp h with q | q; exact absurd q.symm c; exact q)
theorem wipe_in {σ : L2.St} {j : Nat} : ∀ {vs : List Nat}, j ∈ vs → j < σ.length → (wipe σ vs)[j]? = some none
  | v :: vs, h, hl => by
    rw [wipe]
    by_cases c : v = j
    · subst c
      rw [List.getElem?_set_self (by rw [wipe_length]; exact hl)]
    · rw [List.getElem?_set_ne c]
      exact wipe_in (by rcases List.mem_cons.mp h with q | q; exact absurd q.symm c; exact q) hl
theorem calm_at {vs : List Nat} (h : calmE env vs = true) {j : Nat} (hj : j ∈ vs) {s : Sl} (e : env[j]? = some s) : s.mut = none := by
  have := List.all_eq_true.mp h j hj
  rw [e] at this
  cases s <;> first | rfl | (cases this; done)
theorem calm_lt {vs : List Nat} (h : calmE env vs = true) {j : Nat} (hj : j ∈ vs) : j < env.length := by
  have := List.all_eq_true.mp h j hj
  rcases Nat.lt_or_ge j env.length with c | c
  · exact c
  · rw [List.getElem?_eq_none c] at this; cases this
/-- the block's own names are forgotten -/
theorem step_wipe {vs : List Nat} (s : SR K g env σ Hf H) (c : calmE env vs = true) : Step K g env σ Hf H (wpE env vs) (wipe σ vs) Hf H := by
  have own : ∀ (i : Nat) (x : Sl) (d : D), (wpE env vs)[i]? = some x → x.mut = some d → i ∉ vs ∧ env[i]? = some x := fun i x d e m => by
    by_cases q : i ∈ vs
    · rw [wpE_in q (calm_lt c q)] at e
      cases e
      cases m
    · rw [wpE_out q] at e
      exact ⟨q, e⟩
  refine ⟨Ex.refl _, ⟨s.ex, by rw [wipe_length, wpE_len]; exact s.len, fun i x o e e' => ?_, fun i j x y d d' p n e1 e2 m1 m2 f1 => ?_⟩, fun a u q q' _ => ⟨q, q'⟩, fun a o => ?_, fun _ h => h, fun i d e => ?_, wpE_len _ _⟩
  · by_cases q : i ∈ vs
    · rw [wpE_in q (calm_lt c q)] at e
      cases e
      trivial
    · rw [wpE_out q] at e
      rw [wipe_out q] at e'
      exact s.sl i x o e e'
  · obtain ⟨q1, e1⟩ := own i x d e1 m1
    obtain ⟨q2, e2⟩ := own j y d' e2 m2
    rw [wipe_out q1] at f1
    rw [wipe_out q2]
    exact s.ne i j x y d d' p n e1 e2 m1 m2 f1
  · obtain ⟨i, x, d, e, m, f⟩ := o
    obtain ⟨q, e⟩ := own i x d e m
    rw [wipe_out q] at f
    exact .inl ⟨i, x, d, e, m, f⟩
  · have q : i ∉ vs := fun q => by
      have := calm_at c q e
      cases this
    exact ⟨⟨d, by rw [wpE_out q]; exact e⟩, wipe_out q⟩
/-- .. and stand again behind the block -/
theorem step_restore {vs : List Nat} (s : SR K g env σ Hf H) (c : calmE env vs = true) (st : Step K g (wpE env vs) (wipe σ vs) Hf H env' (wipe σ vs) Hf' H') (hc : ∀ j ∈ vs, ∀ x, env'[j]? = some x → x.mut = none) :
    Step K g env σ Hf H (rsE env' env vs) σ Hf' H' := by
  have l : env'.length = env.length := st.le.trans (wpE_len _ _)
  have own : ∀ (i : Nat) (x : Sl) (d : D), (rsE env' env vs)[i]? = some x → x.mut = some d → i ∉ vs ∧ env'[i]? = some x := fun i x d e m => by
    by_cases q : i ∈ vs
    · rw [rsE_in l q] at e
      rw [calm_at c q e] at m
      cases m
    · rw [rsE_out q] at e
      exact ⟨q, e⟩
  refine ⟨st.f, ⟨st.sr.ex, by rw [rsE_len, l]; exact s.len, fun i x o e e' => ?_, fun i j x y d d' p n e1 e2 m1 m2 f1 => ?_⟩, fun a u q q' no => ?_, fun a o => ?_, st.th, fun i d e => ?_, by rw [rsE_len]; exact l⟩
  · by_cases q : i ∈ vs
    · rw [rsE_in l q] at e
      have w := s.sl i x o e e'
      have m := calm_at c q e
      cases x with
      | no => trivial
      | sh d => obtain ⟨v, a, r⟩ := w; exact ⟨v, a, r.mono st.f⟩
      | ow d => cases m
      | pn d => cases m
    · rw [rsE_out q] at e
      exact st.sr.sl i x o e (by rw [wipe_out q]; exact e')
  · obtain ⟨q1, e1⟩ := own i x d e1 m1
    obtain ⟨q2, e2⟩ := own j y d' e2 m2
    have := st.sr.ne i j x y d d' p n e1 e2 m1 m2 (by rw [wipe_out q1]; exact f1)
    rwa [wipe_out q2] at this
  · refine st.kp a u q q' fun o => no ?_
    obtain ⟨i, x, d, e, m, f⟩ := o
    by_cases w : i ∈ vs
    · rw [wpE_in w (calm_lt c w)] at e
      cases e
      cases m
    · rw [wpE_out w] at e
      rw [wipe_out w] at f
      exact ⟨i, x, d, e, m, f⟩
  · obtain ⟨i, x, d, e, m, f⟩ := o
    obtain ⟨q, e⟩ := own i x d e m
    rcases st.ow a ⟨i, x, d, e, m, by rw [wipe_out q]; exact f⟩ with w | w
    · left
      obtain ⟨i, x, d, e, m, f⟩ := w
      by_cases w : i ∈ vs
      · rw [wpE_in w (calm_lt c w)] at e
        cases e
        cases m
      · rw [wpE_out w] at e
        rw [wipe_out w] at f
        exact ⟨i, x, d, e, m, f⟩
    · exact .inr w
  · have q : i ∉ vs := fun q => by
      have := calm_at c q e
      cases this
    obtain ⟨h1, h2⟩ := st.pn i d (by rw [wpE_out q]; exact e)
    obtain ⟨d', h1⟩ := h1
    exact ⟨⟨d', by rw [rsE_out q]; exact h1⟩, rfl⟩
/-- a thing of ours that no name holds is written -/
theorem Step.write {p : Addr} {o : HO} (st : Step K g env σ Hf H env' σ' Hf' H') (h0 : H p = none) (h1 : Hf' p = none) (hp : H' p ≠ none) (no : ¬ Own env' σ' p) : Step K g env σ Hf H env' σ' Hf' (upd H' p o) := by
  refine ⟨st.f, ⟨fun a u q => ?_, st.sr.len, fun i x o' e e' => ?_, st.sr.ne⟩, fun a u q q' n => ?_, st.ow, fun a q => ?_, st.pn, st.le⟩
  · rw [upd_ne (ne_of_none q h1)]
    exact st.sr.ex a u q
  · have w := st.sr.sl i x o' e e'
    cases x with
    | no => trivial
    | sh d => exact w
    | ow d => obtain ⟨z, u, a, b, c, r⟩ := w; exact ⟨z, u, a, by rw [upd_ne (fun q => no ⟨i, _, d, e, rfl, by rw [e', a, q]⟩)]; exact b, c, r⟩
    | pn d => obtain ⟨z, u, a, b, c, r⟩ := w; exact ⟨z, u, a, by rw [upd_ne (fun q => no ⟨i, _, d, e, rfl, by rw [e', a, q]⟩)]; exact b, c, r⟩
  · obtain ⟨q1, q2⟩ := st.kp a u q q' n
    exact ⟨by rw [upd_ne (ne_of_none q h0)]; exact q1, q2⟩
  · by_cases c : a = p
    · subst c; rw [upd_same] at q; cases q
    · rw [upd_ne c] at q; exact st.th a q
theorem wipe_wipe {σ σ2 : L2.St} {vs ts : List Nat} (hl : σ2.length = σ.length) (h : ∀ j, j ∉ ts → σ2[j]? = (wipe σ vs)[j]?) (hs : ∀ j ∈ ts, j ∈ vs) : wipe σ2 vs = wipe σ vs := by
  refine List.ext_getElem? fun j => ?_
  by_cases c : j ∈ vs
  · by_cases q : j < σ.length
    · rw [wipe_in c q, wipe_in c (by omega)]
    · rw [List.getElem?_eq_none (by rw [wipe_length]; omega), List.getElem?_eq_none (by rw [wipe_length]; omega)]
  · rw [wipe_out c]
    exact h j fun q => c (hs j q)
end
end DL

set_option Elab.async false
set_option linter.all false
set_option maxRecDepth 100000
set_option maxHeartbeats 400000
namespace DL
open PySem L2
abbrev WF : WX := fun _ _ _ _ => False
/-- it comes to an end, and there P -/
def Blk {α : Type} (r : Rs α) (P : α → En → Prop) : Prop := match r with
  | .ok a e => P a e
  | _ => False
section
variable {K : PySem.W.Frag} {g : G} {W : WX} {α β : Type} {env : En} {σ : L2.St} {Hf H : Hp}
theorem Blk.bnd {m : M α} {k : α → M β} {P : β → En → Prop} (h : Blk (DL.bnd m k env) P) : Aft K g W env σ Hf H (m env) fun a e _ _ => Blk (k a e) P := by
  unfold DL.bnd at h
  revert h
  cases m env with
  | ok a e => exact fun h _ _ _ => h
  | ex c d e => exact fun h => h.elim
  | bad => exact fun h => h.elim
/-- a block's turn behind: what of the new list at p is kept -/
structure Lcv (K : PySem.W.Frag) (g : G) (ew : En) (τ : L2.St) (Hf1 H1 : Hp) (p : Addr) (acc : List D) (env' : En) (Hf' H' : Hp) : Prop where
  st : Step K g ew τ Hf1 H1 env' τ Hf' H'
  at_ : ∃ vs', H' p = some (.lst vs') ∧ Reps K g Hf' acc vs'
  nf : Hf' p = none
  no : ¬ Own env' τ p
theorem evf_lc {wi : TI} {gt : TG} {tt : TT} {te : TE} {mi : M (List D)} {t : Tg} {c : M Bool} {m : M D} {vs ts : List Nat} (hi : EvI K g W wi mi) (hg : EvG K g gt t ts) (hts : ∀ j ∈ ts, j ∈ vs) (hc : EvB K g WF tt c) (hm : EvM K g WF te m) :
    EvF K g W (tLc wi gt tt te vs) (mLc mi t c m vs) := by
  intro env σ Hf H s Q h
  refine hi env σ Hf H s _ (h.bnd.imp fun ds e1 Hf1 H1 _ s1 h1 J hJ D0 hD => ?_)
  by_cases cc : calmE e1 vs = true ∧ small ds.length = true
  case neg => rw [if_neg cc] at h1; exact h1.elim
  rw [if_pos cc] at h1
  obtain ⟨cm, sz⟩ := cc
  have sw := step_wipe s1.sr cm
  have lσ : σ.length = e1.length := s1.sr.len
  -- what the end asks
  have hP : Blk (lcLoop t c m vs ds [] (wpE e1 vs)) fun acc e => ∀ Hf' H', Step K g e1 σ Hf1 H1 (rsE e e1 vs) σ Hf' H' → ∀ p, New K g (rsE e e1 vs) σ H Hf' H' (.lst acc) p → Q (.ref p) H' := by
    unfold nox at h1
    revert h1
    cases lcLoop t c m vs ds [] (wpE e1 vs) with
    | ok acc e => exact fun h => h
    | ex c d e => exact fun h => h
    | bad => exact fun h => h
  clear h1
  have calm0 : ∀ j ∈ vs, ∀ x, (wpE e1 vs)[j]? = some x → x.mut = none := fun j hj x e => by
    rw [wpE_in hj (calm_lt cm hj)] at e
    cases e
    rfl
  refine ⟨fun i k H' => ∃ env' Hf' acc, Lcv K g (wpE e1 vs) (wipe σ vs) Hf1 H1 D0 acc env' Hf' H' ∧ k + i = ds.length ∧ acc.length ≤ i ∧ (∀ j ∈ vs, ∀ x, env'[j]? = some x → x.mut = none) ∧
      Blk (lcLoop t c m vs (ds.drop i) acc env') fun acc e => ∀ Hf' H', Step K g e1 σ Hf1 H1 (rsE e e1 vs) σ Hf' H' → ∀ p, New K g (rsE e e1 vs) σ H Hf' H' (.lst acc) p → Q (.ref p) H',
    ⟨ds.length, wpE e1 vs, Hf1, [], ⟨(own_new s1.sr.ex hD).step sw.sr, ⟨[], upd_same, .nil⟩, s1.sr.ex.back hD, fun o => Own.there sw.sr o hD⟩, rfl, Nat.le_refl _, calm0, hP⟩, ?_⟩
  rintro i k H' ⟨env', Hf', acc, L, hk, hl, cl, hb⟩
  obtain ⟨y1, y2⟩ := hJ i Hf' H' L.st.f L.st.sr.ex
  cases q : ds.drop i with
  | nil =>
    rw [q] at hb
    have hi : ds.length = i := by
      have : ds.length ≤ i := List.drop_eq_nil_iff.mp q
      omega
    refine .inl ⟨y2 hi, ?_⟩
    have sr := step_restore s1.sr cm L.st cl
    obtain ⟨vs', h1, h2⟩ := L.at_
    refine hb Hf' H' sr D0 ⟨⟨_, h1, .lst h2⟩, L.nf, fun o => ?_, s1.th D0 hD⟩
    obtain ⟨j, x, d, a, b, f⟩ := o
    have ll : env'.length = e1.length := L.st.le.trans (wpE_len _ _)
    by_cases w : j ∈ vs
    · rw [rsE_in ll w] at a
      rw [calm_at cm w a] at b
      cases b
    · rw [rsE_out w] at a
      exact L.no ⟨j, x, d, a, b, by rw [wipe_out w]; exact f⟩
  | cons d rest =>
    rw [q] at hb
    have hlt : i < ds.length := by
      rcases Nat.lt_or_ge i ds.length with c | c
      · exact c
      · rw [List.drop_eq_nil_iff.mpr c] at q; cases q
    have hd : ds[i]? = some d := by
      have := List.getElem?_drop (xs := ds) (i := i) (j := 0)
      rw [q] at this
      simpa using this.symm
    have hr : ds.drop (i + 1) = rest := by
      have := List.drop_drop (l := ds) (i := 1) (j := i)
      rw [q] at this
      simpa [Nat.add_comm] using this.symm
    obtain ⟨go, yld⟩ := y1 d hd
    refine .inr ⟨go, fun H2 => ∃ k', k' < k ∧ ∃ env2 Hf2 acc2, Lcv K g (wpE e1 vs) (wipe σ vs) Hf1 H1 D0 acc2 env2 Hf2 H2 ∧ k' + (i + 1) = ds.length ∧ acc2.length ≤ i + 1 ∧ (∀ j ∈ vs, ∀ x, env2[j]? = some x → x.mut = none) ∧
      Blk (lcLoop t c m vs (ds.drop (i + 1)) acc2 env2) fun acc e => ∀ Hf' H', Step K g e1 σ Hf1 H1 (rsE e e1 vs) σ Hf' H' → ∀ p, New K g (rsE e e1 vs) σ H Hf' H' (.lst acc) p → Q (.ref p) H', fun H2 q => q, fun x H2 hy => ?_⟩
    obtain ⟨Hf2, w, rx⟩ := yld x H2 hy
    have sg := w.step L.st.sr
    refine hg env' (wipe σ vs) Hf2 H2 x d sg.sr rx _ ?_
    unfold lcLoop at hb
    revert hb
    cases ct : t d env' with
    | none => exact fun h => h.elim
    | some e2 =>
      intro hb σ2 Hf3 H3 s3 o3
      have l2 : σ2.length = σ.length := by
        rw [s3.sr.len, s3.le, L.st.le, wpE_len, ← lσ]
      have ww : wipe σ2 vs = wipe σ vs := wipe_wipe l2 o3 hts
      -- from the turn's start to any state of the block: the list stands
      have keep : ∀ {e4 : En} {Hf4 H4 : Hp}, Step K g e2 σ2 Hf3 H3 e4 σ2 Hf4 H4 → calmE e4 vs = true → Lcv K g (wpE e1 vs) (wipe σ vs) Hf1 H1 D0 acc (wpE e4 vs) Hf4 H4 ∧ (∀ j ∈ vs, ∀ x, (wpE e4 vs)[j]? = some x → x.mut = none) := fun {e4 Hf4 H4} s4 c4 => by
        have S2 : Step K g env' (wipe σ vs) Hf' H' (wpE e4 vs) (wipe σ vs) Hf4 H4 := by
          have z := ((sg.trans s3).trans s4).trans (step_wipe s4.sr c4)
          rwa [ww] at z
        obtain ⟨vs', h1, h2⟩ := L.at_
        obtain ⟨k1, k2⟩ := S2.kp D0 _ h1 L.nf L.no
        refine ⟨⟨L.st.trans S2, ⟨vs', k1, h2.mono S2.f⟩, k2, fun o => ?_⟩, fun j hj x e => ?_⟩
        · rcases S2.ow D0 o with o | o
          · exact L.no o
          · rw [h1] at o; cases o
        · rw [wpE_in hj (calm_lt c4 hj)] at e
          cases e
          rfl
      refine ⟨ww, hc e2 σ2 Hf3 H3 s3.sr _ ((Blk.bnd hb).imp fun b e4 Hf4 H4 _ s4 h4 => ?_)⟩
      cases b with
      | false =>
        by_cases c4 : calmE e4 vs = true
        · have h4' := h4
          simp only [Bool.false_eq_true, if_false, if_pos c4] at h4'
          obtain ⟨L4, cl4⟩ := keep s4 c4
          exact ⟨k - 1, by omega, wpE e4 vs, Hf4, acc, L4, by omega, by omega, cl4, by rw [hr]; exact h4'⟩
        · simp only [Bool.false_eq_true, if_false, if_neg c4] at h4
          exact h4.elim
      | true =>
        have h4' := h4
        rw [if_pos rfl] at h4'
        refine hm e4 σ2 Hf4 H4 s4.sr _ ((Blk.bnd h4').imp fun z e5 Hf5 H5 _ s5 h5 v rv => ?_)
        by_cases c5 : calmE e5 vs = true
        · rw [if_pos c5] at h5
          obtain ⟨L5, cl5⟩ := keep (s4.trans s5) c5
          obtain ⟨vs', h6, h7⟩ := L5.at_
          have hsz : vs'.length < sizeLine := by
            rw [← h7.len]
            have := small_le sz
            omega
          refine ⟨vs', h6, hsz, k - 1, by omega, wpE e5 vs, Hf5, acc ++ [z], ⟨L5.st.write hD L5.nf (by rw [h6]; exact fun h => nomatch h) L5.no, ⟨_, upd_same, h7.append (.cons rv .nil)⟩, L5.nf, L5.no⟩, by omega, by rw [List.length_append]; simp; omega, cl5, by rw [hr]; exact h5⟩
        · rw [if_neg c5] at h5
          exact h5.elim
end
end DL

set_option Elab.async false
set_option linter.all false
set_option maxRecDepth 100000
set_option maxHeartbeats 400000
namespace DL
open PySem L2
section
variable {K : PySem.W.Frag} {g : G} {W : WX} {ι : Type}
/-- one reading for all contexts -/
theorem all_pe {C : ι → Cx} {e : Expr} {m : M D} (h : ∀ j, PEM (C j) g W e m) (hK : ∀ j, (C j).K = K) : ∃ t, (∀ j, PE (C j) e t) ∧ EvM K g W t m := by
  have h' : ∀ j, ∃ t, PE (C j) e t ∧ EvM K g W t m := fun j => by
    obtain ⟨t, a, b⟩ := h j
    rw [hK j] at b
    exact ⟨t, a, b⟩
  refine ⟨fun σ H Q => ∀ j, (Classical.choose (h' j)) σ H Q, fun j => ⟨fun pins s σ H Q I q => (Classical.choose_spec (h' j)).1.run pins s σ H Q I (q j)⟩, fun env σ Hf H s Q q j => (Classical.choose_spec (h' j)).2 env σ Hf H s Q q⟩
theorem all_pg {C : ι → Cx} {e : Expr} {t : Tg} {ts : List Nat} (h : ∀ j, PGM (C j) g e t ts) (hK : ∀ j, (C j).K = K) : ∃ u, (∀ j, PG (C j) e u) ∧ EvG K g u t ts := by
  have h' : ∀ j, ∃ u, PG (C j) e u ∧ EvG K g u t ts := fun j => by
    obtain ⟨t, a, b⟩ := h j
    rw [hK j] at b
    exact ⟨t, a, b⟩
  refine ⟨fun v σ H Q => ∀ j, (Classical.choose (h' j)) v σ H Q, fun j => ⟨fun pins s σ H v u Q I r q => (Classical.choose_spec (h' j)).1.run pins s σ H v u Q I r (q j)⟩, fun env σ Hf H v d s r Q q j => (Classical.choose_spec (h' j)).2 env σ Hf H v d s r Q q⟩
structure PTsM (X : Cx) (g : G) (W : WX) (ifs : List Expr) (m : M Bool) : Prop where
  ex : ∃ t, PTs X ifs t ∧ EvB X.K g W t m
theorem all_pts {C : ι → Cx} {e : List Expr} {m : M Bool} (h : ∀ j, PTsM (C j) g W e m) (hK : ∀ j, (C j).K = K) : ∃ t, (∀ j, PTs (C j) e t) ∧ EvB K g W t m := by
  have h' : ∀ j, ∃ t, PTs (C j) e t ∧ EvB K g W t m := fun j => by
    obtain ⟨t, a, b⟩ := h j
    rw [hK j] at b
    exact ⟨t, a, b⟩
  refine ⟨fun σ H Q => ∀ j, (Classical.choose (h' j)) σ H Q, fun j => ⟨fun pins s σ H Q I q => (Classical.choose_spec (h' j)).1.run pins s σ H Q I (q j)⟩, fun env σ Hf H s Q q j => (Classical.choose_spec (h' j)).2 env σ Hf H s Q q⟩
end
section
variable {X : Cx} {g : G} {W : WX}
theorem ts_nil : PTsM X g W [] (ret true) := ⟨_, pts_nil, fun env σ Hf H s Q h => Aft.ret s h⟩
theorem ts_one {c : Expr} {m : M Bool} (h : PTM X g W c m) : PTsM X g W [c] m := by
  obtain ⟨t, a, b⟩ := h
  exact ⟨_, pts_one a, b⟩
/-- a block's context -/
structure Bk where
  s : Shared
  H : Hp
  C : Addr
  cl : List (Str × Addr)
  fp : List Addr
abbrev Cx.bk (X : Cx) (scope : Scope) (b : Bk) : Cx := X.blk b.s b.H scope (compEnvC scope b.cl b.C X.env) b.fp
variable {elt tg iter : Expr} {ifs : List Expr} {scope : Scope} {own : List (Str × Nat)} {pos : Pos} {mi : M (List D)} {t : Tg} {ts : List Nat} {c : M Bool} {m : M D}
theorem f_lc (hi : PIM X g W tg iter mi) (ok : BlkOk X.N X.env.scope scope own) (hN : X.N.Nodup) (hg : ∀ b : Bk, PGM (Cx.bk X scope b) g tg t ts) (ht : ∀ b : Bk, PTsM (Cx.bk X scope b) g WF ifs c) (he : ∀ b : Bk, PEM (Cx.bk X scope b) g WF elt m)
    (hts : ∀ j ∈ ts, j ∈ own.map (·.2) := by decide) (hc : X.calm = true := by rfl) (hs : ∀ x, foldedSetIterable iter X.env x = pure x := by intro _; rfl) : PEF X g W (.ListComp elt [⟨tg, iter, ifs, 0⟩] scope pos) (mLc mi t c m (own.map (·.2))) := by
  obtain ⟨wi, h1, h2⟩ := hi
  obtain ⟨gt, h3, h4⟩ := all_pg hg (fun _ => rfl)
  obtain ⟨tt, h5, h6⟩ := all_pts ht (fun _ => rfl)
  obtain ⟨te, h7, h8⟩ := all_pe he (fun _ => rfl)
  exact ⟨_, pe_lc hc hN h1 ok (fun s H C cl fp => h3 ⟨s, H, C, cl, fp⟩) (fun s H C cl fp => h5 ⟨s, H, C, cl, fp⟩) (fun s H C cl fp => h7 ⟨s, H, C, cl, fp⟩) hs, evf_lc h2 h4 hts h6 h8⟩
theorem PEF.sh {e : Expr} {m : M D} (h : PEF X g W e m) : PEM X g W e (frz m) := by
  obtain ⟨t, a, b⟩ := h
  exact ⟨_, a, b.ev⟩
/-- y = [..] on one line, y a local -/
theorem s_lcF {i : Nat} {y : Str} {py spos : Pos} (hi : PIM X g W tg iter mi) (ok : BlkOk X.N X.env.scope scope own) (hN : X.N.Nodup) (hg : ∀ b : Bk, PGM (Cx.bk X scope b) g tg t ts) (ht : ∀ b : Bk, PTsM (Cx.bk X scope b) g WF ifs c) (he : ∀ b : Bk, PEM (Cx.bk X scope b) g WF elt m)
    (hsw : swapsWith (.ListComp elt [⟨tg, iter, ifs, 0⟩] scope pos) (some (.Name y py)) spos.line X.env = pure true) (hy : X.N[i]? = some y := by rfl) (hyl : X.env.scope.names.lookup y = some .local := by rfl)
    (hts : ∀ j ∈ ts, j ∈ own.map (·.2) := by decide) (hc : X.calm = true := by rfl) (hs : ∀ x, foldedSetIterable iter X.env x = pure x := by intro _; rfl) : PSM X g W (.Assign [.Name y py] (.ListComp elt [⟨tg, iter, ifs, 0⟩] scope pos) spos) (sSetF i (mLc mi t c m (own.map (·.2)))) := by
  obtain ⟨wi, h1, h2⟩ := hi
  obtain ⟨gt, h3, h4⟩ := all_pg hg (fun _ => rfl)
  obtain ⟨tt, h5, h6⟩ := all_pts ht (fun _ => rfl)
  obtain ⟨te, h7, h8⟩ := all_pe he (fun _ => rfl)
  exact ⟨_, ps_setLc hc hN hy hyl hsw h1 ok (fun s H C cl fp => h3 ⟨s, H, C, cl, fp⟩) (fun s H C cl fp => h5 ⟨s, H, C, cl, fp⟩) (fun s H C cl fp => h7 ⟨s, H, C, cl, fp⟩) hs, ev_setF (evf_lc h2 h4 hts h6 h8)⟩
theorem s_lc {i : Nat} {y : Str} {py spos : Pos} (hi : PIM X g W tg iter mi) (ok : BlkOk X.N X.env.scope scope own) (hN : X.N.Nodup) (hg : ∀ b : Bk, PGM (Cx.bk X scope b) g tg t ts) (ht : ∀ b : Bk, PTsM (Cx.bk X scope b) g WF ifs c) (he : ∀ b : Bk, PEM (Cx.bk X scope b) g WF elt m)
    (hsw : swapsWith (.ListComp elt [⟨tg, iter, ifs, 0⟩] scope pos) (some (.Name y py)) spos.line X.env = pure true) (hy : X.N[i]? = some y := by rfl) (hyl : X.env.scope.names.lookup y = some .local := by rfl)
    (hts : ∀ j ∈ ts, j ∈ own.map (·.2) := by decide) (hc : X.calm = true := by rfl) (hs : ∀ x, foldedSetIterable iter X.env x = pure x := by intro _; rfl) : PSM X g W (.Assign [.Name y py] (.ListComp elt [⟨tg, iter, ifs, 0⟩] scope pos) spos) (sSet i (frz (mLc mi t c m (own.map (·.2))))) := by
  obtain ⟨wi, h1, h2⟩ := hi
  obtain ⟨gt, h3, h4⟩ := all_pg hg (fun _ => rfl)
  obtain ⟨tt, h5, h6⟩ := all_pts ht (fun _ => rfl)
  obtain ⟨te, h7, h8⟩ := all_pe he (fun _ => rfl)
  exact ⟨_, ps_setLc hc hN hy hyl hsw h1 ok (fun s H C cl fp => h3 ⟨s, H, C, cl, fp⟩) (fun s H C cl fp => h5 ⟨s, H, C, cl, fp⟩) (fun s H C cl fp => h7 ⟨s, H, C, cl, fp⟩) hs, ev_set (evf_lc h2 h4 hts h6 h8).ev⟩
theorem s_for {body : List Stmt} {b : S} {spos : Pos} (hp : PassesOwn (model X.prog X.w) X.A X.env X.xe) (hi : PIM X g W tg iter mi) (hg : PGM X g tg t ts) (hb : PSsM X g W body b)
    (hc : X.calm = true := by rfl) (hs : ∀ x, foldedSetIterable iter X.env x = pure x := by intro _; rfl) : PSM X g W (.For tg iter body [] spos) (sFor mi t b) := by
  obtain ⟨wi, h1, h2⟩ := hi
  obtain ⟨gt, h3, h4⟩ := hg
  obtain ⟨tb, h5, h6⟩ := hb
  exact ⟨_, ps_for hp hc h1 h3 h5 hs, ev_for h2 h4 h6⟩
theorem s_while {cnd : Expr} {body : List Stmt} {b : S} {spos : Pos} (n : Nat) (hp : PassesOwn (model X.prog X.w) X.A X.env X.xe) (hc : PTM X g W cnd c) (hb : PSsM X g W body b) : PSM X g W (.While cnd body [] spos) (sWhile c b n) := by
  obtain ⟨tc, h1, h2⟩ := hc
  obtain ⟨tb, h3, h4⟩ := hb
  exact ⟨_, ps_while hp h1 h3, ev_while h2 h4 n⟩
end
/-! ### changing one's own -/
def Sl.put : Sl → D → Sl
  | .ow _, d => .ow d
  | .pn _, d => .pn d
  | s, _ => s
def mdf (i : Nat) (d : D) (env : En) : En := match env[i]? with
  | some s => env.set i (s.put d)
  | none => env
section
variable {K : PySem.W.Frag} {g : G} {W : WX} {env env1 env' : En} {σ σ1 σ' : L2.St} {Hf H Hf1 H1 Hf' H' : Hp}
theorem put_mut {x : Sl} {d d' : D} (m : x.mut = some d) : (x.put d').mut = some d' := by cases x <;> first | rfl | (cases m; done)
theorem step_mut {i : Nat} {x : Sl} {d d' : D} {p : Addr} {u' : HO} (s : SR K g env σ Hf H) (hx : env[i]? = some x) (mx : x.mut = some d) (hp : σ[i]? = some (some (.ref p))) (r : RepO K g Hf d' u') :
    Step K g env σ Hf H (mdf i d' env) σ Hf (upd H p u') := by
  have hi : i < env.length := (List.getElem?_eq_some_iff.mp hx).1
  obtain ⟨p', u, e1, e2, e3, r0⟩ := s.at_ hx mx
  rw [hp] at e1
  cases e1
  have em : mdf i d' env = env.set i (x.put d') := by unfold mdf; rw [hx]
  rw [em]
  have set_ne : ∀ j (y : Sl), (env.set i (x.put d'))[j]? = some y → (j = i ∧ y = x.put d') ∨ (j ≠ i ∧ env[j]? = some y) := fun j y q => by
    by_cases c : i = j
    · subst c
      rw [List.getElem?_set_self hi] at q
      exact .inl ⟨rfl, (Option.some.inj q).symm⟩
    · rw [List.getElem?_set_ne c] at q
      exact .inr ⟨fun z => c z.symm, q⟩
  have nep : ∀ (j : Nat) (y : Sl) (b : D), j ≠ i → env[j]? = some y → y.mut = some b → σ[j]? ≠ some (some (.ref p)) := fun j y b c q m => s.ne i j x y d b p (fun z => c z.symm) hx q mx m hp
  refine ⟨Ex.refl _, ⟨fun a v q => ?_, by rw [List.length_set]; exact s.len, fun j y o q q' => ?_, fun j k y z a b w n1 h1 h2 m1 m2 f1 => ?_⟩, fun a v q q' no => ⟨?_, q'⟩, fun a o => ?_, fun a q => ?_, fun j z q => ?_, by rw [List.length_set]⟩
  · rw [upd_ne (ne_of_none q e3)]
    exact s.ex a v q
  · rcases set_ne j y q with ⟨rfl, rfl⟩ | ⟨c, q⟩
    · rw [hp] at q'
      cases q'
      exact (Sl.ok_mut (put_mut mx)).mpr ⟨p, u', rfl, upd_same, e3, r⟩
    · have w := s.sl j y o q q'
      cases y with
      | no => trivial
      | sh b => exact w
      | ow b => obtain ⟨z, w, e, h1, h2, r⟩ := w; exact ⟨z, w, e, by rw [upd_ne (fun c' => nep j _ b c q rfl (by rw [q', e, c']))]; exact h1, h2, r⟩
      | pn b => obtain ⟨z, w, e, h1, h2, r⟩ := w; exact ⟨z, w, e, by rw [upd_ne (fun c' => nep j _ b c q rfl (by rw [q', e, c']))]; exact h1, h2, r⟩
  · have back : ∀ (j : Nat) (y : Sl) (a : D), (env.set i (x.put d'))[j]? = some y → y.mut = some a → ∃ (y' : Sl) (a' : D), env[j]? = some y' ∧ y'.mut = some a' := fun j y a h m => by
      rcases set_ne j y h with ⟨rfl, rfl⟩ | ⟨_, h⟩
      · exact ⟨x, d, hx, mx⟩
      · exact ⟨y, a, h, m⟩
    obtain ⟨y', a', q1, q2⟩ := back j y a h1 m1
    obtain ⟨z', b', q3, q4⟩ := back k z b h2 m2
    exact s.ne j k y' z' a' b' w n1 q1 q3 q2 q4 f1
  · rw [upd_ne (fun c => no ⟨i, x, d, hx, mx, by rw [hp, c]⟩)]
    exact q
  · obtain ⟨j, y, b, q1, q2, q3⟩ := o
    rcases set_ne j y q1 with ⟨rfl, rfl⟩ | ⟨_, q1⟩
    · exact .inl ⟨_, x, d, hx, mx, q3⟩
    · exact .inl ⟨j, y, b, q1, q2, q3⟩
  · by_cases c : a = p
    · subst c; rw [upd_same] at q; cases q
    · rw [upd_ne c] at q; exact q
  · by_cases c : i = j
    · subst c
      rw [hx] at q
      cases q
      exact ⟨⟨d', by rw [List.getElem?_set_self hi]; rfl⟩, rfl⟩
    · rw [List.getElem?_set_ne c]
      exact ⟨⟨z, q⟩, rfl⟩
/-- what a name holds for itself -/
def own (i : Nat) : M D := fun env => match env[i]?.bind Sl.mut with
  | some d => .ok d env
  | none => .bad
theorem own_ok {i : Nat} {P : D → En → Hp → Hp → Prop} (s : SR K g env σ Hf H) (h : Aft K g W env σ Hf H (own i env) P) : ∃ x d, env[i]? = some x ∧ x.mut = some d ∧ P d env Hf H := by
  unfold own at h
  cases e : env[i]? with
  | none => rw [e] at h; exact h.elim
  | some x =>
    rw [e] at h
    cases m : x.mut with
    | none => simp only [Option.bind, m] at h; exact h.elim
    | some d => simp only [Option.bind, m] at h; exact ⟨x, d, rfl, m, h Hf H (Step.refl s)⟩
theorem own_okS {i : Nat} {k : D → S} {Z : Ends} (s : SR K g env σ Hf H) (h : Out K g W env σ Hf H (DL.bnd (own i) k env) Z) : ∃ x d, env[i]? = some x ∧ x.mut = some d ∧ Out K g W env σ Hf H (k d env) Z := own_ok s h.bnd
def isLst : D → Bool
  | .lst _ => true
  | _ => false
/-- x.append(e) -/
def sApp (i : Nat) (m : M D) : S := bnd (own i) fun d0 => if isLst d0 = true then bnd m fun z => bnd (own i) fun d => match d with
  | .lst xs => if small (xs.length + 1) = true then (fun env => .ok .nx (mdf i (.lst (xs ++ [z])) env)) else (fun _ => .bad)
  | _ => fun _ => .bad else (fun _ => .bad)
/-- x[j] = e -/
def sPut (i : Nat) (m j : M D) : S := bnd m fun z => bnd (own i) fun _ => bnd j fun k => bnd (own i) fun d => match d, k with
  | .lst xs, .int n => (match ixN xs.length n with
    | some q => fun env => .ok .nx (mdf i (.lst (xs.set q z)) env)
    | none => fun _ => .bad)
  | _, _ => fun _ => .bad
theorem SR.mut_at (s : SR K g env σ Hf H) {i : Nat} {x : Sl} {d : D} (hx : env[i]? = some x) (mx : x.mut = some d) : ∃ p u, σ[i]? = some (some (.ref p)) ∧ H p = some u ∧ RepO K g Hf d u := by
  obtain ⟨p, u, e, h, _, r⟩ := s.at_ hx mx
  exact ⟨p, u, e, h, r⟩
theorem ev_app {i : Nat} {te : TE} {m : M D} (he : EvM K g W te m) : EvS K g W (tDrop (tBM K "list" rAppend (tVar i) (tCons te tNil))) (sApp i m) :=
  fun env σ Hf H s Z h => by
    obtain ⟨x, d, hx, mx, h1⟩ := own_okS s h
    obtain ⟨p, u, hp, hu, ru⟩ := s.mut_at hx mx
    by_cases c : isLst d = true
    case neg => rw [if_neg c] at h1; exact h1.elim
    rw [if_pos c] at h1
    have tyl : ∃ ys, H p = some (.lst ys) := by
      cases ru <;> first | exact ⟨_, hu⟩ | (cases c; done)
    obtain ⟨ys, hys⟩ := tyl
    refine ⟨_, hp, .inl ⟨rfl, ys, SqL.of hys⟩, he env σ Hf H s _ (h1.bnd.imp fun z e1 Hf1 H1 _ s1 h2 v rv => ?_)⟩
    obtain ⟨x1, d1, hx1, mx1, h3⟩ := own_okS s1.sr h2
    obtain ⟨p1, u1, hp1, hu1, ru1⟩ := s1.sr.mut_at hx1 mx1
    rw [hp] at hp1
    cases hp1
    cases ru1 with
    | @lst ds vs r =>
      dsimp only at h3
      by_cases q : small (ds.length + 1) = true
      · rw [if_pos q] at h3
        refine ⟨p, _, v, rfl, rfl, hu1, by rw [← r.len]; exact small_le q, ?_⟩
        exact h3 σ Hf1 _ (step_mut s1.sr hx1 mx1 hp (.lst (r.append (.cons rv .nil))))
      · rw [if_neg q] at h3
        exact h3.elim
    | dic _ _ => exact h3.elim
    | dct _ _ => exact h3.elim
    | ins _ _ _ => exact h3.elim
theorem ev_put {i : Nat} {te tj : TE} {m j : M D} (he : EvM K g W te m) (hj : EvM K g W tj j) : EvS K g W (tAsg te (gSub (tVar i) tj rSetL)) (sPut i m j) :=
  fun env σ Hf H s Z h => he env σ Hf H s _ (h.bnd.imp fun z e1 Hf1 H1 _ s1 h1 v rv => by
    obtain ⟨x, d, hx, mx, h2⟩ := own_okS s1.sr h1
    obtain ⟨p, u, hp, hu, ru⟩ := s1.sr.mut_at hx mx
    refine ⟨_, hp, hj e1 σ Hf1 H1 s1.sr _ (h2.bnd.imp fun k e2 Hf2 H2 _ s2 h3 w rw' => ?_)⟩
    obtain ⟨x1, d1, hx1, mx1, h4⟩ := own_okS s2.sr h3
    obtain ⟨p1, u1, hp1, hu1, ru1⟩ := s2.sr.mut_at hx1 mx1
    rw [hp] at hp1
    cases hp1
    cases ru1 with
    | @lst ds vs r =>
      cases rw' <;> try exact h4.elim
      case int n _ =>
        cases hq : ixN ds.length n with
        | none =>
          dsimp only at h4
          rw [hq] at h4
          exact h4.elim
        | some q =>
          dsimp only at h4
          rw [hq] at h4
          exact ⟨p, _, n, q, rfl, rfl, hu1, by rw [← r.len]; exact hq, h4 σ Hf2 _ (step_mut s2.sr hx1 mx1 hp (.lst (r.set q (rv.mono s2.f))))⟩
    | dic _ _ => exact h4.elim
    | dct _ _ => exact h4.elim
    | ins _ _ _ => exact h4.elim)
end
section
variable {X : Cx} {g : G} {W : WX} {x : Str} {p1 apos cpos pos tpos : Pos} {e j : Expr} {m mj : M D}
theorem s_app (i : Nat) (ha : PEM X g W e m) (hN : X.N[i]? = some x := by rfl) (hv : Vis X.env.scope x := by first | exact Or.inl rfl | exact Or.inr (Or.inl rfl) | exact Or.inr (Or.inr rfl)) (hd : (x == ("__debug__" : Str)) = false := by decide) (hcd : (x == ("__classdict__" : Str)) = false := by decide)
    (hbase : attributeBase (.Name x p1) "append" X.env (eval (.Name x p1) X.env) = eval (.Name x p1) X.env := by rfl)
    (hfew : ((backTo cpos (starEach (e :: []) X.env)).all (fun x => !x.1) && (backToKw cpos (keywordEach [] X.env)).all (fun x => x.1.isSome)
      && decide ((e :: []).length + ([] : List Keyword).length + (if ([] : List Keyword).isEmpty then 0 else 1) < 30)) = true := by rfl)
    (hline : (apos.endLine == cpos.line) = true := by rfl) (hs : starEach (e :: []) X.env = (false, eval e X.env) :: starEach [] X.env := by rfl) (hplain : (backTo cpos (starEach [] X.env)).any (·.1) = false := by rfl)
    (hsw : swapsWith (.Call (.Attribute (.Name x p1) "append" apos) [e] [] cpos) none pos.line X.env = pure false := by rfl) : PSM X g W (.Expr (.Call (.Attribute (.Name x p1) "append" apos) [e] [] cpos) pos) (sApp i m) := by
  obtain ⟨t, h1, h2⟩ := ha
  exact ⟨_, ps_expr (pe_bm PySem.F.plainAttrs_list PySem.F.slot_list_append PySem.F.type_list_append mt_append (pe_var hN hv hd hcd) (pa_cons h1 pa_nil hs) hbase hfew hline hs hplain) hsw, ev_app h2⟩
theorem s_put (i : Nat) (he : PEM X g W e m) (hj : PEM X g W j mj) (hN : X.N[i]? = some x := by rfl) (hv : Vis X.env.scope x := by first | exact Or.inl rfl | exact Or.inr (Or.inl rfl) | exact Or.inr (Or.inr rfl)) (hd : (x == ("__debug__" : Str)) = false := by decide) (hcd : (x == ("__classdict__" : Str)) = false := by decide)
    (ha : ∀ v, assign (.Subscript (.Name x p1) j tpos) X.env v = (do
      let ov ← holding [v] (eval (.Name x p1) X.env)
      let iv ← holding [v, ov] (eval j X.env)
      standAt tpos
      holding [v, ov, iv] (setItem ov iv v)
      release [v, ov, iv] []) := by intro _; rfl)
    (hs : swapsWithSole [.Subscript (.Name x p1) j tpos] e pos.line X.env = pure false := by rfl) (hw : swappedStores [.Subscript (.Name x p1) j tpos] e X.env = pure none := by rfl)
    (h1 : (assignEach [.Subscript (.Name x p1) j tpos] X.env).map (·.2) = [assign (.Subscript (.Name x p1) j tpos) X.env] := by rfl) : PSM X g W (.Assign [.Subscript (.Name x p1) j tpos] e pos) (sPut i m mj) := by
  obtain ⟨t, k1, k2⟩ := he
  obtain ⟨u, k3, k4⟩ := hj
  exact ⟨_, ps_asg k1 (pg_sub (pe_var hN hv hd hcd) k3 set_list ha) hs hw h1, ev_put k2 k4⟩
end
end DL

set_option Elab.async false
set_option linter.all false
set_option maxRecDepth 100000
set_option maxHeartbeats 400000
namespace DL
open PySem L2 PyProof.Rows
/-! ### defs and their calls -/
abbrev Fm := En → Rs Ctl
/-- a def's body, from the parameters to what is handed back and what the lent things then are -/
def run (n : Nat) (b : S) : Fm := fun args => match b (args ++ List.replicate (n - args.length) .no) with
  | .ok .nx e => .ok (.rt .non) (e.take args.length)
  | .ok (.rt d) e => .ok (.rt d) (e.take args.length)
  | .ok (.rto d) e => .ok (.rto d) (e.take args.length)
  | .ok _ _ => .bad
  | .ex c d e => .ex c d (e.take args.length)
  | .bad => .bad
abbrev WX_of (E : XK) : WX := fun c d _ H => E c d H
def spM (K : PySem.W.Frag) (g : G) (np : Nat) (F : Fm) : Sp := fun vs H Q E => ∃ Hf args, SR K g args (vs.map some) Hf H ∧ args.length = np ∧ Out K g (WX_of E) args (vs.map some) Hf H (F args) { nx := fun _ _ => False, rt := Q }
section
variable {K : PySem.W.Frag} {g : G} {W : WX} {env env1 env' args args' : En} {σ σ1 σ' : L2.St} {Hf H Hf1 H1 Hf' H' : Hp}
theorem get_app_no {args : En} {k i : Nat} {x : Sl} {d : D} (h : (args ++ List.replicate k Sl.no)[i]? = some x) (m : x.mut = some d) : args[i]? = some x := by
  by_cases c : i < args.length
  · rw [List.getElem?_append_left c] at h; exact h
  · rw [List.getElem?_append_right (by omega), List.getElem?_replicate] at h
    split at h
    · cases h; cases m
    · cases h
theorem sr_app (s : SR K g args σ Hf H) (k : Nat) : SR K g (args ++ List.replicate k .no) (σ ++ List.replicate k none) Hf H := by
  have lt : ∀ (i : Nat) (x : Sl) (d : D), (args ++ List.replicate k Sl.no)[i]? = some x → x.mut = some d → i < args.length := fun i x d h m => (List.getElem?_eq_some_iff.mp (get_app_no h m)).1
  refine ⟨s.ex, by rw [List.length_append, List.length_append, s.len, List.length_replicate, List.length_replicate], fun i x o h h' => ?_, fun i j x y d d' p n h1 h2 m1 m2 f1 => ?_⟩
  · by_cases c : i < args.length
    · rw [List.getElem?_append_left c] at h
      rw [List.getElem?_append_left (by rw [s.len]; exact c)] at h'
      exact s.sl i x o h h'
    · rw [List.getElem?_append_right (by omega), List.getElem?_replicate] at h
      split at h
      · cases h; trivial
      · cases h
  · have c1 := lt i x d h1 m1
    have c2 := lt j y d' h2 m2
    rw [List.getElem?_append_left (by rw [s.len]; exact c1)] at f1
    rw [List.getElem?_append_left (by rw [s.len]; exact c2)]
    exact s.ne i j x y d d' p n (get_app_no h1 m1) (get_app_no h2 m2) m1 m2 f1
theorem own_app (l : σ.length = args.length) {k : Nat} {a : Addr} : Own (args ++ List.replicate k .no) (σ ++ List.replicate k none) a ↔ Own args σ a := by
  constructor
  · rintro ⟨i, x, d, h, m, f⟩
    have h' := get_app_no h m
    have c := (List.getElem?_eq_some_iff.mp h').1
    rw [List.getElem?_append_left (by rw [l]; exact c)] at f
    exact ⟨i, x, d, h', m, f⟩
  · rintro ⟨i, x, d, h, m, f⟩
    have c := (List.getElem?_eq_some_iff.mp h).1
    exact ⟨i, x, d, by rw [List.getElem?_append_left c]; exact h, m, by rw [List.getElem?_append_left (by rw [l]; exact c)]; exact f⟩
theorem own_take {n : Nat} {a : Addr} (o : Own (env.take n) (σ.take n) a) : Own env σ a := by
  obtain ⟨i, x, d, h, m, f⟩ := o
  rw [List.getElem?_take] at h f
  split at h
  · rename_i c
    rw [if_pos c] at f
    exact ⟨i, x, d, h, m, f⟩
  · cases h
theorem step_take {k : Nat} (l : σ.length = args.length) (st : Step K g (args ++ List.replicate k .no) (σ ++ List.replicate k none) Hf H env' σ' Hf' H') : Step K g args σ Hf H (env'.take args.length) (σ'.take args.length) Hf' H' := by
  have le : env'.length = args.length + k := by rw [st.le, List.length_append, List.length_replicate]
  refine ⟨st.f, ⟨st.sr.ex, by rw [List.length_take, List.length_take, st.sr.len], fun i x o h h' => ?_, fun i j x y d d' p n h1 h2 m1 m2 f1 => ?_⟩, fun a u q q' no => st.kp a u q q' fun o => no ((own_app l).mp o), fun a o => ?_, st.th, fun i d h => ?_, by rw [List.length_take, le]; omega⟩
  · rw [List.getElem?_take] at h h'
    split at h
    · rename_i c
      rw [if_pos c] at h'
      exact st.sr.sl i x o h h'
    · cases h
  · rw [List.getElem?_take] at h1 h2 f1 ⊢
    split at h1
    · rename_i c1
      split at h2
      · rename_i c2
        rw [if_pos c1] at f1
        rw [if_pos c2]
        exact st.sr.ne i j x y d d' p n h1 h2 m1 m2 f1
      · cases h2
    · cases h1
  · rcases st.ow a (own_take o) with o | o
    · exact .inl ((own_app l).mp o)
    · exact .inr o
  · have c := (List.getElem?_eq_some_iff.mp h).1
    obtain ⟨⟨d', h'⟩, e⟩ := st.pn i d (by rw [List.getElem?_append_left c]; exact h)
    rw [List.getElem?_take, if_pos c, List.getElem?_take, if_pos c, e, List.getElem?_append_left (by rw [l]; exact c)]
    exact ⟨⟨d', h'⟩, rfl⟩
theorem out_run {n : Nat} {b : S} {E : XK} {Q : VK} {vs : List V} (l : (vs.map some).length = args.length) (h : Out K g (WX_of E) args (vs.map some) Hf H (run n b args) { nx := fun _ _ => False, rt := Q }) :
    Out K g (WX_of E) (args ++ List.replicate (n - args.length) .no) (vs.map some ++ List.replicate (n - args.length) none) Hf H (b (args ++ List.replicate (n - args.length) .no)) { nx := fun _ H' => Q .non H', rt := Q } := by
  unfold run at h
  revert h
  cases b (args ++ List.replicate (n - args.length) .no) with
  | bad => exact fun h => h
  | ex c d e => exact fun h dx v fs σ' Hf' H' st r e1 e2 e3 e4 e5 => h dx v fs (σ'.take args.length) Hf' H' (step_take l st) r e1 e2 e3 (fun o => e4 (own_take o)) e5
  | ok x e =>
    cases x with
    | nx => exact fun h σ' Hf' H' st => h _ Hf' H' (step_take l st) _ .non
    | bk => exact fun h => h.elim
    | ct => exact fun h => h.elim
    | rt d => exact fun h σ' Hf' H' st v r => h _ Hf' H' (step_take l st) v r
    | rto d => exact fun h σ' Hf' H' st p n => h _ Hf' H' (step_take l st) p ⟨n.at_, n.nf, fun o => n.no (own_take o), n.nw⟩
theorem Out.nox {r : Rs Ctl} {Z : Ends} {m : S} (h : Out K g W env σ Hf H (DL.nox m env) Z) : Out K g WF env σ Hf H (m env) Z := by
  unfold DL.nox at h
  revert h
  cases m env with
  | bad => exact fun h => h
  | ex c d e => exact fun h => h.elim
  | ok x e => cases x <;> exact fun h => h
end
section
variable {P : Program} {w : World} {K : PySem.W.Frag} {mg : Str → Option Value} {base : Heap} {g : G}
theorem start_eq (N : List Str) (vs : List V) : start N vs = vs.map some ++ List.replicate (N.length - vs.length) none := rfl
/-- a def of the text that no exception leaves -/
theorem fn_okN {x qual : Str} {st : Stmt} {f : Addr} {fd : FuncData} {N ps : List Str} {k : Nat} {b : S} (F : Fun K x qual st f fd) (Sc : FnScope N ps (defScope st))
    (hb : ∀ (cdv : Value) (A : Around) (outer : List Env) (s : Shared) (H : Hp) (E : XK), Room k (A.deeper (envOfC qual (defScope st) s.heap.objs.size f cdv)) → PSsM (cxOf CX0 P w K mg base N qual (defScope st) f cdv A outer s H E).nox g WF (defBody st) b) :
    FnOk P w K mg base CX0 (k + 1) f fd ps (spM K g ps.length (run N.length (nox b))) := by
  refine F.ok Sc (fun vs H Q E h => ?_) (fun cdv A outer s H vs Q E hr h => ?_)
  · obtain ⟨Hf, args, sr, l, _⟩ := h
    rw [← l, ← sr.len, List.length_map]
  · obtain ⟨Hf, args, sr, l, o⟩ := h
    obtain ⟨t, h1, h2⟩ := hb cdv A outer s H E hr
    have lv : vs.length = args.length := by rw [← sr.len, List.length_map]
    refine ⟨t, h1, ?_⟩
    rw [start_eq, lv]
    refine h2 _ _ Hf H (sr_app sr _) _ ?_
    exact Out.nox (r := .bad) (out_run sr.len o)
/-- .. that exceptions may leave -/
theorem fn_okX {x qual : Str} {st : Stmt} {f : Addr} {fd : FuncData} {N ps : List Str} {k : Nat} {b : S} (F : Fun K x qual st f fd) (Sc : FnScope N ps (defScope st))
    (hb : ∀ (cdv : Value) (A : Around) (outer : List Env) (s : Shared) (H : Hp) (E : XK), Room k (A.deeper (envOfC qual (defScope st) s.heap.objs.size f cdv)) → PSsM (cxOf (L2.CX P w) P w K mg base N qual (defScope st) f cdv A outer s H E) g (WX_of E) (defBody st) b) :
    FnOk P w K mg base (L2.CX P w) (k + 1) f fd ps (spM K g ps.length (run N.length b)) := by
  refine F.okX Sc (fun vs H Q E h => ?_) (fun cdv A outer s H vs Q E hr h => ?_)
  · obtain ⟨Hf, args, sr, l, _⟩ := h
    rw [← l, ← sr.len, List.length_map]
  · obtain ⟨Hf, args, sr, l, o⟩ := h
    obtain ⟨t, h1, h2⟩ := hb cdv A outer s H E hr
    have lv : vs.length = args.length := by rw [← sr.len, List.length_map]
    refine ⟨t, h1, ?_⟩
    rw [start_eq, lv]
    exact h2 _ _ Hf H (sr_app sr _) _ (out_run sr.len o)
end
/-! a call: the arguments as values; or the first one lent -/
def callA (F : Fm) (ds : List D) : M D := fun env => match F (ds.map .sh) with
  | .ok (.rt d) _ => .ok d env
  | .ex c d _ => .ex c d env
  | _ => .bad
def callAF (F : Fm) (ds : List D) : M D := fun env => match F (ds.map .sh) with
  | .ok (.rto d) _ => .ok d env
  | .ex c d _ => .ex c d env
  | _ => .bad
def callB (F : Fm) (i : Nat) (ds : List D) : M D := fun env => match env[i]?.bind Sl.mut with
  | some d0 => (match F (.pn d0 :: ds.map .sh) with
    | .ok (.rt d) (.pn d1 :: _) => .ok d (mdf i d1 env)
    | .ex c d (.pn d1 :: _) => .ex c d (mdf i d1 env)
    | _ => .bad)
  | none => .bad
def callBF (F : Fm) (i : Nat) (ds : List D) : M D := fun env => match env[i]?.bind Sl.mut with
  | some d0 => (match F (.pn d0 :: ds.map .sh) with
    | .ok (.rto d) (.pn d1 :: _) => .ok d (mdf i d1 env)
    | .ex c d (.pn d1 :: _) => .ex c d (mdf i d1 env)
    | _ => .bad)
  | none => .bad
section
variable {K : PySem.W.Frag} {g : G} {W : WX} {env env1 env' args args' : En} {σ σ1 σ' : L2.St} {Hf H Hf1 H1 Hf' H' : Hp}
theorem sh_get {ds : List D} {i : Nat} {x : Sl} (h : (ds.map Sl.sh)[i]? = some x) : ∃ d, ds[i]? = some d ∧ x = .sh d := by
  rw [List.getElem?_map] at h
  cases q : ds[i]? with
  | none => rw [q] at h; cases h
  | some d => rw [q] at h; cases h; exact ⟨d, rfl, rfl⟩
theorem sr_sh {ds : List D} {vs : List V} (e : Ex Hf H) (r : Reps K g Hf ds vs) : SR K g (ds.map .sh) (vs.map some) Hf H := by
  refine ⟨e, by rw [List.length_map, List.length_map, r.len], fun i x o h h' => ?_, fun i j x y d d' p n h1 h2 m1 m2 f1 => ?_⟩
  · obtain ⟨d, hd, rfl⟩ := sh_get h
    obtain ⟨v, hv, rv⟩ := Reps.getD r hd
    rw [List.getElem?_map, hv] at h'
    cases h'
    exact ⟨v, rfl, rv⟩
  · obtain ⟨d, hd, rfl⟩ := sh_get h1
    cases m1
theorem own_sh {ds : List D} {τ : L2.St} {a : Addr} : ¬ Own (ds.map .sh) τ a := by
  rintro ⟨i, x, d, h, m, _⟩
  obtain ⟨_, _, rfl⟩ := sh_get h
  cases m
/-- what a callee did that was lent nothing -/
theorem step_callA {ds : List D} {τ : L2.St} (s : SR K g env σ Hf H) (st : Step K g (ds.map .sh) τ Hf H args' σ' Hf' H') : Step K g env σ Hf H env σ Hf' H' := by
  have kp : ∀ a u, H a = some u → Hf a = none → H' a = some u ∧ Hf' a = none := fun a u h h' => st.kp a u h h' own_sh
  refine ⟨st.f, ⟨st.sr.ex, s.len, fun i x o h h' => ?_, s.ne⟩, fun a u h h' _ => kp a u h h', fun a o => .inl o, st.th, fun i d h => ⟨⟨d, h⟩, rfl⟩, rfl⟩
  have w := s.sl i x o h h'
  cases x with
  | no => trivial
  | sh d => obtain ⟨v, e, r⟩ := w; exact ⟨v, e, r.mono st.f⟩
  | ow d => obtain ⟨p, u, e, h1, h2, r⟩ := w; obtain ⟨k1, k2⟩ := kp p u h1 h2; exact ⟨p, u, e, k1, k2, r.mono st.f⟩
  | pn d => obtain ⟨p, u, e, h1, h2, r⟩ := w; obtain ⟨k1, k2⟩ := kp p u h1 h2; exact ⟨p, u, e, k1, k2, r.mono st.f⟩
/-- .. that was lent the thing of slot i -/
theorem sr_lent {ds : List D} {vs : List V} {i : Nat} {x : Sl} {d : D} {p : Addr} (s : SR K g env σ Hf H) (hx : env[i]? = some x) (mx : x.mut = some d) (hp : σ[i]? = some (some (.ref p))) (r : Reps K g Hf ds vs) :
    SR K g (.pn d :: ds.map .sh) ((V.ref p :: vs).map some) Hf H := by
  obtain ⟨p', u, e1, e2, e3, r0⟩ := s.at_ hx mx
  rw [hp] at e1
  cases e1
  have s2 := sr_sh s.ex r
  refine ⟨s.ex, by rw [List.length_map, List.length_cons, List.length_cons, List.length_map, r.len], fun j y o h h' => ?_, fun j k y z a b q n h1 h2 m1 m2 f1 => ?_⟩
  · cases j with
    | zero =>
      cases h
      cases h'
      exact ⟨p, u, rfl, e2, e3, r0⟩
    | succ j =>
      rw [List.getElem?_cons_succ] at h
      rw [List.map_cons, List.getElem?_cons_succ] at h'
      exact s2.sl j y o h h'
  · cases j with
    | succ j =>
      rw [List.getElem?_cons_succ] at h1
      obtain ⟨_, _, rfl⟩ := sh_get h1
      cases m1
    | zero =>
      cases k with
      | zero => exact absurd rfl n
      | succ k =>
        rw [List.getElem?_cons_succ] at h2
        obtain ⟨_, _, rfl⟩ := sh_get h2
        cases m2
theorem own_lent {ds : List D} {vs : List V} {d : D} {p a : Addr} : Own (.pn d :: ds.map .sh) ((V.ref p :: vs).map some) a ↔ a = p := by
  constructor
  · rintro ⟨i, x, d, h, m, f⟩
    cases i with
    | zero => cases f; rfl
    | succ i =>
      rw [List.getElem?_cons_succ] at h
      obtain ⟨_, _, rfl⟩ := sh_get h
      cases m
  · rintro rfl
    exact ⟨0, _, d, rfl, rfl, rfl⟩
theorem step_callB {ds : List D} {vs : List V} {i : Nat} {x : Sl} {d d1 : D} {p : Addr} {rest : En} (s : SR K g env σ Hf H) (hx : env[i]? = some x) (mx : x.mut = some d) (hp : σ[i]? = some (some (.ref p)))
    (st : Step K g (.pn d :: ds.map .sh) ((V.ref p :: vs).map some) Hf H (.pn d1 :: rest) σ' Hf' H') : Step K g env σ Hf H (mdf i d1 env) σ Hf' H' := by
  have hi : i < env.length := (List.getElem?_eq_some_iff.mp hx).1
  have em : mdf i d1 env = env.set i (x.put d1) := by unfold mdf; rw [hx]
  rw [em]
  have kp : ∀ a u, H a = some u → Hf a = none → a ≠ p → H' a = some u ∧ Hf' a = none := fun a u h h' n => st.kp a u h h' fun o => n (own_lent.mp o)
  -- the lent thing, as it is now
  obtain ⟨_, e0⟩ := st.pn 0 d rfl
  have lentOk : ∃ u, H' p = some u ∧ Hf' p = none ∧ RepO K g Hf' d1 u := by
    have w := st.sr.at_ (i := 0) (x := .pn d1) (d := d1) rfl rfl
    obtain ⟨q, u, f, h1, h2, r⟩ := w
    rw [e0] at f
    cases f
    exact ⟨u, h1, h2, r⟩
  obtain ⟨u1, l1, l2, l3⟩ := lentOk
  have set_ne : ∀ j (y : Sl), (env.set i (x.put d1))[j]? = some y → (j = i ∧ y = x.put d1) ∨ (j ≠ i ∧ env[j]? = some y) := fun j y q => by
    by_cases c : i = j
    · subst c
      rw [List.getElem?_set_self hi] at q
      exact .inl ⟨rfl, (Option.some.inj q).symm⟩
    · rw [List.getElem?_set_ne c] at q
      exact .inr ⟨fun z => c z.symm, q⟩
  have nep : ∀ (j : Nat) (y : Sl) (b : D), j ≠ i → env[j]? = some y → y.mut = some b → σ[j]? ≠ some (some (.ref p)) := fun j y b c q m => s.ne i j x y d b p (fun z => c z.symm) hx q mx m hp
  refine ⟨st.f, ⟨st.sr.ex, by rw [List.length_set]; exact s.len, fun j y o q q' => ?_, fun j k y z a b w n1 h1 h2 m1 m2 f1 => ?_⟩, fun a v q q' no => kp a v q q' fun c => no ⟨i, x, d, hx, mx, by rw [hp, c]⟩, fun a o => ?_, st.th, fun j z q => ?_, by rw [List.length_set]⟩
  · rcases set_ne j y q with ⟨rfl, rfl⟩ | ⟨c, q⟩
    · rw [hp] at q'
      cases q'
      exact (Sl.ok_mut (put_mut mx)).mpr ⟨p, u1, rfl, l1, l2, l3⟩
    · have w := s.sl j y o q q'
      cases y with
      | no => trivial
      | sh b => obtain ⟨v, e, r⟩ := w; exact ⟨v, e, r.mono st.f⟩
      | ow b => obtain ⟨z, w, e, h1, h2, r⟩ := w; obtain ⟨k1, k2⟩ := kp z w h1 h2 (fun c' => nep j _ b c q rfl (by rw [q', e, c'])); exact ⟨z, w, e, k1, k2, r.mono st.f⟩
      | pn b => obtain ⟨z, w, e, h1, h2, r⟩ := w; obtain ⟨k1, k2⟩ := kp z w h1 h2 (fun c' => nep j _ b c q rfl (by rw [q', e, c'])); exact ⟨z, w, e, k1, k2, r.mono st.f⟩
  · have back : ∀ (j : Nat) (y : Sl) (a : D), (env.set i (x.put d1))[j]? = some y → y.mut = some a → ∃ (y' : Sl) (a' : D), env[j]? = some y' ∧ y'.mut = some a' := fun j y a h m => by
      rcases set_ne j y h with ⟨rfl, rfl⟩ | ⟨_, h⟩
      · exact ⟨x, d, hx, mx⟩
      · exact ⟨y, a, h, m⟩
    obtain ⟨y', a', q1, q2⟩ := back j y a h1 m1
    obtain ⟨z', b', q3, q4⟩ := back k z b h2 m2
    exact s.ne j k y' z' a' b' w n1 q1 q3 q2 q4 f1
  · obtain ⟨j, y, b, q1, q2, q3⟩ := o
    rcases set_ne j y q1 with ⟨rfl, rfl⟩ | ⟨_, q1⟩
    · exact .inl ⟨_, x, d, hx, mx, q3⟩
    · exact .inl ⟨j, y, b, q1, q2, q3⟩
  · by_cases c : i = j
    · subst c
      rw [hx] at q
      cases q
      exact ⟨⟨d1, by rw [List.getElem?_set_self hi]; rfl⟩, rfl⟩
    · rw [List.getElem?_set_ne c]
      exact ⟨⟨z, q⟩, rfl⟩
end
end DL

set_option Elab.async false
set_option linter.all false
set_option maxRecDepth 100000
set_option maxHeartbeats 400000
namespace DL
open PySem L2 PyProof.Rows
section
variable {K : PySem.W.Frag} {g : G} {E : XK} {env : En} {σ : L2.St} {Hf H : Hp} {F : Fm} {np : Nat}
/-- a def that is only called with so many arguments -/
def Arity (np : Nat) (F : Fm) : Prop := ∀ a : En, F a ≠ .bad → a.length = np
theorem sp_of {args : En} {vs : List V} {Q : VK} (hn : Arity np F) (s : SR K g args (vs.map some) Hf H) (o : Out K g (WX_of E) args (vs.map some) Hf H (F args) { nx := fun _ _ => False, rt := Q }) : spM K g np F vs H Q E := by
  refine ⟨Hf, args, s, hn args fun e => ?_, o⟩
  rw [e] at o
  exact o
theorem run_arity {n : Nat} {b : S} : Arity np fun a => if a.length = np then run n b a else .bad := fun a h => by
  by_cases c : a.length = np
  · exact c
  · exact absurd (if_neg c) h
/-- the callee's end, as the caller wants it: nothing was lent -/
theorem spA {ds : List D} {vs : List V} {Q : VK} (hn : Arity np F) (s : SR K g env σ Hf H) (r : Reps K g Hf ds vs) (h : Aft K g (WX_of E) env σ Hf H (callA F ds env) fun d _ Hf' H' => ∀ v, Rep K g Hf' d v → Q v H') : spM K g np F vs H Q E := by
  refine sp_of hn (sr_sh s.ex r) ?_
  unfold callA at h
  revert h
  cases F (ds.map .sh) with
  | bad => exact fun h => h
  | ex c d e => exact fun h dx v fs σ' Hf' H' st r e1 e2 e3 e4 e5 => h dx v fs σ Hf' H' (step_callA s st) r e1 e2 e3 (fun o => Own.there s o e5) e5
  | ok x e =>
    cases x with
    | rt d => exact fun h σ' Hf' H' st v r => h Hf' H' (step_callA s st) v r
    | rto d => exact fun h => h.elim
    | nx => exact fun h => h.elim
    | bk => exact fun h => h.elim
    | ct => exact fun h => h.elim
theorem spAF {ds : List D} {vs : List V} {Q : VK} (hn : Arity np F) (s : SR K g env σ Hf H) (r : Reps K g Hf ds vs) {P : D → Hp → Hp → Prop} (h : Aft K g (WX_of E) env σ Hf H (callAF F ds env) fun d e Hf' H' => ∀ p, New K g e σ H Hf' H' d p → Q (.ref p) H') : spM K g np F vs H Q E := by
  refine sp_of hn (sr_sh s.ex r) ?_
  unfold callAF at h
  revert h
  cases F (ds.map .sh) with
  | bad => exact fun h => h
  | ex c d e => exact fun h dx v fs σ' Hf' H' st r e1 e2 e3 e4 e5 => h dx v fs σ Hf' H' (step_callA s st) r e1 e2 e3 (fun o => Own.there s o e5) e5
  | ok x e =>
    cases x with
    | rto d => exact fun h σ' Hf' H' st p n => h Hf' H' (step_callA s st) p ⟨n.at_, n.nf, fun o => Own.there s o n.nw, n.nw⟩
    | rt d => exact fun h => h.elim
    | nx => exact fun h => h.elim
    | bk => exact fun h => h.elim
    | ct => exact fun h => h.elim
/-- .. the thing of slot i was -/
theorem spB {ds : List D} {vs : List V} {i : Nat} {p : Addr} {Q : VK} (hn : Arity np F) (s : SR K g env σ Hf H) (hp : σ[i]? = some (some (.ref p))) (r : Reps K g Hf ds vs) (h : Aft K g (WX_of E) env σ Hf H (callB F i ds env) fun d _ Hf' H' => ∀ v, Rep K g Hf' d v → Q v H') : spM K g np F (.ref p :: vs) H Q E := by
  unfold callB at h
  cases hx : env[i]? with
  | none => rw [hx] at h; exact h.elim
  | some x =>
    cases mx : x.mut with
    | none => rw [hx] at h; simp only [Option.bind, mx] at h; exact h.elim
    | some d0 =>
      rw [hx] at h
      simp only [Option.bind, mx] at h
      refine sp_of hn (sr_lent s hx mx hp r) ?_
      have pn : ∀ {e : En} {σ' : L2.St} {Hf' H' : Hp}, Step K g (.pn d0 :: ds.map .sh) ((V.ref p :: vs).map some) Hf H e σ' Hf' H' → ∃ d1 rest, e = .pn d1 :: rest := fun {e σ' Hf' H'} st => by
        obtain ⟨⟨d1, h1⟩, _⟩ := st.pn 0 d0 rfl
        cases e with
        | nil => cases h1
        | cons a b => cases h1; exact ⟨d1, b, rfl⟩
      revert h
      cases F (.pn d0 :: ds.map .sh) with
      | bad => exact fun h => h
      | ex c d e =>
        intro h dx v fs σ' Hf' H' st r e1 e2 e3 e4 e5
        obtain ⟨d1, rest, rfl⟩ := pn st
        exact h dx v fs σ Hf' H' (step_callB s hx mx hp st) r e1 e2 e3 (fun o => by
          rcases (step_callB s hx mx hp st).ow dx o with o | o
          · exact Own.there s o e5
          · obtain ⟨q, u, c1, c2, _⟩ := s.at_ hx mx
            obtain ⟨j, y, b, q1, q2, q3⟩ := (show Own (mdf i d1 env) σ dx from by assumption)
            have em : mdf i d1 env = env.set i (x.put d1) := by unfold mdf; rw [hx]
            rw [em] at q1
            by_cases w : i = j
            · subst w
              rw [hp] at q3
              cases q3
              rw [hp] at c1
              cases c1
              rw [c2] at e5
              cases e5
            · rw [List.getElem?_set_ne w] at q1
              exact Own.there s ⟨j, y, b, q1, q2, q3⟩ e5) e5
      | ok z e =>
        cases z with
        | rt d =>
          intro h σ' Hf' H' st v r
          obtain ⟨d1, rest, rfl⟩ := pn st
          exact h Hf' H' (step_callB s hx mx hp st) v r
        | rto d => exact fun h => h.elim
        | nx => exact fun h => h.elim
        | bk => exact fun h => h.elim
        | ct => exact fun h => h.elim
end
end DL

set_option Elab.async false
set_option linter.all false
set_option maxRecDepth 100000
set_option maxHeartbeats 400000
namespace DL
open PySem L2 PyProof.Rows
/-! ### what is known of the text's defs -/
section
variable (P : Program) (w : World) (K : PySem.W.Frag) (mg : Str → Option Value) (base : Heap) (g : G)
/-- the def x of the module: np parameters, its mirror F, by k levels, its defaults -/
structure Def0 (x : Str) (np : Nat) (F : Fm) (k : Nat) (dfl : List D) : Prop where
  ex : ∃ f fd ps dvs ds, FnOk P w K mg base (L2.CX P w) k f fd ps (spM K g np F) ∧ mg x = some (.ref f) ∧ PySem.W.keepIn K (.ref f) = true ∧ Binds K fd ps ds ∧ Vals dvs ds ∧ ∀ H, Reps K g H dfl dvs
  ar : Arity np F
/-- the method m of the class c -/
structure Mth (c : Nat) (m : Str) (F : Fm) (k : Nat) (dfl : List D) : Prop where
  ex : ∃ f fd ps dvs ds np, FnOk P w K mg base (L2.CX P w) k f fd ps (spM K g np F) ∧ Meth K (g.cl c) m f ∧ Binds K fd ps ds ∧ Vals dvs ds ∧ (∀ H, Reps K g H dfl dvs) ∧ Arity np F
  cl : Cls K (g.cl c)
  no : m ∉ nmT c
/-- a property -/
structure Prp (c : Nat) (m : Str) (F : Fm) (k : Nat) : Prop where
  ex : ∃ p f fd ps, FnOk P w K mg base (L2.CX P w) k f fd ps (spM K g 1 F) ∧ PropOf K (g.cl c) m p f ∧ Binds K fd ps []
  cl : Cls K (g.cl c)
  ar : Arity 1 F
/-- a special method: n parameters -/
structure Opr (c : Nat) (m : Str) (np : Nat) (F : Fm) (k : Nat) : Prop where
  ex : ∃ f, FnR P w K mg base (L2.CX P w) k f (spM K g np F) ∧ PySem.W.findIn K (.ref (g.cl c)) m = some (some (.ref f)) ∧ PySem.W.isFn K (.ref f) = true ∧ PySem.W.fnIn K f = true
  ar : Arity np F
/-- x(..) makes an instance of c -/
structure Mak (x : Str) (c : Nat) (np : Nat) (F : Fm) (k : Nat) (dfl : List D) : Prop where
  ex : ∃ f fd ps dvs ds, FnOk P w K mg base (L2.CX P w) k f fd ps (spM K g np F) ∧ Mk K (g.cl c) f ∧ mg x = some (.ref (g.cl c)) ∧ Binds K fd ps ds ∧ Vals dvs ds ∧ ∀ H, Reps K g H dfl dvs
  ok : g.ok c = true
  ar : Arity np F
/-- the fields of c -/
structure Fld (c : Nat) : Prop where
  cl : Cls K (g.cl c)
  no : ∀ f ∈ nmT c, NoAttr K (g.cl c) f
end
def ixF (f : Str) : List Str → Option Nat
  | [] => none
  | n :: ns => if f = n then some 0 else (ixF f ns).map (· + 1)
theorem ixF_mem {f : Str} : ∀ {ns : List Str} {k : Nat}, ixF f ns = some k → f ∈ ns
  | n :: ns, k, h => by
    unfold ixF at h
    split at h
    · rename_i e; rw [e]; exact List.mem_cons_self
    · cases q : ixF f ns with
      | none => rw [q] at h; cases h
      | some j => exact List.mem_cons_of_mem _ (ixF_mem q)
theorem ixF_zip {f : Str} : ∀ {ns : List Str} {vs : List V} {k : Nat} {v : V}, ixF f ns = some k → vs[k]? = some v → (ns.zip vs).lookup f = some v
  | n :: ns, [], k, v, h, e => by cases e
  | n :: ns, x :: vs, k, v, h, e => by
    unfold ixF at h
    rw [List.zip_cons_cons, List.lookup_cons]
    split at h
    · rename_i c
      cases h
      rw [beq_iff_eq.mpr c]
      exact e
    · rename_i c
      rw [show (f == n) = false from by simpa using c]
      cases q : ixF f ns with
      | none => rw [q] at h; cases h
      | some j =>
        rw [q] at h
        cases h
        rw [List.getElem?_cons_succ] at e
        exact ixF_zip q e
theorem putF_old {f : Str} {y : V} : ∀ {ns : List Str} {vs : List V} {k : Nat}, ixF f ns = some k → k < vs.length → putF f y (ns.zip vs) = ns.zip (vs.set k y)
  | n :: ns, [], k, h, e => by simp at e
  | n :: ns, x :: vs, k, h, e => by
    unfold ixF at h
    rw [List.zip_cons_cons, putF]
    split at h
    · rename_i c
      cases h
      rw [if_pos c.symm]
      rfl
    · rename_i c
      rw [if_neg fun z => c z.symm]
      cases q : ixF f ns with
      | none => rw [q] at h; cases h
      | some j =>
        rw [q] at h
        cases h
        rw [putF_old q (by simpa using e)]
        rfl
theorem putF_new {f : Str} {y : V} : ∀ {ns : List Str} {vs : List V}, ixF f ns = some vs.length → putF f y (ns.zip vs) = ns.zip (vs ++ [y])
  | n :: ns, [], h => by
    unfold ixF at h
    split at h
    · rename_i c; subst c; simp [putF]
    · cases q : ixF f ns with
      | none => rw [q] at h; cases h
      | some j => rw [q] at h; cases h
  | n :: ns, x :: vs, h => by
    unfold ixF at h
    rw [List.zip_cons_cons, putF]
    split at h
    · cases h
    · rename_i c
      rw [if_neg fun z => c z.symm]
      cases q : ixF f ns with
      | none => rw [q] at h; cases h
      | some j =>
        rw [q] at h
        have hj : j = vs.length := by
          have := Option.some.inj h
          rw [List.length_cons] at this
          have e : j + 1 = vs.length + 1 := this
          omega
        subst hj
        rw [putF_new q]
        rfl
theorem not_lookup {f : Str} : ∀ {ns : List Str} {vs : List V}, f ∉ ns → (ns.zip vs).lookup f = none
  | [], vs, _ => by simp
  | n :: ns, [], _ => by simp
  | n :: ns, x :: vs, h => by
    rw [List.zip_cons_cons, List.lookup_cons, show (f == n) = false from by simpa using fun z => h (by rw [z]; exact List.mem_cons_self)]
    exact not_lookup fun z => h (List.mem_cons_of_mem _ z)
/-! ### calls -/
section
variable {K : PySem.W.Frag} {g : G} {W : WX} {E : XK} {F : Fm} {np : Nat}
def mCallA (F : Fm) (dfl : List D) (ma : M (List D)) : M D := bnd ma fun ds => callA F (ds ++ dfl)
def mCallAF (F : Fm) (dfl : List D) (ma : M (List D)) : M D := bnd ma fun ds => callAF F (ds ++ dfl)
def mCallB (F : Fm) (i : Nat) (dfl : List D) (ma : M (List D)) : M D := bnd (own i) fun _ => bnd ma fun ds => callB F i (ds ++ dfl)
theorem ev_callA {ta : TA} {ma : M (List D)} {dvs : List V} {dfl : List D} (hn : Arity np F) (ha : EvL K g (WX_of E) ta ma) (hd : ∀ H, Reps K g H dfl dvs) : EvM K g (WX_of E) (tCall (spM K g np F) dvs E ta) (mCallA F dfl ma) :=
  fun env σ Hf H s Q h => ha env σ Hf H s _ (h.bnd.imp fun ds e1 Hf1 H1 _ s1 h1 vs r => spA hn s1.sr (r.append (hd Hf1)) h1)
theorem ev_callAF {ta : TA} {ma : M (List D)} {dvs : List V} {dfl : List D} (hn : Arity np F) (ha : EvL K g (WX_of E) ta ma) (hd : ∀ H, Reps K g H dfl dvs) : EvF K g (WX_of E) (tCall (spM K g np F) dvs E ta) (mCallAF F dfl ma) := by
  intro env σ Hf H s Q h
  refine ha env σ Hf H s _ ?_
  unfold mCallAF DL.bnd at h
  revert h
  cases ma env with
  | bad => exact fun h => h
  | ex c d e => exact fun h => h
  | ok ds e =>
    intro h Hf1 H1 s1 vs r
    refine spAF hn s1.sr (r.append (hd Hf1)) (P := fun _ _ _ => True) ?_
    revert h
    show Aft K g (WX_of E) env σ Hf H (callAF F (ds ++ dfl) e) _ → _
    cases callAF F (ds ++ dfl) e with
    | bad => exact fun h => h
    | ex c d e2 => exact fun h => XGot.after s1 h
    | ok d e2 => exact fun h Hf2 H2 s2 p n => h Hf2 H2 (s1.trans s2) p ⟨n.at_, n.nf, n.no, s1.th p n.nw⟩
theorem ev_callB {i : Nat} {ta : TA} {ma : M (List D)} {dvs : List V} {dfl : List D} (hn : Arity np F) (ha : EvL K g (WX_of E) ta ma) (hd : ∀ H, Reps K g H dfl dvs) : EvM K g (WX_of E) (tCall (spM K g np F) dvs E (tCons (tVar i) ta)) (mCallB F i dfl ma) :=
  fun env σ Hf H s Q h => by
    obtain ⟨x, d, hx, mx, h1⟩ := own_ok s h.bnd
    obtain ⟨p, u, hp, _⟩ := s.mut_at hx mx
    exact ⟨_, hp, ha env σ Hf H s _ (h1.bnd.imp fun ds e1 Hf1 H1 _ s1 h1 vs r => spB hn s1.sr hp (r.append (hd Hf1)) h1)⟩
/-- C(..) -/
def mkA (F : Fm) (c : Nat) (ds : List D) : M D := fun env => match F (.pn (.ins c []) :: ds.map .sh) with
  | .ok (.rt .non) (.pn d1 :: _) => .ok d1 env
  | .ex c d _ => .ex c d env
  | _ => .bad
def mMakF (F : Fm) (c : Nat) (dfl : List D) (ma : M (List D)) : M D := bnd ma fun ds => mkA F c (ds ++ dfl)
theorem Aft.frame {α β : Type} {env : En} {σ : L2.St} {Hf H : Hp} {m : M α} {k : α → M β} {P : β → En → Hp → Hp → Prop} (h : Aft K g W env σ Hf H (DL.bnd m k env) P) :
    Aft K g W env σ Hf H (m env) fun a e Hf1 H1 => Step K g env σ Hf H e σ Hf1 H1 → (match k a e with
      | .ok b e2 => ∀ Hf2 H2, Step K g env σ Hf H e2 σ Hf2 H2 → P b e2 Hf2 H2
      | .ex c d e2 => XGot K g W env σ Hf H c d e2
      | .bad => False) := by
  unfold DL.bnd at h
  revert h
  cases m env with
  | ok a e => exact fun h Hf1 H1 s1 _ => h
  | ex c d e => exact fun h => h
  | bad => exact fun h => h
theorem ev_makF {c : Nat} {ta : TA} {ma : M (List D)} {dvs : List V} {dfl : List D} (hn : Arity np F) (ok : g.ok c = true) (ha : EvL K g (WX_of E) ta ma) (hd : ∀ H, Reps K g H dfl dvs) :
    EvF K g (WX_of E) (tMake (g.cl c) (spM K g np F) dvs E ta) (mMakF F c dfl ma) := by
  intro env σ Hf H s Q h
  refine ha env σ Hf H s _ (h.frame.imp fun ds e1 Hf1 H1 _ s1 h1 vs r x dx nx ndx ne => ?_)
  replace h1 := h1 s1
  -- the heap with the new instance
  have npd : H1 dx = none := ndx
  have w1 : Grow Hf1 H1 Hf1 (upd H1 dx (.own x)) := own_new s1.sr.ex ndx
  have nx1 : (upd H1 dx (.own x)) x = none := by rw [upd_ne (fun z => ne z.symm)]; exact nx
  have w2 : Grow Hf1 (upd H1 dx (.own x)) Hf1 (upd (upd H1 dx (.own x)) x (.ins (g.cl c) dx [])) := own_new w1.fh nx1
  have w : Grow Hf1 H1 Hf1 (upd (upd H1 dx (.own x)) x (.ins (g.cl c) dx [])) := Grow.trans (a := w1) w2
  have fx : Hf1 x = none := s1.sr.ex.back nx
  have r2 := r.append (hd Hf1)
  have srl : SR K g (.pn (.ins c []) :: (ds ++ dfl).map .sh) ((V.ref x :: (vs ++ dvs)).map some) Hf1 (upd (upd H1 dx (.own x)) x (.ins (g.cl c) dx [])) := by
    have s0 : SR K g [Sl.pn (.ins c [])] [some (V.ref x)] Hf1 (upd (upd H1 dx (.own x)) x (.ins (g.cl c) dx [])) := by
      refine ⟨w.fh, rfl, fun i y o h h' => ?_, fun i j y z a b p n1 q1 q2 m1 m2 f1 => ?_⟩
      · cases i with
        | zero =>
          cases h
          cases h'
          exact ⟨x, _, rfl, upd_same, fx, by
            have := RepO.ins (K := K) (g := g) (Hf := Hf1) (c := c) (dx := dx) (ds := []) (vs := []) .nil (Nat.zero_le _) ok
            simpa using this⟩
        | succ i => simp at h
      · have hi := (List.getElem?_eq_some_iff.mp q1).1
        have hj := (List.getElem?_eq_some_iff.mp q2).1
        simp at hi hj
        omega
    exact sr_lent (i := 0) (p := x) s0 rfl rfl rfl r2
  refine sp_of hn srl ?_
  have stepBack : ∀ {e : En} {σ' : L2.St} {Hf' H' : Hp}, Step K g (.pn (.ins c []) :: (ds ++ dfl).map .sh) ((V.ref x :: (vs ++ dvs)).map some) Hf1 (upd (upd H1 dx (.own x)) x (.ins (g.cl c) dx [])) e σ' Hf' H' → Step K g e1 σ Hf1 H1 e1 σ Hf' H' := fun {e σ' Hf' H'} st => by
    have kp : ∀ a u, H1 a = some u → Hf1 a = none → H' a = some u ∧ Hf' a = none := fun a u q q' => st.kp a u (w.h a u q) q' fun o => by
      have := own_lent.mp o
      rw [this, nx] at q
      cases q
    refine ⟨st.f, ⟨st.sr.ex, s1.sr.len, fun i y o q q' => ?_, s1.sr.ne⟩, fun a u q q' _ => kp a u q q', fun a o => .inl o, fun a q => w.h.back (st.th a q), fun i d q => ⟨⟨d, q⟩, rfl⟩, rfl⟩
    have z := s1.sr.sl i y o q q'
    cases y with
    | no => trivial
    | sh d => obtain ⟨v, e, r⟩ := z; exact ⟨v, e, r.mono st.f⟩
    | ow d => obtain ⟨p, u, e, h1, h2, r⟩ := z; obtain ⟨k1, k2⟩ := kp p u h1 h2; exact ⟨p, u, e, k1, k2, r.mono st.f⟩
    | pn d => obtain ⟨p, u, e, h1, h2, r⟩ := z; obtain ⟨k1, k2⟩ := kp p u h1 h2; exact ⟨p, u, e, k1, k2, r.mono st.f⟩
  have pn : ∀ {e : En} {σ' : L2.St} {Hf' H' : Hp}, Step K g (.pn (.ins c []) :: (ds ++ dfl).map .sh) ((V.ref x :: (vs ++ dvs)).map some) Hf1 (upd (upd H1 dx (.own x)) x (.ins (g.cl c) dx [])) e σ' Hf' H' →
      ∃ d1 rest, e = .pn d1 :: rest ∧ ∃ u, H' x = some u ∧ Hf' x = none ∧ RepO K g Hf' d1 u := fun {e σ' Hf' H'} st => by
    obtain ⟨⟨d1, h1⟩, e0⟩ := st.pn 0 _ rfl
    cases e with
    | nil => cases h1
    | cons a b =>
      cases h1
      obtain ⟨q, u, f, h1, h2, r⟩ := st.sr.at_ (i := 0) (x := .pn d1) (d := d1) rfl rfl
      rw [e0] at f
      cases f
      exact ⟨d1, b, rfl, u, h1, h2, r⟩
  unfold mkA at h1
  revert h1
  cases F (.pn (.ins c []) :: (ds ++ dfl).map .sh) with
  | bad => exact fun h => h
  | ex c' d e => exact fun h dx' v fs σ' Hf' H' st r q1 q2 q3 q4 q5 => h dx' v fs σ Hf' H' (s1.trans (stepBack st)) r q1 q2 q3 (fun o => Own.there s1.sr o (w.h.back q5)) (s1.th _ (w.h.back q5))
  | ok z e =>
    cases z with
    | rto d => exact fun h => h.elim
    | nx => exact fun h => h.elim
    | bk => exact fun h => h.elim
    | ct => exact fun h => h.elim
    | rt d =>
      intro h σ' Hf' H' st v rv
      obtain ⟨d1, rest, rfl, u, k1, k2, k3⟩ := pn st
      cases rv <;> try exact h.elim
      case non => exact ⟨rfl, h Hf' H' (s1.trans (stepBack st)) x ⟨⟨u, k1, k3⟩, k2, fun o => Own.there s1.sr o nx, s1.th x nx⟩⟩
end
end DL

set_option Elab.async false
set_option linter.all false
set_option maxRecDepth 100000
set_option maxHeartbeats 400000
namespace DL
open PySem L2 PyProof.Rows
abbrev E0 : XK := fun _ _ _ => False
theorem pas0 {X : Cx} : Passes (L2.CX X.prog X.w) X E0 := fun _ _ _ _ _ _ _ h => by
  obtain ⟨_, _, _, _, _, _, _, _, _, _, _, _, z⟩ := h
  exact z.elim
/-! ### calls of the text's defs -/
section
variable {X : Cx} {g : G} {E : XK} {x : Str} {np k j : Nat} {F : Fm} {dfl : List D} {es : List Expr} {e : Expr} {ma : M (List D)} {p pos : Pos}
theorem m_call (d : Def0 X.prog X.w X.K X.mg X.base g x np F k dfl) (hr : Room j X.A) (hx : Passes (L2.CX X.prog X.w) X E) (ha : PAM X g (WX_of E) (e :: es) ma) (hk : k ≤ j := by decide) (hg : Gl X x := by rfl) (hdb : (x == ("__debug__" : Str)) = false := by decide)
    (he : starEach (e :: es) X.env = (false, eval e X.env) :: starEach es X.env := by rfl) (hpl : (backTo pos (starEach es X.env)).any (·.1) = false := by rfl) : PEM X g (WX_of E) (.Call (.Name x p) (e :: es) [] pos) (mCallA F dfl ma) := by
  obtain ⟨t, h1, h2⟩ := ha
  obtain ⟨⟨f, fd, ps, dvs, ds, F1, hm, kp, b, v, r⟩, ar⟩ := d
  exact ⟨_, pe_call F1 (hr.mono hk) hg hm kp b v hx h1 hdb he hpl, ev_callA ar h2 r⟩
theorem m_call0 (d : Def0 X.prog X.w X.K X.mg X.base g x np F k dfl) (hr : Room j X.A) (hx : Passes (L2.CX X.prog X.w) X E) (hk : k ≤ j := by decide) (hg : Gl X x := by rfl) (hdb : (x == ("__debug__" : Str)) = false := by decide) : PEM X g (WX_of E) (.Call (.Name x p) [] [] pos) (mCallA F dfl mNil) := by
  obtain ⟨⟨f, fd, ps, dvs, ds, F1, hm, kp, b, v, r⟩, ar⟩ := d
  exact ⟨_, pe_call0 F1 (hr.mono hk) hg hm kp b v hx hdb, ev_callA ar ev_nil r⟩
theorem f_call (d : Def0 X.prog X.w X.K X.mg X.base g x np F k dfl) (hr : Room j X.A) (hx : Passes (L2.CX X.prog X.w) X E) (ha : PAM X g (WX_of E) (e :: es) ma) (hk : k ≤ j := by decide) (hg : Gl X x := by rfl) (hdb : (x == ("__debug__" : Str)) = false := by decide)
    (he : starEach (e :: es) X.env = (false, eval e X.env) :: starEach es X.env := by rfl) (hpl : (backTo pos (starEach es X.env)).any (·.1) = false := by rfl) : PEF X g (WX_of E) (.Call (.Name x p) (e :: es) [] pos) (mCallAF F dfl ma) := by
  obtain ⟨t, h1, h2⟩ := ha
  obtain ⟨⟨f, fd, ps, dvs, ds, F1, hm, kp, b, v, r⟩, ar⟩ := d
  exact ⟨_, pe_call F1 (hr.mono hk) hg hm kp b v hx h1 hdb he hpl, ev_callAF ar h2 r⟩
theorem f_call0 (d : Def0 X.prog X.w X.K X.mg X.base g x np F k dfl) (hr : Room j X.A) (hx : Passes (L2.CX X.prog X.w) X E) (hk : k ≤ j := by decide) (hg : Gl X x := by rfl) (hdb : (x == ("__debug__" : Str)) = false := by decide) : PEF X g (WX_of E) (.Call (.Name x p) [] [] pos) (mCallAF F dfl mNil) := by
  obtain ⟨⟨f, fd, ps, dvs, ds, F1, hm, kp, b, v, r⟩, ar⟩ := d
  exact ⟨_, pe_call0 F1 (hr.mono hk) hg hm kp b v hx hdb, ev_callAF ar ev_nil r⟩
/-- the first argument lent -/
theorem m_callL (i : Nat) {y : Str} {py : Pos} (d : Def0 X.prog X.w X.K X.mg X.base g x np F k dfl) (hr : Room j X.A) (hx : Passes (L2.CX X.prog X.w) X E) (ha : PAM X g (WX_of E) es ma) (hk : k ≤ j := by decide) (hg : Gl X x := by rfl)
    (hN : X.N[i]? = some y := by rfl) (hv : Vis X.env.scope y := by first | exact Or.inl rfl | exact Or.inr (Or.inl rfl) | exact Or.inr (Or.inr rfl)) (hd : (y == ("__debug__" : Str)) = false := by decide) (hcd : (y == ("__classdict__" : Str)) = false := by decide) (hdb : (x == ("__debug__" : Str)) = false := by decide)
    (he : starEach (.Name y py :: es) X.env = (false, eval (.Name y py) X.env) :: starEach es X.env := by rfl) (hpl : (backTo pos (starEach es X.env)).any (·.1) = false := by rfl) : PEM X g (WX_of E) (.Call (.Name x p) (.Name y py :: es) [] pos) (mCallB F i dfl ma) := by
  obtain ⟨t, h1, h2⟩ := ha
  obtain ⟨⟨f, fd, ps, dvs, ds, F1, hm, kp, b, v, r⟩, ar⟩ := d
  exact ⟨_, pe_call F1 (hr.mono hk) hg hm kp b v hx (pa_cons (pe_var hN hv hd hcd) h1 he) hdb he hpl, ev_callB ar h2 r⟩
/-- C(..) -/
theorem f_make {c : Nat} (d : Mak X.prog X.w X.K X.mg X.base g x c np F k dfl) (hr : Room j X.A) (hx : Passes (L2.CX X.prog X.w) X E) (ha : PAM X g (WX_of E) (e :: es) ma) (hk : k + 1 ≤ j := by decide) (hg : Gl X x := by rfl) (hdb : (x == ("__debug__" : Str)) = false := by decide)
    (he : starEach (e :: es) X.env = (false, eval e X.env) :: starEach es X.env := by rfl) (hpl : (backTo pos (starEach es X.env)).any (·.1) = false := by rfl) : PEF X g (WX_of E) (.Call (.Name x p) (e :: es) [] pos) (mMakF F c dfl ma) := by
  obtain ⟨t, h1, h2⟩ := ha
  obtain ⟨⟨f, fd, ps, dvs, ds, F1, mk, hm, b, v, r⟩, ok, ar⟩ := d
  exact ⟨_, pe_make mk F1 (hr.mono hk) hg hm b v hx h1 hdb he hpl, ev_makF ar ok h2 r⟩
theorem f_make0 {c : Nat} (d : Mak X.prog X.w X.K X.mg X.base g x c np F k dfl) (hr : Room j X.A) (hx : Passes (L2.CX X.prog X.w) X E) (hk : k + 1 ≤ j := by decide) (hg : Gl X x := by rfl) (hdb : (x == ("__debug__" : Str)) = false := by decide) : PEF X g (WX_of E) (.Call (.Name x p) [] [] pos) (mMakF F c dfl mNil) := by
  obtain ⟨⟨f, fd, ps, dvs, ds, F1, mk, hm, b, v, r⟩, ok, ar⟩ := d
  exact ⟨_, pe_make0 mk F1 (hr.mono hk) hg hm b v hx hdb, ev_makF ar ok ev_nil r⟩
end
/-! ### fields -/
def fldD (f : Str) : D → Option D
  | .ins c ds => (ixF f (nmT c)).bind fun k => ds[k]?
  | _ => none
/-- the text's classes: their fields are no names of the class -/
def AllFld (K : PySem.W.Frag) (g : G) : Prop := ∀ c, g.ok c = true → Fld K g c
section
variable {K : PySem.W.Frag} {g : G} {W : WX} {E : XK}
def rFld (K : PySem.W.Frag) (f : Str) : V → Hp → VK → Prop := fun x H1 Q => ∃ a C dx fs v, x = .ref a ∧ H1 a = some (.ins C dx fs) ∧ Cls K C ∧ NoAttr K C f ∧ fs.lookup f = some v ∧ Q v H1
theorem ru_fld (A : AllFld K g) (f : Str) : RuOk K g (rFld K f) (fldD f) := fun Hf H x dx Q e r h => by
  cases r <;> try exact h.elim
  case ins a dx' c ds vs ha hv hl ok =>
    dsimp only [fldD] at h
    cases q : ixF f (nmT c) with
    | none => rw [q] at h; exact h.elim
    | some k =>
      rw [q] at h
      dsimp only [Option.bind] at h
      cases q2 : ds[k]? with
      | none => rw [q2] at h; exact h.elim
      | some d =>
        rw [q2] at h
        obtain ⟨v, e1, r1⟩ := Reps.getD hv q2
        have F := A c ok
        exact ⟨a, g.cl c, dx', _, v, rfl, e _ _ ha, F.cl, F.no f (ixF_mem q), ixF_zip q e1, h v Hf H (Grow.refl e) r1⟩
theorem ev_fldS (A : AllFld K g) (f : Str) (i : Nat) : EvM K g W (tFld K (tVar i) f) (bnd (own i) fun d => lft (fldD f d)) := fun env σ Hf H s Q h => by
  obtain ⟨x, d, hx, mx, h1⟩ := own_ok s h.bnd
  obtain ⟨p, u, hp, hu, ru⟩ := s.mut_at hx mx
  obtain ⟨z, hz, k⟩ := Aft.lft s h1
  cases ru <;> try (cases hz; done)
  case ins c dx ds vs hv hl ok =>
    dsimp only [fldD] at hz
    cases q : ixF f (nmT c) with
    | none => rw [q] at hz; cases hz
    | some j =>
      rw [q] at hz
      dsimp only [Option.bind] at hz
      obtain ⟨v, e1, r1⟩ := Reps.getD hv hz
      have F := A c ok
      exact ⟨_, hp, p, g.cl c, dx, _, v, rfl, hu, F.cl, F.no f (ixF_mem q), ixF_zip q e1, k Hf H (Grow.refl s.ex) v r1⟩
def putD (f : Str) (z : D) : D → Option D
  | .ins c ds => (ixF f (nmT c)).bind fun k => if k < ds.length then some (.ins c (ds.set k z)) else if k = ds.length then some (.ins c (ds ++ [z])) else none
  | _ => none
/-- x.f = e, x our own -/
def sFldS (f : Str) (i : Nat) (m : M D) : S := bnd m fun z => bnd (own i) fun d => match putD f z d with
  | some d' => fun env => .ok .nx (mdf i d' env)
  | none => fun _ => .bad
theorem ixF_lt {f : Str} : ∀ {ns : List Str} {k : Nat}, ixF f ns = some k → k < ns.length
  | n :: ns, k, h => by
    unfold ixF at h
    split at h
    · cases h; simp
    · cases q : ixF f ns with
      | none => rw [q] at h; cases h
      | some j => rw [q] at h; cases h; simpa using ixF_lt q
theorem nm_le (c : Nat) : (nmT c).length ≤ 10 := by
  rw [nmN_eq]
  unfold nmN
  split <;> decide
theorem ev_sfld (A : AllFld K g) {f : Str} {i : Nat} {te : TE} {m : M D} (he : EvM K g W te m) : EvS K g W (sFld K (tVar i) te f) (sFldS f i m) := fun env σ Hf H s Z h => by
  refine he env σ Hf H s _ (h.bnd.imp fun z e1 Hf1 H1 _ s1 h1 v rv => ?_)
  obtain ⟨x, d, hx, mx, h2⟩ := own_okS s1.sr h1
  obtain ⟨p, u, hp, hu, ru⟩ := s1.sr.mut_at hx mx
  cases ru <;> try exact h2.elim
  case ins c dx ds vs hv hl ok =>
    have F := A c ok
    dsimp only [putD] at h2
    cases q : ixF f (nmT c) with
    | none => rw [q] at h2; exact h2.elim
    | some k =>
      rw [q] at h2
      dsimp only [Option.bind] at h2
      refine ⟨_, hp, p, g.cl c, dx, _, rfl, hu, F.cl, F.no f (ixF_mem q), by
        rw [List.length_zip]
        have := nm_le c
        omega, ?_⟩
      by_cases b1 : k < ds.length
      · rw [if_pos b1] at h2
        rw [putF_old q (by rw [← hv.len]; exact b1)]
        exact h2 σ Hf1 _ (step_mut s1.sr hx mx hp (.ins (hv.set k rv) (by rw [List.length_set]; exact hl) ok))
      · rw [if_neg b1] at h2
        by_cases b2 : k = ds.length
        · rw [if_pos b2] at h2
          rw [putF_new (by rw [q, b2, hv.len])]
          exact h2 σ Hf1 _ (step_mut s1.sr hx mx hp (.ins (hv.append (.cons rv .nil)) (by
            rw [List.length_append, List.length_singleton, ← b2]
            exact ixF_lt q) ok))
        · rw [if_neg b2] at h2
          exact h2.elim
end
section
variable {X : Cx} {g : G} {W : WX} {e : Expr} {m : M D} {f x : Str} {pos p1 pos' : Pos}
theorem m_fld (A : AllFld X.K g) (h : PEM X g W e m) (hb : attributeBase e f X.env (eval e X.env) = eval e X.env := by rfl) : PEM X g W (.Attribute e f pos) (mUn (fldD f) m) := by
  obtain ⟨t, h1, h2⟩ := h
  exact ⟨_, pe_fld h1 hb, (ru_fld A f).ev h2⟩
theorem m_fldS (i : Nat) (A : AllFld X.K g) (hN : X.N[i]? = some x := by rfl) (hv : Vis X.env.scope x := by first | exact Or.inl rfl | exact Or.inr (Or.inl rfl) | exact Or.inr (Or.inr rfl)) (hd : (x == ("__debug__" : Str)) = false := by decide) (hcd : (x == ("__classdict__" : Str)) = false := by decide)
    (hb : attributeBase (.Name x p1) f X.env (eval (.Name x p1) X.env) = eval (.Name x p1) X.env := by rfl) : PEM X g W (.Attribute (.Name x p1) f pos) (bnd (own i) fun d => lft (fldD f d)) :=
  ⟨_, pe_fld (pe_var hN hv hd hcd) hb, ev_fldS A f i⟩
theorem s_fld (i : Nat) (A : AllFld X.K g) (h : PEM X g W e m) (hN : X.N[i]? = some x := by rfl) (hv : Vis X.env.scope x := by first | exact Or.inl rfl | exact Or.inr (Or.inl rfl) | exact Or.inr (Or.inr rfl)) (hd : (x == ("__debug__" : Str)) = false := by decide) (hcd : (x == ("__classdict__" : Str)) = false := by decide)
    (hs : swapsWith e (some (.Attribute (.Name x p1) f pos')) pos.line X.env = pure false := by rfl) : PSM X g W (.Assign [.Attribute (.Name x p1) f pos'] e pos) (sFldS f i m) := by
  obtain ⟨t, h1, h2⟩ := h
  exact ⟨_, ps_fld (pe_var hN hv hd hcd) h1 hs, ev_sfld A h2⟩
end
end DL

set_option Elab.async false
set_option linter.all false
set_option maxRecDepth 100000
set_option maxHeartbeats 400000
namespace DL
open PySem L2 PyProof.Rows
/-! ### by the class of a value -/
def cand {α : Type} (L : List (Nat × α)) : D → Option α
  | .ins c _ => L.lookup c
  | _ => none
theorem lookup_mem {α : Type} {c : Nat} {q : α} : ∀ {L : List (Nat × α)}, L.lookup c = some q → (c, q) ∈ L
  | a :: L, h => by
    rw [List.lookup_cons] at h
    by_cases e : c = a.1
    · rw [beq_iff_eq.mpr e] at h
      obtain ⟨c', q'⟩ := a
      dsimp only at h e
      cases h
      cases e
      exact List.mem_cons_self
    · rw [show (c == a.1) = false from by simpa using e] at h
      exact List.mem_cons_of_mem _ (lookup_mem h)
theorem cand_some {α : Type} {L : List (Nat × α)} {d : D} {q : α} (h : cand L d = some q) : ∃ c ds, d = .ins c ds ∧ (c, q) ∈ L := by
  cases d <;> try (cases h; done)
  case ins c ds => exact ⟨c, ds, rfl, lookup_mem h⟩
/-- a promise, whatever stands for the defaults -/
def SpD (K : PySem.W.Frag) (g : G) (F : Fm) (dfl : List D) : Sp := fun vs H Q E => ∀ (dvs : List V) (np : Nat), (∀ H, Reps K g H dfl dvs) → Arity np F → spM K g np F (vs ++ dvs) H Q E
section
variable {K : PySem.W.Frag} {g : G} {E : XK} {env : En} {σ : L2.St} {Hf H : Hp} {F : Fm}
theorem spD_A {ds dfl : List D} {vs : List V} {Q : VK} (s : SR K g env σ Hf H) (r : Reps K g Hf ds vs) (h : Aft K g (WX_of E) env σ Hf H (callA F (ds ++ dfl) env) fun d _ Hf' H' => ∀ v, Rep K g Hf' d v → Q v H') : SpD K g F dfl vs H Q E :=
  fun dvs np hd ar => spA ar s (r.append (hd Hf)) h
theorem spD_B {ds dfl : List D} {vs : List V} {i : Nat} {p : Addr} {Q : VK} (s : SR K g env σ Hf H) (hp : σ[i]? = some (some (.ref p))) (r : Reps K g Hf ds vs) (h : Aft K g (WX_of E) env σ Hf H (callB F i (ds ++ dfl) env) fun d _ Hf' H' => ∀ v, Rep K g Hf' d v → Q v H') : SpD K g F dfl (.ref p :: vs) H Q E :=
  fun dvs np hd ar => spB ar s hp (r.append (hd Hf)) h
end
/-! ### methods -/
section
variable (P : Program) (w : World) (K : PySem.W.Frag) (mg : Str → Option Value) (base : Heap) (g : G)
def AllM (j : Nat) (m : Str) (L : List (Nat × (Fm × List D))) : Prop := ∀ p ∈ L, ∃ k, k ≤ j ∧ Mth P w K mg base g p.1 m p.2.1 k p.2.2
def AllP (j : Nat) (m : Str) (L : List (Nat × Fm)) : Prop := ∀ p ∈ L, ∃ k, k + 1 ≤ j ∧ Prp P w K mg base g p.1 m p.2 k
def AllO (d j : Nat) (m : Str) (np : Nat) (L : List (Nat × Fm)) : Prop := ∀ p ∈ L, ∃ k, k + d ≤ j ∧ Opr P w K mg base g p.1 m np p.2 k
end
section
variable {P : Program} {w : World} {K : PySem.W.Frag} {mg : Str → Option Value} {base : Heap} {g : G} {d j k c np : Nat} {m : Str} {F : Fm} {dfl : List D}
theorem AllM.nil : AllM P w K mg base g j m [] := fun _ h => by cases h
theorem AllM.cons {L : List (Nat × (Fm × List D))} (h : Mth P w K mg base g c m F k dfl) (t : AllM P w K mg base g j m L) (hk : k ≤ j := by decide) : AllM P w K mg base g j m ((c, F, dfl) :: L) := fun p hp => by
  rcases List.mem_cons.mp hp with rfl | hp
  · exact ⟨k, hk, h⟩
  · exact t p hp
theorem AllP.nil : AllP P w K mg base g j m [] := fun _ h => by cases h
theorem AllP.cons {L : List (Nat × Fm)} (h : Prp P w K mg base g c m F k) (t : AllP P w K mg base g j m L) (hk : k + 1 ≤ j := by decide) : AllP P w K mg base g j m ((c, F) :: L) := fun p hp => by
  rcases List.mem_cons.mp hp with rfl | hp
  · exact ⟨k, hk, h⟩
  · exact t p hp
theorem AllO.nil : AllO P w K mg base g d j m np [] := fun _ h => by cases h
theorem AllO.cons {L : List (Nat × Fm)} (h : Opr P w K mg base g c m np F k) (t : AllO P w K mg base g d j m np L) (hk : k + d ≤ j := by decide) : AllO P w K mg base g d j m np ((c, F) :: L) := fun p hp => by
  rcases List.mem_cons.mp hp with rfl | hp
  · exact ⟨k, hk, h⟩
  · exact t p hp
end
def mMeth (L : List (Nat × (Fm × List D))) (mo : M D) (ma : M (List D)) : M D := bnd mo fun o => match cand L o with
  | some q => bnd ma fun ds => callA q.1 (o :: (ds ++ q.2))
  | none => fun _ => .bad
def mMethB (L : List (Nat × (Fm × List D))) (i : Nat) (ma : M (List D)) : M D := bnd (own i) fun o => match cand L o with
  | some q => bnd ma fun ds => callB q.1 i (ds ++ q.2)
  | none => fun _ => .bad
def mPrp (L : List (Nat × Fm)) (mo : M D) : M D := bnd mo fun o => match cand L o with
  | some F => nox (callA F [o])
  | none => fun _ => .bad
def tMethL (K : PySem.W.Frag) (g : G) (m : Str) (L : List (Nat × (Fm × List D))) (E : XK) (ta : TE) (t : TA) : TE := fun σ H Q => ta σ H fun x H1 => ∃ p ∈ L, ∃ a dx fs, x = .ref a ∧ H1 a = some (.ins (g.cl p.1) dx fs) ∧ fs.lookup m = none ∧
  t σ H1 fun vs H2 => SpD K g p.2.1 p.2.2 (x :: vs) H2 Q E
def tPrpL (K : PySem.W.Frag) (g : G) (L : List (Nat × Fm)) (ta : TE) : TE := fun σ H Q => ta σ H fun x H1 => ∃ p ∈ L, ∃ a dx fs, x = .ref a ∧ H1 a = some (.ins (g.cl p.1) dx fs) ∧ SpD K g p.2 [] [x] H1 Q E0
section
variable {K : PySem.W.Frag} {g : G} {W : WX} {E : XK} {m : Str}
theorem ev_meth {L : List (Nat × (Fm × List D))} {to : TE} {ta : TA} {mo : M D} {ma : M (List D)} (hn : ∀ p ∈ L, m ∉ nmT p.1) (ho : EvM K g (WX_of E) to mo) (ha : EvL K g (WX_of E) ta ma) : EvM K g (WX_of E) (tMethL K g m L E to ta) (mMeth L mo ma) :=
  fun env σ Hf H s Q h => ho env σ Hf H s _ (h.bnd.imp fun o e1 Hf1 H1 _ s1 h1 x rx => by
    cases q : cand L o with
    | none => rw [q] at h1; exact h1.elim
    | some q' =>
      rw [q] at h1
      obtain ⟨c, ds, rfl, mem⟩ := cand_some q
      have rx' := rx
      cases rx with
      | @ins a dx _ _ vs hx hv hl ok =>
        exact ⟨_, mem, a, dx, _, rfl, s1.sr.ex _ _ hx, not_lookup (hn _ mem), ha e1 σ Hf1 H1 s1.sr _ (h1.bnd.imp fun zs e2 Hf2 H2 _ s2 h2 ws r => spD_A s2.sr (.cons (rx'.mono s2.f) r) h2)⟩)
theorem ev_methB {L : List (Nat × (Fm × List D))} {i : Nat} {ta : TA} {ma : M (List D)} (hn : ∀ p ∈ L, m ∉ nmT p.1) (ha : EvL K g (WX_of E) ta ma) : EvM K g (WX_of E) (tMethL K g m L E (tVar i) ta) (mMethB L i ma) :=
  fun env σ Hf H s Q h => by
    obtain ⟨x, d, hx, mx, h1⟩ := own_ok s h.bnd
    obtain ⟨p, u, hp, hu, ru⟩ := s.mut_at hx mx
    cases q : cand L d with
    | none => rw [q] at h1; exact h1.elim
    | some q' =>
      rw [q] at h1
      obtain ⟨c, ds, rfl, mem⟩ := cand_some q
      cases ru with
      | ins hv hl ok =>
        exact ⟨_, hp, _, mem, p, _, _, rfl, hu, not_lookup (hn _ mem), ha env σ Hf H s _ (h1.bnd.imp fun zs e2 Hf2 H2 _ s2 h2 ws r => spD_B s2.sr hp r h2)⟩
theorem Aft.nox {α : Type} {env : En} {σ : L2.St} {Hf H : Hp} {m : M α} {P : α → En → Hp → Hp → Prop} (h : Aft K g W env σ Hf H (DL.nox m env) P) : Aft K g (WX_of E0) env σ Hf H (m env) P := by
  unfold DL.nox at h
  revert h
  cases m env with
  | ok a e => exact fun h => h
  | ex c d e => exact fun h => h.elim
  | bad => exact fun h => h
theorem ev_prp {L : List (Nat × Fm)} {to : TE} {mo : M D} (ho : EvM K g W to mo) : EvM K g W (tPrpL K g L to) (mPrp L mo) :=
  fun env σ Hf H s Q h => ho env σ Hf H s _ (h.bnd.imp fun o e1 Hf1 H1 _ s1 h1 x rx => by
    cases q : cand L o with
    | none => rw [q] at h1; exact h1.elim
    | some q' =>
      rw [q] at h1
      obtain ⟨c, ds, rfl, mem⟩ := cand_some q
      have rx' := rx
      cases rx with
      | @ins a dx _ _ vs hx hv hl ok =>
        exact ⟨_, mem, a, dx, _, rfl, s1.sr.ex _ _ hx, spD_A (dfl := []) s1.sr (.cons rx' .nil) (Aft.nox h1)⟩)
end
section
variable {X : Cx} {g : G} {W : WX} {E : XK} {j : Nat} {o e : Expr} {es : List Expr} {m f : Str} {mo : M D} {ma : M (List D)} {pos apos : Pos} {ta : TE} {t : TA} {pl : Sem Bool}
theorem AllM.no {L : List (Nat × (Fm × List D))} (h : AllM X.prog X.w X.K X.mg X.base g j m L) : ∀ p ∈ L, m ∉ nmT p.1 := fun p hp => let ⟨_, _, q⟩ := h p hp; q.no
theorem pe_methL {L : List (Nat × (Fm × List D))} (hL : AllM X.prog X.w X.K X.mg X.base g j m L) (he : PE X o ta) (hr : Room j X.A) (hx : Passes (L2.CX X.prog X.w) X E) (ha : PA X (e :: es) t)
    (hst : starEach (e :: es) X.env = (false, eval e X.env) :: starEach es X.env) (hpl : (backTo pos (starEach es X.env)).any (·.1) = false)
    (ht : eval (.Call (.Attribute o m apos) (e :: es) [] pos) X.env = (do
      let ov ← eval o X.env
      standAt apos.atName
      let (f, first) ← holding [ov] (getMethod ov m pl)
      callWith pos f first (backTo pos (starEach (e :: es) X.env)) (backToKw pos (keywordEach [] X.env)))) : PE X (.Call (.Attribute o m apos) (e :: es) [] pos) (tMethL X.K g m L E ta t) := by
  refine ⟨fun pins s σ H Q I h => ?_⟩
  refine PySem.W.methodCall_KW (pl := pl) (thn (he.run pins s σ H _ I h) fun u s1 ⟨x, H1, I1, rx, p, hp, a, dx, fs, ex, ea, l, q⟩ => ?_) ht
  subst ex
  obtain rfl : u = Value.ref a := rx
  obtain ⟨k, hk, ⟨fa, fd, ps, dvs, ds, np, F, hm, b, v, r, ar⟩, c, no⟩ := hL p hp
  refine getmeth_ok I1 ea c hm l ?_
  refine PySem.W.callWith_K (first := [.ref a]) (h₀ := X.base) I.ok.mod.kin hm.kp (thn (ha.run pos pins s1 σ H1 _ I1 q) fun us s2 ⟨vs, H2, I2, r2, q2⟩ => ⟨I2.kIn, ?_⟩) hst hpl
  exact run_fn (us := .ref a :: us) (vs := .ref a :: vs) F (hr.mono hk) b v hx I2 (.cons rfl r2) (q2 dvs np r ar)
theorem pe_methL0 {L : List (Nat × (Fm × List D))} (hL : AllM X.prog X.w X.K X.mg X.base g j m L) (he : PE X o ta) (hr : Room j X.A) (hx : Passes (L2.CX X.prog X.w) X E)
    (ht : eval (.Call (.Attribute o m apos) [] [] pos) X.env = (do
      let ov ← eval o X.env
      standAt apos.atName
      let (f, first) ← holding [ov] (getMethod ov m pl)
      callWith pos f first (backTo pos (starEach [] X.env)) (backToKw pos (keywordEach [] X.env)))) : PE X (.Call (.Attribute o m apos) [] [] pos) (tMethL X.K g m L E ta tNil) := by
  refine ⟨fun pins s σ H Q I h => ?_⟩
  refine PySem.W.methodCall_KW (pl := pl) (thn (he.run pins s σ H _ I h) fun u s1 ⟨x, H1, I1, rx, p, hp, a, dx, fs, ex, ea, l, q⟩ => ?_) ht
  subst ex
  obtain rfl : u = Value.ref a := rx
  obtain ⟨k, hk, ⟨fa, fd, ps, dvs, ds, np, F, hm, b, v, r, ar⟩, c, no⟩ := hL p hp
  refine getmeth_ok I1 ea c hm l ?_
  exact PySem.W.callWith_K0 (first := [.ref a]) I1.kIn hm.kp (run_fn (us := [.ref a]) (vs := [.ref a]) F (hr.mono hk) b v hx I1 (.cons rfl .nil) (q dvs np r ar))
theorem m_meth {L : List (Nat × (Fm × List D))} (hL : AllM X.prog X.w X.K X.mg X.base g j m L) (ho : PEM X g (WX_of E) o mo) (hr : Room j X.A) (hx : Passes (L2.CX X.prog X.w) X E) (ha : PAM X g (WX_of E) (e :: es) ma)
    (hst : starEach (e :: es) X.env = (false, eval e X.env) :: starEach es X.env := by rfl) (hpl : (backTo pos (starEach es X.env)).any (·.1) = false := by rfl)
    (ht : eval (.Call (.Attribute o m apos) (e :: es) [] pos) X.env = (do
      let ov ← eval o X.env
      standAt apos.atName
      let (f, first) ← holding [ov] (getMethod ov m pl)
      callWith pos f first (backTo pos (starEach (e :: es) X.env)) (backToKw pos (keywordEach [] X.env))) := by rfl) : PEM X g (WX_of E) (.Call (.Attribute o m apos) (e :: es) [] pos) (mMeth L mo ma) := by
  obtain ⟨u, h1, h2⟩ := ho
  obtain ⟨t, h3, h4⟩ := ha
  exact ⟨_, pe_methL hL h1 hr hx h3 hst hpl ht, ev_meth hL.no h2 h4⟩
theorem m_meth0 {L : List (Nat × (Fm × List D))} (hL : AllM X.prog X.w X.K X.mg X.base g j m L) (ho : PEM X g (WX_of E) o mo) (hr : Room j X.A) (hx : Passes (L2.CX X.prog X.w) X E)
    (ht : eval (.Call (.Attribute o m apos) [] [] pos) X.env = (do
      let ov ← eval o X.env
      standAt apos.atName
      let (f, first) ← holding [ov] (getMethod ov m pl)
      callWith pos f first (backTo pos (starEach [] X.env)) (backToKw pos (keywordEach [] X.env))) := by rfl) : PEM X g (WX_of E) (.Call (.Attribute o m apos) [] [] pos) (mMeth L mo mNil) := by
  obtain ⟨u, h1, h2⟩ := ho
  exact ⟨_, pe_methL0 hL h1 hr hx ht, ev_meth hL.no h2 ev_nil⟩
theorem m_methL (i : Nat) {x : Str} {p1 : Pos} {L : List (Nat × (Fm × List D))} (hL : AllM X.prog X.w X.K X.mg X.base g j m L) (hr : Room j X.A) (hx : Passes (L2.CX X.prog X.w) X E) (ha : PAM X g (WX_of E) (e :: es) ma)
    (hN : X.N[i]? = some x := by rfl) (hv : Vis X.env.scope x := by first | exact Or.inl rfl | exact Or.inr (Or.inl rfl) | exact Or.inr (Or.inr rfl)) (hd : (x == ("__debug__" : Str)) = false := by decide) (hcd : (x == ("__classdict__" : Str)) = false := by decide)
    (hst : starEach (e :: es) X.env = (false, eval e X.env) :: starEach es X.env := by rfl) (hpl : (backTo pos (starEach es X.env)).any (·.1) = false := by rfl)
    (ht : eval (.Call (.Attribute (.Name x p1) m apos) (e :: es) [] pos) X.env = (do
      let ov ← eval (.Name x p1) X.env
      standAt apos.atName
      let (f, first) ← holding [ov] (getMethod ov m pl)
      callWith pos f first (backTo pos (starEach (e :: es) X.env)) (backToKw pos (keywordEach [] X.env))) := by rfl) : PEM X g (WX_of E) (.Call (.Attribute (.Name x p1) m apos) (e :: es) [] pos) (mMethB L i ma) := by
  obtain ⟨t, h3, h4⟩ := ha
  exact ⟨_, pe_methL hL (pe_var hN hv hd hcd) hr hx h3 hst hpl ht, ev_methB hL.no h4⟩
theorem m_methL0 (i : Nat) {x : Str} {p1 : Pos} {L : List (Nat × (Fm × List D))} (hL : AllM X.prog X.w X.K X.mg X.base g j m L) (hr : Room j X.A) (hx : Passes (L2.CX X.prog X.w) X E)
    (hN : X.N[i]? = some x := by rfl) (hv : Vis X.env.scope x := by first | exact Or.inl rfl | exact Or.inr (Or.inl rfl) | exact Or.inr (Or.inr rfl)) (hd : (x == ("__debug__" : Str)) = false := by decide) (hcd : (x == ("__classdict__" : Str)) = false := by decide)
    (ht : eval (.Call (.Attribute (.Name x p1) m apos) [] [] pos) X.env = (do
      let ov ← eval (.Name x p1) X.env
      standAt apos.atName
      let (f, first) ← holding [ov] (getMethod ov m pl)
      callWith pos f first (backTo pos (starEach [] X.env)) (backToKw pos (keywordEach [] X.env))) := by rfl) : PEM X g (WX_of E) (.Call (.Attribute (.Name x p1) m apos) [] [] pos) (mMethB L i mNil) :=
  ⟨_, pe_methL0 hL (pe_var hN hv hd hcd) hr hx ht, ev_methB hL.no ev_nil⟩
theorem m_prp {L : List (Nat × Fm)} (hL : AllP X.prog X.w X.K X.mg X.base g j f L) (ho : PEM X g W o mo) (hr : Room j X.A) (hb : attributeBase o f X.env (eval o X.env) = eval o X.env := by rfl) : PEM X g W (.Attribute o f pos) (mPrp L mo) := by
  obtain ⟨u, h1, h2⟩ := ho
  refine ⟨_, ⟨fun pins s σ H Q I h => ?_⟩, ev_prp (L := L) h2⟩
  refine attr_of hb (thn (h1.run pins s σ H _ I h) fun u s1 ⟨x, H1, I1, rx, p, hp, a, dx, fs, ex, ea, q⟩ => ?_)
  subst ex
  obtain rfl : u = Value.ref a := rx
  obtain ⟨k, hk, ⟨pa, fa, fd, ps, F, hpr, b⟩, c, ar⟩ := hL p hp
  exact getprop_ok I1 ea c hpr F (hr.mono hk) b .nil pas0 (q [] 1 (fun _ => .nil) ar)
end
end DL

set_option Elab.async false
set_option linter.all false
set_option maxRecDepth 100000
set_option maxHeartbeats 400000
namespace DL
open PySem L2 PyProof.Rows
/-! ### own operators -/
def RvA (K : PySem.W.Frag) (g : G) (E : XK) (r : R2) (f : D → D → M D) : Prop := ∀ env σ Hf H, SR K g env σ Hf H → ∀ x y dx dy Q, Rep K g Hf dx x → Rep K g Hf dy y →
  Aft K g (WX_of E) env σ Hf H (f dx dy env) (fun d _ Hf' H' => ∀ v, Rep K g Hf' d v → Q v H') → r x y H Q
def RuA (K : PySem.W.Frag) (g : G) (E : XK) (r : V → Hp → VK → Prop) (f : D → M D) : Prop := ∀ env σ Hf H, SR K g env σ Hf H → ∀ x dx Q, Rep K g Hf dx x →
  Aft K g (WX_of E) env σ Hf H (f dx env) (fun d _ Hf' H' => ∀ v, Rep K g Hf' d v → Q v H') → r x H Q
def RcA (K : PySem.W.Frag) (g : G) (E : XK) (r : List V → Hp → VK → Prop) (f : List D → M D) : Prop := ∀ env σ Hf H, SR K g env σ Hf H → ∀ xs ds Q, Reps K g Hf ds xs →
  Aft K g (WX_of E) env σ Hf H (f ds env) (fun d _ Hf' H' => ∀ v, Rep K g Hf' d v → Q v H') → r xs H Q
section
variable {K : PySem.W.Frag} {g : G} {E : XK}
theorem RvOk.a {r : R2} {f : D → D → Option D} (h : RvOk K g r f) : RvA K g E r (fun x y => lft (f x y)) := fun env σ Hf H s x y dx dy Q r1 r2 q => by
  obtain ⟨z, hz, k⟩ := Aft.lft s q
  refine h Hf H x y dx dy Q s.ex r1 r2 ?_
  rw [hz]
  exact fun v Hf' H' w r => k Hf' H' w v r
theorem RuOk.a {r : V → Hp → VK → Prop} {f : D → Option D} (h : RuOk K g r f) : RuA K g E r (fun x => lft (f x)) := fun env σ Hf H s x dx Q r1 q => by
  obtain ⟨z, hz, k⟩ := Aft.lft s q
  refine h Hf H x dx Q s.ex r1 ?_
  rw [hz]
  exact fun v Hf' H' w r => k Hf' H' w v r
theorem RcOk.a {r : List V → Hp → VK → Prop} {f : List D → Option D} (h : RcOk K g r f) : RcA K g E r (fun x => lft (f x)) := fun env σ Hf H s x dx Q r1 q => by
  obtain ⟨z, hz, k⟩ := Aft.lft s q
  refine h Hf H x dx Q s.ex r1 ?_
  rw [hz]
  exact fun v Hf' H' w r => k Hf' H' w v r
theorem RvA.ev {r : R2} {f : D → D → M D} {ta tb : TE} {ma mb : M D} (hr : RvA K g E r f) (ha : EvM K g (WX_of E) ta ma) (hb : EvM K g (WX_of E) tb mb) : EvM K g (WX_of E) (tOp r ta tb) (bnd ma fun x => bnd mb fun y => f x y) :=
  fun env σ Hf H s Q h => ha env σ Hf H s _ (h.bnd.imp fun x e1 Hf1 H1 _ s1 h1 v r1 => hb e1 σ Hf1 H1 s1.sr _ (h1.bnd.imp fun y e2 Hf2 H2 _ s2 h2 w r2 => hr e2 σ Hf2 H2 s2.sr v w x y Q (r1.mono s2.f) r2 h2))
theorem RuA.ev {r : V → Hp → VK → Prop} {f : D → M D} {ta : TE} {ma : M D} (hr : RuA K g E r f) (ha : EvM K g (WX_of E) ta ma) : EvM K g (WX_of E) (tUn r ta) (bnd ma f) :=
  fun env σ Hf H s Q h => ha env σ Hf H s _ (h.bnd.imp fun x e1 Hf1 H1 _ s1 h1 v r1 => hr e1 σ Hf1 H1 s1.sr v x Q r1 h1)
theorem RcA.ev {r : List V → Hp → VK → Prop} {f : List D → M D} {ta : TA} {ma : M (List D)} (hr : RcA K g E r f) (ha : EvL K g (WX_of E) ta ma) : EvM K g (WX_of E) (tCB r ta) (bnd ma f) :=
  fun env σ Hf H s Q h => ha env σ Hf H s _ (h.bnd.imp fun x e1 Hf1 H1 _ s1 h1 v r1 => hr e1 σ Hf1 H1 s1.sr v x Q r1 h1)
/-- x op y, by the class of x -/
def okY : D → D → Bool
  | .ins c _, .ins c' _ => c == c'
  | .ins _ _, .int _ => true
  | _, _ => false
def mOpO (L : List (Nat × Fm)) (f : D → D → Option D) (x y : D) : M D := match cand L x with
  | some F => if okY x y = true then callA F [x, y] else fun _ => .bad
  | none => lft (f x y)
def OwnY (H : Hp) (C : Addr) (y : V) : Prop := (∃ b dy gs, y = .ref b ∧ H b = some (.ins C dy gs)) ∨ ∃ i, y = .int i
def rOwnB (K : PySem.W.Frag) (g : G) (L : List (Nat × Fm)) (E : XK) : R2 := fun x y H Q => ∃ p ∈ L, ∃ a dx fs, x = .ref a ∧ H a = some (.ins (g.cl p.1) dx fs) ∧ OwnY H (g.cl p.1) y ∧ SpD K g p.2 [] [x, y] H Q E
theorem rv_opO {L : List (Nat × Fm)} {r : R2} {f : D → D → Option D} (h : RvOk K g r f) : RvA K g E (fun x y H Q => r x y H Q ∨ rOwnB K g L E x y H Q) (mOpO L f) := fun env σ Hf H s x y dx dy Q r1 r2 q => by
  unfold mOpO at q
  cases hc : cand L dx with
  | none => rw [hc] at q; exact .inl (h.a env σ Hf H s x y dx dy Q r1 r2 q)
  | some F =>
    rw [hc] at q
    dsimp only at q
    by_cases ok : okY dx dy = true
    · rw [if_pos ok] at q
      obtain ⟨c, ds, rfl, mem⟩ := cand_some hc
      right
      have r1' := r1
      cases r1 with
      | @ins a dxa _ _ vs hx hv hl okc =>
        refine ⟨_, mem, a, dxa, _, rfl, s.ex _ _ hx, ?_, spD_A (dfl := []) s (.cons r1' (.cons r2 .nil)) q⟩
        cases dy <;> try (cases ok; done)
        case int i => cases r2; exact .inr ⟨i, rfl⟩
        case ins c' ds' =>
          obtain rfl : c = c' := by simpa [okY] using ok
          cases r2 with
          | @ins b dyb _ _ vs' hx' hv' hl' okc' => exact .inl ⟨b, dyb, _, rfl, s.ex _ _ hx'⟩
    · rw [if_neg ok] at q
      exact q.elim
/-- what an own operator wants of the class -/
structure OpB (K : PySem.W.Frag) (C : Addr) (op : Operator) : Prop where
  sf : PySem.W.selfFirst K C = true
  nr : PySem.W.findIn K (.ref C) (dunderR op.info.2) = some none
  i1 : ∃ fo, PySem.W.findIn K (.type "int") (PySem.dunder op.info.2) = some fo
  i2 : ∃ ro, PySem.W.findIn K (.type "int") (dunderR op.info.2) = some ro
  sb : PySem.W.subIn K (.type "int") (.ref C) = some false
end
section
variable {X : Cx} {g : G} {E : XK} {j np : Nat} {m : Str} {L : List (Nat × Fm)}
/-- the own def, called with values, at the running body or in a builtin below it -/
theorem run_opr {A : Around} {pins : List (Addr × Obj)} {σ : L2.St} {H : Hp} {s : Shared} {k : Nat} {F : Fm} {f : Addr} {us : List Value} {vs : List V} {Q : VK} (Fn : FnR X.prog X.w X.K X.mg X.base (L2.CX X.prog X.w) k f (spM X.K g np F)) (ar : Arity np F) (hr : Room k A) (e0 : Env0 X.prog X.w X.K X.mg X.base A X.stack s H) (hx : Passes (L2.CX X.prog X.w) X E)
    (I : Inv X pins σ H s) (r : Vals vs us) (h : SpD X.K g F [] vs H Q E) : wpAny (model X.prog X.w) A (call (.ref f) us) (EP X pins σ Q) X.xe s := by
  have q := h [] np (fun _ => .nil) ar
  rw [List.append_nil] at q
  exact wpAny_call (SlX.run_at Fn hr e0 hx I r q)
theorem op_ownB {op : Operator} (hL : AllO X.prog X.w X.K X.mg X.base g 0 j (PySem.dunder op.info.2) 2 L) (hb : ∀ p ∈ L, OpB X.K (g.cl p.1) op) (hr : Room j X.A) (hx : Passes (L2.CX X.prog X.w) X E) : OpR X (binaryOp op) (rOwnB X.K g L E) := by
  intro pins s σ H x y v u Q I rx ry h
  obtain ⟨p, hp, a, dx, fs, rfl, ha, hy, q⟩ := h
  cases (show v = Value.ref a from rx)
  obtain ⟨k, hk, ⟨f, Fn, hs, hf, _⟩, ar⟩ := hL p hp
  obtain ⟨sf, nr, ⟨fo, i1⟩, ⟨ro, i2⟩, sb⟩ := hb p hp
  obtain ⟨mA, J, _⟩ := ins_get I.hok ha
  obtain ⟨od, J, _⟩ := J.look
  obtain ⟨m, hF⟩ := I.fr
  have back : wpAny (model X.prog X.w) X.A (call (.ref f) [.ref a, u]) (PySem.W.CmpBack (EP X pins σ Q)) X.xe s := by
    refine wpAny_mono (run_opr Fn ar (hr.mono hk) I.env0 hx I (us := [.ref a, u]) (vs := [.ref a, y]) (.cons rfl (.cons ry .nil)) q) (fun w s' z => ?_) fun _ _ x => x
    obtain ⟨z', H', I', rz, qz⟩ := z
    exact SlX.cmpback rz ⟨z', H', I', rz, qz⟩
  rcases hy with ⟨b, dy, gs, rfl, hb'⟩ | ⟨i, rfl⟩
  · cases (show u = Value.ref b from ry)
    obtain ⟨mB, J', _⟩ := ins_get I.hok hb'
    obtain ⟨od', J', _⟩ := J'.look
    exact PySem.W.binop_K hF I.ok.mod.kin J J'.type sf hs hf back
  · obtain ⟨t, rfl⟩ := (show ∃ t, u = Value.int i t from ry)
    exact PySem.W.ksp_binT (T := "int") hF I.ok.mod.kin J rfl sf hs hf nr (.inl rfl) i1 i2 sb back
/-! ### == and != -/
def rOwnE (K : PySem.W.Frag) (g : G) (L : List (Nat × Fm)) (E : XK) (neg : Bool) : R2 := fun x y H Q => ∃ p ∈ L, ∃ a dx fs b dy gs, x = .ref a ∧ H a = some (.ins (g.cl p.1) dx fs) ∧ y = .ref b ∧ H b = some (.ins (g.cl p.1) dy gs) ∧
  SpD K g p.2 [] [x, y] H (fun v H' => ∃ k, v = .bl k ∧ Q (.bl (k != neg)) H') E
def sameC : D → D → Bool
  | .ins c _, .ins c' _ => c == c'
  | _, _ => false
def blD (neg : Bool) : D → Option D
  | .bl k => some (.bl (k != neg))
  | _ => none
def mEqO (L : List (Nat × Fm)) (neg : Bool) (f : D → D → Option D) (x y : D) : M D := match cand L x with
  | some F => if sameC x y = true then bnd (callA F [x, y]) fun z => lft (blD neg z) else fun _ => .bad
  | none => lft (f x y)
theorem rv_eqO {K : PySem.W.Frag} {L : List (Nat × Fm)} {neg : Bool} {r : R2} {f : D → D → Option D} (h : RvOk K g r f) : RvA K g E (fun x y H Q => r x y H Q ∨ rOwnE K g L E neg x y H Q) (mEqO L neg f) := fun env σ Hf H s x y dx dy Q r1 r2 q => by
  unfold mEqO at q
  cases hc : cand L dx with
  | none => rw [hc] at q; exact .inl (h.a env σ Hf H s x y dx dy Q r1 r2 q)
  | some F =>
    rw [hc] at q
    dsimp only at q
    by_cases ok : sameC dx dy = true
    · rw [if_pos ok] at q
      obtain ⟨c, ds, rfl, mem⟩ := cand_some hc
      right
      have r1' := r1
      have r2' := r2
      cases dy <;> try (cases ok; done)
      case ins c' ds' =>
        obtain rfl : c = c' := by simpa [sameC] using ok
        cases r1 with
        | @ins a dxa _ _ vs hx hv hl okc =>
          cases r2 with
          | @ins b dyb _ _ vs' hx' hv' hl' okc' =>
            refine ⟨_, mem, a, dxa, _, b, dyb, _, rfl, s.ex _ _ hx, rfl, s.ex _ _ hx', spD_A (dfl := []) s (.cons r1' (.cons r2' .nil)) (q.bnd.imp fun z e1 Hf1 H1 _ s1 h1 v rv => ?_)⟩
            obtain ⟨z', hz, k⟩ := Aft.lft s1.sr h1
            cases z <;> try (cases hz; done)
            case bl b0 =>
              cases hz
              cases rv
              exact ⟨_, rfl, k Hf1 H1 (Grow.refl s1.sr.ex) _ (.bl _)⟩
    · rw [if_neg ok] at q
      exact q.elim
theorem op_ownEq (hL : AllO X.prog X.w X.K X.mg X.base g 0 j "__eq__" 2 L) (hr : Room j X.A) (hx : Passes (L2.CX X.prog X.w) X E) : OpR X (compareOp .Eq) (rOwnE X.K g L E false) := by
  intro pins s σ H x y v u Q I rx ry h
  obtain ⟨p, hp, a, dx, fs, b, dy, gs, rfl, ha, rfl, hb', q⟩ := h
  cases (show v = Value.ref a from rx)
  cases (show u = Value.ref b from ry)
  obtain ⟨k, hk, ⟨f, Fn, hs, hf, _⟩, ar⟩ := hL p hp
  obtain ⟨mA, J, _⟩ := ins_get I.hok ha
  obtain ⟨od, J, _⟩ := J.look
  obtain ⟨mB, J', _⟩ := ins_get I.hok hb'
  obtain ⟨od', J', _⟩ := J'.look
  obtain ⟨m, hF⟩ := I.fr
  show wpAny _ _ (richCompare .Eq (.ref a) (.ref b)) _ _ _
  refine PySem.W.cmp_K (op := .Eq) (tb := .ref (g.cl p.1)) hr.units0 hF I.ok.mod.kin J J'.type (by simp [PySem.W.notFirst]) hs hf ?_
  refine wpAny_mono (run_opr Fn ar (hr.mono hk) I.env0 hx I (us := [.ref a, .ref b]) (vs := [.ref a, .ref b]) (.cons rfl (.cons ry .nil)) q) (fun w s' z => ?_) fun _ _ x => x
  obtain ⟨z', H', I', rz, k, rfl, qz⟩ := z
  refine SlX.cmpback rz ⟨_, H', I', rz, ?_⟩
  rw [show (k != false) = k from by cases k <;> rfl] at qz
  exact qz
end
section
variable {prog : Program} {w : World} {A : Around} {E : Value → Shared → Prop} {s : Shared} {K : PySem.W.Frag} {x C f : Addr} {ox : Obj} {od : Option Obj} {b : Value}
/-- object.__ne__: by the own __eq__ -/
theorem entry_ne {Q : Fin → Shared → Prop} (X : K.In s.heap) (I : PySem.W.InstAt s.heap x ox C od) (hu : A.units < cLine) (hs : PySem.W.findIn K (.ref C) "__eq__" = some (some (.ref f))) (hf : PySem.W.isFn K (.ref f) = true)
    (h : wpAny (model prog w) A (call (.ref f) [.ref x, b]) (fun v s' => ∃ k, v = .bool k ∧ Q (.done (.ret (.bool (!k)))) s') E s) : wpAny (model prog w) A (Builtin.«object.__ne__» ⟨[.ref x, b], []⟩) Q E s := by
  unfold Builtin.«object.__ne__»
  repeat (first
    | with_reducible refine wpAny_cRoomFor hu ?_
    | (refine wpAny_bind (m := callSpecialIfBound? (.ref x) (Str.ofString "__eq__") [b])
        (PySem.W.ifBound_K X I hs hf (wpAny_mono h (fun r s' hr => by
          obtain ⟨k, rfl, hq⟩ := hr
          repeat (first | exact hq | exact wpAny_pure hq | exact wpAny_truthy_bool hq | (refine wpAny_bind (m := truthy (.bool _)) (wpAny_truthy_bool ?_)) | wp_step)) fun _ _ e => e)))
    | wp_step)
theorem ifBound_ne {args : List Value} {Q : Option Value → Shared → Prop} (X : K.In s.heap) (I : PySem.W.InstAt s.heap x ox C od) (hs : PySem.W.findIn K (.ref C) "__ne__" = some (some (.builtin "object.__ne__")))
    (h : wpAny (model prog w) A (call (.builtin "object.__ne__") (.ref x :: args)) (fun v => Q (some v)) E s) : wpAny (model prog w) A (callSpecialIfBound? (.ref x) "__ne__" args) Q E s := by
  simp only [callSpecialIfBound?, bindSpecialIfBound?]
  refine wpAny_holding (wpAny_bind (wpAny_bind (wpAny_bind (I.type.here ((PySem.W.looks_findIn X hs).here ?_)))))
  refine wpAny_bind (wpAny_askSetting (wpAny_ite ?_))
  have fin : wpAny (model prog w) A (call (.builtin "object.__ne__") ([.ref x] ++ args) >>= fun v => pure (some v)) Q E s := wpAny_bind (wpAny_mono h (fun v s' h' => wpAny_pure h') fun _ _ h' => h')
  split
  · exact wpAny_bind (wpAny_of_eq (F.cmp_object.ne.bind _) (wpAny_pure (by exact fin)))
  · exact wpAny_tryCatch (wpAny_bind (wpAny_of_eq (F.cmp_object.ne.bind _) (wpAny_pure (by exact fin))))
theorem rich_ne {Q : Value → Shared → Prop} (X : K.In s.heap) (I : PySem.W.InstAt s.heap x ox C od) (hb : PySem.W.Looks (model prog w) s.heap (typeOf b) (.ref C)) (hu : A.units + 1 < cLine)
    (hn : PySem.W.findIn K (.ref C) "__ne__" = some (some (.builtin "object.__ne__"))) (hm : PySem.W.mroIn K C (.type "object") = some true) (hs : PySem.W.findIn K (.ref C) "__eq__" = some (some (.ref f))) (hf : PySem.W.isFn K (.ref f) = true)
    (h : wpAny (model prog w) A.in1 (call (.ref f) [.ref x, b]) (fun v s' => ∃ k, v = .bool k ∧ Q (.bool (!k)) s') E s) : wpAny (model prog w) A (richCompare .NotEq (.ref x) b) Q E s := by
  have one : wpAny (model prog w) A (tryCompare (.ref x) "__ne__" b) (fun r s' => ∃ k, r = some (.bool k) ∧ Q (.bool k) s') E s := by
    unfold tryCompare
    refine wpAny_bind (ifBound_ne X I hn (wpAny_call (codeAny_call_builtin F.cmp_object.ne.plain F.cmpEntry_ne (PySem.W.check_slot F.cmpKind_ne F.cmpSplit_ne (I.type.andThen (PySem.W.looks_mroIn X hm)) (F.cmpArgs_ne _ _)
      (entry_ne (A := A.in1) X I hu hs hf (wpAny_mono h (fun v s' hv => ?_) fun _ _ e => e))))))
    obtain ⟨k, rfl, hq⟩ := hv
    exact ⟨k, rfl, wpAny_pure ⟨_, rfl, hq⟩⟩
  unfold richCompare
  simp only [oneThing_ref]
  refine wpAny_holding (wpAny_bind (wpAny_cRoomFor (Nat.lt_of_succ_lt hu) ?_))
  rw [cmpInfo_NotEq]
  dsimp only
  refine wpAny_bind (I.type.here (wpAny_bind (hb.here ?_)))
  rw [show (Value.ref C != Value.ref C) = false from by simp]
  simp only [Bool.false_eq_true, if_false]
  refine wpAny_bind (wpAny_pure ?_)
  simp only [Bool.false_eq_true, if_false]
  refine wpAny_bind (wpAny_mono one (fun r s' z => ?_) fun _ _ e => e)
  obtain ⟨v, rfl, hq⟩ := z
  exact wpAny_pure hq
end
end DL

set_option Elab.async false
set_option linter.all false
set_option maxRecDepth 100000
set_option maxHeartbeats 400000
namespace DL
open PySem L2 PyProof.Rows
/-- what != wants of the class -/
structure OpN (K : PySem.W.Frag) (C : Addr) : Prop where
  ne : PySem.W.findIn K (.ref C) "__ne__" = some (some (.builtin "object.__ne__"))
  mo : PySem.W.mroIn K C (.type "object") = some true
def mUnO (L : List (Nat × Fm)) (f : D → Option D) (x : D) : M D := match cand L x with
  | some F => callA F [x]
  | none => lft (f x)
def rOwnU (K : PySem.W.Frag) (g : G) (L : List (Nat × Fm)) (E : XK) : V → Hp → VK → Prop := fun x H Q => ∃ p ∈ L, ∃ a dx fs, x = .ref a ∧ H a = some (.ins (g.cl p.1) dx fs) ∧ SpD K g p.2 [] [x] H Q E
/-- x[j] -/
def mIxO (L : List (Nat × Fm)) (f : D → D → Option D) (x y : D) : M D := match cand L x with
  | some F => callA F [x, y]
  | none => lft (f x y)
def rOwnI (K : PySem.W.Frag) (g : G) (L : List (Nat × Fm)) (E : XK) : R2 := fun x y H Q => ∃ p ∈ L, ∃ a dx fs, x = .ref a ∧ H a = some (.ins (g.cl p.1) dx fs) ∧ SpD K g p.2 [] [x, y] H Q E
/-- len(x) -/
def lenR : D → Option D
  | .int n => if 0 ≤ n ∧ small n.natAbs = true then some (.int n) else none
  | _ => none
def mLenO (L : List (Nat × Fm)) (f : List D → Option D) (xs : List D) : M D := match xs with
  | [x] => (match cand L x with
    | some F => bnd (callA F [x]) fun z => lft (lenR z)
    | none => lft (f xs))
  | _ => lft (f xs)
def rOwnL (K : PySem.W.Frag) (g : G) (L : List (Nat × Fm)) (E : XK) : List V → Hp → VK → Prop := fun xs H Q => ∃ p ∈ L, ∃ a dx fs, xs = [.ref a] ∧ H a = some (.ins (g.cl p.1) dx fs) ∧ SpD K g p.2 [] xs H (fun v H' => ∃ n, v = .int n ∧ 0 ≤ n ∧ n < 2 ^ 63 ∧ Q (.int n) H') E
/-- the truth of x -/
def mTruO (L : List (Nat × Fm)) (m : M D) : M Bool := bnd m fun x => match cand L x with
  | some F => bnd (callA F [x]) fun z => lft (match z with | .bl k => some k | _ => none)
  | none => lft (truD x)
def rOwnT (K : PySem.W.Frag) (g : G) (L : List (Nat × Fm)) (E : XK) : V → Hp → (Bool → Hp → Prop) → Prop := fun x H Q => ∃ p ∈ L, ∃ a dx fs, x = .ref a ∧ H a = some (.ins (g.cl p.1) dx fs) ∧ SpD K g p.2 [] [x] H (fun v H' => ∃ k, v = .bl k ∧ Q k H') E
section
variable {K : PySem.W.Frag} {g : G} {E : XK} {L : List (Nat × Fm)}
theorem ins_at {Hf H : Hp} {c : Nat} {ds : List D} {x : V} (e : Ex Hf H) (r : Rep K g Hf (.ins c ds) x) : ∃ a dx fs, x = .ref a ∧ H a = some (.ins (g.cl c) dx fs) := by
  cases r with
  | ins hx hv hl ok => exact ⟨_, _, _, rfl, e _ _ hx⟩
theorem ru_unO {r : V → Hp → VK → Prop} {f : D → Option D} (h : RuOk K g r f) : RuA K g E (fun x H Q => r x H Q ∨ rOwnU K g L E x H Q) (mUnO L f) := fun env σ Hf H s x dx Q r1 q => by
  unfold mUnO at q
  cases hc : cand L dx with
  | none => rw [hc] at q; exact .inl (h.a env σ Hf H s x dx Q r1 q)
  | some F =>
    rw [hc] at q
    obtain ⟨c, ds, rfl, mem⟩ := cand_some hc
    obtain ⟨a, dxa, fs, rfl, ha⟩ := ins_at s.ex r1
    exact .inr ⟨_, mem, a, dxa, fs, rfl, ha, spD_A (dfl := []) s (.cons r1 .nil) q⟩
theorem rv_ixO {r : R2} {f : D → D → Option D} (h : RvOk K g r f) : RvA K g E (fun x y H Q => r x y H Q ∨ rOwnI K g L E x y H Q) (mIxO L f) := fun env σ Hf H s x y dx dy Q r1 r2 q => by
  unfold mIxO at q
  cases hc : cand L dx with
  | none => rw [hc] at q; exact .inl (h.a env σ Hf H s x y dx dy Q r1 r2 q)
  | some F =>
    rw [hc] at q
    obtain ⟨c, ds, rfl, mem⟩ := cand_some hc
    obtain ⟨a, dxa, fs, rfl, ha⟩ := ins_at s.ex r1
    exact .inr ⟨_, mem, a, dxa, fs, rfl, ha, spD_A (dfl := []) s (.cons r1 (.cons r2 .nil)) q⟩
theorem rc_lenO {r : List V → Hp → VK → Prop} {f : List D → Option D} (h : RcOk K g r f) : RcA K g E (fun x H Q => r x H Q ∨ rOwnL K g L E x H Q) (mLenO L f) := fun env σ Hf H s xs ds Q r1 q => by
  unfold mLenO at q
  split at q
  · rename_i x
    cases hc : cand L x with
    | none => rw [hc] at q; exact .inl (h.a env σ Hf H s xs _ Q r1 q)
    | some F =>
      rw [hc] at q
      obtain ⟨c, ds, rfl, mem⟩ := cand_some hc
      right
      cases r1 with
      | cons r1 r2 =>
        cases r2
        obtain ⟨a, dxa, fs, rfl, ha⟩ := ins_at s.ex r1
        refine ⟨_, mem, a, dxa, fs, rfl, ha, spD_A (dfl := []) s (.cons r1 .nil) (q.bnd.imp fun z e1 Hf1 H1 _ s1 h1 v rv => ?_)⟩
        obtain ⟨z', hz, k⟩ := Aft.lft s1.sr h1
        cases z <;> try (cases hz; done)
        case int n0 _ =>
          dsimp only [lenR] at hz
          by_cases b : 0 ≤ n0 ∧ small n0.natAbs = true
          · rw [if_pos b] at hz
            cases hz
            cases rv
            have b2 : n0 < 2 ^ 63 := by
              have := of_decide_eq_true b.2
              omega
            exact ⟨_, rfl, b.1, b2, k Hf1 H1 (Grow.refl s1.sr.ex) _ (.int _)⟩
          · rw [if_neg b] at hz
            cases hz
  · exact .inl (h.a env σ Hf H s xs ds Q r1 q)
theorem ev_TruO {ta : TE} {a : M D} (ha : EvM K g (WX_of E) ta a) : EvB K g (WX_of E) (fun σ H Q => ta σ H fun x H' => (∃ k, TruV K x H' k ∧ Q k H') ∨ rOwnT K g L E x H' Q) (mTruO L a) :=
  fun env σ Hf H s Q h => ha env σ Hf H s _ (h.bnd.imp fun x e1 Hf1 H1 _ s1 h1 v r1 => by
    cases hc : cand L x with
    | none =>
      rw [hc] at h1
      obtain ⟨b, hb, k⟩ := Aft.lft s1.sr h1
      exact .inl ⟨b, tru_of s1.sr.ex r1 hb, k Hf1 H1 (Grow.refl s1.sr.ex)⟩
    | some F =>
      rw [hc] at h1
      obtain ⟨c, ds, rfl, mem⟩ := cand_some hc
      obtain ⟨a, dxa, fs, rfl, ha⟩ := ins_at s1.sr.ex r1
      refine .inr ⟨_, mem, a, dxa, fs, rfl, ha, spD_A (dfl := []) s1.sr (.cons r1 .nil) (h1.bnd.imp fun z e2 Hf2 H2 _ s2 h2 v rv => ?_)⟩
      obtain ⟨z', hz, k⟩ := Aft.lft s2.sr h2
      cases z <;> try (cases hz; done)
      case bl b =>
        cases hz
        cases rv
        exact ⟨_, rfl, k Hf2 H2 (Grow.refl s2.sr.ex)⟩)
end
section
variable {X : Cx} {g : G} {E : XK} {j np : Nat} {m : Str} {L : List (Nat × Fm)}
theorem own_inst {pins : List (Addr × Obj)} {σ : L2.St} {H : Hp} {s : Shared} {C a dx : Addr} {fs : List (Str × V)} (I : Inv X pins σ H s) (ha : H a = some (.ins C dx fs)) : ∃ ox od m, PySem.W.InstAt s.heap a ox C od ∧ Fr X.base X.env.locals s.heap m := by
  obtain ⟨mA, J, _⟩ := ins_get I.hok ha
  obtain ⟨od, J, _⟩ := J.look
  obtain ⟨m, hF⟩ := I.fr
  exact ⟨_, _, m, J, hF⟩
theorem un_own {op : UnaryOp} {nm : Str} (hL : AllO X.prog X.w X.K X.mg X.base g 0 j nm 1 L) (hr : Room j X.A) (hx : Passes (L2.CX X.prog X.w) X E)
    (ho : ∀ {s : Shared} {a C f : Addr} {ox : Obj} {od : Option Obj} {m : Str → Option Value} {Q : Value → Shared → Prop}, X.K.In X.base → Fr X.base X.env.locals s.heap m → PySem.W.InstAt s.heap a ox C od → PySem.W.findIn X.K (.ref C) nm = some (some (.ref f)) → PySem.W.isFn X.K (.ref f) = true →
      wpAny (model X.prog X.w) X.A (call (.ref f) [.ref a]) Q X.xe s → wpAny (model X.prog X.w) X.A (unaryOp op (.ref a)) Q X.xe s) : UnR X (unaryOp op) (rOwnU X.K g L E) := by
  intro pins s σ H x v Q I rx h
  obtain ⟨p, hp, a, dx, fs, rfl, ha, q⟩ := h
  cases (show v = Value.ref a from rx)
  obtain ⟨k, hk, ⟨f, Fn, hs, hf, _⟩, ar⟩ := hL p hp
  obtain ⟨ox, od, m, J, hF⟩ := own_inst I ha
  exact ho I.ok.mod.kin hF J hs hf (run_opr Fn ar (hr.mono hk) I.env0 hx I (us := [.ref a]) (vs := [.ref a]) (.cons rfl .nil) q)
theorem UnR.or {f : Value → Sem Value} {r r' : V → Hp → VK → Prop} (h : UnR X f r) (h' : UnR X f r') : UnR X f (fun x H Q => r x H Q ∨ r' x H Q) := fun pins s σ H x v Q I rx q => by
  rcases q with q | q
  · exact h pins s σ H x v Q I rx q
  · exact h' pins s σ H x v Q I rx q
theorem un_none {f : Value → Sem Value} : UnR X f (fun _ _ _ => False) := fun pins s σ H x v Q I rx q => q.elim
theorem op_none {f : Value → Value → Sem Value} : OpR X f (fun _ _ _ _ => False) := fun pins s σ H x y v u Q I rx ry q => q.elim
theorem rv_none {K : PySem.W.Frag} : RvOk K g (fun _ _ _ _ => False) (fun _ _ => none) := fun _ _ _ _ _ _ _ _ _ _ h => h
theorem ru_none {K : PySem.W.Frag} : RuOk K g (fun _ _ _ => False) (fun _ => none) := fun _ _ _ _ _ _ _ h => h
theorem len_own (hL : AllO X.prog X.w X.K X.mg X.base g 1 j "__len__" 1 L) (hr : Room j X.A) (hx : Passes (L2.CX X.prog X.w) X E) : CallR X (.builtin "len") (rOwnL X.K g L E) := by
  intro pins s σ H xs us Q I r h
  obtain ⟨p, hp, a, dx, fs, rfl, ha, q⟩ := h
  obtain ⟨u, rfl, ru⟩ := r.one
  cases (show u = Value.ref a from ru)
  obtain ⟨k, hk, ⟨f, Fn, hs, hf, _⟩, ar⟩ := hL p hp
  obtain ⟨ox, od, m, J, hF⟩ := own_inst I ha
  refine PySem.W.len_K hF I.ok.mod.kin J hs hf (wpAny_mono (run_opr Fn ar ((hr.mono hk).in1) I.env0.in1 hx I (us := [.ref a]) (vs := [.ref a]) (.cons rfl .nil) q) (fun w s' z => ?_) fun _ _ x => x)
  obtain ⟨z', H', I', rz, n, rfl, n0, n1, qz⟩ := z
  obtain ⟨t, rfl⟩ := (show ∃ t, w = Value.int n t from rz)
  exact ⟨⟨n0, n1⟩, .int n, H', I'.tok _, ⟨_, rfl⟩, qz⟩
theorem tru_own (hL : AllO X.prog X.w X.K X.mg X.base g 0 j "__bool__" 1 L) (hr : Room j X.A) (hx : Passes (L2.CX X.prog X.w) X E) : TruR X (rOwnT X.K g L E) := by
  intro pins s σ H x v Q I rx h
  obtain ⟨p, hp, a, dx, fs, rfl, ha, q⟩ := h
  cases (show v = Value.ref a from rx)
  obtain ⟨k, hk, ⟨f, Fn, hs, hf, _⟩, ar⟩ := hL p hp
  obtain ⟨ox, od, m, J, hF⟩ := own_inst I ha
  refine PySem.W.truthy_K hF I.ok.mod.kin J hs hf (wpAny_mono (run_opr Fn ar (hr.mono hk) I.env0 hx I (us := [.ref a]) (vs := [.ref a]) (.cons rfl .nil) q) (fun w s' z => ?_) fun _ _ x => x)
  obtain ⟨z', H', I', rz, b, rfl, qz⟩ := z
  cases (show w = Value.bool b from rz)
  exact ⟨H', I', qz⟩
theorem op_ownNe (hL : AllO X.prog X.w X.K X.mg X.base g 1 j "__eq__" 2 L) (hn : ∀ p ∈ L, OpN X.K (g.cl p.1)) (hr : Room j X.A) (hx : Passes (L2.CX X.prog X.w) X E) : OpR X (compareOp .NotEq) (rOwnE X.K g L E true) := by
  intro pins s σ H x y v u Q I rx ry h
  obtain ⟨p, hp, a, dx, fs, b, dy, gs, rfl, ha, rfl, hb', q⟩ := h
  cases (show v = Value.ref a from rx)
  cases (show u = Value.ref b from ry)
  obtain ⟨k, hk, ⟨f, Fn, hs, hf, _⟩, ar⟩ := hL p hp
  obtain ⟨ox, od, m, J, hF⟩ := own_inst I ha
  obtain ⟨ox', od', m', J', _⟩ := own_inst I hb'
  show wpAny _ _ (richCompare .NotEq (.ref a) (.ref b)) _ _ _
  have hrk := hr.mono hk
  refine rich_ne I.kIn J J'.type (hrk.in1).units0 (hn p hp).ne (hn p hp).mo hs hf (wpAny_mono (run_opr Fn ar hrk.in1 I.env0.in1 hx I (us := [.ref a, .ref b]) (vs := [.ref a, .ref b]) (.cons rfl (.cons ry .nil)) q) (fun w s' z => ?_) fun _ _ x => x)
  obtain ⟨z', H', I', rz, k, rfl, qz⟩ := z
  cases (show w = Value.bool k from rz)
  refine ⟨k, rfl, .bl (!k), H', I', rfl, ?_⟩
  rw [show (k != true) = !k from by cases k <;> rfl] at qz
  exact qz
theorem pe_ixO {a b : Expr} {ta tb : TE} {pos : Pos} {r : R2} (hix : IxR X r) (hL : AllO X.prog X.w X.K X.mg X.base g 1 j "__getitem__" 2 L) (hr : Room j X.A) (hx : Passes (L2.CX X.prog X.w) X E) (ha : PE X a ta) (hb : PE X b tb) (hs : PlainIx b)
    (hs2 : ∀ (o : Addr) i, subscripted b true (.ref o) i = runValue (.builtin "lifetime.subscript" ⟨[.ref o, i], []⟩)) : PE X (.Subscript a b pos) (tOp (fun x y H Q => r x y H Q ∨ rOwnI X.K g L E x y H Q) ta tb) := by
  refine ⟨fun pins s σ H Q I h => ?_⟩
  refine Subscript_ (binT ha hb I h fun v u s2 x y H2 I2 rx ry q => ?_)
  rcases q with q | q
  · exact hix a b pins s2 σ H2 x y v u Q I2 rx ry q (hs _ _)
  · obtain ⟨p, hp, ad, dx, fs, rfl, had, q⟩ := q
    cases (show v = Value.ref ad from rx)
    obtain ⟨k, hk, ⟨f, Fn, hs', hf, hf2⟩, ar⟩ := hL p hp
    obtain ⟨ox, od, m, J, hF⟩ := own_inst I2 had
    exact PySem.W.sub_K hF I2.ok.mod.kin J hs' hf2 hf (run_opr Fn ar ((hr.mono hk).in1) I2.env0.in1 hx I2 (us := [.ref ad, u]) (vs := [.ref ad, y]) (.cons rfl (.cons ry .nil)) q) (hs2 _ _)
end
end DL

set_option Elab.async false
set_option linter.all false
set_option maxRecDepth 100000
set_option maxHeartbeats 400000
namespace DL
open PySem L2 PyProof.Rows
/-! ### isinstance -/
inductive CK where
  | ty (n : String) | cl (c : Nat)
deriving DecidableEq
def kindD : D → Option CK
  | .non => some (.ty "NoneType") | .bl _ => some (.ty "bool") | .int _ => some (.ty "int") | .str _ => some (.ty "str")
  | .tup _ => some (.ty "tuple") | .lst _ => some (.ty "list") | .scr _ => some (.ty "list") | .dic _ _ => some (.ty "dict")
  | .ins c _ => some (.cl c) | _ => none
def kitCK : CK → CK → Bool
  | .ty a, .ty b => a == b || (a == "bool" && b == "int")
  | .cl c, .cl c' => c == c'
  | _, _ => false
def ckV (g : G) : CK → V
  | .ty n => .ty n
  | .cl c => .ref (g.cl c)
def ckU (g : G) : CK → Value
  | .ty n => .type n
  | .cl c => .ref (g.cl c)
def kinds : List String := ["NoneType", "bool", "int", "str", "tuple", "list", "dict"]
/-- what is known of the text's classes -/
structure IsF (K : PySem.W.Frag) (g : G) : Prop where
  cl : ∀ c, g.ok c = true → Cls K (g.cl c) ∧ PySem.W.findIn K (.ref (g.cl c)) "__class__" = some (some (.builtin "object.__class__")) ∧ PySem.W.mroIn K (g.cl c) (.type "object") = some true
  hn : PySem.W.specialIn K (.builtin "object.__class__") "__get__" = some (some (.builtin "getset_descriptor.__get__"))
  ht : PySem.W.takesIn K (.builtin "object.__class__") = some true
  o1 : ∀ c, g.ok c = true → ∀ n ∈ kinds, PySem.W.kitOne K (.ref (g.cl c)) (.type n) = some false
  o2 : ∀ c, g.ok c = true → ∀ n ∈ kinds, PySem.W.kitOne K (.type n) (.ref (g.cl c)) = some false
  o3 : ∀ c c', g.ok c = true → g.ok c' = true → PySem.W.kitOne K (.ref (g.cl c)) (.ref (g.cl c')) = some (c == c')
def okK (ok : Nat → Bool) : CK → Bool
  | .ty n => kinds.contains n
  | .cl c => ok c
theorem kit_bb : kinds.all (fun a => kinds.all fun b => decide (kitB a b = some (kitCK (.ty a) (.ty b)))) = true := by decide +kernel
section
variable {K : PySem.W.Frag} {g : G} {W : WX} {E : XK}
theorem kit_ok (F : IsF K g) {k t : CK} (hk : okK g.ok k = true) (ht : okK g.ok t = true) : PySem.W.kitOne K (ckU g k) (ckU g t) = some (kitCK k t) := by
  cases k with
  | ty a =>
    have ha : a ∈ kinds := by simpa [okK] using hk
    cases t with
    | ty b =>
      have hb : b ∈ kinds := by simpa [okK] using ht
      have h := List.all_eq_true.mp (List.all_eq_true.mp kit_bb a ha) b hb
      exact kit_ty (of_decide_eq_true h)
    | cl c => exact F.o2 c ht a ha
  | cl c =>
    cases t with
    | ty b =>
      have hb : b ∈ kinds := by simpa [okK] using ht
      exact F.o1 c hk b hb
    | cl c' => exact F.o3 c c' hk ht
theorem kit_any (F : IsF K g) {k : CK} (hk : okK g.ok k = true) : ∀ {ts : List CK}, ts.all (okK g.ok) = true → PySem.W.kitAny K (ckU g k) (ts.map (ckU g)) = some (ts.any (kitCK k))
  | [], _ => rfl
  | t :: ts, h => by
    rw [List.all_cons, Bool.and_eq_true] at h
    refine kitAny_cons (kit_ok F hk h.1) (fun e => ?_) (fun e => ?_)
    · rw [List.any_cons, e, Bool.false_or]; exact kit_any F hk h.2
    · rw [List.any_cons, e, Bool.true_or]
theorem ty_lst {H : Hp} {a : Addr} {xs : List V} (h : SqL K H a xs) : TyX K H (.ref a) (.type "list") := by
  rcases h with (h | ⟨o, h⟩) | ⟨o, its, n, h1, h2, _⟩
  · exact .base (.lst h)
  · exact .base (.frz h)
  · exact .kList h1 h2
theorem ty_tup {H : Hp} {a : Addr} {xs : List V} (h : SqT K H a xs) : TyX K H (.ref a) (.type "tuple") := by
  rcases h with (h | ⟨o, h⟩) | ⟨o, its, n, h1, h2, _⟩
  · exact .base (.tup h)
  · exact .fTuple h
  · exact .kTuple h1 h2
/-- a dict that is tracked itself -/
theorem ty_of (F : IsF K g) {Hf H : Hp} {d : D} {x : V} {k : CK} (e : Ex Hf H) (r : Rep K g Hf d x) (h : kindD d = some k) : TyX K H x (ckU g k) ∧ okK g.ok k = true := by
  have r := r.mono e
  cases r with
  | non => cases h; exact ⟨.base .non, rfl⟩
  | bl b => cases h; exact ⟨.base (.bl b), rfl⟩
  | int i => cases h; exact ⟨.base (.int i), rfl⟩
  | str z => cases h; exact ⟨.base (.str z), rfl⟩
  | ty n => cases h
  | cls c => cases h
  | tup h1 _ => cases h; exact ⟨ty_tup h1, rfl⟩
  | lst h1 _ => cases h; exact ⟨.base (.lst h1), rfl⟩
  | scr h1 => cases h; exact ⟨ty_lst h1, rfl⟩
  | dic h1 _ _ =>
    cases h
    rcases h1 with h1 | ⟨o, h1⟩
    · exact ⟨.base (.dK h1), rfl⟩
    · exact ⟨.fDict h1, rfl⟩
  | dct h1 _ _ => cases h
  | @ins a dx c ds vs h1 h2 h3 h4 =>
    cases h
    obtain ⟨c1, c2, c3⟩ := F.cl c h4
    exact ⟨.base (.ins h1 c1 c2 F.hn F.ht c3), h4⟩
def isiD (ok : Nat → Bool) (ts : List CK) (d : D) : Option D := if ts.all (okK ok) = true then (kindD d).bind fun k => some (.bl (ts.any (kitCK k))) else none
/-- classes written out -/
def tCs : List V → TA
  | [] => tNil
  | v :: vs => tCons (tC v) (tCs vs)
theorem tCs_run {vs : List V} {σ : L2.St} {H : Hp} {Q : List V → Hp → Prop} (h : Q vs H) : tCs vs σ H Q := by
  induction vs generalizing Q with
  | nil => exact h
  | cons v vs ih => exact ih h
theorem clsV (t : CK) : ClsV (ckV g t) (ckU g t) := by cases t with | ty n => exact .ty n | cl c => exact .own _
theorem clsVs : ∀ ts : List CK, Paired ClsV (ts.map (ckV g)) (ts.map (ckU g))
  | [] => .nil
  | t :: ts => .cons (clsV t) (clsVs ts)
theorem isiD_some {ts : List CK} {d z : D} (h : isiD g.ok ts d = some z) : ts.all (okK g.ok) = true ∧ ∃ k, kindD d = some k ∧ z = .bl (ts.any (kitCK k)) := by
  unfold isiD at h
  by_cases c : ts.all (okK g.ok) = true
  · rw [if_pos c] at h
    cases q : kindD d with
    | none => rw [q] at h; cases h
    | some k =>
      rw [q] at h
      dsimp only [Option.bind] at h
      cases h
      exact ⟨c, k, rfl, rfl⟩
  · rw [if_neg c] at h; cases h
theorem ev_isi (F : IsF K g) {ta : TE} {m : M D} {t : CK} (ha : EvM K g W ta m) : EvM K g W (tCB (rIsi K) (tCons ta (tCons (tC (ckV g t)) tNil))) (mUn (isiD g.ok [t]) m) :=
  fun env σ Hf H s Q h => ha env σ Hf H s _ (h.bnd.imp fun d e1 Hf1 H1 _ s1 h1 x rx => by
    obtain ⟨z, hz, k⟩ := Aft.lft s1.sr h1
    obtain ⟨c, kd, h2, rfl⟩ := isiD_some hz
    obtain ⟨ty, okk⟩ := ty_of F s1.sr.ex rx h2
    have okt : okK g.ok t = true := by simpa using c
    exact ⟨x, ckV g t, ckU g kd, ckU g t, kitCK kd t, rfl, clsV t, ty, kit_ok F okk okt, k Hf1 H1 (Grow.refl s1.sr.ex) _ (by simpa using Rep.bl (K := K) (g := g) (H := Hf1) (kitCK kd t))⟩)
theorem ev_isiT (F : IsF K g) {ta : TE} {m : M D} {ts : List CK} (hl : ts.length ≤ sizeLine) (ha : EvM K g W ta m) : EvM K g W (tCB (rIsiT K) (tCons ta (tCons (tTup (tCs (ts.map (ckV g)))) tNil))) (mUn (isiD g.ok ts) m) :=
  fun env σ Hf H s Q h => ha env σ Hf H s _ (h.bnd.imp fun d e1 Hf1 H1 _ s1 h1 x rx => by
    obtain ⟨z, hz, k⟩ := Aft.lft s1.sr h1
    obtain ⟨c, kd, h2, rfl⟩ := isiD_some hz
    refine tCs_run ⟨by rw [List.length_map]; exact hl, fun p hp => ?_⟩
    have w : Grow Hf1 H1 Hf1 (upd H1 p (.tup (ts.map (ckV g)))) := own_new s1.sr.ex hp
    obtain ⟨ty, okk⟩ := ty_of F w.fh rx h2
    exact ⟨x, p, ts.map (ckV g), ckU g kd, ts.map (ckU g), _, rfl, upd_same, clsVs ts, ty, kit_any F okk c, k Hf1 _ w _ (.bl _)⟩)
end
section
variable {X : Cx} {g : G} {W : WX} {E : XK}
/-- names of classes -/
structure ClE (X : Cx) (g : G) (e : Expr) (t : CK) : Prop where
  pe : PE X e (tC (ckV g t))
structure ClEs (X : Cx) (g : G) (es : List Expr) (ts : List CK) : Prop where
  pa : PA X es (tCs (ts.map (ckV g)))
theorem ce_ty {x : Str} {n : String} {pos : Pos} (hm : X.mg x = none) (hv : bootBuiltins x = some (.type n)) (hg : Gl X x := by rfl) (hn : x ≠ "__name__" := by decide) (hd : (x == ("__debug__" : Str)) = false := by decide) : ClE X g (.Name x pos) (.ty n) :=
  ⟨pe_bltn hg hm hv rfl hn hd⟩
theorem ce_cl {x : Str} {c : Nat} {pos : Pos} (hm : X.mg x = some (.ref (g.cl c))) (hg : Gl X x := by rfl) (hd : (x == ("__debug__" : Str)) = false := by decide) : ClE X g (.Name x pos) (.cl c) :=
  ⟨pe_glob hg hm rfl hd⟩
theorem ces_nil : ClEs X g [] [] := ⟨pa_nil⟩
theorem ces_cons {e : Expr} {es : List Expr} {t : CK} {ts : List CK} (h : ClE X g e t) (k : ClEs X g es ts) (hs : starEach (e :: es) X.env = (false, eval e X.env) :: starEach es X.env := by rfl) : ClEs X g (e :: es) (t :: ts) := ⟨pa_cons h.pe k.pa hs⟩
theorem m_isi {a e : Expr} {m : M D} {t : CK} {p pos : Pos} (F : IsF X.K g) (ha : PEM X g W a m) (hc : ClE X g e t) (hm : X.mg "isinstance" = none) (hg : Gl X "isinstance" := by rfl)
    (he : starEach [a, e] X.env = (false, eval a X.env) :: starEach [e] X.env := by rfl) (he2 : starEach [e] X.env = (false, eval e X.env) :: starEach [] X.env := by rfl) (hpl : (backTo pos (starEach [e] X.env)).any (·.1) = false := by rfl) :
    PEM X g W (.Call (.Name "isinstance" p) [a, e] [] pos) (mUn (isiD g.ok [t]) m) := by
  obtain ⟨ta, h1, h2⟩ := ha
  exact ⟨_, pe_callB call_isi hg hm rfl (pa_cons h1 (pa_cons hc.pe pa_nil he2) he) (by decide) (by decide) he hpl, ev_isi F h2⟩
theorem m_isiT {a : Expr} {es : List Expr} {m : M D} {ts : List CK} {p pos p2 : Pos} {x1} (F : IsF X.K g) (ha : PEM X g W a m) (hc : ClEs X g es ts) (hm : X.mg "isinstance" = none) (hl : ts.length ≤ 16777216 := by decide) (hg : Gl X "isinstance" := by rfl)
    (he : starEach [a, .Tuple es x1 p2] X.env = (false, eval a X.env) :: starEach [.Tuple es x1 p2] X.env := by rfl) (he2 : starEach [.Tuple es x1 p2] X.env = (false, eval (.Tuple es x1 p2) X.env) :: starEach [] X.env := by rfl) (hpl : (backTo pos (starEach [.Tuple es x1 p2] X.env)).any (·.1) = false := by rfl) :
    PEM X g W (.Call (.Name "isinstance" p) [a, .Tuple es x1 p2] [] pos) (mUn (isiD g.ok ts) m) := by
  obtain ⟨ta, h1, h2⟩ := ha
  exact ⟨_, pe_callB call_isiT hg hm rfl (pa_cons h1 (pa_cons (pe_tup hc.pa) pa_nil he2) he) (by decide) (by decide) he hpl, ev_isiT F (Nat.le_trans hl (by decide)) h2⟩
end
end DL

set_option Elab.async false
set_option linter.all false
set_option maxRecDepth 100000
set_option maxHeartbeats 400000
namespace DL
open PySem L2 PyProof.Rows
/-! ### operators, own or not -/
def AllC (q : Nat → Prop) (L : List (Nat × Fm)) : Prop := ∀ p ∈ L, q p.1
theorem AllC.nil {q : Nat → Prop} : AllC q [] := fun _ h => by cases h
theorem AllC.cons {q : Nat → Prop} {c : Nat} {F : Fm} {L : List (Nat × Fm)} (h : q c) (t : AllC q L) : AllC q ((c, F) :: L) := fun p hp => by
  rcases List.mem_cons.mp hp with rfl | hp
  · exact h
  · exact t p hp
def mBinO (L : List (Nat × Fm)) (f : D → D → Option D) (ma mb : M D) : M D := bnd ma fun x => bnd mb fun y => mOpO L f x y
def mCmpO (L : List (Nat × Fm)) (neg : Bool) (f : D → D → Option D) (ma mb : M D) : M D := bnd ma fun x => bnd mb fun y => mEqO L neg f x y
def mSubO (L : List (Nat × Fm)) (ma mb : M D) : M D := bnd ma fun x => bnd mb fun y => mIxO L ixD x y
section
variable {X : Cx} {g : G} {E : XK} {j np : Nat} {L : List (Nat × Fm)} {a b e : Expr} {es : List Expr} {ma mb : M D} {ml : M (List D)} {pos p : Pos} {r : R2} {f : D → D → Option D}
theorem m_opO {op : Operator} (ho : OpR X (binaryOp op) r) (hv : RvOk X.K g r f) (hL : AllO X.prog X.w X.K X.mg X.base g 0 j (PySem.dunder op.info.2) 2 L) (hb : AllC (fun c => OpB X.K (g.cl c) op) L) (hr : Room j X.A) (hx : Passes (L2.CX X.prog X.w) X E)
    (ha : PEM X g (WX_of E) a ma) (hc : PEM X g (WX_of E) b mb) : PEM X g (WX_of E) (.BinOp a op b pos) (mBinO L f ma mb) := by
  obtain ⟨ta, h1, h2⟩ := ha
  obtain ⟨tb, h3, h4⟩ := hc
  exact ⟨_, pe_op (ho.or (op_ownB hL hb hr hx)) h1 h3, (rv_opO hv).ev h2 h4⟩
theorem m_addO (hL : AllO X.prog X.w X.K X.mg X.base g 0 j "__add__" 2 L) (hb : AllC (fun c => OpB X.K (g.cl c) .Add) L) (hr : Room j X.A) (hx : Passes (L2.CX X.prog X.w) X E) (ha : PEM X g (WX_of E) a ma) (hc : PEM X g (WX_of E) b mb) : PEM X g (WX_of E) (.BinOp a .Add b pos) (mBinO L addD ma mb) :=
  m_opO (op_add.or (op_add_str.or (op_cat.or op_catA))) rv_add hL hb hr hx ha hc
theorem m_subO (hL : AllO X.prog X.w X.K X.mg X.base g 0 j "__sub__" 2 L) (hb : AllC (fun c => OpB X.K (g.cl c) .Sub) L) (hr : Room j X.A) (hx : Passes (L2.CX X.prog X.w) X E) (ha : PEM X g (WX_of E) a ma) (hc : PEM X g (WX_of E) b mb) : PEM X g (WX_of E) (.BinOp a .Sub b pos) (mBinO L subD ma mb) :=
  m_opO op_sub rv_sub hL hb hr hx ha hc
theorem m_shlO (hL : AllO X.prog X.w X.K X.mg X.base g 0 j "__lshift__" 2 L) (hb : AllC (fun c => OpB X.K (g.cl c) .LShift) L) (hr : Room j X.A) (hx : Passes (L2.CX X.prog X.w) X E) (ha : PEM X g (WX_of E) a ma) (hc : PEM X g (WX_of E) b mb) : PEM X g (WX_of E) (.BinOp a .LShift b pos) (mBinO L (fun _ _ => none) ma mb) :=
  m_opO op_none rv_none hL hb hr hx ha hc
theorem m_shrO (hL : AllO X.prog X.w X.K X.mg X.base g 0 j "__rshift__" 2 L) (hb : AllC (fun c => OpB X.K (g.cl c) .RShift) L) (hr : Room j X.A) (hx : Passes (L2.CX X.prog X.w) X E) (ha : PEM X g (WX_of E) a ma) (hc : PEM X g (WX_of E) b mb) : PEM X g (WX_of E) (.BinOp a .RShift b pos) (mBinO L (fun _ _ => none) ma mb) :=
  m_opO op_none rv_none hL hb hr hx ha hc
theorem t_eqO (hL : AllO X.prog X.w X.K X.mg X.base g 0 j "__eq__" 2 L) (hr : Room j X.A) (hx : Passes (L2.CX X.prog X.w) X E) (ha : PEM X g (WX_of E) a ma) (hc : PEM X g (WX_of E) b mb) : PTM X g (WX_of E) (.Compare a [.Eq] [b] pos) (mB (mCmpO L false eqD ma mb)) := by
  obtain ⟨ta, h1, h2⟩ := ha
  obtain ⟨tb, h3, h4⟩ := hc
  exact ⟨_, pt_cmpR ((op_eqD hr.units).or (op_ownEq hL hr hx)) h1 h3 (nomark _), ev_Test ((rv_eqO rv_eq).ev h2 h4)⟩
theorem m_eqO (hL : AllO X.prog X.w X.K X.mg X.base g 0 j "__eq__" 2 L) (hr : Room j X.A) (hx : Passes (L2.CX X.prog X.w) X E) (ha : PEM X g (WX_of E) a ma) (hc : PEM X g (WX_of E) b mb) : PEM X g (WX_of E) (.Compare a [.Eq] [b] pos) (mCmpO L false eqD ma mb) := by
  obtain ⟨ta, h1, h2⟩ := ha
  obtain ⟨tb, h3, h4⟩ := hc
  exact ⟨_, pe_cmpR ((op_eqD hr.units).or (op_ownEq hL hr hx)) h1 h3 (nomark _), (rv_eqO rv_eq).ev h2 h4⟩
theorem t_neO (hL : AllO X.prog X.w X.K X.mg X.base g 1 j "__eq__" 2 L) (hn : AllC (fun c => OpN X.K (g.cl c)) L) (hr : Room j X.A) (hx : Passes (L2.CX X.prog X.w) X E) (ha : PEM X g (WX_of E) a ma) (hc : PEM X g (WX_of E) b mb) : PTM X g (WX_of E) (.Compare a [.NotEq] [b] pos) (mB (mCmpO L true neD ma mb)) := by
  obtain ⟨ta, h1, h2⟩ := ha
  obtain ⟨tb, h3, h4⟩ := hc
  exact ⟨_, pt_cmpR ((op_neD hr.units).or (op_ownNe hL hn hr hx)) h1 h3 (nomark _), ev_Test ((rv_eqO rv_ne).ev h2 h4)⟩
theorem m_neO (hL : AllO X.prog X.w X.K X.mg X.base g 1 j "__eq__" 2 L) (hn : AllC (fun c => OpN X.K (g.cl c)) L) (hr : Room j X.A) (hx : Passes (L2.CX X.prog X.w) X E) (ha : PEM X g (WX_of E) a ma) (hc : PEM X g (WX_of E) b mb) : PEM X g (WX_of E) (.Compare a [.NotEq] [b] pos) (mCmpO L true neD ma mb) := by
  obtain ⟨ta, h1, h2⟩ := ha
  obtain ⟨tb, h3, h4⟩ := hc
  exact ⟨_, pe_cmpR ((op_neD hr.units).or (op_ownNe hL hn hr hx)) h1 h3 (nomark _), (rv_eqO rv_ne).ev h2 h4⟩
theorem ru_neg {K : PySem.W.Frag} : RuOk K g (rU fun i => .int (-i)) negD := fun Hf H x dx Q e rx h => by
  cases rx <;> try exact h.elim
  case int i => exact ⟨i, rfl, h _ Hf H (Grow.refl e) (.int _)⟩
theorem m_negO (hL : AllO X.prog X.w X.K X.mg X.base g 0 j "__neg__" 1 L) (hr : Room j X.A) (hx : Passes (L2.CX X.prog X.w) X E) (ha : PEM X g (WX_of E) a ma) : PEM X g (WX_of E) (.UnaryOp .USub a pos) (bnd ma (mUnO L negD)) := by
  obtain ⟨ta, h1, h2⟩ := ha
  exact ⟨_, pe_un (UnR.or un_neg (un_own hL hr hx fun hK hF J hs hf h => PySem.W.ksp_neg hF hK J hs hf h)) h1, (ru_unO ru_neg).ev h2⟩
theorem m_invO (hL : AllO X.prog X.w X.K X.mg X.base g 0 j "__invert__" 1 L) (hr : Room j X.A) (hx : Passes (L2.CX X.prog X.w) X E) (ha : PEM X g (WX_of E) a ma) : PEM X g (WX_of E) (.UnaryOp .Invert a pos) (bnd ma (mUnO L fun _ => none)) := by
  obtain ⟨ta, h1, h2⟩ := ha
  exact ⟨_, pe_un (UnR.or un_none (un_own hL hr hx fun hK hF J hs hf h => PySem.W.ksp_inv hF hK J hs hf h)) h1, (ru_unO ru_none).ev h2⟩
theorem m_lenO (hL : AllO X.prog X.w X.K X.mg X.base g 1 j "__len__" 1 L) (hr : Room j X.A) (hx : Passes (L2.CX X.prog X.w) X E) (hm : X.mg "len" = none) (ha : PAM X g (WX_of E) (e :: es) ml) (hg : Gl X "len" := by rfl)
    (he : starEach (e :: es) X.env = (false, eval e X.env) :: starEach es X.env := by rfl) (hpl : (backTo pos (starEach es X.env)).any (·.1) = false := by rfl) : PEM X g (WX_of E) (.Call (.Name "len" p) (e :: es) [] pos) (bnd ml (mLenO L lenD)) := by
  obtain ⟨t, h1, h2⟩ := ha
  exact ⟨_, pe_callB (call_len.or (len_own hL hr hx)) hg hm rfl h1 (by decide) (by decide) he hpl, (rc_lenO rc_len).ev h2⟩
theorem m_ixO (hL : AllO X.prog X.w X.K X.mg X.base g 1 j "__getitem__" 2 L) (hr : Room j X.A) (hx : Passes (L2.CX X.prog X.w) X E) (ha : PEM X g (WX_of E) a ma) (hb : PEM X g (WX_of E) b mb) (hs : PlainIx b := by exact fun _ _ => rfl)
    (hs2 : ∀ (o : Addr) i, subscripted b true (.ref o) i = runValue (.builtin "lifetime.subscript" ⟨[.ref o, i], []⟩) := by exact fun _ _ => by with_unfolding_all rfl) : PEM X g (WX_of E) (.Subscript a b pos) (mSubO L ma mb) := by
  obtain ⟨ta, h1, h2⟩ := ha
  obtain ⟨tb, h3, h4⟩ := hb
  exact ⟨_, pe_ixO ix_seq hL hr hx h1 h3 hs hs2, (rv_ixO rv_ix).ev h2 h4⟩
theorem t_truO (hL : AllO X.prog X.w X.K X.mg X.base g 0 j "__bool__" 1 L) (hr : Room j X.A) (hx : Passes (L2.CX X.prog X.w) X E) (h : PEM X g (WX_of E) a ma) (he : ∀ whole, isTrue a X.env whole = (do let v ← whole; standAt a.pos; holding [v] (truthy v)) := by intro _; rfl) : PTM X g (WX_of E) a (mTruO L ma) := by
  obtain ⟨ta, h1, h2⟩ := h
  refine ⟨_, ⟨fun pins s σ H Q I q => ?_⟩, ev_TruO (L := L) h2⟩
  rw [he]
  refine wpAny_bind (thn (h1.run pins s σ H _ I q) fun v s1 ⟨x, H1, I1, r1, q1⟩ => wpAny_bind (wpAny_standAt (wpAny_holding ?_)))
  rcases q1 with q1 | q1
  · exact tru_ok pins s1 σ H1 x v Q I1 r1 q1
  · exact tru_own hL hr hx pins s1 σ H1 x v Q I1 r1 q1
end
/-! ### slices -/
def cutD (xs : List D) (lo hi : Option Int) : List D := (xs.drop (HT.sIx xs.length 0 lo)).take (HT.sIx xs.length xs.length hi - HT.sIx xs.length 0 lo)
def slD : D → Option Int → Option Int → Option D
  | .lst xs, lo, hi => some (.lst (cutD xs lo hi))
  | .tup xs, lo, hi => some (.tup (cutD xs lo hi))
  | .str z, lo, hi => if small z.length = true then some (.str (cutS z lo hi)) else none
  | _, _, _ => none
def mNoP : M (Option Int) := ret none
def mPart (m : M D) : M (Option Int) := bnd m fun d => lft (match d with | .int i => some (some i) | _ => none)
def mSl (m : M D) (a b : M (Option Int)) : M D := bnd m fun d => bnd a fun lo => bnd b fun hi => lft (slD d lo hi)
def EvO (K : PySem.W.Frag) (g : G) (W : WX) (t : TO) (m : M (Option Int)) : Prop := ∀ env σ Hf H, SR K g env σ Hf H → ∀ Q : Option Int → Hp → Prop, Aft K g W env σ Hf H (m env) (fun o _ Hf' H' => Q o H') → t σ H Q
structure POM (X : Cx) (g : G) (W : WX) (o : Option Expr) (m : M (Option Int)) : Prop where
  ex : ∃ t, PO X o t ∧ EvO X.K g W t m
def revD : D → Option D
  | .lst xs => some (.lst xs.reverse)
  | _ => none
def rSlAll (K : PySem.W.Frag) : V → Option Int → Option Int → Hp → VK → Prop := fun x lo hi H Q => rSlL K x lo hi H Q ∨ (rSlA K x lo hi H Q ∨ rSlS x lo hi H Q)
section
variable {K : PySem.W.Frag} {g : G} {W : WX}
theorem cut_reps {Hf : Hp} {ds : List D} {vs : List V} (r : Reps K g Hf ds vs) (lo hi : Option Int) : Reps K g Hf (cutD ds lo hi) (cutV vs lo hi) := by
  unfold cutD cutV
  rw [r.len]
  exact (r.drop _).take _
theorem ev_sl {te : TE} {ta tb : TO} {m : M D} {a b : M (Option Int)} (he : EvM K g W te m) (ha : EvO K g W ta a) (hb : EvO K g W tb b) : EvM K g W (tSl (rSlAll K) te ta tb) (mSl m a b) :=
  fun env σ Hf H s Q h => he env σ Hf H s _ (h.bnd.imp fun d e1 Hf1 H1 _ s1 h1 x rx => ha e1 σ Hf1 H1 s1.sr _ (h1.bnd.imp fun lo e2 Hf2 H2 _ s2 h2 => hb e2 σ Hf2 H2 s2.sr _ (h2.bnd.imp fun hi e3 Hf3 H3 _ s3 h3 => by
    obtain ⟨z, hz, k⟩ := Aft.lft s3.sr h3
    have rx3 := rx.mono (s2.f.trans s3.f)
    have ex := s3.sr.ex
    have rx4 := rx3
    cases rx3 <;> try (cases hz; done)
    case lst a vs ds hr ha =>
      cases hz
      exact .inl ⟨_, _, rfl, SqL.of (ex _ _ (by assumption)), fun p hp => by
        obtain ⟨w, r⟩ := new_lst ex hp (cut_reps (by assumption) lo hi)
        exact k _ _ w _ r⟩
    case tup a vs ds hr ha =>
      cases hz
      refine .inr (.inl ⟨_, _, rfl, ex.t (by assumption), fun hw => ?_, fun _ p hp => ?_⟩)
      · refine k _ _ (Grow.refl ex) _ ?_
        have go : ∀ {dss : List D} {vss : List V} (hrr : Reps K g Hf3 dss vss) (hw : HT.sIx vss.length 0 lo = 0 ∧ HT.sIx vss.length vss.length hi = vss.length), cutD dss lo hi = dss := fun {dss vss} hrr hw => by
          unfold cutD
          rw [hrr.len, hw.1, hw.2, ← hrr.len]
          simp
        rw [go (by assumption) hw]
        exact rx4
      · obtain ⟨w, r⟩ := new_tup ex hp (cut_reps (by assumption) lo hi)
        exact k _ _ w _ r
    case str z _ =>
      dsimp only [slD] at hz
      by_cases c : small z.length = true
      · rw [if_pos c] at hz
        cases hz
        exact .inr (.inr ⟨z, rfl, small_le c, k _ _ (Grow.refl ex) _ (.str _)⟩)
      · rw [if_neg c] at hz
        cases hz)))
theorem ev_revL {te : TE} {m : M D} (he : EvM K g W te m) : EvM K g W (tRevL K te) (mUn revD m) :=
  fun env σ Hf H s Q h => he env σ Hf H s _ (h.bnd.imp fun d e1 Hf1 H1 _ s1 h1 x rx => by
    obtain ⟨z, hz, k⟩ := Aft.lft s1.sr h1
    have ex := s1.sr.ex
    cases rx <;> try (cases hz; done)
    case lst a ds vs ha hr _ =>
      cases hz
      exact ⟨_, _, rfl, SqL.of (ex _ _ ha), fun p hp => by
        obtain ⟨w, r⟩ := new_lst ex hp hr.reverse
        exact k _ _ w _ r⟩)
theorem evo_none : EvO K g W tNoPart mNoP := fun env σ Hf H s Q h => Aft.ret s h
theorem evo_some {te : TE} {m : M D} (he : EvM K g W te m) : EvO K g W (tPart te) (mPart m) :=
  fun env σ Hf H s Q h => he env σ Hf H s _ (h.bnd.imp fun d e1 Hf1 H1 _ s1 h1 x rx => by
    obtain ⟨z, hz, k⟩ := Aft.lft s1.sr h1
    cases rx <;> try (cases hz; done)
    case int i _ =>
      cases hz
      exact ⟨i, rfl, k _ _ (Grow.refl s1.sr.ex)⟩)
end
section
variable {X : Cx} {g : G} {W : WX} {e : Expr} {lo hi : Option Expr} {m : M D} {a b : M (Option Int)} {p1 p2 p3 pos : Pos}
theorem o_none : POM X g W none mNoP := ⟨_, po_none, evo_none⟩
theorem o_some (h : PEM X g W e m) : POM X g W (some e) (mPart m) := by
  obtain ⟨t, h1, h2⟩ := h
  exact ⟨_, po_some h1, evo_some h2⟩
theorem m_sl (h : PEM X g W e m) (ha : POM X g W lo a) (hb : POM X g W hi b) : PEM X g W (.Subscript e (.Slice lo hi none p2) pos) (mSl m a b) := by
  obtain ⟨t, h1, h2⟩ := h
  obtain ⟨u, h3, h4⟩ := ha
  obtain ⟨v, h5, h6⟩ := hb
  exact ⟨_, pe_slice (sl_list.or (sl_tupA.or sl_str)) h1 h3 h5, ev_sl h2 h4 h6⟩
theorem m_revL {k : Nat} (h : PEM X g W e m) : PEM X g W (.Subscript e (.Slice none none (some (.UnaryOp .USub (.Constant (.int 1) k p1) p2)) p3) pos) (mUn revD m) := by
  obtain ⟨t, h1, h2⟩ := h
  exact ⟨_, pe_revL h1, ev_revL h2⟩
end
/-! ### a, b = x, y -/
def sStos : List (Nat × D) → S
  | [] => sNx
  | (i, d) :: r => fun env => match sto i (.sh d) env with
    | .ok .nx e => sStos r e
    | _ => .bad
def sPar2 (i j : Nat) (m : M (List D)) : S := bnd m fun ds => match ds with
  | [a, b] => sStos [(i, a), (j, b)]
  | _ => fun _ => .bad
def sPar3 (i j l : Nat) (m : M (List D)) : S := bnd m fun ds => match ds with
  | [a, b, c] => sStos [(i, a), (j, b), (l, c)]
  | _ => fun _ => .bad
section
variable {K : PySem.W.Frag} {g : G} {W : WX} {env : En} {σ : L2.St} {Hf H : Hp}
def setsV (σ : L2.St) : List (Nat × V) → L2.St
  | [] => σ
  | (i, v) :: r => setsV (σ.set i (some v)) r
theorem ev_stos {Z : Ends} : ∀ {l : List (Nat × D)} {k : List (Nat × V)} {env : En} {σ : L2.St} {Hf H : Hp}, SR K g env σ Hf H → l.map (·.1) = k.map (·.1) → Reps K g Hf (l.map (·.2)) (k.map (·.2)) → Out K g W env σ Hf H (sStos l env) Z → Z.nx (setsV σ k) H
  | [], [], env, σ, Hf, H, s, _, _, h => h σ Hf H (Step.refl s)
  | (i, d) :: l, (j, v) :: k, env, σ, Hf, H, s, e, r, h => by
    rw [List.map_cons, List.map_cons, List.cons.injEq] at e
    obtain ⟨e1, e2⟩ := e
    dsimp only at e1
    subst e1
    rw [List.map_cons, List.map_cons] at r
    cases r with
    | cons r1 r2 =>
      unfold sStos at h
      unfold sto at h
      cases q : env[i]? with
      | none => rw [q] at h; exact h.elim
      | some y =>
        rw [q] at h
        have go : (∀ d', y ≠ .pn d') → Out K g W env σ Hf H (sStos l (env.set i (.sh d))) Z → Z.nx (setsV (σ.set i (some v)) k) H := fun np h => by
          have st : Step K g env σ Hf H (env.set i (.sh d)) (σ.set i (some v)) Hf H := store_step s q np ⟨v, rfl, r1⟩ (fun p z => nomatch z) (fun d z => nomatch z) (Step.refl s) (fun p z => nomatch z)
          exact ev_stos st.sr e2 r2 (Out.after st h)
        cases y with
        | pn d => exact h.elim
        | no => exact go (fun d z => nomatch z) h
        | sh d => exact go (fun d z => nomatch z) h
        | ow d => exact go (fun d z => nomatch z) h
  | [], _ :: _, _, _, _, _, _, e, _, _ => by cases e
  | _ :: _, [], _, _, _, _, _, e, _, _ => by cases e
theorem ev_par2 {i j : Nat} {ta : TA} {m : M (List D)} (ha : EvL K g W ta m) : EvS K g W (tPar i j ta) (sPar2 i j m) :=
  fun env σ Hf H s Z h => ha env σ Hf H s _ (h.bnd.imp fun ds e1 Hf1 H1 _ s1 h1 vs r => by
    split at h1
    · rename_i a b _
      cases r with
      | cons r1 r =>
        cases r with
        | cons r2 r =>
          cases r
          exact ⟨_, _, rfl, ev_stos (l := [(i, a), (j, b)]) (k := [(i, _), (j, _)]) s1.sr rfl (.cons r1 (.cons r2 .nil)) h1⟩
    · exact h1.elim)
theorem ev_par3 {i j l : Nat} {ta : TA} {m : M (List D)} (ha : EvL K g W ta m) : EvS K g W (tPar3 i j l ta) (sPar3 i j l m) :=
  fun env σ Hf H s Z h => ha env σ Hf H s _ (h.bnd.imp fun ds e1 Hf1 H1 _ s1 h1 vs r => by
    split at h1
    · rename_i a b c _
      cases r with
      | cons r1 r =>
        cases r with
        | cons r2 r =>
          cases r with
          | cons r3 r =>
            cases r
            exact ⟨_, _, _, rfl, ev_stos (l := [(i, a), (j, b), (l, c)]) (k := [(i, _), (j, _), (l, _)]) s1.sr rfl (.cons r1 (.cons r2 (.cons r3 .nil))) h1⟩
    · exact h1.elim)
end
section
variable {X : Cx} {g : G} {W : WX} {a b c : Expr} {m : M (List D)} {x y z : Str} {px py pz pt pos : Pos} {kt k2 pt2}
theorem s_par2 (i j : Nat) (h : PAM X g W [a, b] m) (hN : X.N.Nodup) (hc : X.calm = true := by rfl) (hi : X.N[i]? = some x := by rfl) (hj : X.N[j]? = some y := by rfl) (hij : i ≠ j := by decide)
    (hx : X.env.scope.names.lookup x = some .local := by rfl) (hy : X.env.scope.names.lookup y = some .local := by rfl)
    (hw : swappedStores [.Tuple [.Name x px, .Name y py] kt pt] (.Tuple [a, b] k2 pt2) X.env = pure (some [x, y]) := by rfl)
    (hs : swapsWithSole [.Tuple [.Name x px, .Name y py] kt pt] (.Tuple [a, b] k2 pt2) pos.line X.env = pure false := by rfl) : PSM X g W (.Assign [.Tuple [.Name x px, .Name y py] kt pt] (.Tuple [a, b] k2 pt2) pos) (sPar2 i j m) := by
  obtain ⟨t, h1, h2⟩ := h
  exact ⟨_, ps_par hc hN hi hj hij hx hy h1 hw hs, ev_par2 h2⟩
theorem s_par3 (i j l : Nat) (h : PAM X g W [a, b, c] m) (hN : X.N.Nodup) (hc : X.calm = true := by rfl) (hi : X.N[i]? = some x := by rfl) (hj : X.N[j]? = some y := by rfl) (hl : X.N[l]? = some z := by rfl) (hij : i ≠ j := by decide) (hil : i ≠ l := by decide) (hjl : j ≠ l := by decide)
    (hx : X.env.scope.names.lookup x = some .local := by rfl) (hy : X.env.scope.names.lookup y = some .local := by rfl) (hz : X.env.scope.names.lookup z = some .local := by rfl)
    (hw : swappedStores [.Tuple [.Name x px, .Name y py, .Name z pz] kt pt] (.Tuple [a, b, c] k2 pt2) X.env = pure (some [x, y, z]) := by rfl)
    (hs : swapsWithSole [.Tuple [.Name x px, .Name y py, .Name z pz] kt pt] (.Tuple [a, b, c] k2 pt2) pos.line X.env = pure false := by rfl) : PSM X g W (.Assign [.Tuple [.Name x px, .Name y py, .Name z pz] kt pt] (.Tuple [a, b, c] k2 pt2) pos) (sPar3 i j l m) := by
  obtain ⟨t, h1, h2⟩ := h
  exact ⟨_, ps_par3 hc hN hi hj hl hij hil hjl hx hy hz h1 hw hs, ev_par3 h2⟩
end
end DL

set_option Elab.async false
set_option linter.all false
set_option maxRecDepth 100000
set_option maxHeartbeats 400000
namespace DL
open PySem L2 PyProof.Rows
/-! ### defs -/
/-- a def's mirror: np parameters, n names -/
def fnM (np n : Nat) (b : S) : Fm := fun a => if a.length = np then run n b a else .bad
theorem fnM_ar {np n : Nat} {b : S} : Arity np (fnM np n b) := run_arity
section
variable {P : Program} {w : World} {K : PySem.W.Frag} {mg : Str → Option Value} {base : Heap} {g : G}
theorem spM_fnM {np n : Nat} {b : S} : ∀ vs H Q E, spM K g np (fnM np n b) vs H Q E → spM K g np (run n b) vs H Q E := fun vs H Q E h => by
  obtain ⟨Hf, args, sr, l, o⟩ := h
  refine ⟨Hf, args, sr, l, ?_⟩
  unfold fnM at o
  rw [if_pos l] at o
  exact o
section
variable {x qual : Str} {params : Arguments} {body : List Stmt} {scope : Scope} {dvs : List V} {kws : List (Str × V)} {f : Addr} {fd : FuncData} {N ps : List Str} {k : Nat} {b : S}
/-- a def that no exception leaves -/
theorem df_N (F : FunD K x qual params body scope dvs kws f fd) (Sc : FnScope N ps scope)
    (hb : ∀ (cdv : Value) (A : Around) (outer : List Env) (s : Shared) (H : Hp) (E : XK), Room k (A.deeper (envOfC qual scope s.heap.objs.size f cdv)) → PSsM (cxOf (L2.CX P w) P w K mg base N qual scope f cdv A outer s H E).nox g WF body b) :
    FnOk P w K mg base (L2.CX P w) (k + 1) f fd ps (spM K g ps.length (fnM ps.length N.length (nox b))) := by
  refine FnOk.imp ?_ spM_fnM
  refine F.ok Sc (fun vs H Q E h => ?_) (fun cdv A outer s H vs Q E hr h => ?_)
  · obtain ⟨Hf, args, sr, l, _⟩ := h
    rw [← l, ← sr.len, List.length_map]
  · obtain ⟨Hf, args, sr, l, o⟩ := h
    obtain ⟨t, h1, h2⟩ := hb cdv A outer s H E hr
    have lv : vs.length = args.length := by rw [← sr.len, List.length_map]
    refine ⟨t, PSs.nox h1, ?_⟩
    rw [start_eq, lv]
    refine h2 _ _ Hf H (sr_app sr _) _ ?_
    exact Out.nox (r := .bad) (out_run sr.len o)
/-- .. that exceptions may leave -/
theorem df_X (F : FunD K x qual params body scope dvs kws f fd) (Sc : FnScope N ps scope)
    (hb : ∀ (cdv : Value) (A : Around) (outer : List Env) (s : Shared) (H : Hp) (E : XK), Room k (A.deeper (envOfC qual scope s.heap.objs.size f cdv)) → PSsM (cxOf (L2.CX P w) P w K mg base N qual scope f cdv A outer s H E) g (WX_of E) body b) :
    FnOk P w K mg base (L2.CX P w) (k + 1) f fd ps (spM K g ps.length (fnM ps.length N.length b)) := by
  refine FnOk.imp ?_ spM_fnM
  refine F.ok Sc (fun vs H Q E h => ?_) (fun cdv A outer s H vs Q E hr h => ?_)
  · obtain ⟨Hf, args, sr, l, _⟩ := h
    rw [← l, ← sr.len, List.length_map]
  · obtain ⟨Hf, args, sr, l, o⟩ := h
    obtain ⟨t, h1, h2⟩ := hb cdv A outer s H E hr
    have lv : vs.length = args.length := by rw [← sr.len, List.length_map]
    refine ⟨t, h1, ?_⟩
    rw [start_eq, lv]
    exact h2 _ _ Hf H (sr_app sr _) _ (out_run sr.len o)
end
end
/-! ### the text's names, classes -/
def cNm : Nat → Str
  | 0 => "Word" | 1 => "Timed" | 2 => "Program" | 3 => "Machine" | 4 => "Piece" | 5 => "Moment" | 6 => "Act" | 7 => "Run" | 8 => "Fault" | 9 => "Checkpoint" | 10 => "Action" | 11 => "Trial" | 12 => "Session" | _ => "Console"
def xNm : Nat → Str
  | 0 => "InvalidNumber" | 1 => "InvalidWord" | 2 => "InvalidTicks" | 3 => "InvalidProgram" | 4 => "InvalidOrder" | 5 => "InvalidFault" | 6 => "InvalidName" | 7 => "InvalidCommand" | 8 => "ParseError" | 9 => "LimitExceeded" | 10 => "NothingToUndo" | _ => "NothingToRedo"
/-- the classes cs are there -/
def okOf (cs : List Nat) : Nat → Bool := fun c => cs.contains c
def gOf (K : PySem.W.Frag) (cs : List Nat) : G := ⟨fun c => He.ga K (cNm c), fun c => He.ga K (xNm c), okOf cs⟩
/-- an own class of errors, over ValueError by way of another -/
def exoB (K : PySem.W.Frag) (C : Addr) : Bool := match K.lookup C with
  | some ⟨.type "type", _, .cls cd, sl⟩ => (match cd.mro, sl.toList with
    | .ref C' :: bm, [_, _, _, _, some (.builtin n), _] => C' == C && (n == "ValueError.__new__" && (!cd.hasDel && (cd.hasDict && PySem.HandSPX.refsVE bm)))
    | _, _ => false)
  | _ => false
def exoAll (K : PySem.W.Frag) (C B fI : Addr) (f : Str) : Bool := exoB K C && (decide (PySem.W.findIn K (.ref C) "__setattr__" = some (some (.builtin "object.__setattr__"))) && (decide (PySem.W.subIn K (.ref C) (.type "BaseException") = some true) && (decide (PySem.W.typeIn K (.ref C) = some (.type "type")) &&
  (PySem.W.keepIn K (.ref C) && (xfB K C && (decide (PySem.W.findIn K (.ref C) f = some none) && (decide (PySem.W.findIn K (.ref C) "__init__" = some (some (.ref fI))) && (decide (PySem.W.typeIn K (.ref fI) = some (.type "function")) && (decide (PySem.W.exmOne K (.ref C) (.ref C) = some true) &&
  (decide (PySem.W.findIn K (.ref C) "__class__" = some (some (.builtin "object.__class__"))) && (decide (PySem.W.specialIn K (.builtin "object.__class__") "__get__" = some (some (.builtin "getset_descriptor.__get__"))) && (decide (PySem.W.takesIn K (.builtin "object.__class__") = some true) && (decide (PySem.W.mroIn K C (.type "object") = some true) &&
  (decide (PySem.W.kitOne K (.ref C) (.ref B) = some true) && (PySem.W.readsIn K B (.type "type") && (decide (PySem.W.specialIn K (.ref B) "__getattribute__" = some (some (.builtin "type.__getattribute__"))) && (decide (PySem.W.kitOne K (.ref C) (.type "ValueError") = some true) &&
  (match PySem.W.findCls K (.ref B) (.type "type") "__init__" with
    | some (.val (.builtin i)) => i == "ValueError.__init__"
    | _ => false))))))))))))))))))
/-- what is asked of the text -/
inductive Fx where
  | fa (f : He.Fa)
  | prp (x m : Str)
  | opr (x m : Str)
  | opb (x : Str) (op : Operator)
  | opn (x : Str)
  | fld (cs : List Nat)
  | isf (cs : List Nat)
  | cme (x m : Str)
  | sub (cs : List Nat)
  | exo (x y f : Str)
  | exn (x y : Str)
/-- the property's object, its getter -/
def prA (K : PySem.W.Frag) (x m : Str) : Addr := match PySem.W.findIn K (.ref (He.ga K x)) m with
  | some (some (.ref p)) => p
  | _ => 0
def prG (K : PySem.W.Frag) (x m : Str) : Addr := match PySem.W.recIn K (prA K x m) "property" with
  | some (.ref q :: _) => q
  | _ => 0
def cmG (K : PySem.W.Frag) (x m : Str) : Addr := match PySem.W.recIn K (prA K x m) "classmethod" with
  | some (.ref q :: _) => q
  | _ => 0
/-- types that no own class is below -/
def primT : List String := ["int", "str", "bool", "NoneType", "tuple", "list", "dict"]
def Fx.ok (K : PySem.W.Frag) : Fx → Bool
  | .fa f => f.ok K
  | .prp x m => He.eqO (PySem.W.findIn K (.ref (He.ga K x)) m) (some (some (.ref (prA K x m)))) && (decide (PySem.W.specialIn K (.ref (prA K x m)) "__get__" = some (some (.builtin "property.__get__"))) && (decide (PySem.W.takesIn K (.ref (prA K x m)) = some true) &&
      (match PySem.W.recIn K (prA K x m) "property" with
        | some (q :: _) => decide (q = .ref (prG K x m))
        | _ => false)))
  | .opr x m => He.eqO (PySem.W.findIn K (.ref (He.ga K x)) m) (some (some (.ref (He.ma K (He.ga K x) m)))) && (PySem.W.isFn K (.ref (He.ma K (He.ga K x) m)) && PySem.W.fnIn K (He.ma K (He.ga K x) m))
  | .opb x op => PySem.W.selfFirst K (He.ga K x) && (He.eqO (PySem.W.findIn K (.ref (He.ga K x)) (dunderR op.info.2)) (some none) && ((PySem.W.findIn K (.type "int") (PySem.dunder op.info.2)).isSome && ((PySem.W.findIn K (.type "int") (dunderR op.info.2)).isSome &&
      decide (PySem.W.subIn K (.type "int") (.ref (He.ga K x)) = some false))))
  | .opn x => He.eqO (PySem.W.findIn K (.ref (He.ga K x)) "__ne__") (some (some (.builtin "object.__ne__"))) && decide (PySem.W.mroIn K (He.ga K x) (.type "object") = some true)
  | .fld cs => cs.all fun c => He.Fa.ok K (.cls (cNm c)) && (nmT c).all fun f => He.Fa.ok K (.noat (cNm c) f)
  | .isf cs => (cs.all fun c => He.Fa.ok K (.cls (cNm c)) && (He.eqO (PySem.W.findIn K (.ref (He.ga K (cNm c))) "__class__") (some (some (.builtin "object.__class__"))) && (decide (PySem.W.mroIn K (He.ga K (cNm c)) (.type "object") = some true) &&
      (kinds.all fun n => decide (PySem.W.kitOne K (.ref (He.ga K (cNm c))) (.type n) = some false) && decide (PySem.W.kitOne K (.type n) (.ref (He.ga K (cNm c))) = some false)))) && (cs.all fun c' => decide (PySem.W.kitOne K (.ref (He.ga K (cNm c))) (.ref (He.ga K (cNm c'))) = some (c == c')))) &&
      (decide (PySem.W.specialIn K (.builtin "object.__class__") "__get__" = some (some (.builtin "getset_descriptor.__get__"))) && decide (PySem.W.takesIn K (.builtin "object.__class__") = some true))
  | .cme x m => PySem.W.readsIn K (He.ga K x) (.type "type") && (decide (PySem.W.specialIn K (.ref (He.ga K x)) "__getattribute__" = some (some (.builtin "type.__getattribute__"))) && (
      (match PySem.W.findCls K (.ref (He.ga K x)) (.type "type") m with
        | some (.get (.builtin i) (.ref p) .none (.ref C)) => i == "classmethod.__get__" && (decide (p = prA K x m) && decide (C = He.ga K x))
        | _ => false) && ((PySem.W.fnIn K (cmG K x m) &&
      (match PySem.W.recIn K (prA K x m) "classmethod" with
        | some (q :: _) => decide (q = .ref (cmG K x m))
        | _ => false)))))
  | .sub cs => (cs.all fun c => cs.all fun c' => PySem.W.notFirst K (He.ga K (cNm c)) (.ref (He.ga K (cNm c')))) && (cs.all fun c => primT.all fun T => decide (PySem.W.subIn K (.type T) (.ref (He.ga K (cNm c))) = some false))
  | .exo x y f => exoAll K (He.ga K x) (He.ga K y) (He.ma K (He.ga K x) "__init__") f
  | .exn x y => decide (PySem.W.exmOne K (.ref (He.ga K x)) (.ref (He.ga K y)) = some false)
abbrev b2 {a b : Bool} (h : (a && b) = true) : a = true ∧ b = true := He.ba h
section
variable {K : PySem.W.Frag} {x m : Str} {cs : List Nat}
theorem prp_ok (h : (Fx.prp x m).ok K = true) : PropOf K (He.ga K x) m (prA K x m) (prG K x m) := by
  obtain ⟨h1, h⟩ := b2 h
  obtain ⟨h2, h⟩ := b2 h
  obtain ⟨h3, h4⟩ := b2 h
  refine ⟨He.eqO_ok h1, of_decide_eq_true h2, of_decide_eq_true h3, ?_⟩
  split at h4
  · rename_i q r e
    rw [of_decide_eq_true h4] at e
    exact ⟨r, e⟩
  · cases h4
theorem opb_ok {op : Operator} (h : (Fx.opb x op).ok K = true) : OpB K (He.ga K x) op := by
  obtain ⟨h1, h⟩ := b2 h
  obtain ⟨h2, h⟩ := b2 h
  obtain ⟨h3, h⟩ := b2 h
  obtain ⟨h4, h5⟩ := b2 h
  exact ⟨h1, He.eqO_ok h2, Option.isSome_iff_exists.mp h3, Option.isSome_iff_exists.mp h4, of_decide_eq_true h5⟩
theorem opn_ok (h : (Fx.opn x).ok K = true) : OpN K (He.ga K x) := ⟨He.eqO_ok (b2 h).1, of_decide_eq_true (b2 h).2⟩
theorem fld_ok (h : (Fx.fld cs).ok K = true) : AllFld K (gOf K cs) := fun c hc => by
  have h1 := List.all_eq_true.mp h c (List.contains_iff_mem.mp hc)
  obtain ⟨h2, h3⟩ := b2 h1
  exact ⟨He.cls_ok h2, fun f hf => He.noat_ok (List.all_eq_true.mp h3 f hf)⟩
theorem isf_ok (h : (Fx.isf cs).ok K = true) : IsF K (gOf K cs) := by
  obtain ⟨h, h0⟩ := b2 h
  obtain ⟨h1, h2⟩ := b2 h0
  have all : ∀ c, (gOf K cs).ok c = true → _ := fun c hc => List.all_eq_true.mp h c (List.contains_iff_mem.mp hc)
  refine ⟨fun c hc => ?_, of_decide_eq_true h1, of_decide_eq_true h2, fun c hc n hn => ?_, fun c hc n hn => ?_, fun c c' hc hc' => ?_⟩
  · obtain ⟨k, _⟩ := b2 (all c hc)
    obtain ⟨k1, k⟩ := b2 k
    obtain ⟨k2, k⟩ := b2 k
    exact ⟨He.cls_ok k1, He.eqO_ok k2, of_decide_eq_true (b2 k).1⟩
  · obtain ⟨k, _⟩ := b2 (all c hc)
    have k := (b2 (b2 (b2 k).2).2).2
    exact of_decide_eq_true (b2 (List.all_eq_true.mp k n hn)).1
  · obtain ⟨k, _⟩ := b2 (all c hc)
    have k := (b2 (b2 (b2 k).2).2).2
    exact of_decide_eq_true (b2 (List.all_eq_true.mp k n hn)).2
  · obtain ⟨_, k⟩ := b2 (all c hc)
    exact of_decide_eq_true (List.all_eq_true.mp k c' (List.contains_iff_mem.mp hc'))
/-- comparing with other things -/
structure SubF (K : PySem.W.Frag) (g : G) (cs : List Nat) : Prop where
  cc : ∀ c c', cs.contains c = true → cs.contains c' = true → PySem.W.notFirst K (g.cl c) (.ref (g.cl c')) = true
  ct : ∀ c T, cs.contains c = true → T ∈ primT → PySem.W.subIn K (.type T) (.ref (g.cl c)) = some false
theorem sub_ok (h : (Fx.sub cs).ok K = true) : SubF K (gOf K cs) cs := by
  obtain ⟨h1, h2⟩ := b2 h
  exact ⟨fun c c' hc hc' => List.all_eq_true.mp (List.all_eq_true.mp h1 c (List.contains_iff_mem.mp hc)) c' (List.contains_iff_mem.mp hc'), fun c T hc hT => of_decide_eq_true (List.all_eq_true.mp (List.all_eq_true.mp h2 c (List.contains_iff_mem.mp hc)) T hT)⟩
theorem cme_ok (h : (Fx.cme x m).ok K = true) : ClX.CRead K (He.ga K x) (.type "type") ∧ ClX.CMet K (He.ga K x) (.type "type") m (prA K x m) (cmG K x m) := by
  obtain ⟨h1, h⟩ := b2 h
  obtain ⟨h2, h⟩ := b2 h
  obtain ⟨h3, h⟩ := b2 h
  obtain ⟨h4, h5⟩ := b2 h
  refine ⟨⟨h1, of_decide_eq_true h2⟩, ?_, ?_, h4⟩
  · split at h3
    · rename_i i p C e
      obtain ⟨a, b⟩ := b2 h3
      obtain ⟨b, c⟩ := b2 b
      rw [e, eq_of_beq a, of_decide_eq_true b, of_decide_eq_true c]
    · cases h3
  · split at h5
    · rename_i q r e
      rw [of_decide_eq_true h5] at e
      exact ⟨r, e⟩
    · cases h5
end
/-- where the j-th default of the def at a stands -/
def dfA (K : PySem.W.Frag) (a : Addr) (j : Nat) : Addr := match K.lookup a with
  | some ⟨_, _, .func q, _⟩ => (match q.defaults with
    | .ref T => (match K.lookup T with
      | some ⟨_, _, .seq its _, _⟩ => (match its[j]? with
        | some (.ref b) => b
        | _ => 0)
      | _ => 0)
    | _ => 0)
  | _ => 0
/-! ### defs by where they stand -/
structure Dx where
  adr : PySem.W.Frag → Addr
  name : Str
  qual : Str
  params : Arguments
  body : List Stmt
  scope : Scope
  dfl : PySem.W.Frag → List V
abbrev Seen : Type := Option (Str × Str × Arguments × FuncBody × Scope × Addr × List (Str × Addr) × Addr)
def seenAt (K : PySem.W.Frag) (a : Addr) : Seen := match K.lookup a with
  | some ⟨_, _, .func q, _⟩ => some (q.name, q.qualname, q.params, q.body, q.scope, q.globals, q.closure, q.builtins)
  | _ => none
def Dx.val (d : Dx) : Seen := some (d.name, d.qual, d.params, .stmts d.body, d.scope, mainGlobals, [], builtinsNs)
def Dx.ok (K : PySem.W.Frag) (d : Dx) : Bool := (match K.lookup (d.adr K) with
  | some ⟨_, _, .func q, _⟩ => PySem.W.codeIn K q.code d.qual && He.dflB K q.defaults (d.dfl K)
  | _ => false) && PySem.W.keepIn K (.ref (d.adr K))
theorem Dx.funD {K : PySem.W.Frag} {d : Dx} (e : seenAt K (d.adr K) = d.val) (c : d.ok K = true) : ∃ fd, FunD K d.name d.qual d.params d.body d.scope (d.dfl K) [] (d.adr K) fd := by
  obtain ⟨c, kp⟩ := b2 c
  unfold seenAt at e
  split at c
  · rename_i oc od q osl lk
    rw [lk] at e
    obtain ⟨n1, n2, n3, n4, n5, n6, n7, n8, n9, n10, n11, n12, n13, n14, n15⟩ := q
    have e2 : (some (n1, n2, n3, n4, n5, n6, n7, n15) : Seen) = d.val := e
    unfold Dx.val at e2
    simp only [Option.some.injEq, Prod.mk.injEq] at e2
    obtain ⟨q1, q2, q3, q4, q5, q6, q7, q8⟩ := e2
    subst q1 q2 q3 q4 q5 q6 q7 q8
    obtain ⟨k1, k2⟩ := b2 c
    exact ⟨_, ⟨oc, od, n8, n9, n10, n11, n12, n13, n14, osl, rfl, lk, k1, He.dflB_ok k2, .inl rfl⟩, kp⟩
  · cases c
abbrev Got : Type := Bool × List Seen
def seeF (fx : List Fx) (fn : List Dx) (K : PySem.W.Frag) : Got := (fx.all (fun f => f.ok K) && fn.all (fun d => d.ok K), fn.map fun d => seenAt K (d.adr K))
def goodF (fn : List Dx) : Got := (true, fn.map Dx.val)
def Says (fx : List Fx) (fn : List Dx) (K : PySem.W.Frag) : Prop := seeF fx fn K = goodF fn
/-- from the module's names and the classes' common record on -/
def asQ (q : Addr → Option Obj) : Nat → List Addr
  | 0 => [mainGlobals, cStatics]
  | n + 1 => He.growD q (asQ q n)
def see (n : Nat) (fx : List Fx) (fn : List Dx) (q : Addr → Option Obj) : Got := seeF fx fn (He.frG q (asQ q n))
def hookF (n : Nat) (fx : List Fx) (fn : List Dx) : PySem.W.Hook where
  α := Got
  obs := fun s => see n fx fn s.heap.get?
  val := fun _ => goodF fn
  says := fun _ h => ∃ K : PySem.W.Frag, K.In h ∧ Says fx fn K
  of := fun _ _ e => ⟨_, He.frG_in, e⟩
  keeps := fun _ _ _ ⟨K, i, c⟩ k => ⟨K, PySem.W.Frag.In.keeps i k, c⟩
theorem see_eq {n : Nat} {fx : List Fx} {fn : List Dx} {q : Addr → Option Obj} {s : Shared} (h : ∀ a, q a = s.heap.get? a) : see n fx fn q = (hookF n fx fn).obs s := by
  have e : q = s.heap.get? := funext h
  rw [e] <;> rfl
section
variable {fx : List Fx} {fn : List Dx} {K : PySem.W.Frag}
theorem Says.fact (c : Says fx fn K) (i : Nat) {f : Fx} (h : fx[i]? = some f := by rfl) : f.ok K = true := by
  have c1 := (b2 (show (fx.all (fun f => f.ok K) && fn.all (fun d => d.ok K)) = true from congrArg (fun z : Got => z.1) c)).1
  exact List.all_eq_true.mp c1 f (List.mem_of_getElem? h)
theorem Says.def_ (c : Says fx fn K) (i : Nat) {d : Dx} (h : fn[i]? = some d := by rfl) : ∃ fd, FunD K d.name d.qual d.params d.body d.scope (d.dfl K) [] (d.adr K) fd := by
  have c2 := (b2 (show (fx.all (fun f => f.ok K) && fn.all (fun d => d.ok K)) = true from congrArg (fun z : Got => z.1) c)).2
  have e : fn.map (fun d => seenAt K (d.adr K)) = fn.map Dx.val := congrArg (fun z : Got => z.2) c
  have e2 : (fn.map fun d => seenAt K (d.adr K))[i]? = (fn.map Dx.val)[i]? := by rw [e]
  rw [List.getElem?_map, List.getElem?_map, h] at e2
  exact Dx.funD (Option.some.inj e2) (List.all_eq_true.mp c2 d (List.mem_of_getElem? h))
end
end DL

set_option Elab.async false
set_option linter.all false
set_option maxRecDepth 100000
set_option maxHeartbeats 400000
namespace DL
open PySem L2 PyProof.Rows
/-! ### classmethods, the class in a local name -/
structure Cme (P : Program) (w : World) (K : PySem.W.Frag) (mg : Str → Option Value) (base : Heap) (g : G) (x : Str) (c : Nat) (m : Str) (F : Fm) (k : Nat) (dfl : List D) : Prop where
  ex : ∃ f fd ps dvs ds np p mc, FnOk P w K mg base (L2.CX P w) k f fd ps (spM K g np F) ∧ ClX.CRead K (g.cl c) mc ∧ ClX.CMet K (g.cl c) mc m p f ∧ Binds K fd ps ds ∧ Vals dvs ds ∧ (∀ H, Reps K g H dfl dvs) ∧ Arity np F
  at_ : mg x = some (.ref (g.cl c))
def mCme (F : Fm) (c : Nat) (dfl : List D) (ma : M (List D)) : M D := bnd ma fun ds => callA F (.cls c :: (ds ++ dfl))
def mClsF (F : Fm) (c i : Nat) (dfl : List D) (ma : M (List D)) : M D := fun env => match env[i]? with
  | some (.sh (.cls c')) => if c' = c then mMakF F c dfl ma env else .bad
  | _ => .bad
section
variable {X : Cx} {g : G} {E : XK} {j k c : Nat} {x y m : Str} {F : Fm} {dfl : List D} {e : Expr} {es : List Expr} {ma : M (List D)} {p1 pos apos : Pos} {pl : Sem Bool}
theorem m_cme (d : Cme X.prog X.w X.K X.mg X.base g x c m F k dfl) (hr : Room j X.A) (hx : Passes (L2.CX X.prog X.w) X E) (ha : PAM X g (WX_of E) (e :: es) ma) (hk : k ≤ j := by decide) (hg : Gl X x := by rfl) (hdb : (x == ("__debug__" : Str)) = false := by decide)
    (hst : starEach (e :: es) X.env = (false, eval e X.env) :: starEach es X.env := by rfl) (hpl : (backTo pos (starEach es X.env)).any (·.1) = false := by rfl)
    (ht : eval (.Call (.Attribute (.Name x p1) m apos) (e :: es) [] pos) X.env = (do
      let ov ← eval (.Name x p1) X.env
      standAt apos.atName
      let (f, first) ← holding [ov] (getMethod ov m pl)
      callWith pos f first (backTo pos (starEach (e :: es) X.env)) (backToKw pos (keywordEach [] X.env))) := by rfl) : PEM X g (WX_of E) (.Call (.Attribute (.Name x p1) m apos) (e :: es) [] pos) (mCme F c dfl ma) := by
  obtain ⟨t, h1, h2⟩ := ha
  obtain ⟨⟨f, fd, ps, dvs, ds, np, p, mc, F1, cr, cm, b, v, r, ar⟩, hm⟩ := d
  refine ⟨_, ClX.pe_cmeth (pl := pl) (pe_glob hg hm (v := .ref (g.cl c)) rfl hdb) cr cm (F1.raw b v) (hr.mono hk) hx h1 hst hpl ht, ?_⟩
  intro env σ Hf H s Q h
  exact ⟨rfl, h2 env σ Hf H s _ (h.bnd.imp fun zs e1 Hf1 H1 _ s1 h1 ws rw' => spA (ds := .cls c :: (zs ++ dfl)) ar s1.sr (.cons (.cls c) (rw'.append (r Hf1))) h1)⟩
theorem f_cls {np : Nat} (i : Nat) (d : Mak X.prog X.w X.K X.mg X.base g x c np F k dfl) (hr : Room j X.A) (hx : Passes (L2.CX X.prog X.w) X E) (ha : PAM X g (WX_of E) (e :: es) ma) (hk : k + 1 ≤ j := by decide) (hN : X.N[i]? = some y := by rfl) (hv : Vis X.env.scope y := by first | exact Or.inl rfl | exact Or.inr (Or.inl rfl) | exact Or.inr (Or.inr rfl))
    (hd : (y == ("__debug__" : Str)) = false := by decide) (hcd : (y == ("__classdict__" : Str)) = false := by decide)
    (he : starEach (e :: es) X.env = (false, eval e X.env) :: starEach es X.env := by rfl) (hpl : (backTo pos (starEach es X.env)).any (·.1) = false := by rfl) : PEF X g (WX_of E) (.Call (.Name y p1) (e :: es) [] pos) (mClsF F c i dfl ma) := by
  obtain ⟨t, h1, h2⟩ := ha
  obtain ⟨⟨f, fd, ps, dvs, ds, F1, mk, hm, b, v, r⟩, ok, ar⟩ := d
  refine ⟨fun σ H Q => σ[i]? = some (some (.ref (g.cl c))) ∧ tMake (g.cl c) (spM X.K g np F) dvs E t σ H Q, ⟨fun pins s σ H Q I h => ?_⟩, ?_⟩
  · obtain ⟨hs, h⟩ := h
    refine wpAny_Call_Name_kw (thn ((pe_var (pos := p1) hN hv hd hcd).run pins s σ H (fun v H1 => v = .ref (g.cl c) ∧ H1 = H) I ⟨.ref (g.cl c), hs, rfl, rfl⟩) fun u s1 ⟨v', H1, I1, r1, q1⟩ => ?_)
    obtain ⟨e1, e2⟩ := q1
    subst e1 e2
    cases r1
    refine PySem.W.callWith_K (h₀ := X.base) I.ok.mod.kin mk.kp (thn (h1.run pos pins s1 σ _ _ I1 h) fun us s2 ⟨vs, H2, I2, r2, q2⟩ => ⟨I2.kIn, ?_⟩) he hpl
    exact run_make mk F1 (hr.mono hk) b v hx I2 r2 q2
  · intro env σ Hf H s Q h
    unfold mClsF at h
    split at h
    · rename_i c' q
      by_cases hc : c' = c
      · subst hc
        rw [if_pos rfl] at h
        obtain ⟨v', e1, rv⟩ := s.sh_ q
        cases rv
        exact ⟨e1, ev_makF ar ok h2 r env σ Hf H s Q h⟩
      · rw [if_neg hc] at h
        exact h.elim
    · exact h.elim
/-- the name of a class as a value -/
theorem m_cl (hm : X.mg x = some (.ref (g.cl c))) {W : WX} (hg : Gl X x := by rfl) (hdb : (x == ("__debug__" : Str)) = false := by decide) : PEM X g W (.Name x pos) (ret (.cls c)) := ⟨_, pe_glob hg hm (v := .ref (g.cl c)) rfl hdb, ev_c fun _ => .cls c⟩
end
/-! ### from the facts to what the rules take -/
section
variable {P : Program} {w : World} {K : PySem.W.Frag} {h : Heap} {mg : Str → Option Value} {base : Heap} {g : G} {x qual : Str} {params : Arguments} {body : List Stmt} {scope : Scope} {dvs : List V} {f : Addr} {fd : FuncData} {ps : List Str} {np k : Nat} {F : Fm} {dfl : List D} {m : Str} {c : Nat}
/-- defaults that are plain -/
def plainV : D → Option V
  | .non => some .non | .bl b => some (.bl b) | .int i => some (.int i) | .str z => some (.str z) | _ => none
theorem plain_rep {d : D} {v : V} (e : plainV d = some v) (H : Hp) : Rep K g H d v := by
  cases d <;> try (cases e; done)
  · cases e; exact .non
  · cases e; exact .bl _
  · cases e; exact .int _
  · cases e; exact .str _
theorem plain_reps : ∀ {ds : List D} {vs : List V}, Paired (fun d v => plainV d = some v) ds vs → ∀ H, Reps K g H ds vs
  | _, _, .nil, _ => .nil
  | _, _, .cons a b, H => .cons (plain_rep a H) (plain_reps b H)
end
end DL

set_option Elab.async false
set_option linter.all false
set_option maxRecDepth 100000
set_option maxHeartbeats 400000
namespace DL
open PySem L2 PyProof.Rows
section
variable {X : Cx} {g : G} {W : WX} {a b c : Expr} {ma mb mc : M D} {pos : Pos}
theorem ev_chain {K : PySem.W.Frag} {p p' : Int → Int → Bool} {ta tb tc : TE} (h2 : EvM K g W ta ma) (h4 : EvM K g W tb mb) (h6 : EvM K g W tc mc) : EvM K g W (tChain (rI0 fun i j => .bl (p i j)) (rI0 fun i j => .bl (p' i j)) ta tb tc) (mChain (cmpD p) (cmpD p') ma mb mc) := by
  refine fun env σ Hf H s Q h => h2 env σ Hf H s _ (h.bnd.imp fun x e1 Hf1 H1 _ s1 k1 v r1 => h4 e1 σ Hf1 H1 s1.sr _ (k1.bnd.imp fun y e2 Hf2 H2 _ s2 k2 w r2 => ?_))
  obtain ⟨z, hz, k3⟩ := Aft.lft s2.sr k2.bnd
  have k4 := k3 Hf2 H2 (Grow.refl s2.sr.ex)
  obtain ⟨i, j, rfl, rfl, rfl⟩ := cmpD_some hz
  cases r1
  cases r2
  refine ⟨i, j, rfl, rfl, p i j, rfl, ?_⟩
  cases q : p i j with
  | true =>
    rw [q] at k4
    rw [if_pos rfl]
    refine h6 e2 σ Hf2 H2 s2.sr _ (k4.bnd.imp fun z e3 Hf3 H3 _ s3 k5 u r3 => ?_)
    obtain ⟨z', hz', k6⟩ := Aft.lft s3.sr k5
    obtain ⟨i', j', e1, rfl, rfl⟩ := cmpD_some hz'
    cases e1
    cases r3
    exact ⟨j, j', rfl, rfl, k6 Hf3 H3 (Grow.refl s3.sr.ex) _ (.bl _)⟩
  | false =>
    rw [q] at k4
    rw [if_neg (by decide)]
    exact Aft.ret s2.sr k4 _ (.bl _)
theorem t_chain {op op' : CmpOp} {p p' : Int → Int → Bool} (ho : OpR X (compareOp op) (rI0 fun i j => .bl (p i j))) (ho' : OpR X (compareOp op') (rI0 fun i j => .bl (p' i j))) (ha : PEM X g W a ma) (hb : PEM X g W b mb) (hc : PEM X g W c mc)
    (hm : lastMarks [op, op'] [b, c] = false := by with_unfolding_all rfl) : PTM X g W (.Compare a [op, op'] [b, c] pos) (mB (mChain (cmpD p) (cmpD p') ma mb mc)) := by
  obtain ⟨ta, h1, h2⟩ := ha
  obtain ⟨tb, h3, h4⟩ := hb
  obtain ⟨tc, h5, h6⟩ := hc
  exact ⟨_, pt_chain ho ho' h1 h3 h5 hm, ev_Test (ev_chain h2 h4 h6)⟩
end
theorem po0 {M : Model} {A : Around} {env : Env} : PassesOwn M A env (fun _ _ => False) := PassesOwn.never
def fuel : Nat := 1000000000000
def clsBody (s : Stmt) : List Stmt := match s with
  | .ClassDef _ _ _ b _ _ _ _ _ _ _ => b
  | _ => []
/-! ### what stands at the head -/
structure Bas (fx : List Fx) (fn : List Dx) (K : PySem.W.Frag) (mg : Str → Option Value) : Prop where
  ns : ∃ h : Heap, K.In h ∧ h.Ns mainGlobals mg
  c : Says fx fn K
section
variable {fx : List Fx} {fn : List Dx} {P : Program} {w : World} {K : PySem.W.Frag} {mg : Str → Option Value} {base : Heap} {g : G} {np k c : Nat} {F : Fm} {dfl : List D} {x m : Str} {f p : Addr} {fd : FuncData} {ps : List Str} {dvs : List V} {ds : List Value}
theorem Bas.free (b : Bas fx fn K mg) (i : Nat) {x : Str} (h : fx[i]? = some (.fa (.free x)) := by rfl) : mg x = none := by
  obtain ⟨_, X, G⟩ := b.ns
  exact He.free_ok X G (b.c.fact i h)
theorem Bas.glo (b : Bas fx fn K mg) (i : Nat) {x : Str} (h : fx[i]? = some (.fa (.glo x)) := by rfl) : mg x = some (.ref (He.ga K x)) := by
  obtain ⟨_, X, G⟩ := b.ns
  exact He.glo_ok X G (b.c.fact i h)
theorem Bas.int (b : Bas fx fn K mg) (i : Nat) {x : Str} {n : Int} (h : fx[i]? = some (.fa (.int x n)) := by rfl) : ∃ t, mg x = some (.int n t) := by
  obtain ⟨_, X, G⟩ := b.ns
  exact He.int_ok X G (b.c.fact i h)
theorem Bas.str (b : Bas fx fn K mg) (i : Nat) {x z : Str} (h : fx[i]? = some (.fa (.str x z)) := by rfl) : ∃ t, mg x = some (.str z t) := by
  obtain ⟨_, X, G⟩ := b.ns
  exact He.str_ok X G (b.c.fact i h)
theorem Bas.fld (b : Bas fx fn K mg) (i : Nat) {cs : List Nat} (h : fx[i]? = some (.fld cs) := by rfl) : AllFld K (gOf K cs) := fld_ok (b.c.fact i h)
theorem Bas.isf (b : Bas fx fn K mg) (i : Nat) {cs : List Nat} (h : fx[i]? = some (.isf cs) := by rfl) : IsF K (gOf K cs) := isf_ok (b.c.fact i h)
theorem Bas.opb (b : Bas fx fn K mg) (i : Nat) {x : Str} {op : Operator} (h : fx[i]? = some (.opb x op) := by rfl) : OpB K (He.ga K x) op := opb_ok (b.c.fact i h)
theorem Bas.opn (b : Bas fx fn K mg) (i : Nat) {x : Str} (h : fx[i]? = some (.opn x) := by rfl) : OpN K (He.ga K x) := opn_ok (b.c.fact i h)
theorem Bas.exn (b : Bas fx fn K mg) (i : Nat) {x y : Str} (h : fx[i]? = some (.exn x y) := by rfl) : PySem.W.exmOne K (.ref (He.ga K x)) (.ref (He.ga K y)) = some false := of_decide_eq_true (b.c.fact i h)
theorem Bas.sub (b : Bas fx fn K mg) (i : Nat) {cs : List Nat} (h : fx[i]? = some (.sub cs) := by rfl) : SubF K (gOf K cs) cs := sub_ok (b.c.fact i h)
theorem Bas.exo (b : Bas fx fn K mg) (i : Nat) {x y f : Str} (h : fx[i]? = some (.exo x y f) := by rfl) : exoAll K (He.ga K x) (He.ga K y) (He.ma K (He.ga K x) "__init__") f = true := b.c.fact i h
theorem Bas.meth (b : Bas fx fn K mg) (i : Nat) {x m : Str} (h : fx[i]? = some (.fa (.meth x m)) := by rfl) : Meth K (He.ga K x) m (He.ma K (He.ga K x) m) := He.meth_ok (b.c.fact i h)
theorem Bas.cls (b : Bas fx fn K mg) (i : Nat) {x : Str} (h : fx[i]? = some (.fa (.cls x)) := by rfl) : Cls K (He.ga K x) := He.cls_ok (b.c.fact i h)
theorem Bas.mkr (b : Bas fx fn K mg) (i : Nat) {x : Str} (h : fx[i]? = some (.fa (.mkr x)) := by rfl) : Mk K (He.ga K x) (He.ma K (He.ga K x) "__init__") := He.mkr_ok (b.c.fact i h)
theorem Bas.prp (b : Bas fx fn K mg) (i : Nat) {x m : Str} (h : fx[i]? = some (.prp x m) := by rfl) : PropOf K (He.ga K x) m (prA K x m) (prG K x m) := prp_ok (b.c.fact i h)
theorem Bas.cme (b : Bas fx fn K mg) (i : Nat) {x m : Str} (h : fx[i]? = some (.cme x m) := by rfl) : ClX.CRead K (He.ga K x) (.type "type") ∧ ClX.CMet K (He.ga K x) (.type "type") m (prA K x m) (cmG K x m) := cme_ok (b.c.fact i h)
theorem Bas.opr (b : Bas fx fn K mg) (i : Nat) {x m : Str} (h : fx[i]? = some (.opr x m) := by rfl) : PySem.W.findIn K (.ref (He.ga K x)) m = some (some (.ref (He.ma K (He.ga K x) m))) ∧ PySem.W.isFn K (.ref (He.ma K (He.ga K x) m)) = true ∧ PySem.W.fnIn K (He.ma K (He.ga K x) m) = true :=
  have q := b.c.fact i h
  ⟨He.eqO_ok (b2 q).1, (b2 (b2 q).2).1, (b2 (b2 q).2).2⟩
/-! the bundles -/
theorem mkDef0 (ok : FnOk P w K mg base (L2.CX P w) k f fd ps (spM K g np F)) (hm : mg x = some (.ref f)) (kp : PySem.W.keepIn K (.ref f) = true) (b : Binds K fd ps []) (ar : Arity np F) : Def0 P w K mg base g x np F k [] :=
  ⟨⟨f, fd, ps, [], [], ok, hm, kp, b, .nil, fun _ => .nil⟩, ar⟩
theorem mkDef0d (ok : FnOk P w K mg base (L2.CX P w) k f fd ps (spM K g np F)) (hm : mg x = some (.ref f)) (kp : PySem.W.keepIn K (.ref f) = true) (b : ∃ ds, Vals dvs ds ∧ Binds K fd ps ds) (pd : Paired (fun d v => plainV d = some v) dfl dvs) (ar : Arity np F) : Def0 P w K mg base g x np F k dfl :=
  let ⟨ds, v, b⟩ := b
  ⟨⟨f, fd, ps, dvs, ds, ok, hm, kp, b, v, fun H => plain_reps pd H⟩, ar⟩
theorem mkMak (ok : FnOk P w K mg base (L2.CX P w) k f fd ps (spM K g np F)) (mk : Mk K (g.cl c) f) (hm : mg x = some (.ref (g.cl c))) (b : Binds K fd ps []) (o : g.ok c = true) (ar : Arity np F) : Mak P w K mg base g x c np F k [] :=
  ⟨⟨f, fd, ps, [], [], ok, mk, hm, b, .nil, fun _ => .nil⟩, o, ar⟩
theorem mkMakd (ok : FnOk P w K mg base (L2.CX P w) k f fd ps (spM K g np F)) (mk : Mk K (g.cl c) f) (hm : mg x = some (.ref (g.cl c))) (b : ∃ ds, Vals dvs ds ∧ Binds K fd ps ds) (pd : Paired (fun d v => plainV d = some v) dfl dvs) (o : g.ok c = true) (ar : Arity np F) : Mak P w K mg base g x c np F k dfl :=
  let ⟨ds, v, b⟩ := b
  ⟨⟨f, fd, ps, dvs, ds, ok, mk, hm, b, v, fun H => plain_reps pd H⟩, o, ar⟩
theorem mkMth (ok : FnOk P w K mg base (L2.CX P w) k f fd ps (spM K g np F)) (hm : Meth K (g.cl c) m f) (b : Binds K fd ps []) (cl : Cls K (g.cl c)) (no : m ∉ nmT c) (ar : Arity np F) : Mth P w K mg base g c m F k [] :=
  ⟨⟨f, fd, ps, [], [], np, ok, hm, b, .nil, fun _ => .nil, ar⟩, cl, no⟩
theorem mkMthd (ok : FnOk P w K mg base (L2.CX P w) k f fd ps (spM K g np F)) (hm : Meth K (g.cl c) m f) (b : ∃ ds, Vals dvs ds ∧ Binds K fd ps ds) (pd : Paired (fun d v => plainV d = some v) dfl dvs) (cl : Cls K (g.cl c)) (no : m ∉ nmT c) (ar : Arity np F) : Mth P w K mg base g c m F k dfl :=
  let ⟨ds, v, b⟩ := b
  ⟨⟨f, fd, ps, dvs, ds, np, ok, hm, b, v, fun H => plain_reps pd H, ar⟩, cl, no⟩
theorem mkPrp (ok : FnOk P w K mg base (L2.CX P w) k f fd ps (spM K g 1 F)) (hm : PropOf K (g.cl c) m p f) (b : Binds K fd ps []) (cl : Cls K (g.cl c)) (ar : Arity 1 F) : Prp P w K mg base g c m F k :=
  ⟨⟨p, f, fd, ps, ok, hm, b⟩, cl, ar⟩
theorem mkOpr (ok : FnOk P w K mg base (L2.CX P w) k f fd ps (spM K g np F)) (q : PySem.W.findIn K (.ref (g.cl c)) m = some (some (.ref f)) ∧ PySem.W.isFn K (.ref f) = true ∧ PySem.W.fnIn K f = true) (b : Binds K fd ps []) (ar : Arity np F) : Opr P w K mg base g c m np F k :=
  ⟨⟨f, FnR.imp (ok.raw b .nil) fun vs H Q E h => by rw [List.append_nil]; exact h, q⟩, ar⟩
theorem mkCme {mc : Value} (ok : FnOk P w K mg base (L2.CX P w) k f fd ps (spM K g np F)) (q : ClX.CRead K (g.cl c) mc ∧ ClX.CMet K (g.cl c) mc m p f) (b : Binds K fd ps []) (hm : mg x = some (.ref (g.cl c))) (ar : Arity np F) : Cme P w K mg base g x c m F k [] :=
  ⟨⟨f, fd, ps, [], [], np, p, mc, ok, q.1, q.2, b, .nil, fun _ => .nil, ar⟩, hm⟩
theorem mkCmed {mc : Value} (ok : FnOk P w K mg base (L2.CX P w) k f fd ps (spM K g np F)) (q : ClX.CRead K (g.cl c) mc ∧ ClX.CMet K (g.cl c) mc m p f) (b : ∃ ds, Vals dvs ds ∧ Binds K fd ps ds) (pd : Paired (fun d v => plainV d = some v) dfl dvs) (hm : mg x = some (.ref (g.cl c))) (ar : Arity np F) : Cme P w K mg base g x c m F k dfl :=
  let ⟨ds, v, b⟩ := b
  ⟨⟨f, fd, ps, dvs, ds, np, p, mc, ok, q.1, q.2, b, v, fun H => plain_reps pd H, ar⟩, hm⟩
end
end DL

set_option Elab.async false
set_option linter.all false
set_option maxRecDepth 100000
set_option maxHeartbeats 400000
namespace DL
open PySem L2 PyProof.Rows StX
/-! ### [*xs, y] -/
def starL : D → Option (List D)
  | .lst xs => some xs
  | .tup xs => some xs
  | _ => none
def mStar (m : M D) (b : M (List D)) : M (List D) := bnd m fun d => bnd (lft (starL d)) fun xs => bnd b fun ys => ret (xs ++ ys)
section
variable {K : PySem.W.Frag} {g : G} {W : WX}
theorem ev_star {te : TE} {t : TA} {m : M D} {b : M (List D)} (he : EvM K g W te m) (hb : EvL K g W t b) : EvL K g W (tStar K te t) (mStar m b) :=
  fun env σ Hf H s Q h => he env σ Hf H s _ (h.bnd.imp fun d e1 Hf1 H1 _ s1 h1 x rx => by
    obtain ⟨xs, hz, k⟩ := Aft.lft s1.sr h1.bnd
    have k' := k Hf1 H1 (Grow.refl s1.sr.ex)
    have ex := s1.sr.ex
    have go : ∀ {vs : List V}, Reps K g Hf1 xs vs → t σ H1 fun ws H2 => Q (vs ++ ws) H2 := fun {vs} r => hb e1 σ Hf1 H1 s1.sr _ (k'.bnd.imp fun ys e2 Hf2 H2 _ s2 h2 ws rw' => Aft.ret s2.sr h2 _ ((r.mono s2.f).append rw'))
    cases rx <;> try (cases hz; done)
    case lst a ds vs ha hr _ =>
      cases hz
      exact ⟨_, _, rfl, .inr (SqL.of (ex _ _ ha)), go hr⟩
    case tup a ds vs ha hr _ =>
      cases hz
      exact ⟨_, _, rfl, .inl (ex.t ha), go hr⟩)
/-! ### max, min of three -/
def max3D : List D → Option D
  | [.int i, .int j, .int k] => some (.int (if (if i < j then j else i) < k then k else (if i < j then j else i)))
  | _ => none
def min3D : List D → Option D
  | [.int i, .int j, .int k] => some (.int (if k < (if j < i then j else i) then k else (if j < i then j else i)))
  | _ => none
end
section
variable {K : PySem.W.Frag} {g : G}
theorem nuMax2_i (i j : Int) : nuMax2 (.int i) (.int j) = some (.int (if i < j then j else i)) := by
  show (some (decide (i < j))).map _ = _
  by_cases h : i < j <;> simp [h]
theorem nuMin2_i (i j : Int) : nuMin2 (.int i) (.int j) = some (.int (if j < i then j else i)) := by
  show (some (decide (j < i))).map _ = _
  by_cases h : j < i <;> simp [h]
theorem rc_max3 : RcOk K g (rNuC3 nuMax3) max3D := rc_of fun Hf H xs ds z Q e r h q => by
  unfold max3D at h
  split at h
  · rename_i i j k
    cases h
    cases r with
    | cons r1 r =>
      cases r with
      | cons r2 r =>
        cases r with
        | cons r3 r =>
          cases r
          cases r1
          cases r2
          cases r3
          exact ⟨_, _, _, _, rfl, by unfold nuMax3; rw [nuMax2_i]; exact nuMax2_i _ _, q _ Hf H (Grow.refl e) (.int _)⟩
  · cases h
theorem rc_min3 : RcOk K g (rNuC3 nuMin3) min3D := rc_of fun Hf H xs ds z Q e r h q => by
  unfold min3D at h
  split at h
  · rename_i i j k
    cases h
    cases r with
    | cons r1 r =>
      cases r with
      | cons r2 r =>
        cases r with
        | cons r3 r =>
          cases r
          cases r1
          cases r2
          cases r3
          exact ⟨_, _, _, _, rfl, by unfold nuMin3; rw [nuMin2_i]; exact nuMin2_i _ _, q _ Hf H (Grow.refl e) (.int _)⟩
  · cases h
/-! ### range downwards -/
def rng3D : List D → Option (List D)
  | [.int a, .int b, .int c] => if c = -1 ∧ -1000000 ≤ a ∧ a ≤ 1000000 ∧ -1000000 ≤ b ∧ b ≤ 1000000 then some ((List.range (a - b).toNat).map fun i => .int (a - ((i : Nat) : Int))) else none
  | _ => none
theorem yl_rangeC (a : Int) (n : Nat) {Hf0 : Hp} : Yl K g (Itc a (-1) n) ((List.range n).map fun i => .int (a - ((i : Nat) : Int))) Hf0 := fun i Hf H e1 e2 => by
  refine ⟨fun d hd => ?_, fun q => ?_⟩
  · rw [List.getElem?_map] at hd
    cases c : (List.range n)[i]? with
    | none => rw [c] at hd; cases hd
    | some k =>
      rw [c] at hd
      cases hd
      obtain ⟨hi, hk⟩ := (List.getElem?_eq_some_iff.mp c)
      rw [List.getElem_range] at hk
      subst hk
      rw [List.length_range] at hi
      refine ⟨hi, fun x H' hx => ?_⟩
      obtain ⟨rfl, rfl⟩ := hx
      rw [show a + (i : Nat) * (-1) = a - ((i : Nat) : Int) from by omega]
      exact ⟨Hf, Grow.refl e2, .int _⟩
  · rw [List.length_map, List.length_range] at q
    exact Nat.le_of_eq q
theorem evi_rng3 {W : WX} {ta : TA} {m : M (List D)} (h : EvL K g W ta m) : EvI K g W (iRng3 ta) (iArg rng3D m) :=
  fun env σ Hf H s R q => h env σ Hf H s _ (q.bnd.imp fun ds e1 Hf1 H1 _ s1 h1 vs r => by
    obtain ⟨z, hz, k⟩ := Aft.lft s1.sr h1
    have k' := k Hf1 H1 (Grow.refl s1.sr.ex)
    unfold rng3D at hz
    split at hz
    · rename_i a b c _
      split at hz
      · rename_i cc
        cases hz
        obtain ⟨rfl, c1, c2, c3, c4⟩ := cc
        cases r with
        | cons r1 r =>
          cases r with
          | cons r2 r =>
            cases r with
            | cons r3 r =>
              cases r
              cases r1
              cases r2
              cases r3
              exact ⟨a, b, -1, _, rfl, RgC.neg (by omega) (by omega) (by omega) (by omega), k' _ (yl_rangeC a _)⟩
      · cases hz
    · cases hz)
end
section
variable {X : Cx} {g : G} {W : WX} {tg a b c : Expr} {ma : M (List D)} {p pos : Pos}
theorem i_rng3 (h : PAM X g W [a, b, c] ma) (hm : X.mg "range" = none) (hg : Gl X "range" := by rfl) (hs : starEach [a, b, c] X.env = (false, eval a X.env) :: starEach [b, c] X.env := by rfl)
    (hpl : (backTo pos (starEach [b, c] X.env)).any (·.1) = false := by rfl) : PIM X g W tg (.Call (.Name "range" p) [a, b, c] [] pos) (iArg rng3D ma) := by
  obtain ⟨t, h1, h2⟩ := h
  exact ⟨_, pi_range3 hg hm h1 hs hpl, evi_rng3 h2⟩
end
section
variable {X : Cx} {g : G} {W : WX} {e : Expr} {es : List Expr} {m : M D} {b : M (List D)} {p : Pos}
theorem a_star (he : PEM X g W e m) (hb : PAM X g W es b) (hs : starEach (.Starred e p :: es) X.env = (true, eval e X.env) :: starEach es X.env := by rfl) : PAM X g W (.Starred e p :: es) (mStar m b) := by
  obtain ⟨t, h1, h2⟩ := he
  obtain ⟨u, h3, h4⟩ := hb
  exact ⟨_, pa_star h1 h3 hs, ev_star h2 h4⟩
end
end DL

set_option Elab.async false
set_option linter.all false
set_option maxRecDepth 100000
set_option maxHeartbeats 400000
namespace DL
open PySem L2 PyProof.Rows
/-! ### a, b = x, []: values and new own things side by side -/
inductive It where
  | s (d : D) | o (d : D)
def It.sl : It → Sl
  | .s d => .sh d
  | .o d => .ow d
def ItNe (p : Addr) : List It → List V → Prop
  | .o _ :: ds, v :: vs => v ≠ .ref p ∧ ItNe p ds vs
  | .s _ :: ds, _ :: vs => ItNe p ds vs
  | _, _ => True
section
variable (K : PySem.W.Frag) (g : G)
inductive Its (env : En) (σ : L2.St) (H Hf' H' : Hp) : List It → List V → Prop
  | nil : Its env σ H Hf' H' [] []
  | s {d v ds vs} : Rep K g Hf' d v → Its env σ H Hf' H' ds vs → Its env σ H Hf' H' (.s d :: ds) (v :: vs)
  | o {d p ds vs} : New K g env σ H Hf' H' d p → ItNe p ds vs → Its env σ H Hf' H' ds vs → Its env σ H Hf' H' (.o d :: ds) (.ref p :: vs)
def EvX (W : WX) (ta : TA) (m : M (List It)) : Prop := ∀ env σ Hf H, SR K g env σ Hf H → ∀ Q : List V → Hp → Prop, Aft K g W env σ Hf H (m env) (fun ds env' Hf' H' => ∀ vs, Its K g env' σ H Hf' H' ds vs → Q vs H') → ta σ H Q
end
def xNil : M (List It) := ret []
def xS (a : M D) (b : M (List It)) : M (List It) := bnd a fun x => bnd b fun xs => ret (.s x :: xs)
def xO (a : M D) (b : M (List It)) : M (List It) := bnd a fun x => bnd b fun xs => ret (.o x :: xs)
section
variable {K : PySem.W.Frag} {g : G} {W : WX} {env env1 env2 : En} {σ : L2.St} {Hf H Hf1 H1 Hf2 H2 : Hp}
theorem New.step {d : D} {p : Addr} (n : New K g env1 σ H Hf1 H1 d p) (s : Step K g env1 σ Hf1 H1 env2 σ Hf2 H2) : New K g env2 σ H Hf2 H2 d p := by
  obtain ⟨u, hu, r⟩ := n.at_
  obtain ⟨k1, k2⟩ := s.kp p u hu n.nf n.no
  refine ⟨⟨u, k1, r.mono s.f⟩, k2, fun o => ?_, n.nw⟩
  rcases s.ow p o with q | q
  · exact n.no q
  · rw [hu] at q; cases q
theorem Its.weak : ∀ {ds : List It} {vs : List V}, Its K g env2 σ H1 Hf2 H2 ds vs → Step K g env σ Hf H env1 σ Hf1 H1 → Its K g env2 σ H Hf2 H2 ds vs
  | _, _, .nil, _ => .nil
  | _, _, .s r k, st => .s r (k.weak st)
  | _, _, .o n e k, st => .o ⟨n.at_, n.nf, n.no, st.th _ n.nw⟩ e (k.weak st)
theorem Its.ne {p : Addr} (hp : ∃ u, H1 p = some u) : ∀ {ds : List It} {vs : List V}, Its K g env2 σ H1 Hf2 H2 ds vs → ItNe p ds vs
  | _, _, .nil => by unfold ItNe; trivial
  | _, _, .s _ k => by unfold ItNe; exact Its.ne hp k
  | _, _, .o n _ k => by
    unfold ItNe
    refine ⟨fun c => ?_, Its.ne hp k⟩
    cases c
    obtain ⟨u, hu⟩ := hp
    rw [n.nw] at hu
    cases hu
theorem evx_nil : EvX K g W tNil xNil := fun env σ Hf H s Q h => Aft.ret s h [] .nil
theorem evx_s {ta : TE} {tr : TA} {a : M D} {b : M (List It)} (ha : EvM K g W ta a) (hb : EvX K g W tr b) : EvX K g W (tCons ta tr) (xS a b) :=
  fun env σ Hf H s Q h => ha env σ Hf H s _ (h.bnd.imp fun x e1 Hf1 H1 _ s1 h1 v r1 => hb e1 σ Hf1 H1 s1.sr _ (h1.bnd.imp fun xs e2 Hf2 H2 _ s2 h2 vs r2 => Aft.ret s2.sr h2 (v :: vs) (.s (r1.mono s2.f) (r2.weak s1))))
theorem evx_o {ta : TE} {tr : TA} {a : M D} {b : M (List It)} (ha : EvF K g W ta a) (hb : EvX K g W tr b) : EvX K g W (tCons ta tr) (xO a b) :=
  fun env σ Hf H s Q h => ha env σ Hf H s _ (h.bnd.imp fun x e1 Hf1 H1 _ s1 h1 p n => hb e1 σ Hf1 H1 s1.sr _ (h1.bnd.imp fun xs e2 Hf2 H2 _ s2 h2 vs r2 => Aft.ret s2.sr h2 (.ref p :: vs) (.o (n.step s2) (r2.ne (by obtain ⟨u, hu, _⟩ := n.at_; exact ⟨u, hu⟩)) (r2.weak s1))))
end
def sStoX : List (Nat × It) → S
  | [] => sNx
  | (i, d) :: r => fun env => match sto i d.sl env with
    | .ok .nx e => sStoX r e
    | _ => .bad
def sParX (ix : List Nat) (m : M (List It)) : S := bnd m fun ds => if ds.length = ix.length then sStoX (ix.zip ds) else fun _ => .bad
section
variable {K : PySem.W.Frag} {g : G} {W : WX}
theorem ev_stoX {Z : Ends} {env0 : En} {σ0 : L2.St} {Hf0 H0 : Hp} : ∀ {ix : List Nat} {ds : List It} {vs : List V} {env : En} {σ : L2.St} {Hf H : Hp}, Step K g env0 σ0 Hf0 H0 env σ Hf H → Its K g env σ H0 Hf H ds vs → ds.length = ix.length → Out K g W env0 σ0 Hf0 H0 (sStoX (ix.zip ds) env) Z → Z.nx (setsV σ (ix.zip vs)) H
  | [], [], [], env, σ, Hf, H, s, _, _, h => h σ Hf H s
  | i :: ix, d :: ds, v :: vs, env, σ, Hf, H, s, r, l, h => by
    rw [List.zip_cons_cons] at h ⊢
    unfold sStoX at h
    unfold sto at h
    cases q : env[i]? with
    | none => rw [q] at h; exact h.elim
    | some y =>
      rw [q] at h
      have go : (∀ d', y ≠ .pn d') → Out K g W env0 σ0 Hf0 H0 (sStoX (ix.zip ds) (env.set i d.sl)) Z → Z.nx (setsV σ ((i, v) :: ix.zip vs)) H := fun np h => by
        have l' : ds.length = ix.length := by simpa using l
        cases r with
        | @s d0 _ _ _ r1 r2 =>
          have st : Step K g env σ Hf H (env.set i (.sh d0)) (σ.set i (some v)) Hf H := store_step s.sr q np ⟨v, rfl, r1⟩ (fun p z => nomatch z) (fun d z => nomatch z) (Step.refl s.sr) (fun p z => nomatch z)
          have st0 : Step K g env0 σ0 Hf0 H0 (env.set i (.sh d0)) (σ.set i (some v)) Hf H := s.trans st
          have go2 : ∀ {ds : List It} {vs : List V}, Its K g env σ H0 Hf H ds vs → Its K g (env.set i (.sh d0)) (σ.set i (some v)) H0 Hf H ds vs := by
            intro ds vs k
            induction k with
            | nil => exact .nil
            | s r k ih => exact .s r ih
            | o n e k ih =>
              refine .o ⟨n.at_, n.nf, fun o => ?_, n.nw⟩ e ih
              rcases Own.at_set o with ⟨d, m, _⟩ | ⟨j, t, d, _, h1, h2, h3⟩
              · cases m
              · exact n.no ⟨j, t, d, h1, h2, h3⟩
          exact ev_stoX st0 (go2 r2) l' h
        | @o d0 p _ _ n ne r2 =>
          obtain ⟨u, hu, ru⟩ := n.at_
          have st0 : Step K g env0 σ0 Hf0 H0 (env.set i (.ow d0)) (σ.set i (some (.ref p))) Hf H := store_step s.sr q np ⟨p, u, rfl, hu, n.nf, ru⟩ (fun p' _ z => by cases z; exact n.no) (fun d z => nomatch z) s (fun p' _ z => by cases z; exact n.nw)
          have go2 : ∀ {ds : List It} {vs : List V}, Its K g env σ H0 Hf H ds vs → ItNe p ds vs → Its K g (env.set i (.ow d0)) (σ.set i (some (.ref p))) H0 Hf H ds vs := by
            intro ds vs k
            induction k with
            | nil => exact fun _ => .nil
            | s r k ih => exact fun z => .s r (ih z)
            | o n e k ih =>
              intro z
              refine .o ⟨n.at_, n.nf, fun o => ?_, n.nw⟩ e (ih z.2)
              rcases Own.at_set o with ⟨d, m, c⟩ | ⟨j, t, d, _, h1, h2, h3⟩
              · exact z.1 c.symm
              · exact n.no ⟨j, t, d, h1, h2, h3⟩
          exact ev_stoX st0 (go2 r2 ne) l' h
      cases y with
      | pn d => exact h.elim
      | no => exact go (fun d z => nomatch z) h
      | sh d => exact go (fun d z => nomatch z) h
      | ow d => exact go (fun d z => nomatch z) h
  | [], _ :: _, _, _, _, _, _, _, _, e, _ => by cases e
  | _ :: _, [], _, _, _, _, _, _, _, e, _ => by cases e
  | [], [], _ :: _, _, _, _, _, _, r, _, _ => by cases r
  | _ :: _, _ :: _, [], _, _, _, _, _, r, _, _ => by cases r
theorem Its.len {env : En} {σ : L2.St} {H Hf' H' : Hp} : ∀ {ds : List It} {vs : List V}, Its K g env σ H Hf' H' ds vs → ds.length = vs.length
  | _, _, .nil => rfl
  | _, _, .s _ k => by rw [List.length_cons, List.length_cons, k.len]
  | _, _, .o _ _ k => by rw [List.length_cons, List.length_cons, k.len]
theorem ev_parX {ix : List Nat} {ta : TA} {m : M (List It)} {t : TS} (ha : EvX K g W ta m) (ht : ∀ Z σ H, (ta σ H fun vs H1 => vs.length = ix.length ∧ Z.nx (setsV σ (ix.zip vs)) H1) → t Z σ H) : EvS K g W t (sParX ix m) := by
  intro env σ Hf H s Z h
  refine ht Z σ H (ha env σ Hf H s _ ?_)
  unfold sParX DL.bnd at h
  revert h
  cases m env with
  | bad => exact fun h => h
  | ex c d e => exact fun h => h
  | ok ds e =>
    intro h Hf1 H1 s1 vs r
    dsimp only at h
    by_cases c : ds.length = ix.length
    · rw [if_pos c] at h
      exact ⟨by rw [← r.len]; exact c, ev_stoX s1 r c h⟩
    · rw [if_neg c] at h
      exact h.elim
end
structure PXM (X : Cx) (g : G) (W : WX) (es : List Expr) (m : M (List It)) : Prop where
  ex : ∃ t, PA X es t ∧ EvX X.K g W t m
section
variable {X : Cx} {g : G} {W : WX} {e : Expr} {es : List Expr} {a : M D} {b m : M (List It)} {x y z : Str} {ea eb ec : Expr} {px py pz pt pt2 pos : Pos} {kt k2}
theorem x_nil : PXM X g W [] xNil := ⟨_, pa_nil, evx_nil⟩
theorem x_s (ha : PEM X g W e a) (hb : PXM X g W es b) (hs : starEach (e :: es) X.env = (false, eval e X.env) :: starEach es X.env := by rfl) : PXM X g W (e :: es) (xS a b) := by
  obtain ⟨t, h1, h2⟩ := ha
  obtain ⟨u, h3, h4⟩ := hb
  exact ⟨_, pa_cons h1 h3 hs, evx_s h2 h4⟩
theorem x_o (ha : PEF X g W e a) (hb : PXM X g W es b) (hs : starEach (e :: es) X.env = (false, eval e X.env) :: starEach es X.env := by rfl) : PXM X g W (e :: es) (xO a b) := by
  obtain ⟨t, h1, h2⟩ := ha
  obtain ⟨u, h3, h4⟩ := hb
  exact ⟨_, pa_cons h1 h3 hs, evx_o h2 h4⟩
theorem s_parX2 (i j : Nat) (h : PXM X g W [ea, eb] m) (hN : X.N.Nodup) (hc : X.calm = true := by rfl) (hi : X.N[i]? = some x := by rfl) (hj : X.N[j]? = some y := by rfl) (hij : i ≠ j := by decide)
    (hx : X.env.scope.names.lookup x = some .local := by rfl) (hy : X.env.scope.names.lookup y = some .local := by rfl)
    (hw : swappedStores [.Tuple [.Name x px, .Name y py] kt pt] (.Tuple [ea, eb] k2 pt2) X.env = pure (some [x, y]) := by rfl)
    (hs : swapsWithSole [.Tuple [.Name x px, .Name y py] kt pt] (.Tuple [ea, eb] k2 pt2) pos.line X.env = pure false := by rfl) : PSM X g W (.Assign [.Tuple [.Name x px, .Name y py] kt pt] (.Tuple [ea, eb] k2 pt2) pos) (sParX [i, j] m) := by
  obtain ⟨t, h1, h2⟩ := h
  refine ⟨_, ps_par hc hN hi hj hij hx hy h1 hw hs, ev_parX h2 fun Z σ H k => ?_⟩
  have e : (fun vs H1 => vs.length = [i, j].length ∧ Z.nx (setsV σ ([i, j].zip vs)) H1) = fun vs H1 => ∃ v w, vs = [v, w] ∧ Z.nx ((σ.set i (some v)).set j (some w)) H1 := by
    funext vs H1
    refine propext ⟨fun ⟨l, q⟩ => ?_, fun ⟨v, w, e, q⟩ => ?_⟩
    · match vs, l, q with
      | [v, w], _, q => exact ⟨v, w, rfl, q⟩
    · subst e
      exact ⟨rfl, q⟩
  rw [e] at k
  exact k
theorem s_parX3 (i j l : Nat) (h : PXM X g W [ea, eb, ec] m) (hN : X.N.Nodup) (hc : X.calm = true := by rfl) (hi : X.N[i]? = some x := by rfl) (hj : X.N[j]? = some y := by rfl) (hl : X.N[l]? = some z := by rfl) (hij : i ≠ j := by decide) (hil : i ≠ l := by decide) (hjl : j ≠ l := by decide)
    (hx : X.env.scope.names.lookup x = some .local := by rfl) (hy : X.env.scope.names.lookup y = some .local := by rfl) (hz : X.env.scope.names.lookup z = some .local := by rfl)
    (hw : swappedStores [.Tuple [.Name x px, .Name y py, .Name z pz] kt pt] (.Tuple [ea, eb, ec] k2 pt2) X.env = pure (some [x, y, z]) := by rfl)
    (hs : swapsWithSole [.Tuple [.Name x px, .Name y py, .Name z pz] kt pt] (.Tuple [ea, eb, ec] k2 pt2) pos.line X.env = pure false := by rfl) : PSM X g W (.Assign [.Tuple [.Name x px, .Name y py, .Name z pz] kt pt] (.Tuple [ea, eb, ec] k2 pt2) pos) (sParX [i, j, l] m) := by
  obtain ⟨t, h1, h2⟩ := h
  refine ⟨_, ps_par3 hc hN hi hj hl hij hil hjl hx hy hz h1 hw hs, ev_parX h2 fun Z σ H k => ?_⟩
  have e : (fun vs H1 => vs.length = [i, j, l].length ∧ Z.nx (setsV σ ([i, j, l].zip vs)) H1) = fun vs H1 => ∃ u v w, vs = [u, v, w] ∧ Z.nx (((σ.set i (some u)).set j (some v)).set l (some w)) H1 := by
    funext vs H1
    refine propext ⟨fun ⟨l, q⟩ => ?_, fun ⟨u, v, w, e, q⟩ => ?_⟩
    · match vs, l, q with
      | [u, v, w], _, q => exact ⟨u, v, w, rfl, q⟩
    · subst e
      exact ⟨rfl, q⟩
  rw [e] at k
  exact k
end
end DL

set_option Elab.async false
set_option linter.all false
set_option maxRecDepth 100000
set_option maxHeartbeats 400000
namespace DL
open PySem L2 PyProof.Rows
/-! ### == and != of own things with anything -/
section
variable {prog : Program} {w : World} {A : Around} {E : Value → Shared → Prop} {s : Shared} {K : PySem.W.Frag} {x C f : Addr} {ox : Obj} {od : Option Obj} {b tb : Value}
theorem rich_neG {Q : Value → Shared → Prop} (X : K.In s.heap) (I : PySem.W.InstAt s.heap x ox C od) (hb : PySem.W.Looks (model prog w) s.heap (typeOf b) tb) (hnf : PySem.W.notFirst K C tb = true) (hu : A.units + 1 < cLine)
    (hn : PySem.W.findIn K (.ref C) "__ne__" = some (some (.builtin "object.__ne__"))) (hm : PySem.W.mroIn K C (.type "object") = some true) (hs : PySem.W.findIn K (.ref C) "__eq__" = some (some (.ref f))) (hf : PySem.W.isFn K (.ref f) = true)
    (h : wpAny (model prog w) A.in1 (call (.ref f) [.ref x, b]) (fun v s' => ∃ k, v = .bool k ∧ Q (.bool (!k)) s') E s) : wpAny (model prog w) A (richCompare .NotEq (.ref x) b) Q E s := by
  have one : wpAny (model prog w) A (tryCompare (.ref x) "__ne__" b) (fun r s' => ∃ k, r = some (.bool k) ∧ Q (.bool k) s') E s := by
    unfold tryCompare
    refine wpAny_bind (ifBound_ne X I hn (wpAny_call (codeAny_call_builtin F.cmp_object.ne.plain F.cmpEntry_ne (PySem.W.check_slot F.cmpKind_ne F.cmpSplit_ne (I.type.andThen (PySem.W.looks_mroIn X hm)) (F.cmpArgs_ne _ _)
      (entry_ne (A := A.in1) X I hu hs hf (wpAny_mono h (fun v s' hv => ?_) fun _ _ e => e))))))
    obtain ⟨k, rfl, hq⟩ := hv
    exact ⟨k, rfl, wpAny_pure ⟨_, rfl, hq⟩⟩
  unfold richCompare
  simp only [oneThing_ref]
  refine wpAny_holding (wpAny_bind (wpAny_cRoomFor (Nat.lt_of_succ_lt hu) ?_))
  rw [cmpInfo_NotEq]
  dsimp only
  refine wpAny_bind (I.type.here (wpAny_bind (hb.here ?_)))
  split
  · rename_i q
    have e : PySem.W.subIn K tb (.ref C) = some false := by
      rcases Bool.or_eq_true_iff.mp hnf with e | e
      · rw [beq_iff_eq.mp e] at q; simp at q
      · exact beq_iff_eq.mp e
    refine wpAny_bind ((PySem.W.looks_subIn X e).here ?_)
    simp only [Bool.false_eq_true, if_false]
    refine wpAny_bind (wpAny_mono one (fun r s' z => ?_) fun _ _ e => e)
    obtain ⟨v, rfl, hq⟩ := z
    exact wpAny_pure hq
  · refine wpAny_bind (wpAny_pure ?_)
    simp only [Bool.false_eq_true, if_false]
    refine wpAny_bind (wpAny_mono one (fun r s' z => ?_) fun _ _ e => e)
    obtain ⟨v, rfl, hq⟩ := z
    exact wpAny_pure hq
end
/-- what may stand at the right -/
def okE (cs : List Nat) : D → Bool
  | .ins c _ => cs.contains c
  | .int _ => true
  | .str _ => true
  | .bl _ => true
  | .non => true
  | .tup _ => true
  | .lst _ => true
  | .scr _ => true
  | _ => false
def mEqG (cs : List Nat) (L : List (Nat × Fm)) (neg : Bool) (f : D → D → Option D) (x y : D) : M D := match cand L x with
  | some F => if okE cs y = true then bnd (callA F [x, y]) fun z => lft (blD neg z) else fun _ => .bad
  | none => lft (f x y)
def mCmpG (cs : List Nat) (L : List (Nat × Fm)) (neg : Bool) (f : D → D → Option D) (ma mb : M D) : M D := bnd ma fun x => bnd mb fun y => mEqG cs L neg f x y
def RightE (K : PySem.W.Frag) (g : G) (cs : List Nat) (H : Hp) (y : V) : Prop := (∃ c b dy gs, cs.contains c = true ∧ y = .ref b ∧ H b = some (.ins (g.cl c) dy gs)) ∨ ∃ T, T ∈ primT ∧ TyB K H y T
def rOwnG (K : PySem.W.Frag) (g : G) (cs : List Nat) (L : List (Nat × Fm)) (E : XK) (neg : Bool) : R2 := fun x y H Q => ∃ p ∈ L, ∃ a dx fs, x = .ref a ∧ H a = some (.ins (g.cl p.1) dx fs) ∧ RightE K g cs H y ∧
  SpD K g p.2 [] [x, y] H (fun v H' => ∃ k, v = .bl k ∧ Q (.bl (k != neg)) H') E
section
variable {g : G} {E : XK} {cs : List Nat}
theorem right_of {K : PySem.W.Frag} {Hf H : Hp} {d : D} {y : V} (e : Ex Hf H) (r : Rep K g Hf d y) (ok : okE cs d = true) : RightE K g cs H y := by
  cases r <;> try (cases ok; done)
  case ins a dx c ds vs hx hv hl okc => exact .inl ⟨c, _, _, _, ok, rfl, e _ _ (by assumption)⟩
  case int => exact .inr ⟨"int", by decide, .int _⟩
  case str => exact .inr ⟨"str", by decide, .str _⟩
  case bl => exact .inr ⟨"bool", by decide, .bl _⟩
  case non => exact .inr ⟨"NoneType", by decide, .non⟩
  case tup h _ => exact .inr ⟨"tuple", by decide, .tup (e.t h)⟩
  case lst h _ => exact .inr ⟨"list", by decide, .lst (.of (e _ _ h))⟩
  case scr h => exact .inr ⟨"list", by decide, .lst (e.l h)⟩
theorem looks_ty {M : Model} {s : Shared} {u : Value} {T : String} (h : s.TypeIs u T) : PySem.W.Looks M s.heap (typeOf u) (.type T) := by
  cases u with
  | ref a =>
    obtain ⟨o, h1, h2⟩ := h
    exact h2 ▸ (PySem.W.Looks.ld h1).andThen .now
  | _ => exact PySem.W.Looks.of_pure h
theorem rv_eqG {K : PySem.W.Frag} {L : List (Nat × Fm)} {neg : Bool} {r : R2} {f : D → D → Option D} (h : RvOk K g r f) : RvA K g E (fun x y H Q => r x y H Q ∨ rOwnG K g cs L E neg x y H Q) (mEqG cs L neg f) := fun env σ Hf H s x y dx dy Q r1 r2 q => by
  unfold mEqG at q
  cases hc : cand L dx with
  | none => rw [hc] at q; exact .inl (h.a env σ Hf H s x y dx dy Q r1 r2 q)
  | some F =>
    rw [hc] at q
    dsimp only at q
    by_cases ok : okE cs dy = true
    · rw [if_pos ok] at q
      obtain ⟨c, ds, rfl, mem⟩ := cand_some hc
      obtain ⟨a, dxa, fs, rfl, ha⟩ := ins_at s.ex r1
      refine .inr ⟨_, mem, a, dxa, fs, rfl, ha, right_of s.ex r2 ok, spD_A (dfl := []) s (.cons r1 (.cons r2 .nil)) (q.bnd.imp fun z e1 Hf1 H1 _ s1 h1 v rv => ?_)⟩
      obtain ⟨z', hz, k⟩ := Aft.lft s1.sr h1
      cases z <;> try (cases hz; done)
      case bl b0 _ =>
        cases hz
        cases rv
        exact ⟨_, rfl, k Hf1 H1 (Grow.refl s1.sr.ex) _ (.bl _)⟩
    · rw [if_neg ok] at q
      exact q.elim
end
section
variable {X : Cx} {g : G} {E : XK} {j np : Nat} {cs : List Nat} {L : List (Nat × Fm)}
theorem right_looks {M : Model} {pins : List (Addr × Obj)} {σ : L2.St} {H : Hp} {s : Shared} {C : Nat} {y : V} {u : Value} (I : Inv X pins σ H s) (S : SubF X.K g cs) (hC : cs.contains C = true) (ry : RelV y u) (h : RightE X.K g cs H y) : ∃ tb, PySem.W.Looks M s.heap (typeOf u) tb ∧ PySem.W.notFirst X.K (g.cl C) tb = true := by
  rcases h with ⟨c, b, dy, gs, hc, rfl, hb⟩ | ⟨T, hT, e⟩
  · cases (show u = Value.ref b from ry)
    obtain ⟨ox', od', m', J', _⟩ := own_inst I hb
    exact ⟨_, J'.type, S.cc C c hC hc⟩
  · refine ⟨.type T, looks_ty (e.is I ry), ?_⟩
    unfold PySem.W.notFirst
    rw [S.ct C T hC hT]
    simp
theorem op_ownEqG (S : SubF X.K g cs) (hL : AllO X.prog X.w X.K X.mg X.base g 0 j "__eq__" 2 L) (hc : AllC (fun c => cs.contains c = true) L) (hr : Room j X.A) (hx : Passes (L2.CX X.prog X.w) X E) : OpR X (compareOp .Eq) (rOwnG X.K g cs L E false) := by
  intro pins s σ H x y v u Q I rx ry h
  obtain ⟨p, hp, a, dx, fs, rfl, ha, hy, q⟩ := h
  cases (show v = Value.ref a from rx)
  obtain ⟨k, hk, ⟨f, Fn, hs, hf, _⟩, ar⟩ := hL p hp
  obtain ⟨ox, od, m, J, hF⟩ := own_inst I ha
  obtain ⟨tb, hb, nf⟩ := right_looks (M := model X.prog X.w) I S (hc p hp) ry hy
  have q1 : wpAny (model X.prog X.w) X.A (call (.ref f) [.ref a, u]) (PySem.W.CmpBack (EP X pins σ Q)) X.xe s := by
    refine wpAny_mono (run_opr Fn ar (hr.mono hk) I.env0 hx I (us := [.ref a, u]) (vs := [.ref a, y]) (.cons rfl (.cons ry .nil)) q) (fun w s' z => ?_) fun _ _ x => x
    obtain ⟨z', H', I', rz, k, rfl, qz⟩ := z
    refine SlX.cmpback rz ⟨_, H', I', rz, ?_⟩
    rw [show (k != false) = k from by cases k <;> rfl] at qz
    exact qz
  have q2 : wpAny (model X.prog X.w) X.A (richCompare .Eq (.ref a) u) (EP X pins σ Q) X.xe s := PySem.W.cmp_K (op := .Eq) (tb := tb) hr.units0 hF I.ok.mod.kin J hb nf hs hf q1
  exact q2
theorem op_ownNeG (S : SubF X.K g cs) (hL : AllO X.prog X.w X.K X.mg X.base g 1 j "__eq__" 2 L) (hc : AllC (fun c => cs.contains c = true) L) (hn : ∀ p ∈ L, OpN X.K (g.cl p.1)) (hr : Room j X.A) (hx : Passes (L2.CX X.prog X.w) X E) : OpR X (compareOp .NotEq) (rOwnG X.K g cs L E true) := by
  intro pins s σ H x y v u Q I rx ry h
  obtain ⟨p, hp, a, dx, fs, rfl, ha, hy, q⟩ := h
  cases (show v = Value.ref a from rx)
  obtain ⟨k, hk, ⟨f, Fn, hs, hf, _⟩, ar⟩ := hL p hp
  obtain ⟨ox, od, m, J, hF⟩ := own_inst I ha
  obtain ⟨tb, hb, nf⟩ := right_looks (M := model X.prog X.w) I S (hc p hp) ry hy
  have hrk := hr.mono hk
  have q1 : wpAny (model X.prog X.w) X.A.in1 (call (.ref f) [.ref a, u]) (fun v s' => ∃ k, v = .bool k ∧ EP X pins σ Q (.bool (!k)) s') X.xe s := by
    refine wpAny_mono (run_opr Fn ar hrk.in1 I.env0.in1 hx I (us := [.ref a, u]) (vs := [.ref a, y]) (.cons rfl (.cons ry .nil)) q) (fun w s' z => ?_) fun _ _ x => x
    obtain ⟨z', H', I', rz, k, rfl, qz⟩ := z
    cases (show w = Value.bool k from rz)
    refine ⟨k, rfl, .bl (!k), H', I', rfl, ?_⟩
    rw [show (k != true) = !k from by cases k <;> rfl] at qz
    exact qz
  have q2 : wpAny (model X.prog X.w) X.A (richCompare .NotEq (.ref a) u) (EP X pins σ Q) X.xe s := rich_neG I.kIn J hb nf (hrk.in1).units0 (hn p hp).ne (hn p hp).mo hs hf q1
  exact q2
end
section
variable {X : Cx} {g : G} {E : XK} {j np : Nat} {cs : List Nat} {L : List (Nat × Fm)} {a b e : Expr} {es : List Expr} {ma mb : M D} {ml : M (List D)} {pos p : Pos}
theorem t_eqG (S : SubF X.K g cs) (hL : AllO X.prog X.w X.K X.mg X.base g 0 j "__eq__" 2 L) (hq : AllC (fun c => cs.contains c = true) L) (hr : Room j X.A) (hx : Passes (L2.CX X.prog X.w) X E) (ha : PEM X g (WX_of E) a ma) (hc : PEM X g (WX_of E) b mb) : PTM X g (WX_of E) (.Compare a [.Eq] [b] pos) (mB (mCmpG cs L false eqD ma mb)) := by
  obtain ⟨ta, h1, h2⟩ := ha
  obtain ⟨tb, h3, h4⟩ := hc
  exact ⟨_, pt_cmpR ((op_eqD hr.units).or (op_ownEqG S hL hq hr hx)) h1 h3 (nomark _), ev_Test ((rv_eqG rv_eq).ev h2 h4)⟩
theorem m_eqG (S : SubF X.K g cs) (hL : AllO X.prog X.w X.K X.mg X.base g 0 j "__eq__" 2 L) (hq : AllC (fun c => cs.contains c = true) L) (hr : Room j X.A) (hx : Passes (L2.CX X.prog X.w) X E) (ha : PEM X g (WX_of E) a ma) (hc : PEM X g (WX_of E) b mb) : PEM X g (WX_of E) (.Compare a [.Eq] [b] pos) (mCmpG cs L false eqD ma mb) := by
  obtain ⟨ta, h1, h2⟩ := ha
  obtain ⟨tb, h3, h4⟩ := hc
  exact ⟨_, pe_cmpR ((op_eqD hr.units).or (op_ownEqG S hL hq hr hx)) h1 h3 (nomark _), (rv_eqG rv_eq).ev h2 h4⟩
theorem t_neG (S : SubF X.K g cs) (hL : AllO X.prog X.w X.K X.mg X.base g 1 j "__eq__" 2 L) (hq : AllC (fun c => cs.contains c = true) L) (hn : AllC (fun c => OpN X.K (g.cl c)) L) (hr : Room j X.A) (hx : Passes (L2.CX X.prog X.w) X E) (ha : PEM X g (WX_of E) a ma) (hc : PEM X g (WX_of E) b mb) : PTM X g (WX_of E) (.Compare a [.NotEq] [b] pos) (mB (mCmpG cs L true neD ma mb)) := by
  obtain ⟨ta, h1, h2⟩ := ha
  obtain ⟨tb, h3, h4⟩ := hc
  exact ⟨_, pt_cmpR ((op_neD hr.units).or (op_ownNeG S hL hq hn hr hx)) h1 h3 (nomark _), ev_Test ((rv_eqG rv_ne).ev h2 h4)⟩
theorem m_neG (S : SubF X.K g cs) (hL : AllO X.prog X.w X.K X.mg X.base g 1 j "__eq__" 2 L) (hq : AllC (fun c => cs.contains c = true) L) (hn : AllC (fun c => OpN X.K (g.cl c)) L) (hr : Room j X.A) (hx : Passes (L2.CX X.prog X.w) X E) (ha : PEM X g (WX_of E) a ma) (hc : PEM X g (WX_of E) b mb) : PEM X g (WX_of E) (.Compare a [.NotEq] [b] pos) (mCmpG cs L true neD ma mb) := by
  obtain ⟨ta, h1, h2⟩ := ha
  obtain ⟨tb, h3, h4⟩ := hc
  exact ⟨_, pe_cmpR ((op_neD hr.units).or (op_ownNeG S hL hq hn hr hx)) h1 h3 (nomark _), (rv_eqG rv_ne).ev h2 h4⟩
end
/-! ### bool(x) of an own thing -/
def mBlO (L : List (Nat × Fm)) (f : List D → Option D) (xs : List D) : M D := match xs with
  | [x] => (match cand L x with
    | some F => bnd (callA F [x]) fun z => lft (blD false z)
    | none => lft (f xs))
  | _ => lft (f xs)
def rOwnB1 (K : PySem.W.Frag) (g : G) (L : List (Nat × Fm)) (E : XK) : List V → Hp → VK → Prop := fun xs H Q => ∃ x, xs = [x] ∧ rOwnT K g L E x H fun b H' => Q (.bl b) H'
section
variable {K : PySem.W.Frag} {g : G} {E : XK} {L : List (Nat × Fm)}
theorem rc_blO {r : List V → Hp → VK → Prop} {f : List D → Option D} (h : RcOk K g r f) : RcA K g E (fun x H Q => r x H Q ∨ rOwnB1 K g L E x H Q) (mBlO L f) := fun env σ Hf H s xs ds Q r1 q => by
  unfold mBlO at q
  split at q
  · rename_i x
    cases hc : cand L x with
    | none => rw [hc] at q; exact .inl (h.a env σ Hf H s xs _ Q r1 q)
    | some F =>
      rw [hc] at q
      obtain ⟨c, ds, rfl, mem⟩ := cand_some hc
      right
      cases r1 with
      | cons r1 r2 =>
        cases r2
        obtain ⟨a, dxa, fs, rfl, ha⟩ := ins_at s.ex r1
        refine ⟨_, rfl, _, mem, a, dxa, fs, rfl, ha, spD_A (dfl := []) s (.cons r1 .nil) (q.bnd.imp fun z e1 Hf1 H1 _ s1 h1 v rv => ?_)⟩
        obtain ⟨z', hz, k⟩ := Aft.lft s1.sr h1
        cases z <;> try (cases hz; done)
        case bl b0 _ =>
          cases hz
          cases rv
          refine ⟨_, rfl, ?_⟩
          have := k Hf1 H1 (Grow.refl s1.sr.ex) _ (.bl _)
          rw [show (b0 != false) = b0 from by cases b0 <;> rfl] at this
          exact this
  · exact .inl (h.a env σ Hf H s xs ds Q r1 q)
end
section
variable {X : Cx} {g : G} {E : XK} {j np : Nat} {cs : List Nat} {L : List (Nat × Fm)} {a b e : Expr} {es : List Expr} {ma mb : M D} {ml : M (List D)} {pos p : Pos}
theorem bool_new_in {prog : Program} {w : World} {x : Value} : MeetsIn prog w (Builtin.«bool.__new__» ⟨[.type "bool", x], []⟩) (fun A R s => wpAny (model prog w) A.in1 (truthy x) (fun b s' => R (.ok (.ret (.bool b))) s') (fun e s' => R (.error e) s') s) :=
  fun A R s h => by
    have f1 := F.conv_sub_bool
    unfold Builtin.«bool.__new__»
    dsimp only
    repeat (first | (refine wpAny_bind (m := truthy x) (wpAny_mono h (fun b s' hb => ?_) fun _ _ e => e)) | assumption | wp_step)
    all_goals first | exact ⟨_, rfl, hb⟩ | exact hb | skip
theorem bool_own (hL : AllO X.prog X.w X.K X.mg X.base g 2 j "__bool__" 1 L) (hr : Room j X.A) (hx : Passes (L2.CX X.prog X.w) X E) : CallR X (.type "bool") (rOwnB1 X.K g L E) := by
  intro pins s σ H xs us Q I r h
  obtain ⟨x, rfl, p, hp, a, dx, fs, rfl, ha, q⟩ := h
  obtain ⟨u, rfl, ru⟩ := r.one
  cases (show u = Value.ref a from ru)
  obtain ⟨k, hk, ⟨f, Fn, hs, hf, _⟩, ar⟩ := hL p hp
  obtain ⟨ox, od, m, J, hF⟩ := own_inst I ha
  refine callType_newIn F.called_bool F.newNe_bool (F.typeCall_bool_1 _) (F.newCall_bool_1 _) (fun obj => F.args_object_init_2 obj _) F.entry_bool_new (bool_new_in (x := .ref a)) ?_
  refine PySem.W.truthy_K hF I.ok.mod.kin J hs hf (wpAny_mono (run_opr Fn ar ((hr.mono hk).in1.in1) I.env0.in1.in1 hx I (us := [.ref a]) (vs := [.ref a]) (.cons rfl .nil) q) (fun w s' z => ?_) fun _ _ x => x)
  obtain ⟨z', H', I', rz, b, rfl, qz⟩ := z
  cases (show w = Value.bool b from rz)
  exact ⟨rfl, .bl b, H', I', rfl, qz⟩
theorem m_blO (hL : AllO X.prog X.w X.K X.mg X.base g 2 j "__bool__" 1 L) (hr : Room j X.A) (hx : Passes (L2.CX X.prog X.w) X E) (hm : X.mg "bool" = none) (ha : PAM X g (WX_of E) (e :: es) ml) (hg : Gl X "bool" := by rfl)
    (he : starEach (e :: es) X.env = (false, eval e X.env) :: starEach es X.env := by rfl) (hpl : (backTo pos (starEach es X.env)).any (·.1) = false := by rfl) : PEM X g (WX_of E) (.Call (.Name "bool" p) (e :: es) [] pos) (bnd ml (mBlO L boolD)) := by
  obtain ⟨t, h1, h2⟩ := ha
  exact ⟨_, pe_callTy (call_bool1.or (bool_own hL hr hx)) hg hm rfl h1 (by decide) (by decide) he hpl, (rc_blO rc_bool).ev h2⟩
/-! ### not x, of anything -/
theorem pe_notO {r : V → Hp → (Bool → Hp → Prop) → Prop} {ta : TE} (hT : TruR X r) (ha : PE X a ta) : PE X (.UnaryOp .Not a pos) (fun σ H Q => ta σ H fun x H1 => r x H1 fun c H2 => Q (.bl (!c)) H2) := by
  refine ⟨fun pins s σ H Q I h => ?_⟩
  refine UnaryOp_ (thn (ha.run pins s σ H _ I h) fun v s1 ⟨x, H1, I1, r1, q1⟩ => ?_)
  exact not_of (thn (hT pins s1 σ H1 x v (fun c H2 => Q (.bl (!c)) H2) I1 r1 q1) fun c s2 ⟨H2, I2, q2⟩ => ⟨.bl (!c), H2, I2, rfl, q2⟩)
theorem ev_bvnot {K : PySem.W.Frag} {W : WX} {tb : TT} {m : M Bool} (h : EvB K g W tb m) : EvM K g W (fun σ H Q => tb σ H fun c H2 => Q (.bl (!c)) H2) (mBv (mNot m)) :=
  fun env σ Hf H s Q q => h env σ Hf H s _ (q.bnd.bnd.imp fun c e1 Hf1 H1 _ s1 h1 => Aft.ret s1.sr (Aft.ret s1.sr h1) _ (.bl _))
theorem m_notO (hL : AllO X.prog X.w X.K X.mg X.base g 0 j "__bool__" 1 L) (hr : Room j X.A) (hx : Passes (L2.CX X.prog X.w) X E) (ha : PEM X g (WX_of E) a ma) : PEM X g (WX_of E) (.UnaryOp .Not a pos) (mBv (mNot (mTruO L ma))) := by
  obtain ⟨ta, h1, h2⟩ := ha
  have hT : TruR X (fun x H Q => (∃ k, TruV X.K x H k ∧ Q k H) ∨ rOwnT X.K g L E x H Q) := fun pins s σ H x v Q I rx q => by
    rcases q with q | q
    · exact tru_ok pins s σ H x v Q I rx q
    · exact tru_own hL hr hx pins s σ H x v Q I rx q
  exact ⟨_, pe_notO hT h1, ev_bvnot (ev_TruO (L := L) h2)⟩
/-! ### repr of plain things -/
theorem call_repr_bl : CallR X (.builtin "repr") (fun xs H Q => ∃ b, xs = [.bl b] ∧ Q (.str (if b then "True" else "False")) H) := by
  intro pins s σ H xs us Q I r h
  obtain ⟨b, rfl, q⟩ := h
  obtain ⟨u, rfl, ru⟩ := r.one
  cases (show u = Value.bool b from ru)
  exact PySem.P.repr_of_bool ⟨.str _, H, I.tok _, ⟨_, rfl⟩, q⟩
def reprD : List D → Option D
  | [.bl b] => some (.str (if b then "True" else "False"))
  | _ => none
end
theorem rc_repr {K : PySem.W.Frag} {g : G} : RcOk K g (fun xs H Q => ∃ b, xs = [.bl b] ∧ Q (.str (if b then "True" else "False")) H) reprD := rc_of fun Hf H xs ds z Q e r h q => by
  unfold reprD at h
  split at h
  · rename_i b
    cases h
    cases r with
    | cons r1 r2 =>
      cases r2
      cases r1
      exact ⟨b, rfl, q _ Hf H (Grow.refl e) (.str _)⟩
  · cases h
end DL

set_option Elab.async false
set_option linter.all false
set_option maxRecDepth 100000
set_option maxHeartbeats 400000
namespace DL
open PySem PySem.Spec L2 PyProof.Rows
/-! ### xs[::-1] of lists and tuples -/
theorem adjust_rev (n : Nat) : Builtin.Slice.sliceAdjust none none (-1) (n : Int) = ((n : Int) - 1, -1) := rfl
theorem places_rev (n : Nat) : Builtin.Slice.slicePlaces ((n : Int) - 1) (-1) (-1) = n := by
  unfold Builtin.Slice.slicePlaces
  have h1 : ¬ (-1 : Int) > 0 := by omega
  have e : -(-1 : Int) = 1 := by omega
  simp only [h1, if_false, e, Int.ediv_one]
  split <;> omega
theorem pick_rev (xs : List Value) : ((List.range xs.length).filterMap fun (m : Nat) => xs[(((xs.length : Nat) : Int) - 1 + (m : Int) * (-1)).toNat]?) = xs.reverse := by
  have h : ∀ (l : List Nat), (∀ m ∈ l, m < xs.length) → (l.filterMap fun (m : Nat) => xs[(((xs.length : Nat) : Int) - 1 + (m : Int) * (-1)).toNat]?) = l.filterMap fun m => xs.reverse[m]? := by
    intro l hl
    induction l with
    | nil => rfl
    | cons a l ih =>
      have ha := hl a List.mem_cons_self
      have e : xs[(((xs.length : Nat) : Int) - 1 + (a : Int) * (-1)).toNat]? = xs.reverse[a]? := by
        rw [List.getElem?_reverse ha]
        congr 1
        omega
      rw [List.filterMap_cons, List.filterMap_cons, e, ih fun m hm => hl m (List.mem_cons_of_mem _ hm)]
  rw [h _ fun m hm => List.mem_range.mp hm]
  have e : ∀ ys : List Value, ((List.range ys.length).filterMap fun m => ys[m]?) = ys := by
    intro ys
    induction ys with
    | nil => rfl
    | cons y ys ih =>
      rw [List.length_cons, List.range_succ_eq_map, List.filterMap_cons]
      simp only [List.getElem?_cons_zero, List.filterMap_map]
      congr 1
  have := e xs.reverse
  rwa [List.length_reverse] at this
section
variable {prog : Program} {w : World} {A : Around} {E : Value → Shared → Prop} {s : Shared}
theorem sliceApplied_rev {sl : Addr} {vl vu vs : Value} {n : Nat} {Q : Int × Int × Nat → Shared → Prop} (hs : s.heap.IsSliceOf sl vl vu vs) (pl : IsPart vl none) (pu : IsPart vu none) (ps : IsPart vs (some (-1)))
    (h : Q ((n : Int) - 1, -1, n) s) : wpAny (model prog w) A (Builtin.Slice.sliceApplied (.ref sl) (pure (n : Int))) Q E s := by
  obtain ⟨os, hos, hcs, hds⟩ := id hs
  unfold Builtin.Slice.sliceApplied Builtin.Slice.sliceFields
  refine wpAny_bind (wpAny_bind (wpAny_field hos hds (x := vl) rfl (wpAny_bind (wpAny_field hos hds (x := vu) rfl (wpAny_bind (wpAny_field hos hds (x := vs) rfl (wpAny_pure ?_)))))))
  refine wpAny_bind (HT.slicePart_ ps ?_)
  show wpAny _ _ (if ((-1 : Int) == 0) = true then _ else _) _ _ s
  rw [if_neg (by decide)]
  refine wpAny_bind (HT.slicePart_ pl (wpAny_bind (HT.slicePart_ pu (wpAny_bind (wpAny_pure ?_)))))
  show wpAny _ _ (match Builtin.Slice.sliceAdjust none none (-1) (n : Int) with | (lo, hi) => pure (lo, (-1 : Int), Builtin.Slice.slicePlaces lo hi (-1))) _ _ s
  rw [adjust_rev n]
  show wpAny _ _ (pure ((n : Int) - 1, (-1 : Int), Builtin.Slice.slicePlaces ((n : Int) - 1) (-1) (-1))) _ _ s
  rw [places_rev]
  exact wpAny_pure h
theorem getItem_tuple_rev {t sl : Addr} {its : List Value} {vl vu vs : Value} {Q : Value → Shared → Prop} (ht : IsTup s.heap t its.toArray) (hs : s.heap.IsSliceOf sl vl vu vs) (pl : IsPart vl none) (pu : IsPart vu none) (ps : IsPart vs (some (-1)))
    (h : Q (.ref s.heap.objs.size) { s with heap := s.heap.push { cls := .type "tuple", data := .seq its.reverse.toArray } })
    (hsz : its.length ≤ sizeLine) : wpAny (model prog w) A (getItem (.ref t) (.ref sl)) Q E s := by
  have htake : sizeOk (.seq its.reverse.toArray) := by
    show its.reverse.toArray.size ≤ sizeLine
    rw [List.size_toArray, List.length_reverse]
    exact hsz
  obtain ⟨os, hos, hcs, hds⟩ := id hs
  have hTs : s.TypeIs (.ref sl) "slice" := ⟨os, hos, hcs⟩
  unfold getItem
  try with_reducible refine wpAny_holding ?_
  first | refine wpAny_bind (wpAny_pure ?_) | skip
  refine wpAny_bind (wpAny_sequenceKey ht.typeIs (by decide) ?_)
  refine wpAny_bind (wpAny_callSpecial?_slot (name := Str.ofString "__getitem__") ht.typeIs PyProof.Rows.slot_tuple_getitem
    (wpAny_call_entry PyProof.Rows.slot_tuple_getitem ht.typeIs entry_tuple_getitem ?_ (args_tuple_getitem _ _)))
  show wpAny _ _ (Builtin.Tuple.tupleItemsOf (.ref t) >>= _) _ _ s
  refine wpAny_bind (tupleItemsOf_ ht ?_)
  refine wpAny_bind (wpAny_typeOf hTs ?_)
  rw [if_pos (by decide)]
  refine wpAny_bind (sliceApplied_rev hs pl pu ps ?_)
  have hno : ¬ ((((its.toArray.size : Nat) : Int) - 1 == 0 && (-1 : Int) == 1 && its.toArray.size == its.toArray.size) = true) := by
    intro q
    rw [Bool.and_eq_true, Bool.and_eq_true] at q
    exact absurd (eq_of_beq q.1.2) (by decide)
  show wpAny _ _ (if (((its.toArray.size : Nat) : Int) - 1 == 0 && (-1 : Int) == 1 && its.toArray.size == its.toArray.size) = true then _ else _) _ _ s
  rw [if_neg hno]
  have e : ((List.range its.toArray.size).filterMap fun (m : Nat) => its.toArray[(((its.toArray.size : Nat) : Int) - 1 + (m : Int) * (-1)).toNat]?) = its.reverse := by
    have := pick_rev its
    simpa using this
  rw [e]
  first
    | exact wpAny_bind (m := Builtin.Tuple.tupleExact _) (wpAny_newObj_type (wpAny_pure ⟨_, rfl, wpAny_pure h⟩) htake)
    | exact wpAny_bind (m := Builtin.Tuple.tupleExact _) (wpAny_newObj_type (wpAny_bind (wpAny_pure (wpAny_pure ⟨_, rfl, wpAny_pure h⟩))) htake)
    | exact wpAny_bind (wpAny_bind (m := Builtin.Tuple.tupleExact _) (wpAny_newObj_type (wpAny_pure (wpAny_pure ⟨_, rfl, wpAny_pure h⟩)) htake))
    | exact wpAny_bind (wpAny_bind (m := Builtin.Tuple.tupleExact _) (wpAny_newObj_type (wpAny_pure ⟨_, rfl, wpAny_pure h⟩) htake))
end
def tRevA (K : PySem.W.Frag) (te : TE) : TE := fun σ H Q => te σ H fun x H1 => (∃ a xs, x = .ref a ∧ SqL K H1 a xs ∧ ∀ p, H1 p = none → Q (.ref p) (upd H1 p (.lst xs.reverse))) ∨ ∃ a xs, x = .ref a ∧ SqT K H1 a xs ∧ ∀ p, H1 p = none → Q (.ref p) (upd H1 p (.tup xs.reverse))
section
variable {X : Cx}
theorem pe_revA {e : Expr} {te : TE} {k : Nat} {p1 p2 p3 pos : Pos} (he : PE X e te) : PE X (.Subscript e (.Slice none none (some (.UnaryOp .USub (.Constant (.int 1) k p1) p2)) p3) pos) (tRevA X.K te) := by
  refine ⟨fun pins s σ H Q I h => ?_⟩
  refine Subscript_ (thn (he.run pins s σ H _ I h) fun v s1 ⟨x, H1, I1, r1, q1⟩ => ?_)
  have hst : PO X (some (.UnaryOp .USub (.Constant (.int 1) k p1) p2)) (tPart (tUn (rU fun i => .int (-i)) (tC (.int 1)))) := po_some (pe_un un_neg pe_int)
  refine wpAny_Slice (thn (po_none.run pins s1 σ H1 (fun o H2 => o = none ∧ H2 = H1) I1 ⟨rfl, rfl⟩) fun vl s2 ⟨l, H2, I2, pl, el, e2⟩ => ?_)
  subst el e2
  refine thn (po_none.run pins s2 σ H2 (fun o H3 => o = none ∧ H3 = H2) I2 ⟨rfl, rfl⟩) fun vu s3 ⟨u, H3, I3, pu, eu, e3⟩ => ?_
  subst eu e3
  refine thn (hst.run pins s3 σ H3 (fun o H4 => o = some (-1) ∧ H4 = H3) I3 ⟨1, rfl, -1, rfl, rfl, rfl⟩) fun vs s4 ⟨o, H4, I4, ps, eo, e4⟩ => ?_
  subst eo e4
  have I5 : Inv X pins σ H4 { s4 with heap := s4.heap.push { cls := .type "slice", data := .fields #[vl, vu, vs] } } := I4.kept (t' := s4.toks) fun b ob q => Heap.get?_push_of_some _ q
  rcases q1 with ⟨a, xs, ex, hx, q⟩ | ⟨a, xs, ex, hx, q⟩
  · subst ex
    cases r1
    obtain ⟨its, r, ht, hz⟩ := I5.list hx
    have hlen := r.length
    show wpAny (model X.prog X.w) X.A (subscriptTail e (.Slice none none (some (.UnaryOp .USub (.Constant (.int 1) k p1) p2)) p3) (.ref a) (.ref s4.heap.objs.size)) (EP X pins σ Q) X.xe { s4 with heap := s4.heap.push { cls := .type "slice", data := .fields #[vl, vu, vs] } }
    refine tail_any (ops := [.ref a, .ref s4.heap.objs.size]) ht.isList.typeIs (PySem.slot_list_getitem.lookup) ?_ (by with_unfolding_all rfl)
    refine wpAny_getItem_list_slice ht.isList (Heap.IsSliceOf.new _ vl vu vs) pl pu ps (by decide) ?_ (by rw [List.size_toArray]; omega)
    rw [PySem.W.krv_pick]
    refine ⟨.ref _, _, I5.laid (t' := s4.toks) (o := .lst xs.reverse) (fun b ob q => Heap.get?_push_of_some _ q) (Nat.le_refl _) ?_, rfl, q _ (I5.hok.fresh (Nat.le_refl _))⟩
    exact ⟨by rw [List.length_reverse]; exact hz, _, 0, r.reverse, Heap.get?_push_size _ rfl⟩
  · subst ex
    cases r1
    obtain ⟨its, r, ht, hz⟩ := I5.tuple hx
    have hlen := r.length
    show wpAny (model X.prog X.w) X.A (subscriptTail e (.Slice none none (some (.UnaryOp .USub (.Constant (.int 1) k p1) p2)) p3) (.ref a) (.ref s4.heap.objs.size)) (EP X pins σ Q) X.xe { s4 with heap := s4.heap.push { cls := .type "slice", data := .fields #[vl, vu, vs] } }
    refine tail_any (ops := [.ref a, .ref s4.heap.objs.size]) ht.typeIs (PyProof.Rows.slot_tuple_getitem.lookup) ?_ (by with_unfolding_all rfl)
    refine getItem_tuple_rev ht (Heap.IsSliceOf.new _ vl vu vs) pl pu ps ?_ (by omega)
    refine ⟨.ref _, _, I5.laid (t' := s4.toks) (o := .tup xs.reverse) (fun b ob q => Heap.get?_push_of_some _ q) (Nat.le_refl _) ?_, rfl, q _ (I5.hok.fresh (Nat.le_refl _))⟩
    exact ⟨by rw [List.length_reverse]; exact hz, _, r.reverse, IsTup.new _ _⟩
end
def revA : D → Option D
  | .lst xs => some (.lst xs.reverse)
  | .tup xs => some (.tup xs.reverse)
  | _ => none
theorem ev_revA {K : PySem.W.Frag} {g : G} {W : WX} {te : TE} {m : M D} (he : EvM K g W te m) : EvM K g W (tRevA K te) (mUn revA m) :=
  fun env σ Hf H s Q h => he env σ Hf H s _ (h.bnd.imp fun d e1 Hf1 H1 _ s1 h1 x rx => by
    obtain ⟨z, hz, k⟩ := Aft.lft s1.sr h1
    have ex := s1.sr.ex
    cases rx <;> try (cases hz; done)
    case lst a ds vs ha hr _ =>
      cases hz
      exact .inl ⟨_, _, rfl, SqL.of (ex _ _ ha), fun p hp => by
        obtain ⟨w, r⟩ := new_lst ex hp hr.reverse
        exact k _ _ w _ r⟩
    case tup a ds vs ha hr _ =>
      cases hz
      exact .inr ⟨_, _, rfl, ex.t ha, fun p hp => by
        obtain ⟨w, r⟩ := new_tup ex hp hr.reverse
        exact k _ _ w _ r⟩)
theorem m_revA {X : Cx} {g : G} {W : WX} {e : Expr} {m : M D} {p1 p2 p3 pos : Pos} {k : Nat} (h : PEM X g W e m) : PEM X g W (.Subscript e (.Slice none none (some (.UnaryOp .USub (.Constant (.int 1) k p1) p2)) p3) pos) (mUn revA m) := by
  obtain ⟨t, h1, h2⟩ := h
  exact ⟨_, pe_revA h1, ev_revA h2⟩
end DL

set_option Elab.async false
set_option linter.all false
set_option maxRecDepth 100000
set_option maxHeartbeats 400000
namespace DL
open PySem L2 PyProof.Rows
/-! ### a def that was lent a thing and gives a new one -/
section
variable {K : PySem.W.Frag} {g : G} {E : XK} {F : Fm} {np : Nat} {env : En} {σ : L2.St} {Hf H : Hp}
theorem mdf_own {i : Nat} {x : Sl} {d d1 : D} {p a : Addr} (s : SR K g env σ Hf H) (hx : env[i]? = some x) (mx : x.mut = some d) (hp : σ[i]? = some (some (.ref p))) (e5 : H a = none) : ¬ Own (mdf i d1 env) σ a := fun o => by
  obtain ⟨q, u, c1, c2, _⟩ := s.at_ hx mx
  obtain ⟨j, y, b, q1, q2, q3⟩ := o
  have em : mdf i d1 env = env.set i (x.put d1) := by unfold mdf; rw [hx]
  rw [em] at q1
  by_cases w : i = j
  · subst w
    rw [hp] at q3
    cases q3
    rw [hp] at c1
    cases c1
    rw [c2] at e5
    cases e5
  · rw [List.getElem?_set_ne w] at q1
    exact Own.there s ⟨j, y, b, q1, q2, q3⟩ e5
theorem spBF {ds : List D} {vs : List V} {i : Nat} {p : Addr} {Q : VK} (hn : Arity np F) (s : SR K g env σ Hf H) (hp : σ[i]? = some (some (.ref p))) (r : Reps K g Hf ds vs) (h : Aft K g (WX_of E) env σ Hf H (callBF F i ds env) fun d e Hf' H' => ∀ p, New K g e σ H Hf' H' d p → Q (.ref p) H') : spM K g np F (.ref p :: vs) H Q E := by
  unfold callBF at h
  cases hx : env[i]? with
  | none => rw [hx] at h; exact h.elim
  | some x =>
    cases mx : x.mut with
    | none => rw [hx] at h; simp only [Option.bind, mx] at h; exact h.elim
    | some d0 =>
      rw [hx] at h
      simp only [Option.bind, mx] at h
      refine sp_of hn (sr_lent s hx mx hp r) ?_
      have pn : ∀ {e : En} {σ' : L2.St} {Hf' H' : Hp}, Step K g (.pn d0 :: ds.map .sh) ((V.ref p :: vs).map some) Hf H e σ' Hf' H' → ∃ d1 rest, e = .pn d1 :: rest := fun {e σ' Hf' H'} st => by
        obtain ⟨⟨d1, h1⟩, _⟩ := st.pn 0 d0 rfl
        cases e with
        | nil => cases h1
        | cons a b => cases h1; exact ⟨d1, b, rfl⟩
      revert h
      cases F (.pn d0 :: ds.map .sh) with
      | bad => exact fun h => h
      | ex c d e =>
        intro h dx v fs σ' Hf' H' st r e1 e2 e3 e4 e5
        obtain ⟨d1, rest, rfl⟩ := pn st
        exact h dx v fs σ Hf' H' (step_callB s hx mx hp st) r e1 e2 e3 (mdf_own s hx mx hp e5) e5
      | ok z e =>
        cases z with
        | rto d =>
          intro h σ' Hf' H' st p' n
          obtain ⟨d1, rest, rfl⟩ := pn st
          exact h Hf' H' (step_callB s hx mx hp st) p' ⟨n.at_, n.nf, mdf_own s hx mx hp n.nw, n.nw⟩
        | rt d => exact fun h => h.elim
        | nx => exact fun h => h.elim
        | bk => exact fun h => h.elim
        | ct => exact fun h => h.elim
def mCallBF (F : Fm) (i : Nat) (dfl : List D) (ma : M (List D)) : M D := bnd (own i) fun _ => bnd ma fun ds => callBF F i (ds ++ dfl)
theorem own_okF {i : Nat} {α : Type} {k : D → M α} {W : WX} {P : α → En → Hp → Hp → Prop} (h : Aft K g W env σ Hf H (DL.bnd (own i) k env) P) : ∃ x d, env[i]? = some x ∧ x.mut = some d ∧ Aft K g W env σ Hf H (k d env) P := by
  unfold DL.bnd DL.own at h
  cases hx : env[i]? with
  | none => rw [hx] at h; exact h.elim
  | some x =>
    cases mx : x.mut with
    | none => rw [hx] at h; simp only [Option.bind, mx] at h; exact h.elim
    | some d => rw [hx] at h; simp only [Option.bind, mx] at h; exact ⟨x, d, rfl, mx, h⟩
theorem ev_callBF {i : Nat} {ta : TA} {ma : M (List D)} {dvs : List V} {dfl : List D} (hn : Arity np F) (ha : EvL K g (WX_of E) ta ma) (hd : ∀ H, Reps K g H dfl dvs) : EvF K g (WX_of E) (tCall (spM K g np F) dvs E (tCons (tVar i) ta)) (mCallBF F i dfl ma) := by
  intro env σ Hf H s Q h
  obtain ⟨x, d, hx, mx, h1⟩ := own_okF h
  obtain ⟨p, u, hp, _⟩ := s.mut_at hx mx
  refine ⟨_, hp, ha env σ Hf H s _ ?_⟩
  unfold DL.bnd at h1
  revert h1
  cases ma env with
  | bad => exact fun h => h
  | ex c d e => exact fun h => h
  | ok ds e =>
    intro h Hf1 H1 s1 vs r
    refine spBF hn s1.sr hp (r.append (hd Hf1)) ?_
    revert h
    show Aft K g (WX_of E) env σ Hf H (callBF F i (ds ++ dfl) e) _ → _
    cases callBF F i (ds ++ dfl) e with
    | bad => exact fun h => h
    | ex c d e2 => exact fun h => XGot.after s1 h
    | ok d e2 => exact fun h Hf2 H2 s2 p n => h Hf2 H2 (s1.trans s2) p ⟨n.at_, n.nf, n.no, s1.th p n.nw⟩
end
section
variable {X : Cx} {g : G} {E : XK} {x : Str} {np k j : Nat} {F : Fm} {dfl : List D} {es : List Expr} {e : Expr} {ma : M (List D)} {p pos : Pos}
theorem f_callL (i : Nat) {y : Str} {py : Pos} (d : Def0 X.prog X.w X.K X.mg X.base g x np F k dfl) (hr : Room j X.A) (hx : Passes (L2.CX X.prog X.w) X E) (ha : PAM X g (WX_of E) es ma) (hk : k ≤ j := by decide) (hg : Gl X x := by rfl)
    (hN : X.N[i]? = some y := by rfl) (hv : Vis X.env.scope y := by first | exact Or.inl rfl | exact Or.inr (Or.inl rfl) | exact Or.inr (Or.inr rfl)) (hd : (y == ("__debug__" : Str)) = false := by decide) (hcd : (y == ("__classdict__" : Str)) = false := by decide) (hdb : (x == ("__debug__" : Str)) = false := by decide)
    (he : starEach (.Name y py :: es) X.env = (false, eval (.Name y py) X.env) :: starEach es X.env := by rfl) (hpl : (backTo pos (starEach es X.env)).any (·.1) = false := by rfl) : PEF X g (WX_of E) (.Call (.Name x p) (.Name y py :: es) [] pos) (mCallBF F i dfl ma) := by
  obtain ⟨t, h1, h2⟩ := ha
  obtain ⟨⟨f, fd, ps, dvs, ds, F1, hm, kp, b, v, r⟩, ar⟩ := d
  exact ⟨_, pe_call F1 (hr.mono hk) hg hm kp b v hx (pa_cons (pe_var hN hv hd hcd) h1 he) hdb he hpl, ev_callBF ar h2 r⟩
end
end DL

set_option Elab.async false
set_option linter.all false
set_option maxRecDepth 100000
set_option maxHeartbeats 400000
namespace DL
open PySem L2 PyProof.Rows
/-! ### an own list, read like a shared one for the time of an expression -/
mutual
/-- no list is in it -/
def nolst : D → Bool
  | .lst _ => false
  | .scr _ => false
  | .tup xs => nolsts xs
  | .ins _ xs => nolsts xs
  | .dic _ xs => nolsts xs
  | .dct _ xs => nolsts xs
  | _ => true
def nolsts : List D → Bool
  | [] => true
  | x :: xs => nolst x && nolsts xs
end
def flat : D → Bool
  | .lst xs => nolsts xs
  | .dic _ xs => nolsts xs
  | .dct _ xs => nolsts xs
  | .ins _ xs => nolsts xs
  | _ => false
def rmv (Hf : Hp) (p : Addr) : Hp := fun a => if a = p then none else Hf a
section
variable {K : PySem.W.Frag} {g : G} {W : WX} {env env1 e' e2 : En} {σ : L2.St} {Hf H Hf1 H1 Hf' H' : Hp} {p : Addr} {us : List V}
theorem rmv_same : rmv Hf p p = none := if_pos rfl
theorem rmv_ne {a : Addr} (h : a ≠ p) : rmv Hf p a = Hf a := if_neg h
theorem rmv_no (h : Hf p = some (.lst us)) {a : Addr} {o : HO} (e : Hf a = some o) (n : ∀ vs, o ≠ .lst vs) : rmv Hf p a = some o := by
  rw [rmv_ne fun c => by rw [c, h] at e; cases e; exact n _ rfl]
  exact e
theorem rmv_rd (h : Hf p = some (.lst us)) {a : Addr} {o : HO} (e : Rd Hf a o) (n : ∀ vs, o ≠ .lst vs) : Rd (rmv Hf p) a o := by
  rcases e with e | ⟨o', e⟩
  · exact .inl (rmv_no h e n)
  · exact .inr ⟨o', rmv_no h e fun vs z => by cases z⟩
mutual
theorem Rep.rmv (h : Hf p = some (.lst us)) : ∀ {d : D} {v : V}, Rep K g Hf d v → nolst d = true → Rep K g (rmv Hf p) d v
  | _, _, .non, _ => .non
  | _, _, .bl b, _ => .bl b
  | _, _, .int b, _ => .int b
  | _, _, .str b, _ => .str b
  | _, _, .ty b, _ => .ty b
  | _, _, .cls b, _ => .cls b
  | _, _, .tup (ds := ds) q r, n => .tup (q.elim (fun q => .inl (rmv_rd h q fun vs z => by cases z)) .inr) (Reps.rmv h r (by unfold nolst at n; exact n))
  | _, _, .lst q r, n => by unfold nolst at n; cases n
  | _, _, .scr q, n => by unfold nolst at n; cases n
  | _, _, .dic q r l, n => .dic (rmv_rd h q fun vs z => by cases z) (Reps.rmv h r (by unfold nolst at n; exact n)) l
  | _, _, .dct q r l, n => .dct (rmv_rd h q fun vs z => by cases z) (Reps.rmv h r (by unfold nolst at n; exact n)) l
  | _, _, .ins q r l k, n => .ins (rmv_no h q fun vs z => by cases z) (Reps.rmv h r (by unfold nolst at n; exact n)) l k
theorem Reps.rmv (h : Hf p = some (.lst us)) : ∀ {d : List D} {v : List V}, Reps K g Hf d v → nolsts d = true → Reps K g (rmv Hf p) d v
  | _, _, .nil, _ => .nil
  | _, _, .cons a b, n => by
    unfold nolsts at n
    rw [Bool.and_eq_true] at n
    exact .cons (Rep.rmv h a n.1) (Reps.rmv h b n.2)
end
theorem RepO.rmv (h : Hf p = some (.lst us)) {d : D} {o : HO} (r : RepO K g Hf d o) (n : flat d = true) : RepO K g (rmv Hf p) d o := by
  cases r with
  | lst r => exact .lst (r.rmv h n)
  | dic r l => exact .dic (r.rmv h n) l
  | dct r l => exact .dct (r.rmv h n) l
  | ins r l k => exact .ins (r.rmv h n) l k
theorem freeze_at (s : SR K g env σ Hf H) {i : Nat} {d : D} (h : env[i]? = some (.ow d)) (f : full d = true) :
    ∃ p u, σ[i]? = some (some (.ref p)) ∧ H p = some u ∧ Hf p = none ∧ RepO K g Hf d u ∧ Step K g env σ Hf H (env.set i (.sh d)) σ (upd Hf p u) H ∧ Rep K g (upd Hf p u) d (.ref p) := by
  obtain ⟨p, u, e1, e2, e3, r⟩ := s.at_ h rfl
  obtain ⟨x1, x2⟩ := grow_freeze s.ex e2 e3
  have hi : i < env.length := (List.getElem?_eq_some_iff.mp h).1
  have rr : Rep K g (upd Hf p u) d (.ref p) := (r.mono x1).rep upd_same f
  have set_ne : ∀ j (x : Sl), (env.set i (.sh d))[j]? = some x → (j = i ∧ x = .sh d) ∨ (j ≠ i ∧ env[j]? = some x) := fun j x q => by
    by_cases c : i = j
    · subst c
      rw [List.getElem?_set_self hi] at q
      exact .inl ⟨rfl, (Option.some.inj q).symm⟩
    · rw [List.getElem?_set_ne c] at q
      exact .inr ⟨fun z => c z.symm, q⟩
  have nep : ∀ (j : Nat) (x : Sl) (d' : D), j ≠ i → env[j]? = some x → x.mut = some d' → σ[j]? ≠ some (some (.ref p)) := fun j x d' c q m => s.ne i j _ x d d' p (fun z => c z.symm) h q rfl m e1
  refine ⟨p, u, e1, e2, e3, r, ⟨x1, ⟨x2, by rw [List.length_set]; exact s.len, fun j x o q q' => ?_, fun j k x y a b z n1 h1 h2 m1 m2 => ?_⟩, fun a v q q' no => ⟨q, ?_⟩, fun a o => ?_, fun a q => q, fun j z q => ?_, by rw [List.length_set]⟩, rr⟩
  · rcases set_ne j x q with ⟨rfl, rfl⟩ | ⟨c, q⟩
    · rw [e1] at q'
      cases q'
      exact ⟨_, rfl, rr⟩
    · have w := s.sl j x o q q'
      cases x with
      | no => trivial
      | sh d' => obtain ⟨v, e, r⟩ := w; exact ⟨v, e, r.mono x1⟩
      | ow d' => obtain ⟨z, w, e, h1, h2, r⟩ := w; exact ⟨z, w, e, h1, by rw [upd_ne (fun c' => nep j _ d' c q rfl (by rw [q', e, c']))]; exact h2, r.mono x1⟩
      | pn d' => obtain ⟨z, w, e, h1, h2, r⟩ := w; exact ⟨z, w, e, h1, by rw [upd_ne (fun c' => nep j _ d' c q rfl (by rw [q', e, c']))]; exact h2, r.mono x1⟩
  · rcases set_ne j x h1 with ⟨rfl, rfl⟩ | ⟨_, h1⟩
    · cases m1
    · rcases set_ne k y h2 with ⟨rfl, rfl⟩ | ⟨_, h2⟩
      · cases m2
      · exact s.ne j k x y a b z n1 h1 h2 m1 m2
  · rw [upd_ne (fun c => no ⟨i, _, d, h, rfl, by rw [e1, c]⟩)]
    exact q'
  · obtain ⟨j, x, d', q1, q2, q3⟩ := o
    rcases set_ne j x q1 with ⟨rfl, rfl⟩ | ⟨_, q1⟩
    · cases q2
    · exact .inl ⟨j, x, d', q1, q2, q3⟩
  · by_cases c : i = j
    · subst c
      rw [h] at q
      cases q
    · rw [List.getElem?_set_ne c]
      exact ⟨⟨z, q⟩, rfl⟩

def fixS : Sl → Sl → Option Sl
  | .sh d, _ => some (.sh d)
  | .no, _ => some .no
  | .ow _, .ow d => if flat d = true then some (.ow d) else none
  | .ow _, .sh d => if nolst d = true then some (.sh d) else none
  | .pn _, .pn d => if flat d = true then some (.pn d) else none
  | _, _ => none
def fixA : En → En → Option En
  | [], [] => some []
  | a :: as, b :: bs => match fixS a b, fixA as bs with
    | some x, some xs => some (x :: xs)
    | _, _ => none
  | _, _ => none
theorem fixA_at : ∀ {as bs xs : En}, fixA as bs = some xs → xs.length = as.length ∧ ∀ (j : Nat) (x : Sl), xs[j]? = some x → ∃ a b, as[j]? = some a ∧ bs[j]? = some b ∧ fixS a b = some x
  | [], [], xs, h => by
    cases h
    exact ⟨rfl, fun j x h => by simp at h⟩
  | a :: as, b :: bs, xs, h => by
    unfold fixA at h
    cases q : fixS a b with
    | none => rw [q] at h; cases h
    | some x =>
      cases q2 : fixA as bs with
      | none => rw [q, q2] at h; cases h
      | some ys =>
        rw [q, q2] at h
        cases h
        obtain ⟨l, k⟩ := fixA_at q2
        refine ⟨by rw [List.length_cons, List.length_cons, l], fun j z hz => ?_⟩
        cases j with
        | zero => cases hz; exact ⟨a, b, rfl, rfl, q⟩
        | succ j =>
          rw [List.getElem?_cons_succ] at hz
          obtain ⟨a', b', h1, h2, h3⟩ := k j z hz
          exact ⟨a', b', by rw [List.getElem?_cons_succ]; exact h1, by rw [List.getElem?_cons_succ]; exact h2, h3⟩
  | [], _ :: _, _, h => by cases h
  | _ :: _, [], _, h => by cases h
theorem fixS_mut {a b x : Sl} (h : fixS a b = some x) {d : D} (m : x.mut = some d) : ∃ d', a.mut = some d' := by
  cases a with
  | sh d => cases h; cases m
  | no => cases h; cases m
  | ow d => exact ⟨d, rfl⟩
  | pn d => exact ⟨d, rfl⟩
theorem unfreeze {i : Nat} {ds : List D} (s : SR K g env σ Hf H) (hi : env[i]? = some (.ow (.lst ds))) (e1 : σ[i]? = some (some (.ref p))) (h2 : H p = some (.lst us)) (h3 : Hf p = none) (r : RepO K g Hf (.lst ds) (.lst us))
    (st : Step K g (env.set i (.sh (.lst ds))) σ (upd Hf p (.lst us)) H e' σ Hf' H') (fx : fixA env (e'.set i (.ow (.lst ds))) = some e2) : Hf' p = some (.lst us) ∧ Step K g env σ Hf H e2 σ (rmv Hf' p) H' := by
  obtain ⟨len, at_⟩ := fixA_at fx
  have hil : i < env.length := (List.getElem?_eq_some_iff.mp hi).1
  have l1 : e'.length = env.length := by rw [st.le, List.length_set]
  have fp : Hf' p = some (.lst us) := st.f p _ upd_same
  have ex0 : Ex Hf (rmv Hf' p) := fun a o q => by
    have c : a ≠ p := fun c => by rw [c, h3] at q; cases q
    rw [rmv_ne c]
    exact st.f a o (by rw [upd_ne c]; exact q)
  have own1 : ∀ a, Own (env.set i (.sh (.lst ds))) σ a → Own env σ a := fun a o => by
    obtain ⟨j, x, d, q1, q2, q3⟩ := o
    by_cases c : i = j
    · subst c
      rw [List.getElem?_set_self hil] at q1
      cases q1
      cases q2
    · rw [List.getElem?_set_ne c] at q1
      exact ⟨j, x, d, q1, q2, q3⟩
  have own2 : ∀ a, Own e2 σ a → Own env σ a := fun a o => by
    obtain ⟨j, x, d, q1, q2, q3⟩ := o
    obtain ⟨a', b', k1, k2, k3⟩ := at_ j x q1
    obtain ⟨d', m⟩ := fixS_mut k3 q2
    exact ⟨j, a', d', k1, m, q3⟩
  refine ⟨fp, ⟨ex0, ⟨fun a o q => ?_, by rw [len]; exact s.len, fun j x o q q' => ?_, fun j k x y d d' z n1 q1 q2 m1 m2 => ?_⟩, fun a u q q' no => ?_, fun a o => .inl (own2 a o), st.th, fun j d q => ?_, len⟩⟩
  · by_cases c : a = p
    · rw [c, rmv_same] at q; cases q
    · rw [rmv_ne c] at q; exact st.sr.ex a o q
  · obtain ⟨a, b, k1, k2, k3⟩ := at_ j x q
    by_cases c : i = j
    · subst c
      rw [hi] at k1
      cases k1
      rw [List.getElem?_set_self (by rw [l1]; exact hil)] at k2
      cases k2
      unfold fixS at k3
      dsimp only at k3
      split at k3
      · cases k3
        rw [e1] at q'
        cases q'
        exact ⟨p, _, rfl, st.sr.ex p _ fp, rmv_same, r.mono ex0⟩
      · cases k3
    · rw [List.getElem?_set_ne c] at k2
      have w := st.sr.sl j b o k2 q'
      have w0 := s.sl j a o k1 q'
      cases a with
      | sh d =>
        cases k3
        obtain ⟨v, e, r⟩ := w0
        exact ⟨v, e, r.mono ex0⟩
      | no => cases k3; trivial
      | ow d =>
        cases b with
        | ow d' =>
          unfold fixS at k3
          dsimp only at k3
          split at k3
          · rename_i f
            cases k3
            obtain ⟨z, w, e, h1, h2, r⟩ := w
            exact ⟨z, w, e, h1, by rw [rmv_ne fun c => by rw [c, fp] at h2; cases h2]; exact h2, r.rmv fp f⟩
          · cases k3
        | sh d' =>
          unfold fixS at k3
          dsimp only at k3
          split at k3
          · rename_i f
            cases k3
            obtain ⟨v, e, r⟩ := w
            exact ⟨v, e, r.rmv fp f⟩
          · cases k3
        | no => cases k3
        | pn d' => cases k3
      | pn d =>
        cases b with
        | pn d' =>
          unfold fixS at k3
          dsimp only at k3
          split at k3
          · rename_i f
            cases k3
            obtain ⟨z, w, e, h1, h2, r⟩ := w
            exact ⟨z, w, e, h1, by rw [rmv_ne fun c => by rw [c, fp] at h2; cases h2]; exact h2, r.rmv fp f⟩
          · cases k3
        | sh d' => cases k3
        | no => cases k3
        | ow d' => cases k3
  · obtain ⟨a, b, k1, k2, k3⟩ := at_ j x q1
    obtain ⟨a', b', k1', k2', k3'⟩ := at_ k y q2
    obtain ⟨d1, n2⟩ := fixS_mut k3 m1
    obtain ⟨d2, n3⟩ := fixS_mut k3' m2
    exact s.ne j k a a' d1 d2 z n1 k1 k1' n2 n3
  · have c : a ≠ p := fun c => no ⟨i, _, _, hi, rfl, by rw [e1, c]⟩
    obtain ⟨k1, k2⟩ := st.kp a u q (by rw [upd_ne c]; exact q') fun o => no (own1 a o)
    exact ⟨k1, by rw [rmv_ne c]; exact k2⟩
  · have c : i ≠ j := fun c => by
      subst c
      rw [hi] at q
      cases q
    obtain ⟨⟨d1, h1⟩, _⟩ := st.pn j d (by rw [List.getElem?_set_ne c]; exact q)
    have hj : j < e2.length := by rw [len]; exact (List.getElem?_eq_some_iff.mp q).1
    obtain ⟨a, b, k1, k2, k3⟩ := at_ j _ (List.getElem?_eq_getElem hj)
    rw [q] at k1
    cases k1
    rw [List.getElem?_set_ne c, h1] at k2
    cases k2
    unfold fixS at k3
    dsimp only at k3
    split at k3
    · refine ⟨⟨d1, ?_⟩, rfl⟩
      rw [List.getElem?_eq_getElem hj, ← Option.some.inj k3]
    · cases k3
/-- e, where slot i is only read -/
def mRO (i : Nat) (m : M D) : M D := fun env => match env[i]? with
  | some (.ow (.lst ds)) => (match m (env.set i (.sh (.lst ds))) with
    | .ok d e' => if nolst d = true then (match fixA env (e'.set i (.ow (.lst ds))) with
      | some e2 => .ok d e2
      | none => .bad) else .bad
    | _ => .bad)
  | _ => .bad
def mROB (i : Nat) (m : M Bool) : M Bool := fun env => match env[i]? with
  | some (.ow (.lst ds)) => (match m (env.set i (.sh (.lst ds))) with
    | .ok d e' => (match fixA env (e'.set i (.ow (.lst ds))) with
      | some e2 => .ok d e2
      | none => .bad)
    | _ => .bad)
  | _ => .bad
theorem ev_RO {i : Nat} {te : TE} {m : M D} (he : EvM K g W te m) : EvM K g W te (mRO i m) := fun env σ Hf H s Q h => by
  unfold mRO at h
  cases hi : env[i]? with
  | none => rw [hi] at h; exact h.elim
  | some x =>
    rw [hi] at h
    cases x <;> try exact h.elim
    rename_i d0
    cases d0 <;> try exact h.elim
    rename_i ds
    obtain ⟨p, u, e1, e2, e3, r, st0, rr⟩ := freeze_at s hi rfl
    have r0 := r
    cases r with
    | @lst _ us ru =>
      refine he _ σ _ H st0.sr Q ?_
      revert h
      dsimp only
      cases m (env.set i (.sh (.lst ds))) with
      | bad => exact fun h => h.elim
      | ex c d e => exact fun h => h.elim
      | ok d e' =>
        dsimp only
        intro h Hf1 H1 s1 v rv
        by_cases c : nolst d = true
        · rw [if_pos c] at h
          cases fx : fixA env (e'.set i (.ow (.lst ds))) with
          | none => rw [fx] at h; exact h.elim
          | some en =>
            rw [fx] at h
            obtain ⟨fp, s2⟩ := unfreeze s hi e1 e2 e3 r0 s1 fx
            exact h _ H1 s2 v (rv.rmv fp c)
        · rw [if_neg c] at h; exact h.elim
theorem ev_ROB {i : Nat} {te : TT} {m : M Bool} (he : EvB K g W te m) : EvB K g W te (mROB i m) := fun env σ Hf H s Q h => by
  unfold mROB at h
  cases hi : env[i]? with
  | none => rw [hi] at h; exact h.elim
  | some x =>
    rw [hi] at h
    cases x <;> try exact h.elim
    rename_i d0
    cases d0 <;> try exact h.elim
    rename_i ds
    obtain ⟨p, u, e1, e2, e3, r, st0, rr⟩ := freeze_at s hi rfl
    have r0 := r
    cases r with
    | @lst _ us ru =>
      refine he _ σ _ H st0.sr Q ?_
      revert h
      dsimp only
      cases m (env.set i (.sh (.lst ds))) with
      | bad => exact fun h => h.elim
      | ex c d e => exact fun h => h.elim
      | ok d e' =>
        dsimp only
        intro h Hf1 H1 s1
        cases fx : fixA env (e'.set i (.ow (.lst ds))) with
        | none => rw [fx] at h; exact h.elim
        | some en =>
          rw [fx] at h
          obtain ⟨fp, s2⟩ := unfreeze s hi e1 e2 e3 r0 s1 fx
          exact h _ H1 s2
end
section
variable {X : Cx} {g : G} {W : WX} {e : Expr} {m : M D} {mb : M Bool}
theorem m_RO (i : Nat) (h : PEM X g W e m) : PEM X g W e (mRO i m) := by
  obtain ⟨t, h1, h2⟩ := h
  exact ⟨t, h1, ev_RO h2⟩
theorem t_RO (i : Nat) (h : PTM X g W e mb) : PTM X g W e (mROB i mb) := by
  obtain ⟨t, h1, h2⟩ := h
  exact ⟨t, h1, ev_ROB h2⟩
end
end DL

set_option Elab.async false
set_option linter.all false
set_option maxRecDepth 100000
set_option maxHeartbeats 400000
namespace DL
open PySem L2 PyProof.Rows
/-! ### max of lists and tuples of ints -/
def max1A : List D → Option D
  | [.lst xs] => max1D [.lst xs]
  | [.tup xs] => (asInts xs).bind fun ns => if ns = [] then none else some (.int (maxL ns))
  | _ => none
def rMaxT (K : PySem.W.Frag) : List V → Hp → VK → Prop := fun vs H Q => ∃ (a : Addr) (n : Int) (ns : List Int), vs = [V.ref a] ∧ SqT K H a ((n :: ns).map V.int) ∧ Q (.int (maxL (n :: ns))) H
theorem hold_ints {h : Heap} : ∀ {its : List Value} {ns : List Int}, Vals (ns.map V.int) its → PySem.W.HoldAll h its ns
  | [], [], _ => PySem.W.HoldAll.nil
  | _ :: _, n :: ns, .cons r k => by
    obtain ⟨t, rfl⟩ := (show ∃ t, _ = Value.int n t from r)
    exact PySem.W.HoldAll.cons ⟨[], .int n t⟩ (hold_ints k)
  | _ :: _, [], k => by cases k
  | [], _ :: _, k => by cases k
theorem maxOf_maxL (n : Int) : ∀ ns : List Int, PySem.W.maxOf n ns = maxL (n :: ns) := by
  intro ns
  show ns.foldl (fun a y => if decide (a < y) = true then y else a) n = (n :: ns).foldl max n
  rw [List.foldl_cons, show max n n = n from by omega]
  induction ns generalizing n with
  | nil => rfl
  | cons m ns ih =>
    rw [List.foldl_cons, List.foldl_cons]
    have e : (if decide (n < m) = true then m else n) = max n m := by
      by_cases h : n < m
      · rw [if_pos (by simpa using h)]; omega
      · rw [if_neg (by simpa using h)]; omega
    rw [e]
    exact ih _
section
variable {X : Cx} {j : Nat}
theorem cr_maxT (hc : X.calm = true) (hu : X.A.units + 1 < cLine) : CallR X (.builtin "max") (rMaxT X.K) := by
  intro pins s σ H vs us Q I r h
  obtain ⟨a, n, ns, rfl, hs, q⟩ := h
  obtain ⟨its, rv, hl, _⟩ := I.tuple hs
  rw [Vals.ref1 r]
  refine PySem.W.max_tuple_datum (α := Int) (x := n) (xs := ns) (I.ok.hd hc) hl (hold_ints (its := its.toArray.toList) (by simpa using rv)) (by show X.A.units + 1 + 0 < cLine; omega) fun i v h' tk hi hv hk => ?_
  obtain ⟨as, rd⟩ := hv
  rw [maxOf_maxL] at rd
  have : ∃ t, v = Value.int (maxL (n :: ns)) t := by
    generalize maxL (n :: ns) = m at rd
    cases rd
    exact ⟨_, rfl⟩
  obtain ⟨t, rfl⟩ := this
  exact ⟨.int _, H, I.kept hk, ⟨_, rfl⟩, q⟩
theorem cr_maxA (hc : X.calm = true) (hr : Room j X.A) : CallR X (.builtin "max") (fun xs H Q => rMax X.K xs H Q ∨ rMaxT X.K xs H Q) := (cr_max hc).or (cr_maxT hc (by have := hr.units; omega))
end
theorem rc_maxA {K : PySem.W.Frag} {g : G} : RcOk K g (fun xs H Q => rMax K xs H Q ∨ rMaxT K xs H Q) max1A := rc_of fun Hf H xs ds z Q e r h q => by
  unfold max1A at h
  split at h
  · rename_i ys
    left
    have := rc_max1 (K := K) (g := g) Hf H xs [.lst ys] Q e r
    rw [h] at this
    exact this q
  · rename_i ys
    right
    obtain ⟨v, rfl, r0⟩ : ∃ v, xs = [v] ∧ Rep K g Hf (.tup ys) v := by
      cases r with
      | cons r1 r2 => cases r2; exact ⟨_, rfl, r1⟩
    cases c : asInts ys with
    | none => rw [c] at h; cases h
    | some ns =>
      rw [c] at h
      have h' : (if ns = [] then none else some (D.int (maxL ns))) = some z := h
      cases ns with
      | nil => cases h'
      | cons n ns =>
        rw [if_neg (by simp)] at h'
        cases h'
        cases r0 with
        | tup h1 r1 =>
          have e1 := asInts_reps r1 c
          subst e1
          exact ⟨_, n, ns, rfl, e.t h1, q _ Hf H (Grow.refl e) (.int _)⟩
  · cases h
end DL

set_option Elab.async false
set_option linter.all false
set_option maxRecDepth 100000
set_option maxHeartbeats 400000
namespace DL
open PySem L2 PyProof.Rows
/-! ### list(range(n)) -/
def lrgD : D → Option D
  | .int n => if n ≤ 1000000 ∧ -1000000 ≤ n then some (.lst ((List.range n.toNat).map fun i => .int ((i : Nat) : Int))) else none
  | _ => none
theorem reps_ints {K : PySem.W.Frag} {g : G} {H : Hp} : ∀ l : List Int, Reps K g H (l.map .int) (l.map V.int)
  | [] => .nil
  | x :: l => .cons (.int x) (reps_ints l)
theorem ev_lrg {K : PySem.W.Frag} {g : G} {W : WX} {te : TE} {m : M D} (he : EvM K g W te m) : EvM K g W (tLstRg (tRg1 te)) (mUn lrgD m) :=
  fun env σ Hf H s Q h => he env σ Hf H s _ (h.bnd.imp fun d e1 Hf1 H1 _ s1 h1 x rx => by
    obtain ⟨z, hz, k⟩ := Aft.lft s1.sr h1
    have ex := s1.sr.ex
    cases rx <;> try (cases hz; done)
    case int n _ =>
      dsimp only [lrgD] at hz
      by_cases c : n ≤ 1000000 ∧ -1000000 ≤ n
      · rw [if_pos c] at hz
        cases hz
        refine ⟨n, rfl, ⟨by omega, by omega, by omega, by omega, by omega⟩, fun p hp => ?_⟩
        have r := reps_ints (K := K) (g := g) (H := Hf1) ((List.range n.toNat).map fun i => ((i : Nat) : Int))
        have e1 : ((List.range n.toNat).map fun i => ((i : Nat) : Int)).map D.int = (List.range n.toNat).map fun i => .int ((i : Nat) : Int) := by rw [List.map_map]; rfl
        have e2 : ((List.range n.toNat).map fun i => ((i : Nat) : Int)).map V.int = rgV 0 n := by
          unfold rgV
          rw [List.map_map, Int.sub_zero]
          refine List.map_congr_left fun i _ => ?_
          show V.int (i : Int) = V.int (0 + (i : Int))
          rw [Int.zero_add]
        rw [e1, e2] at r
        obtain ⟨w, r⟩ := new_lst ex hp r
        exact k _ _ w _ r
      · rw [if_neg c] at hz
        cases hz)
theorem m_lrg {X : Cx} {g : G} {W : WX} {a : Expr} {m : M D} {p q r pos : Pos} (h : PEM X g W a m) (hc : X.calm = true) (h1 : X.mg "list" = none) (h2 : X.mg "range" = none) (g1 : Gl X "list" := by rfl) (g2 : Gl X "range" := by rfl) (na : starEach [a] X.env = (false, eval a X.env) :: starEach [] X.env := by rfl)
    (nb : starEach [.Call (.Name "range" q) [a] [] r] X.env = (false, eval (.Call (.Name "range" q) [a] [] r) X.env) :: starEach [] X.env := by rfl) : PEM X g W (.Call (.Name "list" p) [.Call (.Name "range" q) [a] [] r] [] pos) (mUn lrgD m) := by
  obtain ⟨t, h3, h4⟩ := h
  exact ⟨_, pe_listRg hc g1 h1 (prg_1 g2 h2 h3 na) nb, ev_lrg h4⟩
end DL

set_option Elab.async false
set_option linter.all false
set_option maxRecDepth 100000
set_option maxHeartbeats 400000
namespace DL
open PySem L2 PyProof.Rows
/-! ### repr of data, where no repr is under way -/
def reprOk (p : PyData) : Bool := p.showable && (p.leavesShort 2000 && (decide (p.bulk ≤ 8000) && decide (p.depth ≤ 90)))
def reprG : List D → Option D
  | [d] => (toPD d).bind fun p => if reprOk p = true then some (.str p.shown) else none
  | _ => none
def rReprD (K : PySem.W.Frag) : List V → Hp → VK → Prop := fun xs H Q => ∃ x p, xs = [x] ∧ Dp K H x p ∧ reprOk p = true ∧ Q (.str p.shown) H
/-- no repr is under way -/
abbrev NoG (A : Around) : Prop := A.guards = some []
theorem dp_noDict {K : PySem.W.Frag} {H : Hp} : ∀ (p : PyData) (v : V), Dp K H v p → p.hasDict = false := by
  refine fun p => ?_
  refine PyData.rec (motive_1 := fun p => ∀ v, Dp K H v p → p.hasDict = false) (motive_2 := fun ps => ∀ vs, DpAll K H vs ps → PyData.hasDictAll ps = false) (motive_3 := fun _ => True) (motive_4 := fun _ => True) ?_ ?_ ?_ ?_ ?_ ?_ ?_ ?_ ?_ ?_ ?_ ?_ p
  all_goals first | trivial | skip
  · intro v _; rfl
  · intro b v _; rfl
  · intro i v _; rfl
  · intro x v _; rfl
  · intro xs ih v h
    cases h with
    | lst _ h => simp only [PyData.hasDict]; exact ih _ h
  · intro xs ih v h
    cases h with
    | tup _ h => simp only [PyData.hasDict]; exact ih _ h
  · intro kvs _ v h; cases h
  · intro vs _; rfl
  · intro x xs ih1 ih2 vs h
    cases h with
    | cons a b => simp only [PyData.hasDictAll, ih1 _ a, ih2 _ b, Bool.or_self]
  all_goals (intros; trivial)
section
variable {X : Cx} {g : G} {E : XK} {j : Nat}
theorem call_repr_dpU (hg : NoG X.A) (hu : X.A.units + 100 < cLine) : CallR X (.builtin "repr") (rReprD X.K) := by
  intro pins s σ H xs us Q I r h
  obtain ⟨x, p, rfl, hd, ok, q⟩ := h
  obtain ⟨u, rfl, ru⟩ := r.one
  obtain ⟨as, rd⟩ := Dp.reads I p x u hd ru
  unfold reprOk at ok
  simp only [Bool.and_eq_true, decide_eq_true_eq] at ok
  obtain ⟨o1, o2, o3, o4⟩ := ok
  have hz : p.shown.length ≤ sizeLine := by
    have := PyData.shown_le_bulk 2000 (by decide) p o2
    have e : sizeLine = 16777216 := rfl
    omega
  have fin : ∀ (a : Addr), u = .ref a → wpAny (model X.prog X.w) X.A (call (.builtin "repr") [u]) (EP X pins σ Q) X.xe s := fun a e => by
    subst e
    exact repr_of_reads' rd o1 (PyData.noDict_hsm (dp_noDict p x hd)) hg (by omega) (fun _ _ e => e) (fun h' u tk hk => ⟨.str _, H, I.kept hk, ⟨_, rfl⟩, q⟩) hz
  cases rd with
  | none => exact PySem.P.repr_of_none ⟨.str _, H, I.tok _, ⟨_, rfl⟩, by simpa only [PyData.shown] using q⟩
  | bool b => exact PySem.P.repr_of_bool ⟨.str _, H, I.tok _, ⟨_, rfl⟩, by simpa only [PyData.shown] using q⟩
  | int i t => exact PySem.P.repr_of_int (by simpa only [PyData.showable, decide_eq_true_eq] using o1) ⟨.str _, H, I.tok _, ⟨_, rfl⟩, by simpa only [PyData.shown] using q⟩
  | str y t => exact PySem.P.repr_of_str (hsz := by simpa only [PyData.shown] using hz) ⟨.str _, H, I.tok _, ⟨_, rfl⟩, by simpa only [PyData.shown] using q⟩
  | list => exact fin _ rfl
  | tuple => exact fin _ rfl
  | dict => exact fin _ rfl
theorem call_repr_dp (hg : NoG X.A) (hr : Room j X.A) : CallR X (.builtin "repr") (rReprD X.K) := call_repr_dpU hg (by have := hr.un; omega)
end
theorem rc_reprG {K : PySem.W.Frag} {g : G} : RcOk K g (rReprD K) reprG := rc_of fun Hf H xs ds z Q e r h q => by
  unfold reprG at h
  split at h
  · rename_i d
    cases r with
    | cons r1 r2 =>
      cases r2
      cases hp : toPD d with
      | none => rw [hp] at h; cases h
      | some p =>
        rw [hp] at h
        have h' : (if reprOk p = true then some (D.str p.shown) else none) = some z := h
        split at h'
        · rename_i ok
          cases h'
          exact ⟨_, p, rfl, Rep.dp e r1 hp, ok, q _ Hf H (Grow.refl e) (.str _)⟩
        · cases h'
  · cases h
/-! ### == and != of any texts, too -/
def eqS (neg : Bool) : D → D → Option D
  | .str x, .str y => some (.bl (decide (x = y) != neg))
  | a, b => (eqB a b).map fun k => .bl (k != neg)
section
variable {K : PySem.W.Frag} {g : G}
theorem rv_eqS : RvOk K g (fun x y H Q => rEqD K x y H Q ∨ rEq x y H Q) (eqS false) := by
  intro Hf H x y dx dy Q e rx ry h
  generalize hz : eqS false dx dy = z at h
  unfold eqS at hz
  split at hz
  · rename_i a b
    subst hz
    cases rx
    cases ry
    refine .inr ⟨rfl, ?_⟩
    have := h _ Hf H (Grow.refl e) (.bl _)
    rw [show (decide (a = b) != false) = decide (V.str a = V.str b) from by simp] at this
    exact this
  · subst hz
    cases q : eqB dx dy with
    | none => rw [q] at h; exact h.elim
    | some k =>
      rw [q] at h
      obtain ⟨a, b, h1, h2, h3, h4, rfl⟩ := eqB_some q
      have := h _ Hf H (Grow.refl e) (.bl _)
      rw [show (PyData.eqv a b != false) = PyData.eqv a b from by simp] at this
      exact .inl ⟨a, b, rx.dp e h1, ry.dp e h2, h3, h4, this⟩
theorem rv_neS : RvOk K g (fun x y H Q => rNeD K x y H Q ∨ rNe x y H Q) (eqS true) := by
  intro Hf H x y dx dy Q e rx ry h
  generalize hz : eqS true dx dy = z at h
  unfold eqS at hz
  split at hz
  · rename_i a b
    subst hz
    cases rx
    cases ry
    refine .inr ⟨rfl, ?_⟩
    have := h _ Hf H (Grow.refl e) (.bl _)
    rw [show (decide (a = b) != true) = !decide (V.str a = V.str b) from by simp] at this
    exact this
  · subst hz
    cases q : eqB dx dy with
    | none => rw [q] at h; exact h.elim
    | some k =>
      rw [q] at h
      obtain ⟨a, b, h1, h2, h3, h4, rfl⟩ := eqB_some q
      have := h _ Hf H (Grow.refl e) (.bl _)
      rw [show (PyData.eqv a b != true) = !PyData.eqv a b from by simp] at this
      exact .inl ⟨a, b, rx.dp e h1, ry.dp e h2, h3, h4, this⟩
end
section
variable {X : Cx} {g : G} {E : XK} {j : Nat} {cs : List Nat} {L : List (Nat × Fm)} {a b : Expr} {ma mb : M D} {pos : Pos}
theorem t_eqGS (S : SubF X.K g cs) (hL : AllO X.prog X.w X.K X.mg X.base g 0 j "__eq__" 2 L) (hq : AllC (fun c => cs.contains c = true) L) (hr : Room j X.A) (hx : Passes (L2.CX X.prog X.w) X E) (ha : PEM X g (WX_of E) a ma) (hc : PEM X g (WX_of E) b mb) : PTM X g (WX_of E) (.Compare a [.Eq] [b] pos) (mB (mCmpG cs L false (eqS false) ma mb)) := by
  obtain ⟨ta, h1, h2⟩ := ha
  obtain ⟨tb, h3, h4⟩ := hc
  exact ⟨_, pt_cmpR (((op_eqD hr.units).or op_eq).or (op_ownEqG S hL hq hr hx)) h1 h3 (nomark _), ev_Test ((rv_eqG rv_eqS).ev h2 h4)⟩
theorem m_eqGS (S : SubF X.K g cs) (hL : AllO X.prog X.w X.K X.mg X.base g 0 j "__eq__" 2 L) (hq : AllC (fun c => cs.contains c = true) L) (hr : Room j X.A) (hx : Passes (L2.CX X.prog X.w) X E) (ha : PEM X g (WX_of E) a ma) (hc : PEM X g (WX_of E) b mb) : PEM X g (WX_of E) (.Compare a [.Eq] [b] pos) (mCmpG cs L false (eqS false) ma mb) := by
  obtain ⟨ta, h1, h2⟩ := ha
  obtain ⟨tb, h3, h4⟩ := hc
  exact ⟨_, pe_cmpR (((op_eqD hr.units).or op_eq).or (op_ownEqG S hL hq hr hx)) h1 h3 (nomark _), (rv_eqG rv_eqS).ev h2 h4⟩
theorem t_neGS (S : SubF X.K g cs) (hL : AllO X.prog X.w X.K X.mg X.base g 1 j "__eq__" 2 L) (hq : AllC (fun c => cs.contains c = true) L) (hn : AllC (fun c => OpN X.K (g.cl c)) L) (hr : Room j X.A) (hx : Passes (L2.CX X.prog X.w) X E) (ha : PEM X g (WX_of E) a ma) (hc : PEM X g (WX_of E) b mb) : PTM X g (WX_of E) (.Compare a [.NotEq] [b] pos) (mB (mCmpG cs L true (eqS true) ma mb)) := by
  obtain ⟨ta, h1, h2⟩ := ha
  obtain ⟨tb, h3, h4⟩ := hc
  exact ⟨_, pt_cmpR (((op_neD hr.units).or op_ne).or (op_ownNeG S hL hq hn hr hx)) h1 h3 (nomark _), ev_Test ((rv_eqG rv_neS).ev h2 h4)⟩
theorem m_neGS (S : SubF X.K g cs) (hL : AllO X.prog X.w X.K X.mg X.base g 1 j "__eq__" 2 L) (hq : AllC (fun c => cs.contains c = true) L) (hn : AllC (fun c => OpN X.K (g.cl c)) L) (hr : Room j X.A) (hx : Passes (L2.CX X.prog X.w) X E) (ha : PEM X g (WX_of E) a ma) (hc : PEM X g (WX_of E) b mb) : PEM X g (WX_of E) (.Compare a [.NotEq] [b] pos) (mCmpG cs L true (eqS true) ma mb) := by
  obtain ⟨ta, h1, h2⟩ := ha
  obtain ⟨tb, h3, h4⟩ := hc
  exact ⟨_, pe_cmpR (((op_neD hr.units).or op_ne).or (op_ownNeG S hL hq hn hr hx)) h1 h3 (nomark _), (rv_eqG rv_neS).ev h2 h4⟩
theorem eqS_str (neg : Bool) (s t : Str) : eqS neg (.str s) (.str t) = some (.bl (decide (s = t) != neg)) := rfl
end
/-! ### what a def promises where no repr is under way -/
structure FnG (P : Program) (w : World) (K : PySem.W.Frag) (mg : Str → Option Value) (base : Heap) (CX : CXT) (k : Nat) (f : Addr) (fd : FuncData) (ps : List Str) (sp : Sp) : Prop where
  len : ∀ vs H Q E, sp vs H Q E → vs.length = ps.length
  run : ∀ (A : Around) (outer : List Env) (s : Shared) (H : Hp) (args : Args) (us : List Value) (vs : List V) (Q : VK) (E : XK), NoG A → Room k A → Env0 P w K mg base A outer s H → BindsTo s fd args (ps.zip us) → Vals vs us → sp vs H Q E →
    codeAny (model P w) A (.call (.ref f) args) (CR CX outer P w H s Q E) s
section
variable {P : Program} {w : World} {K : PySem.W.Frag} {mg : Str → Option Value} {base : Heap} {CX : CXT} {k : Nat} {f : Addr} {fd : FuncData} {ps : List Str} {sp sp' : Sp}
theorem FnG.of (F : FnOk P w K mg base CX k f fd ps sp) : FnG P w K mg base CX k f fd ps sp := ⟨F.len, fun A outer s H args us vs Q E _ hr => F.run A outer s H args us vs Q E hr⟩
theorem FnG.mono {j : Nat} (F : FnG P w K mg base CX j f fd ps sp) (h : j ≤ k) : FnG P w K mg base CX k f fd ps sp := ⟨F.len, fun A outer s H args us vs Q E hg hr => F.run A outer s H args us vs Q E hg (hr.mono h)⟩
theorem FnG.imp (F : FnG P w K mg base CX k f fd ps sp) (h : ∀ vs H Q E, sp' vs H Q E → sp vs H Q E) : FnG P w K mg base CX k f fd ps sp' :=
  ⟨fun vs H Q E q => F.len vs H Q E (h _ _ _ _ q), fun A outer s H args us vs Q E hg hr he hb hv hs => F.run A outer s H args us vs Q E hg hr he hb hv (h _ _ _ _ hs)⟩
end
section
variable {P : Program} {w : World} {K : PySem.W.Frag} {mg : Str → Option Value} {base : Heap} {CX : CXT} {k : Nat} {f : Addr} {fd : FuncData} {x qual : Str} {params : Arguments} {body : List Stmt} {scope : Scope} {dvs : List V} {kws : List (Str × V)} {N ps : List Str} {sp : Sp}
/-- a def's body, entered where no repr is under way -/
theorem gd_ok (F : FunD K x qual params body scope dvs kws f fd) (Sc : FnScope N ps scope) (len : ∀ vs H Q E, sp vs H Q E → vs.length = ps.length)
    (hb : ∀ (cdv : Value) (A : Around) (outer : List Env) (s : Shared) (H : Hp) (vs : List V) (Q : VK) (E : XK), NoG A → Room k (A.deeper (envOfC qual scope s.heap.objs.size f cdv)) → sp vs H Q E →
      ∃ t, PSs (cxOf CX P w K mg base N qual scope f cdv A outer s H E) body t ∧ t { nx := fun _ H' => Q .non H', rt := Q } (start N vs) H) : FnG P w K mg base CX (k + 1) f fd ps sp := by
  obtain ⟨oc, od, dV, kV, doc, pm, an, cdv, ct, osl, rfl, lk, hcd, _, _⟩ := F.ex
  refine ⟨len, fun A outer s H args us vs Q E hg hr e0 bd r hsp => ?_⟩
  have hl := len _ _ _ _ hsp
  have KX : K.In s.heap := e0.mod.kin.keeps fun b o e => (e0.bs b o e).1
  have here : ∀ y ∈ ps.zip us, scope.names.lookup y.1 = some .local ∨ (scope.names.lookup y.1 = some .cell ∧ ((cellsFrom (s.heap.objs.size + 1) scope.names []).lookup y.1).isSome = true) := fun y hy =>
    (Sc.par y.1 (List.of_mem_zip hy).1).imp id fun q => ⟨q, PySem.W.cellsFrom_some _ _ _ (.inl q)⟩
  refine codeAny_call_function hr.depth (KX _ _ lk) rfl Sc.co Sc.gen rfl (PySem.W.codeRec_of KX hcd) (bd _ _ _ _ (wpAny_newFunctionEnv_cells Sc.kind here fun env he s1 y => ?_))
  subst he
  refine ⟨(e0.mod.nolimit.keeps fun b o e => (e0.bs b o e).1).keeps y.toInCall.keep, codeAny_func ?_⟩
  obtain ⟨t, ht, hq⟩ := hb cdv A outer s H vs Q E hg (hr.deeper _) hsp
  refine wpAny_mono (ht.run [] s1 (start N vs) H _ (inv_start Sc hr.hd e0 hl r y) hq) (fun fl s' hs => ?_) fun _ _ hs => hs
  cases fl with
  | ret u => obtain ⟨v, σ', H', J, rv, q⟩ := hs; exact ⟨v, H', J.os, J.bare, J.base, J.hok, rv, q⟩
  | next => obtain ⟨σ', H', J, q⟩ := hs; exact ⟨V.non, H', J.os, J.bare, J.base, J.hok, rfl, q⟩
  | brk => obtain ⟨_, _, _, q⟩ := hs; exact False.elim q
  | cont => obtain ⟨_, _, _, q⟩ := hs; exact False.elim q
/-- a def that no exception leaves -/
theorem df_NG {g : G} {b : S} (F : FunD K x qual params body scope dvs kws f fd) (Sc : FnScope N ps scope)
    (hb : ∀ (cdv : Value) (A : Around) (outer : List Env) (s : Shared) (H : Hp) (E : XK), NoG A → Room k (A.deeper (envOfC qual scope s.heap.objs.size f cdv)) → PSsM (cxOf (L2.CX P w) P w K mg base N qual scope f cdv A outer s H E).nox g WF body b) :
    FnG P w K mg base (L2.CX P w) (k + 1) f fd ps (spM K g ps.length (fnM ps.length N.length (nox b))) := by
  refine FnG.imp ?_ spM_fnM
  refine gd_ok F Sc (fun vs H Q E h => ?_) (fun cdv A outer s H vs Q E hg hr h => ?_)
  · obtain ⟨Hf, args, sr, l, _⟩ := h
    rw [← l, ← sr.len, List.length_map]
  · obtain ⟨Hf, args, sr, l, o⟩ := h
    obtain ⟨t, h1, h2⟩ := hb cdv A outer s H E hg hr
    have lv : vs.length = args.length := by rw [← sr.len, List.length_map]
    refine ⟨t, PSs.nox h1, ?_⟩
    rw [start_eq, lv]
    refine h2 _ _ Hf H (sr_app sr _) _ ?_
    exact Out.nox (r := .bad) (out_run sr.len o)
/-- .. that exceptions may leave -/
theorem df_XG {g : G} {b : S} (F : FunD K x qual params body scope dvs kws f fd) (Sc : FnScope N ps scope)
    (hb : ∀ (cdv : Value) (A : Around) (outer : List Env) (s : Shared) (H : Hp) (E : XK), NoG A → Room k (A.deeper (envOfC qual scope s.heap.objs.size f cdv)) → PSsM (cxOf (L2.CX P w) P w K mg base N qual scope f cdv A outer s H E) g (WX_of E) body b) :
    FnG P w K mg base (L2.CX P w) (k + 1) f fd ps (spM K g ps.length (fnM ps.length N.length b)) := by
  refine FnG.imp ?_ spM_fnM
  refine gd_ok F Sc (fun vs H Q E h => ?_) (fun cdv A outer s H vs Q E hg hr h => ?_)
  · obtain ⟨Hf, args, sr, l, _⟩ := h
    rw [← l, ← sr.len, List.length_map]
  · obtain ⟨Hf, args, sr, l, o⟩ := h
    obtain ⟨t, h1, h2⟩ := hb cdv A outer s H E hg hr
    have lv : vs.length = args.length := by rw [← sr.len, List.length_map]
    refine ⟨t, h1, ?_⟩
    rw [start_eq, lv]
    exact h2 _ _ Hf H (sr_app sr _) _ (out_run sr.len o)
end
/-! ### calls of such defs -/
section
variable {X : Cx} {CX : CXT} {k : Nat} {f : Addr} {fd : FuncData} {ps : List Str} {sp : Sp} {dvs : List V} {ds : List Value} {E : XK} {x : Str} {p pos : Pos} {e : Expr} {es : List Expr} {t : TA}
theorem run_g {pins : List (Addr × Obj)} {σ : L2.St} {H : Hp} {s : Shared} {Q : VK} {us : List Value} {vs : List V} (F : FnG X.prog X.w X.K X.mg X.base CX k f fd ps sp) (hg : NoG X.A) (hr : Room k X.A) (hb : Binds X.K fd ps ds) (hd : Vals dvs ds) (hx : Passes CX X E)
    (I : Inv X pins σ H s) (r : Vals vs us) (h : sp (vs ++ dvs) H Q E) : wpAny (model X.prog X.w) X.A (call (.ref f) us) (EP X pins σ Q) X.xe s := by
  have r2 : Vals (vs ++ dvs) (us ++ ds) := r.append hd
  refine wpAny_call (codeAny_mono (F.run X.A X.stack s H ⟨us, []⟩ (us ++ ds) (vs ++ dvs) Q E hg hr I.env0 (hb s us I.kIn (by rw [← r2.length]; exact F.len _ _ _ _ h)) r2 h) fun r s' hq => ?_)
  cases r with
  | error e => exact hx pins σ H s e s' I hq
  | ok fl => cases fl <;> first | exact I.after hq | exact False.elim hq
theorem pe_callG (F : FnG X.prog X.w X.K X.mg X.base CX k f fd ps sp) (hg : NoG X.A) (hr : Room k X.A) (gl : Gl X x) (hm : X.mg x = some (.ref f)) (hk : PySem.W.keepIn X.K (.ref f) = true) (hb : Binds X.K fd ps ds) (hd : Vals dvs ds) (hx : Passes CX X E)
    (ha : PA X (e :: es) t) (hdb : (x == ("__debug__" : Str)) = false := by decide) (he : starEach (e :: es) X.env = (false, eval e X.env) :: starEach es X.env := by rfl) (hpl : (backTo pos (starEach es X.env)).any (·.1) = false := by rfl) :
    PE X (.Call (.Name x p) (e :: es) [] pos) (tCall sp dvs E t) := by
  refine ⟨fun pins s σ H Q I h => wpAny_Call_Name_kw (ld_glob I gl hm ?_ hdb)⟩
  exact PySem.W.callWith_K (h₀ := X.base) I.ok.mod.kin hk (thn (ha.run pos pins s σ H _ I h) fun us s1 ⟨vs, H1, I1, r, q⟩ => ⟨I1.kIn, run_g F hg hr hb hd hx I1 r q⟩) he hpl
end
section
variable (P : Program) (w : World) (K : PySem.W.Frag) (mg : Str → Option Value) (base : Heap) (g : G)
structure DefG (x : Str) (np : Nat) (F : Fm) (k : Nat) (dfl : List D) : Prop where
  ex : ∃ f fd ps dvs ds, FnG P w K mg base (L2.CX P w) k f fd ps (spM K g np F) ∧ mg x = some (.ref f) ∧ PySem.W.keepIn K (.ref f) = true ∧ Binds K fd ps ds ∧ Vals dvs ds ∧ ∀ H, Reps K g H dfl dvs
  ar : Arity np F
variable {P : Program} {w : World} {K : PySem.W.Frag} {mg : Str → Option Value} {base : Heap} {g : G} {x : Str} {np k : Nat} {F : Fm} {f : Addr} {fd : FuncData} {ps : List Str}
theorem mkDefG (ok : FnG P w K mg base (L2.CX P w) k f fd ps (spM K g np F)) (hm : mg x = some (.ref f)) (kp : PySem.W.keepIn K (.ref f) = true) (b : Binds K fd ps []) (ar : Arity np F) : DefG P w K mg base g x np F k [] :=
  ⟨⟨f, fd, ps, [], [], ok, hm, kp, b, .nil, fun _ => .nil⟩, ar⟩
end
section
variable {X : Cx} {g : G} {E : XK} {x : Str} {np k j : Nat} {F : Fm} {dfl : List D} {es : List Expr} {e : Expr} {ma : M (List D)} {p pos : Pos}
theorem m_callG (d : DefG X.prog X.w X.K X.mg X.base g x np F k dfl) (nog : NoG X.A) (hr : Room j X.A) (hx : Passes (L2.CX X.prog X.w) X E) (ha : PAM X g (WX_of E) (e :: es) ma) (hk : k ≤ j := by decide) (hg : Gl X x := by rfl) (hdb : (x == ("__debug__" : Str)) = false := by decide)
    (he : starEach (e :: es) X.env = (false, eval e X.env) :: starEach es X.env := by rfl) (hpl : (backTo pos (starEach es X.env)).any (·.1) = false := by rfl) : PEM X g (WX_of E) (.Call (.Name x p) (e :: es) [] pos) (mCallA F dfl ma) := by
  obtain ⟨t, h1, h2⟩ := ha
  obtain ⟨⟨f, fd, ps, dvs, ds, F1, hm, kp, b, v, r⟩, ar⟩ := d
  exact ⟨_, pe_callG F1 nog (hr.mono hk) hg hm kp b v hx h1 hdb he hpl, ev_callA ar h2 r⟩
end
end DL

set_option Elab.async false
set_option linter.all false
set_option maxRecDepth 100000
set_option maxHeartbeats 1000000
namespace DL
open PySem L2 PyProof.Rows
/-! ### what is never reached -/
section
variable {X : Cx} {g : G} {W : WX} {e : Expr}
theorem m_never : PEM X g W e (fun _ => .bad) := ⟨fun _ _ _ => False, ⟨fun _ _ _ _ _ _ h => h.elim⟩, fun _ _ _ _ _ _ h => h.elim⟩
theorem t_never : PTM X g W e (fun _ => .bad) := ⟨fun _ _ _ => False, ⟨fun _ _ _ _ _ _ h => h.elim⟩, fun _ _ _ _ _ _ h => h.elim⟩
end
/-! ### calls that exceptions may leave, the wish of the place -/
section
variable {K : PySem.W.Frag} {g : G} {W : WX} {E : XK} {env : En} {σ : L2.St} {Hf H : Hp} {F : Fm} {np : Nat}
theorem sp_ofS {args : En} {vs : List V} {Q : VK} (hn : Arity np F) (s : SR K g args (vs.map some) Hf H) (o : Out K g (WX_of (WE W σ)) args (vs.map some) Hf H (F args) { nx := fun _ _ => False, rt := Q }) : spM K g np F vs H Q (WE W σ) := sp_of hn s o
theorem spAS {ds : List D} {vs : List V} {Q : VK} (hn : Arity np F) (s : SR K g env σ Hf H) (r : Reps K g Hf ds vs) (h : Aft K g W env σ Hf H (callA F ds env) fun d _ Hf' H' => ∀ v, Rep K g Hf' d v → Q v H') : spM K g np F vs H Q (WE W σ) := by
  refine sp_ofS hn (sr_sh s.ex r) ?_
  unfold callA at h
  revert h
  cases F (ds.map .sh) with
  | bad => exact fun h => h
  | ex c d e => exact fun h dx v fs σ' Hf' H' st r e1 e2 e3 e4 e5 => h dx v fs σ Hf' H' (step_callA s st) r e1 e2 e3 (fun o => Own.there s o e5) e5
  | ok x e =>
    cases x with
    | rt d => exact fun h σ' Hf' H' st v r => h Hf' H' (step_callA s st) v r
    | rto d => exact fun h => h.elim
    | nx => exact fun h => h.elim
    | bk => exact fun h => h.elim
    | ct => exact fun h => h.elim
def tCallS1 (sp : Sp) (dvs : List V) (W : WX) (t : TA) : TE := fun σ H Q => t σ H fun vs H1 => sp (vs ++ dvs) H1 Q (WE W σ)
theorem ev_callS {ta : TA} {ma : M (List D)} {dvs : List V} {dfl : List D} (hn : Arity np F) (ha : EvL K g W ta ma) (hd : ∀ H, Reps K g H dfl dvs) : EvM K g W (tCallS1 (spM K g np F) dvs W ta) (mCallA F dfl ma) :=
  fun env σ Hf H s Q h => ha env σ Hf H s _ (h.bnd.imp fun ds e1 Hf1 H1 _ s1 h1 vs r => spAS hn s1.sr (r.append (hd Hf1)) h1)
/-- C(..) -/
def tMakeS (C : Addr) (sp : Sp) (dvs : List V) (W : WX) (t : TA) : TE := fun σ H Q => t σ H fun vs H1 => ∀ x dx, H1 x = none → H1 dx = none → dx ≠ x →
  sp (.ref x :: (vs ++ dvs)) (upd (upd H1 dx (.own x)) x (.ins C dx [])) (fun v H2 => v = .non ∧ Q (.ref x) H2) (WE W σ)
theorem ev_makS {c : Nat} {ta : TA} {ma : M (List D)} {dvs : List V} {dfl : List D} (hn : Arity np F) (ok : g.ok c = true) (ha : EvL K g W ta ma) (hd : ∀ H, Reps K g H dfl dvs) :
    EvF K g W (tMakeS (g.cl c) (spM K g np F) dvs W ta) (mMakF F c dfl ma) := by
  intro env σ Hf H s Q h
  refine ha env σ Hf H s _ (h.frame.imp fun ds e1 Hf1 H1 _ s1 h1 vs r x dx nx ndx ne => ?_)
  replace h1 := h1 s1
  -- the heap with the new instance
  have npd : H1 dx = none := ndx
  have w1 : Grow Hf1 H1 Hf1 (upd H1 dx (.own x)) := own_new s1.sr.ex ndx
  have nx1 : (upd H1 dx (.own x)) x = none := by rw [upd_ne (fun z => ne z.symm)]; exact nx
  have w2 : Grow Hf1 (upd H1 dx (.own x)) Hf1 (upd (upd H1 dx (.own x)) x (.ins (g.cl c) dx [])) := own_new w1.fh nx1
  have w : Grow Hf1 H1 Hf1 (upd (upd H1 dx (.own x)) x (.ins (g.cl c) dx [])) := Grow.trans (a := w1) w2
  have fx : Hf1 x = none := s1.sr.ex.back nx
  have r2 := r.append (hd Hf1)
  have srl : SR K g (.pn (.ins c []) :: (ds ++ dfl).map .sh) ((V.ref x :: (vs ++ dvs)).map some) Hf1 (upd (upd H1 dx (.own x)) x (.ins (g.cl c) dx [])) := by
    have s0 : SR K g [Sl.pn (.ins c [])] [some (V.ref x)] Hf1 (upd (upd H1 dx (.own x)) x (.ins (g.cl c) dx [])) := by
      refine ⟨w.fh, rfl, fun i y o h h' => ?_, fun i j y z a b p n1 q1 q2 m1 m2 f1 => ?_⟩
      · cases i with
        | zero =>
          cases h
          cases h'
          exact ⟨x, _, rfl, upd_same, fx, by
            have := RepO.ins (K := K) (g := g) (Hf := Hf1) (c := c) (dx := dx) (ds := []) (vs := []) .nil (Nat.zero_le _) ok
            simpa using this⟩
        | succ i => simp at h
      · have hi := (List.getElem?_eq_some_iff.mp q1).1
        have hj := (List.getElem?_eq_some_iff.mp q2).1
        simp at hi hj
        omega
    exact sr_lent (i := 0) (p := x) s0 rfl rfl rfl r2
  refine sp_ofS (W := W) (σ := σ) hn srl ?_
  have stepBack : ∀ {e : En} {σ' : L2.St} {Hf' H' : Hp}, Step K g (.pn (.ins c []) :: (ds ++ dfl).map .sh) ((V.ref x :: (vs ++ dvs)).map some) Hf1 (upd (upd H1 dx (.own x)) x (.ins (g.cl c) dx [])) e σ' Hf' H' → Step K g e1 σ Hf1 H1 e1 σ Hf' H' := fun {e σ' Hf' H'} st => by
    have kp : ∀ a u, H1 a = some u → Hf1 a = none → H' a = some u ∧ Hf' a = none := fun a u q q' => st.kp a u (w.h a u q) q' fun o => by
      have := own_lent.mp o
      rw [this, nx] at q
      cases q
    refine ⟨st.f, ⟨st.sr.ex, s1.sr.len, fun i y o q q' => ?_, s1.sr.ne⟩, fun a u q q' _ => kp a u q q', fun a o => .inl o, fun a q => w.h.back (st.th a q), fun i d q => ⟨⟨d, q⟩, rfl⟩, rfl⟩
    have z := s1.sr.sl i y o q q'
    cases y with
    | no => trivial
    | sh d => obtain ⟨v, e, r⟩ := z; exact ⟨v, e, r.mono st.f⟩
    | ow d => obtain ⟨p, u, e, h1, h2, r⟩ := z; obtain ⟨k1, k2⟩ := kp p u h1 h2; exact ⟨p, u, e, k1, k2, r.mono st.f⟩
    | pn d => obtain ⟨p, u, e, h1, h2, r⟩ := z; obtain ⟨k1, k2⟩ := kp p u h1 h2; exact ⟨p, u, e, k1, k2, r.mono st.f⟩
  have pn : ∀ {e : En} {σ' : L2.St} {Hf' H' : Hp}, Step K g (.pn (.ins c []) :: (ds ++ dfl).map .sh) ((V.ref x :: (vs ++ dvs)).map some) Hf1 (upd (upd H1 dx (.own x)) x (.ins (g.cl c) dx [])) e σ' Hf' H' →
      ∃ d1 rest, e = .pn d1 :: rest ∧ ∃ u, H' x = some u ∧ Hf' x = none ∧ RepO K g Hf' d1 u := fun {e σ' Hf' H'} st => by
    obtain ⟨⟨d1, h1⟩, e0⟩ := st.pn 0 _ rfl
    cases e with
    | nil => cases h1
    | cons a b =>
      cases h1
      obtain ⟨q, u, f, h1, h2, r⟩ := st.sr.at_ (i := 0) (x := .pn d1) (d := d1) rfl rfl
      rw [e0] at f
      cases f
      exact ⟨d1, b, rfl, u, h1, h2, r⟩
  unfold mkA at h1
  revert h1
  cases F (.pn (.ins c []) :: (ds ++ dfl).map .sh) with
  | bad => exact fun h => h
  | ex c' d e => exact fun h dx' v fs σ' Hf' H' st r q1 q2 q3 q4 q5 => h dx' v fs σ Hf' H' (s1.trans (stepBack st)) r q1 q2 q3 (fun o => Own.there s1.sr o (w.h.back q5)) (s1.th _ (w.h.back q5))
  | ok z e =>
    cases z with
    | rto d => exact fun h => h.elim
    | nx => exact fun h => h.elim
    | bk => exact fun h => h.elim
    | ct => exact fun h => h.elim
    | rt d =>
      intro h σ' Hf' H' st v rv
      obtain ⟨d1, rest, rfl, u, k1, k2, k3⟩ := pn st
      cases rv <;> try exact h.elim
      case non => exact ⟨rfl, h Hf' H' (s1.trans (stepBack st)) x ⟨⟨u, k1, k3⟩, k2, fun o => Own.there s1.sr o nx, s1.th x nx⟩⟩
end
/-! the rules -/
section
variable {X : Cx} {g : G} {W : WX} {x : Str} {c np k j : Nat} {F : Fm} {dfl : List D} {es : List Expr} {e : Expr} {ma : M (List D)} {p pos : Pos}
theorem m_callS (d : Def0 X.prog X.w X.K X.mg X.base g x np F k dfl) (hr : Room j X.A) (tk : Takes X W) (ha : PAM X g W (e :: es) ma) (hk : k ≤ j := by decide) (hg : Gl X x := by rfl) (hdb : (x == ("__debug__" : Str)) = false := by decide)
    (he : starEach (e :: es) X.env = (false, eval e X.env) :: starEach es X.env := by rfl) (hpl : (backTo pos (starEach es X.env)).any (·.1) = false := by rfl) : PEM X g W (.Call (.Name x p) (e :: es) [] pos) (mCallA F dfl ma) := by
  obtain ⟨t, h1, h2⟩ := ha
  obtain ⟨⟨f, fd, ps, dvs, ds, F1, hm, kp, b, v, r⟩, ar⟩ := d
  refine ⟨_, ⟨fun pins s σ H Q I h => ?_⟩, ev_callS ar h2 r⟩
  refine wpAny_Call_Name_kw (ld_glob I hg hm ?_ hdb)
  refine PySem.W.callWith_K (h₀ := X.base) I.ok.mod.kin kp (thn (h1.run pos pins s σ H _ I h) fun us s1 ⟨vs, H1, I1, r1, q⟩ => ⟨I1.kIn, ?_⟩) he hpl
  exact run_fnSD (E := WE W) F1 (hr.mono hk) b v (passAt tk σ) I1 r1 q
theorem run_makS {X : Cx} {fd : FuncData} {ps : List Str} {dvs : List V} {ds : List Value} {pins : List (Addr × Obj)} {σ : L2.St} {H : Hp} {s : Shared} {Q : VK} {us : List Value} {vs : List V} {sp : Sp} {C f : Addr} {k : Nat} {E : XK} (M : Mk X.K C f) (F : FnOk X.prog X.w X.K X.mg X.base (L2.CX X.prog X.w) k f fd ps sp) (hr : Room (k + 1) X.A) (hb : Binds X.K fd ps ds) (hd : Vals dvs ds)
    (hx : PassesAt (L2.CX X.prog X.w) X σ E) (I : Inv X pins σ H s) (r : Vals vs us)
    (h : ∀ x dx, H x = none → H dx = none → dx ≠ x → sp (.ref x :: (vs ++ dvs)) (upd (upd H dx (.own x)) x (.ins C dx [])) (fun v H2 => v = .non ∧ Q (.ref x) H2) E) :
    wpAny (model X.prog X.w) X.A (call (.ref C) us) (EP X pins σ Q) X.xe s := by
  have hq := h (s.heap.objs.size + 1) s.heap.objs.size (I.hok.fresh (Nat.le_succ _)) (I.hok.fresh (Nat.le_refl _)) (Nat.ne_of_lt (Nat.lt_succ_self _))
  have I2 := Inv.made (C := C) I
  have r2 : Vals (V.ref (s.heap.objs.size + 1) :: (vs ++ dvs)) (Value.ref (s.heap.objs.size + 1) :: (us ++ ds)) := .cons rfl (r.append hd)
  have hl : (Value.ref (s.heap.objs.size + 1) :: us ++ ds).length = ps.length := (r2.length.symm.trans (F.len _ _ _ _ hq))
  refine wpAny_call (make_map (f := f) I.kIn M.makes M.init (beq_iff_eq.mp M.fn) (codeAny_mono (F.run _ X.stack _ _ ⟨Value.ref (s.heap.objs.size + 1) :: us, []⟩ (Value.ref (s.heap.objs.size + 1) :: (us ++ ds)) _ _ E (hr.make C us [])
    (I2.env0.make C us []) (hb _ (Value.ref (s.heap.objs.size + 1) :: us) I2.kIn hl) r2 hq) fun r s' z => ?_))
  cases r with
  | error e => exact hx pins _ _ e s' I2 z
  | ok fl =>
    cases fl with
    | ret u =>
      obtain ⟨v, H', I3, rv, ev, q3⟩ := I2.after z
      subst ev
      exact ⟨rv, ⟨V.ref (s.heap.objs.size + 1), H', I3, rfl, q3⟩⟩
    | next => exact False.elim z
    | brk => exact False.elim z
    | cont => exact False.elim z
theorem f_makeS (d : Mak X.prog X.w X.K X.mg X.base g x c np F k dfl) (hr : Room j X.A) (tk : Takes X W) (ha : PAM X g W (e :: es) ma) (hk : k + 1 ≤ j := by decide) (hg : Gl X x := by rfl) (hdb : (x == ("__debug__" : Str)) = false := by decide)
    (he : starEach (e :: es) X.env = (false, eval e X.env) :: starEach es X.env := by rfl) (hpl : (backTo pos (starEach es X.env)).any (·.1) = false := by rfl) : PEF X g W (.Call (.Name x p) (e :: es) [] pos) (mMakF F c dfl ma) := by
  obtain ⟨t, h1, h2⟩ := ha
  obtain ⟨⟨f, fd, ps, dvs, ds, F1, mk, hm, b, v, r⟩, ok, ar⟩ := d
  refine ⟨_, ⟨fun pins s σ H Q I h => ?_⟩, ev_makS ar ok h2 r⟩
  refine wpAny_Call_Name_kw (ld_glob I hg hm ?_ hdb)
  refine PySem.W.callWith_K (h₀ := X.base) I.ok.mod.kin mk.kp (thn (h1.run pos pins s σ H _ I h) fun us s1 ⟨vs, H1, I1, r1, q⟩ => ⟨I1.kIn, ?_⟩) he hpl
  exact run_makS mk F1 (hr.mono hk) b v (passAt tk σ) I1 r1 q
theorem f_makeS0 (d : Mak X.prog X.w X.K X.mg X.base g x c np F k dfl) (hr : Room j X.A) (tk : Takes X W) (hk : k + 1 ≤ j := by decide) (hg : Gl X x := by rfl) (hdb : (x == ("__debug__" : Str)) = false := by decide) : PEF X g W (.Call (.Name x p) [] [] pos) (mMakF F c dfl mNil) := by
  obtain ⟨⟨f, fd, ps, dvs, ds, F1, mk, hm, b, v, r⟩, ok, ar⟩ := d
  refine ⟨_, ⟨fun pins s σ H Q I h => ?_⟩, ev_makS ar ok ev_nil r⟩
  refine wpAny_Call_Name_kw (ld_glob I hg hm ?_ hdb)
  exact PySem.W.callWith_K0 I.kIn mk.kp (run_makS (us := []) mk F1 (hr.mono hk) b v (passAt tk σ) I .nil h)
/-- a def's body lets out what its callees let out -/
theorem pasX {X : Cx} {E : XK} (tk : Takes X (WX_of E)) : Passes (L2.CX X.prog X.w) X E := fun pins σ H s e s' I h => passAt tk σ pins H s e s' I h
end
end DL

set_option Elab.async false
set_option linter.all false
set_option maxRecDepth 100000
set_option maxHeartbeats 1000000
namespace DL
open PySem L2 PyProof.Rows
/-! ### own errors -/
theorem exoB_ok {K : PySem.W.Frag} {C : Addr} (q : exoB K C = true) : ∃ nm q N bs bm sn sub ab col dd k0 k1 k2 k3 k5, K.lookup C = some (excClassObj nm q C N bs bm true sn sub ab col dd k0 k1 k2 k3 k5 "ValueError.__new__") ∧ PySem.HandSPX.refsVE bm = true := by
  unfold exoB at q
  split at q
  · rename_i dd cd sl ho
    split at q
    · rename_i C' bm k0 k1 k2 k3 n k5 hm hs
      simp only [Bool.and_eq_true, beq_iff_eq, Bool.not_eq_true'] at q
      obtain ⟨rfl, rfl, hdel, hdict, ht⟩ := q
      obtain ⟨nm, bs, mro, ns, qn, hd, sn, sub, ab, col, del⟩ := cd
      dsimp only at hm hdel hdict
      subst hm hdel hdict
      have hsl : sl = #[k0, k1, k2, k3, some (.builtin "ValueError.__new__"), k5] := by
        obtain ⟨l⟩ := sl
        simp only at hs
        rw [hs]
      subst hsl
      exact ⟨nm, qn, ns, bs, bm, sn, sub, ab, col, dd, k0, k1, k2, k3, k5, ho, ht⟩
    · cases q
  · cases q
structure XcF (K : PySem.W.Frag) (C B fI : Addr) (f : Str) : Prop where
  oex : OexC K C
  xf : XfC K C
  no : PySem.W.findIn K (.ref C) f = some none
  ini : PySem.W.findIn K (.ref C) "__init__" = some (some (.ref fI))
  ty : PySem.W.typeIn K (.ref fI) = some (.type "function")
  te : PySem.W.exmOne K (.ref C) (.ref C) = some true
  ca : PySem.W.findIn K (.ref C) "__class__" = some (some (.builtin "object.__class__"))
  cg : PySem.W.specialIn K (.builtin "object.__class__") "__get__" = some (some (.builtin "getset_descriptor.__get__"))
  ct : PySem.W.takesIn K (.builtin "object.__class__") = some true
  mo : PySem.W.mroIn K C (.type "object") = some true
  kit : PySem.W.kitOne K (.ref C) (.ref B) = some true
  kiv : PySem.W.kitOne K (.ref C) (.type "ValueError") = some true
  rd : ClX.CRead K B (.type "type")
  vi : PySem.W.findCls K (.ref B) (.type "type") "__init__" = some (.val (.builtin "ValueError.__init__"))
theorem exo_of {K : PySem.W.Frag} {C B fI : Addr} {f : Str} (h : exoAll K C B fI f = true) : XcF K C B fI f := by
  obtain ⟨h1, h⟩ := b2 h
  obtain ⟨h2, h⟩ := b2 h
  obtain ⟨h3, h⟩ := b2 h
  obtain ⟨h4, h⟩ := b2 h
  obtain ⟨h5, h⟩ := b2 h
  obtain ⟨h6, h⟩ := b2 h
  obtain ⟨h7, h⟩ := b2 h
  obtain ⟨h8, h⟩ := b2 h
  obtain ⟨h9, h⟩ := b2 h
  obtain ⟨h10, h⟩ := b2 h
  obtain ⟨h11, h⟩ := b2 h
  obtain ⟨h12, h⟩ := b2 h
  obtain ⟨h13, h⟩ := b2 h
  obtain ⟨h14, h⟩ := b2 h
  obtain ⟨h15, h⟩ := b2 h
  obtain ⟨h16, h⟩ := b2 h
  obtain ⟨h17, h⟩ := b2 h
  obtain ⟨h18, h19⟩ := b2 h
  refine ⟨⟨exoB_ok h1, of_decide_eq_true h2, of_decide_eq_true h3, of_decide_eq_true h4, h5⟩, xfB_ok h6, of_decide_eq_true h7, of_decide_eq_true h8, of_decide_eq_true h9, of_decide_eq_true h10, of_decide_eq_true h11, of_decide_eq_true h12, of_decide_eq_true h13, of_decide_eq_true h14, of_decide_eq_true h15, of_decide_eq_true h18, ⟨h16, of_decide_eq_true h17⟩, ?_⟩
  split at h19
  · rename_i i e
    rw [beq_iff_eq.mp h19] at e
    exact e
  · cases h19
/-- what __init__ of such a class promises -/
def spX (K : PySem.W.Frag) (C : Addr) (f : Str) : Sp := fun vs H Q _ => ∃ (a : Addr) (v : V), vs = [.ref a, v] ∧ OexC K C ∧ PySem.W.findIn K (.ref C) f = some none ∧ H a = some (exo a C none) ∧ ∀ dx, H dx = none → dx ≠ a → Q .non (upd (upd H dx (exd dx [(f, v)])) a (exo a C (some dx)))
section
variable {X : Cx} {pl : Sem Bool} {x : Str} {B C fI : Addr} {f m : Str} {o e : Expr} {es : List Expr} {ta : TA} {p p1 p2 p' pos : Pos}
/-- B.__init__(self, ..), B an own class that has ValueError's -/
theorem pe_binit (hg : Gl X x) (hm : X.mg x = some (.ref B)) (rd : ClX.CRead X.K B (.type "type")) (vi : PySem.W.findCls X.K (.ref B) (.type "type") "__init__" = some (.val (.builtin "ValueError.__init__"))) (ha : PA X (e :: es) ta) (hdb : (x == ("__debug__" : Str)) = false := by decide)
    (hc : eval (.Call (.Attribute (.Name x p1) "__init__" p2) (e :: es) [] pos) X.env = (do
      let ov ← eval (.Name x p1) X.env
      standAt p2.atName
      let (f, first) ← holding [ov] (getMethod ov "__init__" pl)
      callWith pos f first (backTo pos (starEach (e :: es) X.env)) (backToKw pos (keywordEach [] X.env))) := by rfl)
    (he : starEach (e :: es) X.env = (false, eval e X.env) :: starEach es X.env := by rfl) (hpl : (backTo pos (starEach es X.env)).any (·.1) = false := by rfl) :
    PE X (.Call (.Attribute (.Name x p1) "__init__" p2) (e :: es) [] pos) (tVeI X.K ta) := by
  refine ⟨fun pins s σ H Q I h => ?_⟩
  refine PySem.W.methodCall_KW (pl := pl) (ld_glob I hg hm ?_ hdb) hc
  refine PySem.W.method_cls I.kIn rd.ga (PySem.W.cls_value I.kIn rd.rd vi rfl ?_)
  show wpAny _ _ (callWith pos (Value.builtin "ValueError.__init__") [] (backTo pos (starEach (e :: es) X.env)) []) _ _ _
  refine PyProof.Rows.callWith_method1 (thn (ha.run pos pins _ σ H _ (I.tok _) h) fun us s1 ⟨vs, H1, I1, r1, a, C, ws, ev, hl, T, ea, q⟩ => ?_) he hpl
  subst ev
  cases r1 with
  | @cons _ u0 _ ur ra rw' =>
    obtain rfl : u0 = Value.ref a := ra
    have hlen : ur.length ≤ sizeLine := by
      rw [← Paired.length rw', sizeLine_eq]
      omega
    exact oinit_ok T I1 ea hlen fun s' J => ⟨.non, H1, J, rfl, q⟩
end
section
variable {P : Program} {w : World} {K : PySem.W.Frag} {mg : Str → Option Value} {base : Heap} {g : G} {qual : Str} {params : Arguments} {body : List Stmt} {scope : Scope} {f fI C B : Addr} {fd : FuncData} {fl m : Str}
theorem ok_exo (F : FunD K "__init__" qual params body scope [] [] fI fd) (Sc : FnScope ["self", fl] ["self", fl] scope)
    (hb : ∀ (cdv : Value) (A : Around) (outer : List Env) (s : Shared) (H : Hp) (E : XK), PSs (cxOf (L2.CX P w) P w K mg base ["self", fl] qual scope fI cdv A outer s H E) body (tSeq (tDrop (tVeI K (tCons (tVar 0) (tCons (tC (.str m)) tNil)))) (tOst K fl (tVar 0) (tVar 1)))) :
    FnOk P w K mg base (L2.CX P w) 1 fI fd ["self", fl] (spX K C fl) := by
  refine F.ok (k := 0) Sc (fun vs H Q E h => ?_) (fun cdv A outer s H vs Q E hr h => ⟨_, hb cdv A outer s H E, ?_⟩)
  · obtain ⟨a, v, rfl, _⟩ := h
    rfl
  · obtain ⟨a, v, rfl, T, hno, ea, q⟩ := h
    refine ⟨_, rfl, ⟨a, C, [.str m], rfl, (by show 1 ≤ 1000; decide), T, ea, ⟨_, rfl, _, rfl, a, C, rfl, T, hno, .inl ⟨ea, q⟩⟩⟩⟩
end
/-- the own error x at C, of the number c -/
structure ExB (P : Program) (w : World) (K : PySem.W.Frag) (mg : Str → Option Value) (base : Heap) (g : G) (x : Str) (c : Nat) (B : Addr) : Prop where
  ex : ∃ fI fd, XcF K (g.xl c) B fI (xfT c) ∧ FnOk P w K mg base (L2.CX P w) 1 fI fd ["self", xfT c] (spX K (g.xl c) (xfT c)) ∧ Binds K fd ["self", xfT c] []
  gl : mg x = some (.ref (g.xl c))
def sRaise (c : Nat) (m : M D) : S := bnd m fun d env => .ex c d env
theorem heap_xd {H1 : Hp} {a dx C : Addr} {fs : List (Str × V)} (na : H1 a = none) (ne : dx ≠ a) : upd (del (upd (upd (upd H1 a (exo a C none)) dx (exd dx fs)) a (exo a C (some dx))) a) dx (.xd fs) = upd H1 dx (.xd fs) := by
  funext b
  by_cases hb : b = dx
  · rw [hb, upd_same, upd_same]
  · rw [upd_ne hb, upd_ne hb]
    by_cases ha : b = a
    · rw [ha, del_same, na]
    · rw [del_ne ha, upd_ne ha, upd_ne hb, upd_ne ha]
section
variable {X : Cx} {g : G} {W : WX} {x : Str} {c j : Nat} {B : Addr} {e : Expr} {m : M D} {p pos pos2 : Pos}
theorem s_raise (b : ExB X.prog X.w X.K X.mg X.base g x c B) (hr : Room j X.A) (tk : Takes X W) (ha : PEM X g W e m) (hj : 2 ≤ j := by decide) (hc : X.calm = true := by rfl) (hg : Gl X x := by rfl) (hdb : (x == ("__debug__" : Str)) = false := by decide)
    (he : starEach [e] X.env = (false, eval e X.env) :: starEach [] X.env := by rfl) (hpl : (backTo pos (starEach [] X.env)).any (·.1) = false := by rfl) : PSM X g W (.Raise (some (.Call (.Name x p) [e] [] pos)) none pos2) (sRaise c m) := by
  obtain ⟨te, h1, h2⟩ := ha
  obtain ⟨⟨fI, fd, T, F1, hb⟩, hm⟩ := b
  refine ⟨_, ps_raise hc tk (pmk_oex T.oex T.ini T.ty F1 (hr.mono hj) hb (dvs := []) .nil (fun _ _ _ _ _ _ _ h => (by obtain ⟨_, _, _, _, _, _, _, _, _, _, _, _, z⟩ := h; exact z.elim)) hg hm (pa_cons h1 pa_nil he) hdb he hpl), ?_⟩
  intro env σ Hf H s Z h
  refine h2 env σ Hf H s _ (h.bnd.imp fun d e1 Hf1 H1 _ s1 k v r => ?_)
  refine ⟨(by show 1 ≤ 1000; decide), fun a na => ⟨a, v, rfl, T.oex, T.no, upd_same, fun dx ndx ne => ⟨rfl, dx, [(xfT c, v)], upd_same, ?_, ?_, ?_⟩⟩⟩
  · rw [upd_ne ne, upd_same]
  · rw [upd_ne ne] at ndx
    exact ndx
  · rw [upd_ne ne] at ndx
    rw [heap_xd na ne]
    exact k dx v [(xfT c, v)] σ Hf1 (upd H1 dx (.xd [(xfT c, v)])) ((own_new s1.sr.ex ndx).step s1.sr) r upd_same (by simp [List.lookup]) (s1.sr.ex.back ndx) (fun o => Own.there s1.sr o ndx) ndx
end
end DL

set_option Elab.async false
set_option linter.all false
set_option maxRecDepth 100000
set_option maxHeartbeats 1000000
namespace DL
open PySem L2 PyProof.Rows
/-! ### {} -/
section
variable {X : Cx} {g : G} {W : WX} {K : PySem.W.Frag} {pos : Pos}
theorem new_dic0 {Hf H : Hp} {p : Addr} (e : Ex Hf H) (hp : H p = none) : Grow Hf H (upd Hf p (.dK [])) (upd H p (.dK [])) ∧ Rep K g (upd Hf p (.dK [])) (.dic [] []) (.ref p) :=
  ⟨Grow.new e hp, .dic (ks := []) (ds := []) (vs := []) (.inl upd_same) .nil rfl⟩
theorem m_dic0 : PEM X g W (.Dict [] [] pos) (ret (.dic [] [])) := by
  refine ⟨_, pe_dnewK, fun env σ Hf H s Q h => ?_⟩
  intro p hp
  obtain ⟨gw, r⟩ := new_dic0 (K := X.K) (g := g) s.ex hp
  exact h _ _ (gw.step s) _ r
end
/-! ### displays of dicts: constant keys, constant values -/
def keyD : Key → D
  | .inl i => .int i
  | .inr x => .str x
structure PDM (X : Cx) (pos : Pos) (keys : List (Option Expr)) (values : List Expr) (kvs : List (Key × V)) (ds : List D) : Prop where
  ex : ∃ trs, PPs X pos keys values trs ∧ ∀ σ H (Q : List (V × V) → Hp → Prop), Q (kvs.map fun kv => (kV kv.1, kv.2)) H → tPairs trs σ H Q
  rp : ∀ (g : G) (Hf : Hp), Reps X.K g Hf ds (kvs.map (·.2))
  le : kvs.length = keys.length
  lv : keys.length = values.length
section
variable {X : Cx} {g : G} {W : WX} {pos p1 p2 : Pos} {keys : List (Option Expr)} {values : List Expr} {kvs : List (Key × V)} {ds : List D} {j1 j2 : Nat}
theorem pd_nil : PDM X pos [] [] [] [] := ⟨⟨[], pps_nil, fun _ _ _ h => h⟩, fun _ _ => .nil, rfl, rfl⟩
theorem pd_of {ek ev : Expr} {k : Key} {v : V} {d : D} (hk : PE X ek (tC (kV k))) (hv : PE X ev (tC v)) (hd : ∀ (g : G) (Hf : Hp), Rep X.K g Hf d v) (h : PDM X pos keys values kvs ds) : PDM X pos (some ek :: keys) (ev :: values) ((k, v) :: kvs) (d :: ds) := by
  obtain ⟨trs, h1, h2⟩ := h.ex
  refine ⟨⟨_, pps_cons hk hv h1, fun σ H Q q => ?_⟩, fun g Hf => .cons (hd g Hf) (h.rp g Hf), by simp [h.le], by simp [h.lv]⟩
  exact h2 σ H (fun ps H3 => Q ((kV k, v) :: ps) H3) q
theorem pd_ii {k i : Int} (h : PDM X pos keys values kvs ds) : PDM X pos (some (.Constant (.int k) j1 p1) :: keys) (.Constant (.int i) j2 p2 :: values) ((.inl k, .int i) :: kvs) (.int i :: ds) := pd_of (k := .inl k) pe_int pe_int (fun _ _ => .int i) h
theorem pd_ss {k i : Str} (h : PDM X pos keys values kvs ds) : PDM X pos (some (.Constant (.str k) j1 p1) :: keys) (.Constant (.str i) j2 p2 :: values) ((.inr k, .str i) :: kvs) (.str i :: ds) := pd_of (k := .inr k) pe_str pe_str (fun _ _ => .str i) h
theorem zip_fst {α β : Type} : ∀ l : List (α × β), (l.map (·.1)).zip (l.map (·.2)) = l
  | [] => rfl
  | _ :: l => by rw [List.map_cons, List.map_cons, List.zip_cons_cons, zip_fst l]
theorem m_disp (h : PDM X pos keys values kvs ds) (hall : keys.all (·.isSome) = true := by rfl) (h0 : keys ≠ [] := by exact List.cons_ne_nil _ _) (h15 : keys.length ≤ 15 := by decide) (hm : mergeK [] kvs = kvs := by rfl) :
    PEM X g W (.Dict keys values pos) (ret (.dic (kvs.map (·.1)) ds)) := by
  obtain ⟨trs, h1, h2⟩ := h.ex
  refine ⟨_, pe_disp h1 hall h.lv h0 h15, fun env σ Hf H s Q q => ?_⟩
  intro p hp
  refine h2 σ _ _ ⟨upd_same, kvs, rfl, by rw [h.le]; exact h15, ?_⟩
  rw [hm]
  have e : upd (upd H p (.dK [])) p (.dK kvs) = upd H p (.dK kvs) := funext fun a => by
    by_cases c : a = p
    · subst c; rw [upd_same, upd_same]
    · rw [upd_ne c, upd_ne c, upd_ne c]
  rw [e]
  have gw := Grow.new (o := .dK kvs) s.ex hp
  refine q _ _ (gw.step s) _ (.dic (.inl (by rw [zip_fst]; exact upd_same)) (h.rp g _) ?_)
  have := (h.rp g Hf).len
  rw [List.length_map] at this
  rw [List.length_map, this]
end
/-! ### repr, {} too -/
def sh1 (k i : Int) : Str := PyData.shown (.dict [(.int k, .int i)])
def rRepr0 (K : PySem.W.Frag) : List V → Hp → VK → Prop := fun xs H Q => rReprD K xs H Q ∨ (∃ a, xs = [.ref a] ∧ Rd H a (.dK []) ∧ Q (.str "{}") H) ∨ ∃ a k i, xs = [.ref a] ∧ Rd H a (.dK [(.inl k, .int i)]) ∧ ((PyData.dict [(.int k, .int i)]).showable = true ∧ (sh1 k i).length ≤ sizeLine) ∧ Q (.str (sh1 k i)) H
def reprE : List D → Option D
  | [.dic [] []] => some (.str "{}")
  | [.dic [.inl k] [.int i]] => if (PyData.dict [(.int k, .int i)]).showable = true ∧ (sh1 k i).length ≤ sizeLine then some (.str (sh1 k i)) else none
  | ds => reprG ds
theorem shown_dic0 : PyData.shown (.dict []) = "{}" := by decide +kernel
section
variable {X : Cx} {g : G} {j : Nat}
theorem call_repr_0U (hg : NoG X.A) (hu : X.A.units + 100 < cLine) : CallR X (.builtin "repr") (rRepr0 X.K) := by
  intro pins s σ H xs us Q I r h
  rcases h with h | ⟨a, rfl, hd, q⟩ | ⟨a, k, i, rfl, hd, ⟨hsh, hz⟩, q⟩
  · exact call_repr_dpU hg hu pins s σ H xs us Q I r h
  · obtain ⟨u, rfl, ru⟩ := r.one
    cases (show u = Value.ref a from ru)
    obtain ⟨_, hs, vs, kv, o, es, ep, h1, h2, h3⟩ := (show ObjOk X.prog X.w H s.heap a (.dK []) from hd.ok I.hok)
    cases kv
    have he : es.toList = [] := by
      have hp := h3.2.2.1
      generalize es.toList = l at hp
      cases hp
      rfl
    have rd : Reads s.heap (.ref a) (.dict []) (a :: [] ++ []) := Reads.dict h1 h2.1 h3.1 (by rw [he]; exact .nil) (by rw [he]; exact .nil)
    have hz : (PyData.shown (.dict [])).length ≤ sizeLine := by rw [shown_dic0]; decide +kernel
    refine repr_of_reads' rd rfl (fun _ hm => ?_) hg (by show X.A.units + (0 + 1 + 1) < cLine; omega) (fun _ _ e => e) (fun h' u tk hk => ⟨.str _, H, I.kept hk, ⟨_, rfl⟩, by rw [shown_dic0]; exact q⟩) hz
    have : sysModules = a := by simpa using hm
    rw [this] at hs
    simp at hs
  · obtain ⟨u, rfl, ru⟩ := r.one
    cases (show u = Value.ref a from ru)
    obtain ⟨_, hs, vs, kv, o, es, ep, h1, h2, h3⟩ := (show ObjOk X.prog X.w H s.heap a (.dK [(.inl k, .int i)]) from hd.ok I.hok)
    unfold KV at kv
    cases kv with
    | cons hv rest =>
      cases rest
      have hp := h3.2.2.1
      generalize hl : es.toList = l at hp
      cases hp with
      | @cons e kv' es' kvs' ek ev more =>
        cases more
        obtain ⟨hv1, hv2⟩ := hv
        have hv3 : RelV (.int i) e.val := by rw [ev]; exact hv2
        obtain ⟨t2, hv4⟩ := hv3
        rw [← hv1] at ek
        obtain ⟨t, hk⟩ := Value.isInt_shape (k := k) (v := e.key) ek
        have rd : Reads s.heap (.ref a) (.dict [(.int k, .int i)]) (a :: [] ++ []) := Reads.dict h1 h2.1 h3.1
          (by rw [hl]; show ReadsAll s.heap [e.key] [.int k] []; rw [hk]; exact .cons (.int k t) .nil) (by rw [hl]; show ReadsAll s.heap [e.val] [.int i] []; rw [hv4]; exact .cons (.int i t2) .nil)
        refine repr_of_reads' rd hsh (fun _ hm => ?_) hg (by show X.A.units + (0 + 1 + 1) < cLine; omega) (fun _ _ e => e) (fun h' u tk hk => ⟨.str _, H, I.kept hk, ⟨_, rfl⟩, q⟩) hz
        have : sysModules = a := by simpa using hm
        rw [this] at hs
        simp at hs
theorem call_repr_0 (hg : NoG X.A) (hr : Room j X.A) : CallR X (.builtin "repr") (rRepr0 X.K) := call_repr_0U hg (by have := hr.un; omega)
end
theorem reprE_some {K : PySem.W.Frag} {g : G} {Hf H : Hp} {d z : D} {v : V} (e : Ex Hf H) (r : Rep K g Hf d v) (h : reprE [d] = some z) : ∀ x : Str, z = .str x → ∀ Q : VK, Q (.str x) H → rRepr0 K [v] H Q := by
  intro x hx Q q
  subst hx
  unfold reprE at h
  split at h
  · rename_i he
    cases he
    cases h
    cases r with
    | dic hd hr hl =>
      cases hr
      exact .inr (.inl ⟨_, rfl, e.rd hd, q⟩)
  · rename_i k i he
    cases he
    split at h
    · rename_i c
      cases h
      cases r with
      | dic hd hr hl =>
        cases hr with
        | cons r3 r4 =>
          cases r4
          cases r3
          exact .inr (.inr ⟨_, _, _, rfl, e.rd hd, c, q⟩)
    · cases h
  · unfold reprG at h
    dsimp only at h
    cases hp : toPD d with
    | none => rw [hp] at h; cases h
    | some p =>
      rw [hp] at h
      have h' : (if reprOk p = true then some (D.str p.shown) else none) = some (.str x) := h
      split at h'
      · rename_i ok
        cases h'
        exact .inl ⟨v, p, rfl, Rep.dp e r hp, ok, q⟩
      · cases h'
theorem reprE_str {ds : List D} {z : D} (h : reprE ds = some z) : ∃ d x, ds = [d] ∧ z = .str x := by
  unfold reprE at h
  split at h
  · cases h; exact ⟨_, _, rfl, rfl⟩
  · split at h
    · cases h; exact ⟨_, _, rfl, rfl⟩
    · cases h
  · unfold reprG at h
    match ds, h with
    | [d], h =>
      have h' : ((toPD d).bind fun p => if reprOk p = true then some (D.str p.shown) else none) = some z := h
      cases hp : toPD d with
      | none => rw [hp] at h'; cases h'
      | some p =>
        rw [hp] at h'
        have h2 : (if reprOk p = true then some (D.str p.shown) else none) = some z := h'
        split at h2
        · cases h2; exact ⟨_, _, rfl, rfl⟩
        · cases h2
    | [], h => cases h
    | _ :: _ :: _, h => cases h
theorem rc_reprE {K : PySem.W.Frag} {g : G} : RcOk K g (rRepr0 K) reprE := rc_of fun Hf H xs ds z Q e r h q => by
  obtain ⟨d, x, rfl, rfl⟩ := reprE_str h
  cases r with
  | cons r1 r2 =>
    cases r2
    exact reprE_some e r1 h x rfl Q (q _ Hf H (Grow.refl e) (.str _))
end DL

set_option Elab.async false
set_option linter.all false
set_option maxRecDepth 100000
set_option maxHeartbeats 1000000
namespace DL
open PySem L2 PyProof.Rows
theorem tk0 {X : Cx} : Takes X WF := fun _ _ x => by
  obtain ⟨_, _, _, _, _, _, _, _, _, _, _, _, _, _, _, _, z⟩ := x
  exact z.elim
/-! ### try: .. except x as n: return [s, repr(n.f), isinstance(n, B)] -/
def rIsX (K : PySem.W.Frag) (C a dd : Addr) : List V → Hp → VK → Prop := fun xs H Q => ∃ (c : V) (cv : Value) (b : Bool) (fs : List (Str × V)), xs = [.ref a, c] ∧ (∀ u, RelV c u → u = cv) ∧ PySem.W.kitOne K (.ref C) cv = some b ∧ H dd = some (.xd fs) ∧ Q (.bl b) H
section
variable {X : Cx} {g : G} {W : WX} {a C B fI dd : Addr} {oe : Obj} {pn : List (Addr × Obj)} {f : Str}
theorem call_isX (T : XcF X.K C B fI f) (hz : Zc (.ref C) (some dd) oe) (hf : ∃ vs, oe.data = .fields vs) : CallR (X.suite a ((a, oe) :: pn)) (.builtin "isinstance") (rIsX X.K C a dd) := by
  intro pins s σ H xs us Q I r h
  obtain ⟨c, cv, b, fs, rfl, hcv, e, hd, q⟩ := h
  cases r with
  | cons rx rr =>
    cases rr with
    | cons rt rr =>
      cases rr
      cases rx
      have ec := hcv _ rt
      subst ec
      obtain ⟨hget, _⟩ := I.pin (a, oe) (List.mem_append.mpr (.inl List.mem_cons_self))
      obtain ⟨vs, hv⟩ := hf
      have hx : ObjOk X.prog X.w H s.heap dd (.xd fs) := I.hok dd _ hd
      obtain ⟨mA, hns, hr⟩ := hx
      obtain ⟨od, ho, hl⟩ := lookIn_ns hns
      have J : PySem.W.InstAt s.heap a oe C (some od) := ⟨hget, hz.1, by unfold PySem.W.notCls; rw [hv] <;> rfl, by rw [hz.2]; exact ho⟩
      have hcl : (PySem.W.clsIn X.K C).isSome = true := by
        obtain ⟨cd, hc, _⟩ := PySem.W.any_some T.xf.hdC
        rw [hc]
        rfl
      exact PySem.W.kia_one (PySem.W.kitx_exc hcl T.xf.ga T.xf.gg T.xf.exC T.ca T.cg T.ct T.mo) I.kIn J e (fun z => nomatch z) fun tk => ⟨.bl b, H, I.kept (t' := tk) fun _ _ z => z, rfl, q⟩
/-- it is of the class asked -/
def t3 (i : Nat) (a dd : Addr) : TE := fun σ H Q => σ[i]? = some (some (.ref a)) ∧ (∃ fs, H dd = some (.xd fs)) ∧ Q (.bl true) H
theorem PE.imp {e : Expr} {t t' : TE} (h : PE X e t) (k : ∀ σ H Q, t' σ H Q → t σ H Q) : PE X e t' := ⟨fun pins s σ H Q I z => h.run pins s σ H Q I (k σ H Q z)⟩
theorem pe_is1 {i : Nat} {n y : Str} {q6 q7 q8 q9 : Pos} (T : XcF X.K C B fI f) (hz : Zc (.ref C) (some dd) oe) (hf : ∃ vs, oe.data = .fields vs) (hN : X.N[i]? = some n) (hv : Vis X.env.scope n) (hn1 : (n == ("__debug__" : Str)) = false) (hn2 : (n == ("__classdict__" : Str)) = false)
    (hi : X.mg "isinstance" = none) (gi : Gl X "isinstance") (hB : X.mg y = some (.ref B)) (gB : Gl X y) (hy : (y == ("__debug__" : Str)) = false)
    (he : starEach [.Name n q7, .Name y q8] X.env = (false, eval (.Name n q7) X.env) :: starEach [.Name y q8] X.env) (he2 : starEach [.Name y q8] X.env = (false, eval (.Name y q8) X.env) :: starEach [] X.env) (hpl : (backTo q9 (starEach [.Name y q8] X.env)).any (·.1) = false) :
    PE (X.suite a ((a, oe) :: pn)) (.Call (.Name "isinstance" q6) [.Name n q7, .Name y q8] [] q9) (t3 i a dd) := by
  have hA : PA (X.suite a ((a, oe) :: pn)) [.Name n q7, .Name y q8] _ := pa_cons (pe_var hN hv hn1 hn2) (pa_cons (pe_glob (v := .ref B) gB hB rfl hy) pa_nil he2) he
  refine PE.imp (pe_callB (call_isX T hz hf) gi hi (by rfl) hA (by decide) (by decide) he hpl) fun σ H Q h => ?_
  obtain ⟨h1, ⟨fs, h2⟩, q⟩ := h
  exact ⟨_, h1, .ref B, .ref B, true, fs, rfl, fun u z => z, T.kit, h2, q⟩
theorem pe_isV {i : Nat} {n : Str} {q6 q7 q8 q9 : Pos} (T : XcF X.K C B fI f) (hz : Zc (.ref C) (some dd) oe) (hf : ∃ vs, oe.data = .fields vs) (hN : X.N[i]? = some n) (hv : Vis X.env.scope n) (hn1 : (n == ("__debug__" : Str)) = false) (hn2 : (n == ("__classdict__" : Str)) = false)
    (hi : X.mg "isinstance" = none) (gi : Gl X "isinstance") (hB : X.mg "ValueError" = none) (gB : Gl X "ValueError")
    (he : starEach [.Name n q7, .Name "ValueError" q8] X.env = (false, eval (.Name n q7) X.env) :: starEach [.Name "ValueError" q8] X.env) (he2 : starEach [.Name "ValueError" q8] X.env = (false, eval (.Name "ValueError" q8) X.env) :: starEach [] X.env) (hpl : (backTo q9 (starEach [.Name "ValueError" q8] X.env)).any (·.1) = false) :
    PE (X.suite a ((a, oe) :: pn)) (.Call (.Name "isinstance" q6) [.Name n q7, .Name "ValueError" q8] [] q9) (t3 i a dd) := by
  have hA : PA (X.suite a ((a, oe) :: pn)) [.Name n q7, .Name "ValueError" q8] _ := pa_cons (pe_var hN hv hn1 hn2) (pa_cons (pe_bltn (v := .ty "ValueError") gB hB (by rfl) rfl (by decide) (by decide)) pa_nil he2) he
  refine PE.imp (pe_callB (call_isX T hz hf) gi hi (by rfl) hA (by decide) (by decide) he hpl) fun σ H Q h => ?_
  obtain ⟨h1, ⟨fs, h2⟩, q⟩ := h
  exact ⟨_, h1, .ty "ValueError", .type "ValueError", true, fs, rfl, fun u z => z, T.kiv, h2, q⟩
end
def sTryR (c i : Nat) (s : Str) (mb : S) : S := fun env => match mb env with
  | .ex c' d e => if c' = c then (match e[i]?, reprE [d] with
    | some .no, some (.str r) => .ok (.rt (.lst [.str s, .str r, .bl true])) e
    | _, _ => .bad) else .bad
  | r => r
/-- what the suite asks -/
def tsR (K : PySem.W.Frag) (C : Addr) (f s : Str) (i : Nat) : Addr → Value → Option Addr → TS := fun a cls d D σ H => ∃ (dd : Addr) (fs : List (Str × V)) (v : V) (r : Str), cls = .ref C ∧ d = some dd ∧ σ[i]? = some (some (.ref a)) ∧ H dd = some (.xd fs) ∧ fs.lookup f = some v ∧ (∀ Q : VK, Q (.str r) H → rRepr0 K [v] H Q) ∧
  ∀ q, H q = none → D.rt (.ref q) (upd H q (.lst [.str s, .str r, .bl true]))
section
variable {X : Cx} {g : G} {W : WX} {B : Addr} {c i j : Nat} {x n s : Str} {body : List Stmt} {mb : S} {e3 : Expr} {k1 : Nat} {np q1 q2 q3 q4 q5 q10 q11 pos pos' : Pos}
theorem s_tryR (b : ExB X.prog X.w X.K X.mg X.base g x c B) (nog : NoG X.A) (hr : Room j X.A) (tk : Takes X W) (hN : X.N.Nodup) (hi : X.N[i]? = some n) (hln : X.env.kindOf n = some .local) (hs : X.stack = X.env :: X.outer) (hf : X.env.frame = some X.env.locals)
    (hb : ∀ (W : WX) (pn : List (Addr × Obj)) (xe : Value → Shared → Prop), Takes (X.tr pn xe) W → PSsM (X.tr pn xe) g W body mb)
    (hv : Vis X.env.scope n) (hn1 : (n == ("__debug__" : Str)) = false) (hn2 : (n == ("__classdict__" : Str)) = false) (hrp : X.mg "repr" = none) (grp : Gl X "repr") (hg : Gl X x) (hdb : (x == ("__debug__" : Str)) = false)
    (h3 : ∀ (C fI dd a : Addr) (oe : Obj) (pn : List (Addr × Obj)), XcF X.K C B fI (xfT c) → Zc (.ref C) (some dd) oe → (∃ vs, oe.data = .fields vs) → PE (X.suite a ((a, oe) :: pn)) e3 (t3 i a dd))
    (hab : attributeBase (.Name n q3) (xfT c) X.env (eval (.Name n q3) X.env) = eval (.Name n q3) X.env)
    (he1 : starEach [.Attribute (.Name n q3) (xfT c) q4] X.env = (false, eval (.Attribute (.Name n q3) (xfT c) q4) X.env) :: starEach [] X.env) (hpl1 : (backTo q5 (starEach [] X.env)).any (·.1) = false)
    (he2 : starEach [.Constant (.str s) k1 q1, .Call (.Name "repr" q2) [.Attribute (.Name n q3) (xfT c) q4] [] q5, e3] X.env = (false, eval (.Constant (.str s) k1 q1) X.env) :: starEach [.Call (.Name "repr" q2) [.Attribute (.Name n q3) (xfT c) q4] [] q5, e3] X.env)
    (he3 : starEach [.Call (.Name "repr" q2) [.Attribute (.Name n q3) (xfT c) q4] [] q5, e3] X.env = (false, eval (.Call (.Name "repr" q2) [.Attribute (.Name n q3) (xfT c) q4] [] q5) X.env) :: starEach [e3] X.env)
    (he4 : starEach [e3] X.env = (false, eval e3 X.env) :: starEach [] X.env) :
    PSM X g W (.Try body [.ExceptHandler (some (.Name x np)) (some n) [.Return (some (.List [.Constant (.str s) k1 q1, .Call (.Name "repr" q2) [.Attribute (.Name n q3) (xfT c) q4] [] q5, e3] q10)) q11] pos'] [] [] pos) (sTryR c i s mb) := by
  obtain ⟨⟨fI, fd, T, _, _⟩, hm⟩ := b
  refine ⟨_, ps_try_as (tb := fun W' D σ H => ∃ env Hf, SR X.K g env σ Hf H ∧ Out X.K g W' env σ Hf H (mb env) D) (ts := tsR X.K (g.xl c) (xfT c) s i) hs hf hN hi hln ⟨hg, hdb, .inl hm⟩ tk (fun W' pn xe tk' _ => ?_) (fun a oe cls d pn hz hfl => ?_), ?_⟩
  · obtain ⟨t, h1, h2⟩ := hb W' pn xe tk'
    exact ⟨fun pins s σ H D I h => by
      obtain ⟨env, Hf, sr, o⟩ := h
      exact h1.run pins s σ H D I (h2 env σ Hf H sr D o)⟩
  · refine ⟨fun pins s0 σ H D I h => ?_⟩
    obtain ⟨dd, fs, v, r, rfl, rfl, hσ, hd, hl, hrr, hq⟩ := h
    have P3 := h3 _ _ dd a oe pn T hz hfl
    have P2 : PE (X.suite a ((a, oe) :: pn)) (.Call (.Name "repr" q2) [.Attribute (.Name n q3) (xfT c) q4] [] q5) _ := pe_callB (call_repr_0U (X := X.suite a ((a, oe) :: pn)) nog (by have := hr.un; show X.A.units + 100 < cLine; omega)) grp hrp (by rfl) (pa_cons (pe_xf T.xf T.no hz hfl (pe_var (i := i) hi hv hn1 hn2) hab) pa_nil he1) (by decide) (by decide) he1 hpl1
    refine (pss_one (ps_ret (pe_lst (pa_cons pe_str (pa_cons P2 (pa_cons P3 pa_nil he4) he3) he2)))).run pins s0 σ H D I ?_
    exact ⟨_, hσ, rfl, rfl, dd, fs, v, rfl, hd, hl, hrr _ ⟨hσ, ⟨fs, hd⟩, (by decide : 3 ≤ 16777216), hq⟩⟩
  · intro env σ Hf H sr Z h
    refine ⟨env, Hf, sr, ?_⟩
    unfold sTryR at h
    revert h
    cases mb env with
    | bad => exact fun h => h
    | ok x e => cases x <;> exact fun h => h
    | ex c' d e =>
      intro h dx v fs σ' Hf' H' st r e1 e2 e3 e4 e5
      dsimp only at h
      by_cases cc : c' = c
      case neg => rw [if_neg cc] at h; exact h.elim
      rw [if_pos cc] at h
      subst cc
      split at h
      · rename_i rs hno hrep
        have hlt : i < σ'.length := by
          rw [st.sr.len]
          exact (List.getElem?_eq_some_iff.mp hno).1
        refine ⟨true, T.te, fun _ a na => ⟨dx, fs, v, rs, rfl, rfl, List.getElem?_set_self hlt, e1, e2, reprE_some st.sr.ex r hrep rs rfl, fun q hq => ?_⟩, fun z => nomatch z⟩
        obtain ⟨gw, rp⟩ := new_lst (ds := [.str s, .str rs, .bl true]) (vs := [.str s, .str rs, .bl true]) st.sr.ex hq (.cons (.str _) (.cons (.str _) (.cons (.bl _) .nil)))
        exact h σ' _ _ (st.trans (gw.step st.sr)) _ rp
      · exact h.elim
end
end DL

set_option Elab.async false
set_option linter.all false
set_option maxRecDepth 100000
set_option maxHeartbeats 400000
namespace DL
open PySem L2 PyProof.Rows
/-! ### x.extend(e), f(..).append(e), C(k = e, ..), a and b of an error -/
def sExt (i : Nat) (m : M D) : S := bnd (own i) fun d0 => if isLst d0 = true then bnd m fun z => bnd (own i) fun d => match d, z with
  | .lst xs, .lst ys => if small (xs.length + ys.length) = true then (fun env => .ok .nx (mdf i (.lst (xs ++ ys)) env)) else (fun _ => .bad)
  | _, _ => fun _ => .bad else (fun _ => .bad)
def sAppF (m0 m : M D) : S := bnd m0 fun d0 => match d0 with
  | .lst xs => if small (xs.length + 1) = true then bnd m fun _ => ret .nx else (fun _ => .bad)
  | _ => fun _ => .bad
section
variable {K : PySem.W.Frag} {g : G} {W : WX} {env env1 env' : En} {σ σ1 σ' : L2.St} {Hf H Hf1 H1 Hf' H' : Hp}
theorem step_out {p : Addr} {u' : HO} (s : Step K g env σ Hf H env' σ' Hf' H') (h0 : H p = none) (hf : Hf' p = none) (no : ¬ Own env' σ' p) : Step K g env σ Hf H env' σ' Hf' (upd H' p u') := by
  refine ⟨s.f, ⟨fun a v q => ?_, s.sr.len, fun i x o q q' => ?_, s.sr.ne⟩, fun a u q q' n => ?_, s.ow, fun a q => ?_, s.pn, s.le⟩
  · rw [upd_ne (fun c => by rw [c, hf] at q; cases q)]
    exact s.sr.ex a v q
  · have w := s.sr.sl i x o q q'
    cases x with
    | no => trivial
    | sh b => exact w
    | ow b => obtain ⟨z, w, e, h1, h2, r⟩ := w; exact ⟨z, w, e, by rw [upd_ne (fun c => no ⟨i, _, b, q, rfl, by rw [q', e, c]⟩)]; exact h1, h2, r⟩
    | pn b => obtain ⟨z, w, e, h1, h2, r⟩ := w; exact ⟨z, w, e, by rw [upd_ne (fun c => no ⟨i, _, b, q, rfl, by rw [q', e, c]⟩)]; exact h1, h2, r⟩
  · obtain ⟨k1, k2⟩ := s.kp a u q q' n
    exact ⟨by rw [upd_ne (fun c => by rw [c, h0] at q; cases q)]; exact k1, k2⟩
  · by_cases c : a = p
    · rw [c, upd_same] at q; cases q
    · rw [upd_ne c] at q; exact s.th a q
theorem ev_ext {i : Nat} {te : TE} {m : M D} (he : EvM K g W te m) : EvS K g W (tDrop (tBM K "list" rExtend (tVar i) (tCons te tNil))) (sExt i m) :=
  fun env σ Hf H s Z h => by
    obtain ⟨x, d, hx, mx, h1⟩ := own_okS s h
    obtain ⟨p, u, hp, hu, ru⟩ := s.mut_at hx mx
    by_cases c : isLst d = true
    case neg => rw [if_neg c] at h1; exact h1.elim
    rw [if_pos c] at h1
    have tyl : ∃ ys, H p = some (.lst ys) := by
      cases ru <;> first | exact ⟨_, hu⟩ | (cases c; done)
    obtain ⟨ys, hys⟩ := tyl
    refine ⟨_, hp, .inl ⟨rfl, ys, SqL.of hys⟩, he env σ Hf H s _ (h1.bnd.imp fun z e1 Hf1 H1 _ s1 h2 v rv => ?_)⟩
    obtain ⟨x1, d1, hx1, mx1, h3⟩ := own_okS s1.sr h2
    obtain ⟨p1, u1, hp1, hu1, ru1⟩ := s1.sr.mut_at hx1 mx1
    rw [hp] at hp1
    cases hp1
    cases ru1 with
    | @lst ds vs r =>
      cases rv <;> try exact h3.elim
      case lst es ws hb rb _ =>
        dsimp only at h3
        by_cases q : small (ds.length + es.length) = true
        · rw [if_pos q] at h3
          refine ⟨p, _, _, ws, rfl, rfl, hu1, s1.sr.ex _ _ hb, by rw [← r.len, ← rb.len]; exact small_le q, ?_⟩
          exact h3 σ Hf1 _ (step_mut s1.sr hx1 mx1 hp (.lst (r.append rb)))
        · rw [if_neg q] at h3
          exact h3.elim
    | dic _ _ => exact h3.elim
    | dct _ _ => exact h3.elim
    | ins _ _ _ => exact h3.elim
theorem ev_appF {t0 te : TE} {m0 m : M D} (h0 : EvF K g W t0 m0) (he : EvM K g W te m) : EvS K g W (tDrop (tBM K "list" rAppend t0 (tCons te tNil))) (sAppF m0 m) :=
  fun env σ Hf H s Z h => by
    refine h0 env σ Hf H s _ ?_
    unfold sAppF DL.bnd at h
    revert h
    cases m0 env with
    | bad => exact fun h => h
    | ex c d e => exact fun h => h
    | ok d0 e1 =>
      intro h Hf1 H1 s1 p n
      obtain ⟨u, hu, ru⟩ := n.at_
      cases ru with
      | @lst ds vs r =>
        dsimp only at h
        by_cases q : small (ds.length + 1) = true
        case neg => rw [if_neg q] at h; exact h.elim
        rw [if_pos q] at h
        refine ⟨.inl ⟨rfl, vs, SqL.of hu⟩, he e1 σ Hf1 H1 s1.sr _ ?_⟩
        revert h
        cases m e1 with
        | bad => exact fun h => h
        | ex c d e => exact fun h => XGot.after s1 h
        | ok z e2 =>
          intro h Hf2 H2 s2 v rv
          obtain ⟨k1, k2⟩ := s2.kp p _ hu n.nf n.no
          refine ⟨p, _, v, rfl, rfl, k1, by rw [← r.len]; exact small_le q, ?_⟩
          have no2 : ¬ Own e2 σ p := fun o => (s2.ow p o).elim n.no fun z => by rw [hu] at z; cases z
          exact h σ Hf2 _ (step_out (s1.trans s2) n.nw k2 no2)
      | dic _ _ => exact h.elim
      | dct _ _ => exact h.elim
      | ins _ _ _ => exact h.elim
end
/-! the rules -/
section
variable {X : Cx} {g : G} {W : WX} {x : Str} {p1 apos cpos pos tpos : Pos} {e j e0 : Expr} {m m0 mj : M D}
theorem s_ext (i : Nat) (ha : PEM X g W e m) (hN : X.N[i]? = some x := by rfl) (hv : Vis X.env.scope x := by first | exact Or.inl rfl | exact Or.inr (Or.inl rfl) | exact Or.inr (Or.inr rfl)) (hd : (x == ("__debug__" : Str)) = false := by decide) (hcd : (x == ("__classdict__" : Str)) = false := by decide)
    (hbase : attributeBase (.Name x p1) "extend" X.env (eval (.Name x p1) X.env) = eval (.Name x p1) X.env := by rfl)
    (hfew : ((backTo cpos (starEach (e :: []) X.env)).all (fun x => !x.1) && (backToKw cpos (keywordEach [] X.env)).all (fun x => x.1.isSome)
      && decide ((e :: []).length + ([] : List Keyword).length + (if ([] : List Keyword).isEmpty then 0 else 1) < 30)) = true := by rfl)
    (hline : (apos.endLine == cpos.line) = true := by rfl) (hs : starEach (e :: []) X.env = (false, eval e X.env) :: starEach [] X.env := by rfl) (hplain : (backTo cpos (starEach [] X.env)).any (·.1) = false := by rfl)
    (hsw : swapsWith (.Call (.Attribute (.Name x p1) "extend" apos) [e] [] cpos) none pos.line X.env = pure false := by rfl) : PSM X g W (.Expr (.Call (.Attribute (.Name x p1) "extend" apos) [e] [] cpos) pos) (sExt i m) := by
  obtain ⟨t, h1, h2⟩ := ha
  exact ⟨_, ps_expr (pe_bm PySem.F.plainAttrs_list PySem.F.slot_list_extend PySem.F.type_list_extend mt_extend (pe_var hN hv hd hcd) (pa_cons h1 pa_nil hs) hbase hfew hline hs hplain) hsw, ev_ext h2⟩
theorem s_appF (h0 : PEF X g W e0 m0) (ha : PEM X g W e m)
    (hbase : attributeBase e0 "append" X.env (eval e0 X.env) = eval e0 X.env := by rfl)
    (hfew : ((backTo cpos (starEach (e :: []) X.env)).all (fun x => !x.1) && (backToKw cpos (keywordEach [] X.env)).all (fun x => x.1.isSome)
      && decide ((e :: []).length + ([] : List Keyword).length + (if ([] : List Keyword).isEmpty then 0 else 1) < 30)) = true := by rfl)
    (hline : (apos.endLine == cpos.line) = true := by rfl) (hs : starEach (e :: []) X.env = (false, eval e X.env) :: starEach [] X.env := by rfl) (hplain : (backTo cpos (starEach [] X.env)).any (·.1) = false := by rfl)
    (hsw : swapsWith (.Call (.Attribute e0 "append" apos) [e] [] cpos) none pos.line X.env = pure false := by rfl) : PSM X g W (.Expr (.Call (.Attribute e0 "append" apos) [e] [] cpos) pos) (sAppF m0 m) := by
  obtain ⟨t0, k1, k2⟩ := h0
  obtain ⟨t, h1, h2⟩ := ha
  exact ⟨_, ps_expr (pe_bm PySem.F.plainAttrs_list PySem.F.slot_list_append PySem.F.type_list_append mt_append k1 (pa_cons h1 pa_nil hs) hbase hfew hline hs hplain) hsw, ev_appF k2 h2⟩
end
/-! ### a; b; return x, x our own: what is handed back is new -/
def noOw (env : En) : Bool := env.all fun s => match s with
  | .ow _ => false
  | _ => true
def sRetO (i : Nat) (m : S) : S := fun env => if noOw env = true then (match m env with
  | .ok .nx e => (match e[i]? with
    | some (.ow d) => .ok (.rto d) (e.set i .no)
    | _ => .bad)
  | .ok _ _ => .bad
  | .ex c d e => .ex c d e
  | .bad => .bad) else .bad
section
variable {K : PySem.W.Frag} {g : G} {W : WX} {env env1 env' : En} {σ σ1 σ' : L2.St} {Hf H Hf1 H1 Hf' H' : Hp}
theorem step_drop {i : Nat} {d : D} {e : En} (s : Step K g env σ Hf H e σ' Hf' H') (hx : e[i]? = some (.ow d)) : Step K g env σ Hf H (e.set i .no) σ' Hf' H' := by
  have hi : i < e.length := (List.getElem?_eq_some_iff.mp hx).1
  have set_ne : ∀ j (y : Sl), (e.set i .no)[j]? = some y → y = .no ∨ (j ≠ i ∧ e[j]? = some y) := fun j y q => by
    by_cases c : i = j
    · subst c
      rw [List.getElem?_set_self hi] at q
      exact .inl (Option.some.inj q).symm
    · rw [List.getElem?_set_ne c] at q
      exact .inr ⟨fun z => c z.symm, q⟩
  refine ⟨s.f, ⟨s.sr.ex, by rw [List.length_set]; exact s.sr.len, fun j y o q q' => ?_, fun j k y z a b w n1 h1 h2 m1 m2 f1 => ?_⟩, s.kp, fun a o => ?_, s.th, fun j z q => ?_, by rw [List.length_set]; exact s.le⟩
  · rcases set_ne j y q with rfl | ⟨_, q⟩
    · trivial
    · exact s.sr.sl j y o q q'
  · rcases set_ne j y h1 with rfl | ⟨_, h1⟩
    · cases m1
    · rcases set_ne k z h2 with rfl | ⟨_, h2⟩
      · cases m2
      · exact s.sr.ne j k y z a b w n1 h1 h2 m1 m2 f1
  · obtain ⟨j, t, b, q1, q2, q3⟩ := o
    rcases set_ne j t q1 with rfl | ⟨_, q1⟩
    · cases q2
    · exact s.ow a ⟨j, t, b, q1, q2, q3⟩
  · obtain ⟨⟨d', h1⟩, h2⟩ := s.pn j z q
    have c : i ≠ j := fun c => by
      rw [← c, hx] at h1
      cases h1
    exact ⟨⟨d', by rw [List.getElem?_set_ne c]; exact h1⟩, h2⟩
theorem out_retO {i : Nat} {m : S} {Z : Ends} (h : Out K g W env σ Hf H (sRetO i m env) Z) : Out K g W env σ Hf H (m env) { Z with nx := tRet (tVar i) Z } := by
  unfold sRetO at h
  by_cases a : noOw env = true
  case neg => rw [if_neg a] at h; exact h.elim
  rw [if_pos a] at h
  revert h
  cases m env with
  | bad => exact fun h => h
  | ex c d e => exact fun h => h
  | ok x e =>
    cases x with
    | rt d => exact fun h => h.elim
    | rto d => exact fun h => h.elim
    | bk => exact fun h => h.elim
    | ct => exact fun h => h.elim
    | nx =>
      dsimp only
      cases hx : e[i]? with
      | none => exact fun h => h.elim
      | some y =>
        cases y with
        | no => exact fun h => h.elim
        | sh d => exact fun h => h.elim
        | pn d => exact fun h => h.elim
        | ow d =>
          intro h σ' Hf' H' s
          obtain ⟨p, u, hp, hu, hn, r⟩ := s.sr.at_ hx rfl
          have own : Own e σ' p := ⟨i, _, d, hx, rfl, hp⟩
          have alone : ∀ j t b, j ≠ i → e[j]? = some t → t.mut = some b → σ'[j]? ≠ some (some (.ref p)) := fun j t b c q m => s.sr.ne i j _ t d b p (fun z => c z.symm) hx q rfl m hp
          refine ⟨_, hp, h σ' Hf' H' (step_drop s hx) p ⟨⟨u, hu, r⟩, hn, fun o => ?_, ?_⟩⟩
          · obtain ⟨j, t, b, q1, q2, q3⟩ := o
            by_cases c : i = j
            · subst c
              rw [List.getElem?_set_self (List.getElem?_eq_some_iff.mp hx).1] at q1
              cases q1
              cases q2
            · rw [List.getElem?_set_ne c] at q1
              exact alone j t b (fun z => c z.symm) q1 q2 q3
          · rcases s.ow p own with o | o
            · obtain ⟨j, t, b, q1, q2, q3⟩ := o
              have hm : t ∈ env := List.mem_of_getElem? q1
              have ht := List.all_eq_true.mp a t hm
              cases t with
              | no => cases q2
              | sh d => cases q2
              | ow d => cases ht
              | pn d' =>
                obtain ⟨⟨d2, h1⟩, h2⟩ := s.pn j d' q1
                have c : j ≠ i := fun c => by
                  rw [c, hx] at h1
                  cases h1
                exact (alone j _ d2 c h1 rfl (by rw [h2]; exact q3)).elim
            · exact o
end
section
variable {X : Cx} {g : G} {W : WX} {x : Str} {p1 pos : Pos} {a b : Stmt} {ma mb : S}
theorem ss_retO2 (i : Nat) (ha : PSM X g W a ma) (hb : PSM X g W b mb) (hN : X.N[i]? = some x := by rfl) (hv : Vis X.env.scope x := by first | exact Or.inl rfl | exact Or.inr (Or.inl rfl) | exact Or.inr (Or.inr rfl)) (hd : (x == ("__debug__" : Str)) = false := by decide) (hcd : (x == ("__classdict__" : Str)) = false := by decide) :
    PSsM X g W [a, b, .Return (some (.Name x p1)) pos] (sRetO i (sSeq ma mb)) := by
  obtain ⟨t1, h1, k1⟩ := ha
  obtain ⟨t2, h2, k2⟩ := hb
  refine ⟨_, pss_cons h1 (pss_cons h2 (pss_one (ps_ret (pe_var hN hv hd hcd)))), ?_⟩
  intro env σ Hf H s Z h
  exact (ev_seq k1 k2) env σ Hf H s { Z with nx := tRet (tVar i) Z } (out_retO h)
end
/-! ### C(k = e, ..): all by their names -/
def prmD (pm : List Nat) (ds : List D) : List D := pm.map fun i => ds.getD i .non
def prmV (pm : List Nat) (vs : List V) : List V := pm.map fun i => vs.getD i .non
def prmU (pm : List Nat) (us : List Value) : List Value := pm.map fun i => us.getD i .none
def kwG (pm : List Nat) (us ws : List Value) : List Value := us ++ prmU pm ws
def kwV (pm : List Nat) (vs zs : List V) : List V := vs ++ prmV pm zs
theorem reps_getD {K : PySem.W.Frag} {g : G} {H : Hp} : ∀ {ds : List D} {vs : List V}, Reps K g H ds vs → ∀ i, Rep K g H (ds.getD i .non) (vs.getD i .non)
  | _, _, .nil, i => by simpa using Rep.non
  | _, _, .cons r rs, 0 => r
  | _, _, .cons r rs, i + 1 => by simpa using reps_getD rs i
theorem reps_prm {K : PySem.W.Frag} {g : G} {H : Hp} {ds : List D} {vs : List V} (r : Reps K g H ds vs) : ∀ pm : List Nat, Reps K g H (prmD pm ds) (prmV pm vs)
  | [] => .nil
  | i :: pm => .cons (reps_getD r i) (reps_prm r pm)
theorem vals_getD : ∀ {vs : List V} {us : List Value}, Vals vs us → ∀ i, RelV (vs.getD i .non) (us.getD i .none)
  | _, _, .nil, i => by simpa using (show RelV .non .none from rfl)
  | _, _, .cons r rs, 0 => r
  | _, _, .cons r rs, i + 1 => by simpa using vals_getD rs i
theorem vals_prm {vs : List V} {us : List Value} (r : Vals vs us) : ∀ pm : List Nat, Vals (prmV pm vs) (prmU pm us)
  | [] => .nil
  | i :: pm => .cons (vals_getD r i) (vals_prm r pm)
theorem FunD.kbinds1 {K : PySem.W.Frag} {x qual : Str} {params : Arguments} {body : List Stmt} {scope : Scope} {dvs : List V} {kws : List (Str × V)} {f : Addr} {fd : FuncData} {ps : List Str} (F : FunD K x qual params body scope dvs kws f fd) (n : Nat) (ks : List Str) (pm : List Nat) (hd : dvs ≠ [])
    (h : ∀ (T : Addr) (kV doc pmv : Value) (an : Option Addr) (cdv ct : Value) (us ws its : List Value), us.length = n → ws.length = ks.length → its.length = dvs.length →
      ∃ k, bindArgs (PySem.W.fnOf x qual params body scope (.ref T) kV doc pmv an cdv ct) ⟨us, ks.zip ws⟩ = seqItems? (.ref T) >>= k ∧ k (some its.toArray) = pure (ps.zip (kwG pm us ws))) : KBn K fd ps n ks (kwG pm) (kwV pm) := by
  obtain ⟨oc, od, dV, kV, doc, pmv, an, cdv, ct, osl, rfl, lk, hcd, hD, hK⟩ := F.ex
  rcases hD with ⟨e, _⟩ | ⟨_, T, o, its, m, rfl, lT, oT, rT⟩
  · exact absurd e hd
  · refine ⟨fun s us ws X l1 l2 => ?_, fun r rz => r.append (vals_prm rz pm)⟩
    obtain ⟨k, e1, e2⟩ := h T kV doc pmv an cdv ct us ws its l1 l2 rT.length.symm
    refine BindsTo.of_looks fun M => ?_
    rw [e1]
    exact looks_items X lT oT (.of_pure e2)
/-- a class made by names -/
structure MakK (P : Program) (w : World) (K : PySem.W.Frag) (mg : Str → Option Value) (base : Heap) (g : G) (x : Str) (c : Nat) (np : Nat) (F : Fm) (k : Nat) (ks : List Str) (pm : List Nat) : Prop where
  ex : ∃ f fd ps, FnOk P w K mg base (L2.CX P w) k f fd ps (spM K g np F) ∧ Mk K (g.cl c) f ∧ mg x = some (.ref (g.cl c)) ∧ KBn K fd ps 1 ks (kwG pm) (kwV pm)
  ok : g.ok c = true
  ar : Arity np F
  ln : ks.length = pm.length
def mMakK (F : Fm) (c : Nat) (pm : List Nat) (ma : M (List D)) : M D := bnd ma fun ds => if ds.length = pm.length then mkA F c (prmD pm ds) else fun _ => .bad
def PKM (X : Cx) (g : G) (W : WX) (kws : List Keyword) (m : M (List D)) : Prop := ∃ t, PK X kws t ∧ EvL X.K g W t m
section
variable {X : Cx} {g : G} {W : WX} {E : XK} {x : Str} {c np k j : Nat} {F : Fm} {ks : List Str} {pm : List Nat} {kws : List Keyword} {e : Expr} {ma : M (List D)} {m : M D} {p pos kp : Pos} {nm : Option Str}
theorem k_nil : PKM X g W [] mNil := ⟨_, pk_nil, ev_nil⟩
theorem k_cons (h : PEM X g W e m) (hr : PKM X g W kws ma) : PKM X g W (⟨nm, e, kp⟩ :: kws) (mCons m ma) := by
  obtain ⟨t, h1, h2⟩ := h
  obtain ⟨t', h3, h4⟩ := hr
  exact ⟨_, pk_cons h1 h3, ev_cons h2 h4⟩
theorem f_makeK (d : MakK X.prog X.w X.K X.mg X.base g x c np F k ks pm) (hr : Room j X.A) (hx : Passes (L2.CX X.prog X.w) X E) (ha : PKM X g (WX_of E) kws ma) (hk : k + 1 ≤ j := by decide) (hg : Gl X x := by rfl) (hdb : (x == ("__debug__" : Str)) = false := by decide)
    (hall : (backToKw pos (keywordEach kws X.env)).all (·.1.isSome) = true := by rfl) (hks : (backToKw pos (keywordEach kws X.env)).filterMap (·.1) = ks := by rfl)
    (hpl : ((backTo pos (starEach [] X.env)).any (·.1) || (backToKw pos (keywordEach kws X.env)).any (·.1.isNone)) = false := by rfl) : PEF X g (WX_of E) (.Call (.Name x p) [] kws pos) (mMakK F c pm ma) := by
  obtain ⟨t, h1, h2⟩ := ha
  obtain ⟨⟨f, fd, ps, F1, mk, hm, b⟩, ok, ar, ln⟩ := d
  refine ⟨_, pe_makeK0 mk F1 (hr.mono hk) hg hm b hx h1 hall hks hdb hpl, ?_⟩
  have hl : EvL X.K g (WX_of E) (fun σ H Q => t σ H fun zs H2 => zs.length = pm.length ∧ Q (prmV pm zs) H2) (bnd ma fun ds => if ds.length = pm.length then ret (prmD pm ds) else fun _ => .bad) := fun env σ Hf H s Q h =>
    h2 env σ Hf H s _ (h.bnd.imp fun ds e1 Hf1 H1 _ s1 h1 vs r => by
      by_cases q : ds.length = pm.length
      · rw [if_pos q] at h1
        exact ⟨by rw [← r.len]; exact q, Aft.ret s1.sr h1 _ (reps_prm r pm)⟩
      · rw [if_neg q] at h1
        exact h1.elim)
  have hm := ev_makF (dvs := []) (dfl := []) ar ok hl (fun H => .nil)
  intro env σ Hf H s Q h
  have q := hm env σ Hf H s Q (by
    refine cast ?_ h
    congr 1
    unfold mMakK mMakF DL.bnd
    cases ma env with
    | bad => rfl
    | ex c d e => rfl
    | ok ds e1 =>
      dsimp only
      by_cases q : ds.length = pm.length
      · rw [if_pos q, if_pos q]
        show _ = mkA F c (prmD pm ds ++ []) e1
        rw [List.append_nil]
      · rw [if_neg q, if_neg q])
  have q' : t σ H fun zs H2 => zs.length = pm.length ∧ ∀ x dx, H2 x = none → H2 dx = none → dx ≠ x → spM X.K g np F (.ref x :: (prmV pm zs ++ [])) (upd (upd H2 dx (.own x)) x (.ins (g.cl c) dx [])) (fun v H3 => v = .non ∧ Q (.ref x) H3) E := q
  show t σ H fun zs H2 => ([] : List V).length = 0 ∧ zs.length = ks.length ∧ ∀ x dx, H2 x = none → H2 dx = none → dx ≠ x → spM X.K g np F (kwV pm [.ref x] zs) (upd (upd H2 dx (.own x)) x (.ins (g.cl c) dx [])) (fun v H3 => v = .non ∧ Q (.ref x) H3) E
  have hh : (fun (zs : List V) (H2 : Hp) => zs.length = pm.length ∧ ∀ x dx, H2 x = none → H2 dx = none → dx ≠ x → spM X.K g np F (.ref x :: (prmV pm zs ++ [])) (upd (upd H2 dx (.own x)) x (.ins (g.cl c) dx [])) (fun v H3 => v = .non ∧ Q (.ref x) H3) E) =
      fun zs H2 => ([] : List V).length = 0 ∧ zs.length = ks.length ∧ ∀ x dx, H2 x = none → H2 dx = none → dx ≠ x → spM X.K g np F (kwV pm [.ref x] zs) (upd (upd H2 dx (.own x)) x (.ins (g.cl c) dx [])) (fun v H3 => v = .non ∧ Q (.ref x) H3) E := by
    funext zs H2
    rw [ln]
    simp only [List.append_nil, kwV, List.length_nil, true_and, List.cons_append, List.nil_append]
  rw [← hh]
  exact q'
end
/-! ### isinstance(e, A) and isinstance(e, B) -/
section
variable {X : Cx} {a dd : Addr} {oe : Obj} {pn : List (Addr × Obj)} {i : Nat} {e1 e2 : Expr} {pos : Pos}
theorem pe_and3 (h1 : PE X e1 (t3 i a dd)) (h2 : PE X e2 (t3 i a dd)) : PE X (.BoolOp .And [e1, e2] pos) (t3 i a dd) := by
  have h3 : PE X (.BoolOp .And [e2] pos) (t3 i a dd) := ⟨fun pins s σ H Q I z => BoolOp_one (h2.run pins s σ H Q I z)⟩
  refine PE.imp (pe_and h1 h3) fun σ H Q h => ?_
  obtain ⟨q1, q2, q⟩ := h
  exact ⟨q1, q2, true, rfl, by rw [if_pos rfl]; exact ⟨q1, q2, q⟩⟩
end
end DL

set_option Elab.async false
set_option linter.all false
set_option maxRecDepth 100000
set_option maxHeartbeats 1000000
namespace DL
open PySem L2 PyProof.Rows
/-! ### own operators, entries, classmethods that exceptions may leave -/
section
variable {K : PySem.W.Frag} {g : G} {W : WX} {env : En} {σ : L2.St} {Hf H : Hp} {F : Fm}
theorem spD_AS {ds dfl : List D} {vs : List V} {Q : VK} (s : SR K g env σ Hf H) (r : Reps K g Hf ds vs) (h : Aft K g W env σ Hf H (callA F (ds ++ dfl) env) fun d _ Hf' H' => ∀ v, Rep K g Hf' d v → Q v H') : SpD K g F dfl vs H Q (WE W σ) :=
  fun dvs np hd ar => spAS ar s (r.append (hd Hf)) h
/-- a two-place operation, its exceptions to the place -/
def RvS (K : PySem.W.Frag) (g : G) (W : WX) (r : L2.St → R2) (f : D → D → M D) : Prop := ∀ env σ Hf H, SR K g env σ Hf H → ∀ x y dx dy Q, Rep K g Hf dx x → Rep K g Hf dy y →
  Aft K g W env σ Hf H (f dx dy env) (fun d _ Hf' H' => ∀ v, Rep K g Hf' d v → Q v H') → r σ x y H Q
theorem RvOk.s {r : R2} {f : D → D → Option D} (h : RvOk K g r f) : ∀ env σ Hf H, SR K g env σ Hf H → ∀ x y dx dy Q, Rep K g Hf dx x → Rep K g Hf dy y →
  Aft K g W env σ Hf H (lft (f dx dy) env) (fun d _ Hf' H' => ∀ v, Rep K g Hf' d v → Q v H') → r x y H Q := fun env σ Hf H s x y dx dy Q r1 r2 q => by
  obtain ⟨z, hz, k⟩ := Aft.lft s q
  refine h Hf H x y dx dy Q s.ex r1 r2 ?_
  rw [hz]
  exact fun v Hf' H' w r => k Hf' H' w v r
def tOpS (r : L2.St → R2) (ta tb : TE) : TE := fun σ H Q => ta σ H fun x H1 => tb σ H1 fun y H2 => r σ x y H2 Q
theorem RvS.ev {r : L2.St → R2} {f : D → D → M D} {ta tb : TE} {ma mb : M D} (hr : RvS K g W r f) (ha : EvM K g W ta ma) (hb : EvM K g W tb mb) : EvM K g W (tOpS r ta tb) (bnd ma fun x => bnd mb fun y => f x y) :=
  fun env σ Hf H s Q h => ha env σ Hf H s _ (h.bnd.imp fun x e1 Hf1 H1 _ s1 h1 v r1 => hb e1 σ Hf1 H1 s1.sr _ (h1.bnd.imp fun y e2 Hf2 H2 _ s2 h2 w r2 => hr e2 σ Hf2 H2 s2.sr v w x y Q (r1.mono s2.f) r2 h2))
theorem rv_opS {L : List (Nat × Fm)} {r : R2} {f : D → D → Option D} (h : RvOk K g r f) : RvS K g W (fun σ x y H Q => r x y H Q ∨ rOwnB K g L (WE W σ) x y H Q) (mOpO L f) := fun env σ Hf H s x y dx dy Q r1 r2 q => by
  unfold mOpO at q
  cases hc : cand L dx with
  | none => rw [hc] at q; exact .inl (h.s env σ Hf H s x y dx dy Q r1 r2 q)
  | some F =>
    rw [hc] at q
    dsimp only at q
    by_cases ok : okY dx dy = true
    · rw [if_pos ok] at q
      obtain ⟨c, ds, rfl, mem⟩ := cand_some hc
      right
      have r1' := r1
      cases r1 with
      | @ins a dxa _ _ vs hx hv hl okc =>
        refine ⟨_, mem, a, dxa, _, rfl, s.ex _ _ hx, ?_, spD_AS (dfl := []) s (.cons r1' (.cons r2 .nil)) q⟩
        cases dy <;> try (cases ok; done)
        case int i => cases r2; exact .inr ⟨i, rfl⟩
        case ins c' ds' =>
          obtain rfl : c = c' := by simpa [okY] using ok
          cases r2 with
          | @ins b dyb _ _ vs' hx' hv' hl' okc' => exact .inl ⟨b, dyb, _, rfl, s.ex _ _ hx'⟩
    · rw [if_neg ok] at q
      exact q.elim
theorem rv_ixS {L : List (Nat × Fm)} {r : R2} {f : D → D → Option D} (h : RvOk K g r f) : RvS K g W (fun σ x y H Q => r x y H Q ∨ rOwnI K g L (WE W σ) x y H Q) (mIxO L f) := fun env σ Hf H s x y dx dy Q r1 r2 q => by
  unfold mIxO at q
  cases hc : cand L dx with
  | none => rw [hc] at q; exact .inl (h.s env σ Hf H s x y dx dy Q r1 r2 q)
  | some F =>
    rw [hc] at q
    obtain ⟨c, ds, rfl, mem⟩ := cand_some hc
    obtain ⟨a, dxa, fs, rfl, ha⟩ := ins_at s.ex r1
    exact .inr ⟨_, mem, a, dxa, fs, rfl, ha, spD_AS (dfl := []) s (.cons r1 (.cons r2 .nil)) q⟩
end
section
variable {X : Cx} {g : G} {W : WX} {E : XK} {j np : Nat} {L : List (Nat × Fm)} {a b e : Expr} {es : List Expr} {ma mb : M D} {ml : M (List D)} {pos p : Pos} {r : R2} {f : D → D → Option D}
theorem run_oprS {A : Around} {pins : List (Addr × Obj)} {σ : L2.St} {H : Hp} {s : Shared} {k : Nat} {F : Fm} {f : Addr} {us : List Value} {vs : List V} {Q : VK} (Fn : FnR X.prog X.w X.K X.mg X.base (L2.CX X.prog X.w) k f (spM X.K g np F)) (ar : Arity np F) (hr : Room k A) (e0 : Env0 X.prog X.w X.K X.mg X.base A X.stack s H) (hx : PassesAt (L2.CX X.prog X.w) X σ E)
    (I : Inv X pins σ H s) (r : Vals vs us) (h : SpD X.K g F [] vs H Q E) : wpAny (model X.prog X.w) A (call (.ref f) us) (EP X pins σ Q) X.xe s := by
  have q := h [] np (fun _ => .nil) ar
  rw [List.append_nil] at q
  refine wpAny_call (codeAny_mono (Fn A X.stack s H us vs Q E hr e0 r q) fun r s' hq => ?_)
  cases r with
  | error e => exact hx pins H s e s' I hq
  | ok fl =>
    cases fl with
    | ret u => exact I.after hq
    | next => exact False.elim hq
    | brk => exact False.elim hq
    | cont => exact False.elim hq
theorem pe_opS {op : Operator} {ta tb : TE} (ho : OpR X (binaryOp op) r) (hL : AllO X.prog X.w X.K X.mg X.base g 0 j (PySem.dunder op.info.2) 2 L) (hb : ∀ p ∈ L, OpB X.K (g.cl p.1) op) (hr : Room j X.A) (tk : Takes X W) (ha : PE X a ta) (hc : PE X b tb) :
    PE X (.BinOp a op b pos) (tOpS (fun σ x y H Q => r x y H Q ∨ rOwnB X.K g L (WE W σ) x y H Q) ta tb) := by
  refine ⟨fun pins s σ H Q I h => ?_⟩
  refine wpAny_BinOp (binT ha hc I h fun v u s2 x y H2 I2 rx ry q => ?_)
  rcases q with q | q
  · exact ho pins s2 σ H2 x y v u Q I2 rx ry q
  · obtain ⟨p, hp, a, dx, fs, rfl, ha, hy, q⟩ := q
    cases (show v = Value.ref a from rx)
    obtain ⟨k, hk, ⟨f, Fn, hs, hf, _⟩, ar⟩ := hL p hp
    obtain ⟨sf, nr, ⟨fo, i1⟩, ⟨ro, i2⟩, sb⟩ := hb p hp
    obtain ⟨mA, J, _⟩ := ins_get I2.hok ha
    obtain ⟨od, J, _⟩ := J.look
    obtain ⟨m, hF⟩ := I2.fr
    have back : wpAny (model X.prog X.w) X.A (call (.ref f) [.ref a, u]) (PySem.W.CmpBack (EP X pins σ Q)) X.xe s2 := by
      refine wpAny_mono (run_oprS Fn ar (hr.mono hk) I2.env0 (passAt tk σ) I2 (us := [.ref a, u]) (vs := [.ref a, y]) (.cons rfl (.cons ry .nil)) q) (fun w s' z => ?_) fun _ _ x => x
      obtain ⟨z', H', I', rz, qz⟩ := z
      exact SlX.cmpback rz ⟨z', H', I', rz, qz⟩
    rcases hy with ⟨b, dy, gs, rfl, hb'⟩ | ⟨i, rfl⟩
    · cases (show u = Value.ref b from ry)
      obtain ⟨mB, J', _⟩ := ins_get I2.hok hb'
      obtain ⟨od', J', _⟩ := J'.look
      exact PySem.W.binop_K hF I2.ok.mod.kin J J'.type sf hs hf back
    · obtain ⟨t, rfl⟩ := (show ∃ t, u = Value.int i t from ry)
      exact PySem.W.ksp_binT (T := "int") hF I2.ok.mod.kin J rfl sf hs hf nr (.inl rfl) i1 i2 sb back
theorem m_opS {op : Operator} (ho : OpR X (binaryOp op) r) (hv : RvOk X.K g r f) (hL : AllO X.prog X.w X.K X.mg X.base g 0 j (PySem.dunder op.info.2) 2 L) (hb : AllC (fun c => OpB X.K (g.cl c) op) L) (hr : Room j X.A) (tk : Takes X W)
    (ha : PEM X g W a ma) (hc : PEM X g W b mb) : PEM X g W (.BinOp a op b pos) (mBinO L f ma mb) := by
  obtain ⟨ta, h1, h2⟩ := ha
  obtain ⟨tb, h3, h4⟩ := hc
  exact ⟨_, pe_opS ho hL hb hr tk h1 h3, (rv_opS hv).ev h2 h4⟩
theorem m_addS (hL : AllO X.prog X.w X.K X.mg X.base g 0 j "__add__" 2 L) (hb : AllC (fun c => OpB X.K (g.cl c) .Add) L) (hr : Room j X.A) (tk : Takes X W) (ha : PEM X g W a ma) (hc : PEM X g W b mb) : PEM X g W (.BinOp a .Add b pos) (mBinO L addD ma mb) :=
  m_opS (op_add.or (op_add_str.or (op_cat.or op_catA))) rv_add hL hb hr tk ha hc
theorem m_subS (hL : AllO X.prog X.w X.K X.mg X.base g 0 j "__sub__" 2 L) (hb : AllC (fun c => OpB X.K (g.cl c) .Sub) L) (hr : Room j X.A) (tk : Takes X W) (ha : PEM X g W a ma) (hc : PEM X g W b mb) : PEM X g W (.BinOp a .Sub b pos) (mBinO L subD ma mb) :=
  m_opS op_sub rv_sub hL hb hr tk ha hc
theorem pe_ixS {ta tb : TE} (hix : IxR X r) (hL : AllO X.prog X.w X.K X.mg X.base g 1 j "__getitem__" 2 L) (hr : Room j X.A) (tk : Takes X W) (ha : PE X a ta) (hb : PE X b tb) (hs : PlainIx b)
    (hs2 : ∀ (o : Addr) i, subscripted b true (.ref o) i = runValue (.builtin "lifetime.subscript" ⟨[.ref o, i], []⟩)) : PE X (.Subscript a b pos) (tOpS (fun σ x y H Q => r x y H Q ∨ rOwnI X.K g L (WE W σ) x y H Q) ta tb) := by
  refine ⟨fun pins s σ H Q I h => ?_⟩
  refine Subscript_ (binT ha hb I h fun v u s2 x y H2 I2 rx ry q => ?_)
  rcases q with q | q
  · exact hix a b pins s2 σ H2 x y v u Q I2 rx ry q (hs _ _)
  · obtain ⟨p, hp, ad, dx, fs, rfl, had, q⟩ := q
    cases (show v = Value.ref ad from rx)
    obtain ⟨k, hk, ⟨f, Fn, hs', hf, hf2⟩, ar⟩ := hL p hp
    obtain ⟨ox, od, m, J, hF⟩ := own_inst I2 had
    exact PySem.W.sub_K hF I2.ok.mod.kin J hs' hf2 hf (run_oprS Fn ar ((hr.mono hk).in1) I2.env0.in1 (passAt tk σ) I2 (us := [.ref ad, u]) (vs := [.ref ad, y]) (.cons rfl (.cons ry .nil)) q) (hs2 _ _)
end
end DL

set_option Elab.async false
set_option linter.all false
set_option maxRecDepth 100000
set_option maxHeartbeats 1000000
namespace DL
open PySem L2 PyProof.Rows
/-! ### a dict of texts that the module lays out -/
abbrev Row : Type := Option (Str × Int × Str)
def rowAt (e : DictEntry) : Row := match e.key, e.val with
  | .str x _, .str z _ => some (x, e.hash, z)
  | _, _ => none
def rowsTo (P : Params) (kvs : List (Str × Str)) : List Row := kvs.map fun q => some (q.1, PyData.keyHash P q.1, q.2)
def tabAt (K : PySem.W.Frag) (a : Addr) : Option (List Row) := match K.lookup a with
  | some ⟨.type c, none, .dict es _, sl⟩ => if (decide (c = "dict") && (sl.isEmpty && !(a == sysModules))) = true then some (es.toList.map rowAt) else none
  | _ => none
theorem rowAt_some {e : DictEntry} {x z : Str} {i : Int} (h : rowAt e = some (x, i, z)) : (∃ t, e.key = .str x t) ∧ e.hash = i ∧ ∃ t, e.val = .str z t := by
  unfold rowAt at h
  split at h
  · rename_i x' t z' t' h1 h2
    cases h
    exact ⟨⟨t, h1⟩, rfl, t', h2⟩
  · cases h
theorem rows_lit {P : Params} : ∀ {l : List DictEntry} {kvs : List (Str × Str)}, l.map rowAt = rowsTo P kvs → PySem.W.KeysLit P l
  | [], _, _ => trivial
  | e :: r, [], h => by cases h
  | e :: r, q :: kvs, h => by
    have h1 : rowAt e :: r.map rowAt = some (q.1, PyData.keyHash P q.1, q.2) :: rowsTo P kvs := h
    obtain ⟨h2, h3⟩ := List.cons.inj h1
    obtain ⟨⟨t, k1⟩, k2, _⟩ := rowAt_some h2
    exact ⟨⟨q.1, t, k1, k2⟩, rows_lit h3⟩
theorem rows_find {P : Params} (z : Str) : ∀ {l : List DictEntry} {kvs : List (Str × Str)}, l.map rowAt = rowsTo P kvs →
    (∀ v, kvs.lookup z = some v → ∃ e t, l.find? (·.key.isStr z) = some e ∧ e.val = .str v t) ∧ (kvs.lookup z = none → l.find? (·.key.isStr z) = none ∧ l.any (·.refKey) = false)
  | [], [], _ => ⟨fun v h => (by cases h), fun _ => ⟨rfl, rfl⟩⟩
  | [], _ :: _, h => by cases h
  | _ :: _, [], h => by cases h
  | e :: r, q :: kvs, h => by
    have h1 : rowAt e :: r.map rowAt = some (q.1, PyData.keyHash P q.1, q.2) :: rowsTo P kvs := h
    obtain ⟨h2, h3⟩ := List.cons.inj h1
    obtain ⟨⟨t, k1⟩, _, t', k3⟩ := rowAt_some h2
    obtain ⟨i1, i2⟩ := rows_find z h3
    have hk : e.key.isStr z = (q.1 == z) := by rw [k1]; rfl
    have hr : e.refKey = false := by unfold DictEntry.refKey; rw [k1]
    obtain ⟨qk, qv⟩ := q
    by_cases c : qk = z
    · subst c
      refine ⟨fun v hv => ⟨e, t', ?_, ?_⟩, fun hv => ?_⟩
      · rw [List.find?_cons_of_pos (by rw [hk]; simp)]
      · rw [List.lookup_cons_self] at hv
        cases hv
        exact k3
      · rw [List.lookup_cons_self] at hv
        cases hv
    · have c2 : (z == qk) = false := by simpa using fun y : z = qk => c y.symm
      have c3 : (qk == z) = false := by simpa using c
      refine ⟨fun v hv => ?_, fun hv => ?_⟩
      · rw [List.lookup_cons, c2] at hv
        obtain ⟨e', t2, h4, h5⟩ := i1 v hv
        exact ⟨e', t2, by rw [List.find?_cons_of_neg (by rw [hk, c3]; simp)]; exact h4, h5⟩
      · rw [List.lookup_cons, c2] at hv
        obtain ⟨h4, h5⟩ := i2 hv
        exact ⟨by rw [List.find?_cons_of_neg (by rw [hk, c3]; simp)]; exact h4, by rw [List.any_cons, hr, h5]; rfl⟩
/-- the dict at a has these rows -/
structure TabK (K : PySem.W.Frag) (w : World) (a : Addr) (kvs : List (Str × Str)) : Prop where
  kd : ∃ es n, KDict K w a es n
  get : ∀ z v, kvs.lookup z = some v → KDct K w a z (.str v)
  has : ∀ z v, kvs.lookup z = some v → ∃ t, PySem.W.nsIn K a z = some (some (.str v t))
  non : ∀ z, kvs.lookup z = none → PySem.W.nsIn K a z = some none
theorem tab_of {K : PySem.W.Frag} {w : World} {a : Addr} {kvs : List (Str × Str)} (h : tabAt K a = some (rowsTo w.params kvs)) : TabK K w a kvs := by
  unfold tabAt at h
  split at h
  · rename_i c es n sl lk
    split at h
    · rename_i b
      obtain ⟨b1, b2'⟩ := b2 b
      obtain ⟨b3, b4⟩ := b2 b2'
      have e1 : c = "dict" := of_decide_eq_true b1
      have e2 : sl = #[] := Array.isEmpty_iff.mp b3
      subst e1 e2
      have hl := Option.some.inj h
      have lit := rows_lit hl
      have low : (a == sysModules) = false := by simpa using b4
      have ns : ∀ z v, kvs.lookup z = some v → ∃ t, PySem.W.nsIn K a z = some (some (.str v t)) := fun z v hv => by
        obtain ⟨e, t, h1, h2⟩ := (rows_find z hl).1 v hv
        refine ⟨t, ?_⟩
        unfold PySem.W.nsIn
        rw [lk]
        dsimp only
        rw [h1, ← h2]
      refine ⟨⟨es, n, lk, lit, low⟩, fun z v hv => ?_, ns, fun z hv => ?_⟩
      · obtain ⟨t, h1⟩ := ns z v hv
        exact ⟨es, n, _, lk, lit, h1, ⟨t, rfl⟩⟩
      · obtain ⟨h1, h2⟩ := (rows_find z hl).2 hv
        unfold PySem.W.nsIn
        rw [lk]
        dsimp only
        rw [h1, h2]
        rfl
    · cases h
  · cases h
/-! the Hook with such tables -/
abbrev Tb : Type := Str × List (Str × Str)
abbrev GotT : Type := Got × List (Option (List Row))
def seeTF (fx : List Fx) (fn : List Dx) (ts : List Tb) (K : PySem.W.Frag) : GotT := (seeF fx fn K, ts.map fun t => tabAt K (He.ga K t.1))
def goodT (fn : List Dx) (ts : List Tb) (w : World) : GotT := (goodF fn, ts.map fun t => some (rowsTo w.params t.2))
def SaysTb (fx : List Fx) (fn : List Dx) (ts : List Tb) (w : World) (K : PySem.W.Frag) : Prop := seeTF fx fn ts K = goodT fn ts w
def seeT (n : Nat) (fx : List Fx) (fn : List Dx) (ts : List Tb) (q : Addr → Option Obj) : GotT := seeTF fx fn ts (He.frG q (asQ q n))
def hookT (n : Nat) (fx : List Fx) (fn : List Dx) (ts : List Tb) : PySem.W.Hook where
  α := GotT
  obs := fun s => seeT n fx fn ts s.heap.get?
  val := fun w => goodT fn ts w
  says := fun w h => ∃ K : PySem.W.Frag, K.In h ∧ SaysTb fx fn ts w K
  of := fun _ _ e => ⟨_, He.frG_in, e⟩
  keeps := fun _ _ _ ⟨K, i, c⟩ k => ⟨K, PySem.W.Frag.In.keeps i k, c⟩
theorem seeT_eq {n : Nat} {fx : List Fx} {fn : List Dx} {ts : List Tb} {q : Addr → Option Obj} {s : Shared} (h : ∀ a, q a = s.heap.get? a) : seeT n fx fn ts q = (hookT n fx fn ts).obs s := by
  have e : q = s.heap.get? := funext h
  rw [e] <;> rfl
section
variable {fx : List Fx} {fn : List Dx} {ts : List Tb} {w : World} {K : PySem.W.Frag} {mg : Str → Option Value}
theorem SaysTb.s (c : SaysTb fx fn ts w K) : Says fx fn K := congrArg (fun z : GotT => z.1) c
theorem SaysTb.tab (c : SaysTb fx fn ts w K) (i : Nat) {t : Tb} (h : ts[i]? = some t := by rfl) : TabK K w (He.ga K t.1) t.2 := by
  have e : ts.map (fun t => tabAt K (He.ga K t.1)) = ts.map fun t => some (rowsTo w.params t.2) := congrArg (fun z : GotT => z.2) c
  have e2 : (ts.map fun t => tabAt K (He.ga K t.1))[i]? = (ts.map fun t => some (rowsTo w.params t.2))[i]? := by rw [e]
  rw [List.getElem?_map, List.getElem?_map, h] at e2
  exact tab_of (Option.some.inj e2)
structure BasT (fx : List Fx) (fn : List Dx) (ts : List Tb) (w : World) (K : PySem.W.Frag) (mg : Str → Option Value) : Prop extends Bas fx fn K mg where
  t : SaysTb fx fn ts w K
theorem BasT.of (ns : ∃ h : Heap, K.In h ∧ h.Ns mainGlobals mg) (t : SaysTb fx fn ts w K) : BasT fx fn ts w K mg := ⟨⟨ns, t.s⟩, t⟩
theorem BasT.tab (b : BasT fx fn ts w K mg) (i : Nat) {t : Tb} (h : ts[i]? = some t := by rfl) : TabK K w (He.ga K t.1) t.2 := b.t.tab i h
end
/-! the rules -/
def mInK (kvs : List (Str × Str)) (neg : Bool) (m : M D) : M D := bnd m fun d => match d with
  | .str z => ret (.bl ((kvs.lookup z).isSome != neg))
  | _ => fun _ => .bad
def mGetK (kvs : List (Str × Str)) (m : M D) : M D := bnd m fun d => match d with
  | .str z => (match kvs.lookup z with
    | some v => ret (.str v)
    | none => fun _ => .bad)
  | _ => fun _ => .bad
section
variable {X : Cx} {g : G} {W : WX} {x : Str} {d : Addr} {kvs : List (Str × Str)} {a : Expr} {ma : M D} {p pos : Pos}
theorem m_inK (T : TabK X.K X.w d kvs) (hm : X.mg x = some (.ref d)) (ha : PEM X g W a ma) (hg : Gl X x := by rfl) (hdb : (x == ("__debug__" : Str)) = false := by decide) : PEM X g W (.Compare a [.In] [.Name x p] pos) (mInK kvs false ma) := by
  obtain ⟨ta, h1, h2⟩ := ha
  obtain ⟨es, n, D⟩ := T.kd
  refine ⟨_, pe_cmpR (op_in_kd D) h1 (pe_glob hg hm (v := .ref d) rfl hdb) (by rfl), fun env σ Hf H s Q h => h2 env σ Hf H s _ (h.bnd.imp fun z e1 Hf1 H1 _ s1 k v r => ?_)⟩
  cases r <;> try exact k.elim
  case str z _ =>
    have q := Aft.ret s1.sr k (.bl _) (.bl _)
    cases e : kvs.lookup z with
    | some y =>
      rw [e] at q
      obtain ⟨t, ht⟩ := T.has z y e
      exact ⟨z, _, rfl, rfl, ht, q⟩
    | none =>
      rw [e] at q
      exact ⟨z, _, rfl, rfl, T.non z e, q⟩
theorem m_notInK (T : TabK X.K X.w d kvs) (hm : X.mg x = some (.ref d)) (ha : PEM X g W a ma) (hg : Gl X x := by rfl) (hdb : (x == ("__debug__" : Str)) = false := by decide) : PEM X g W (.Compare a [.NotIn] [.Name x p] pos) (mInK kvs true ma) := by
  obtain ⟨ta, h1, h2⟩ := ha
  obtain ⟨es, n, D⟩ := T.kd
  refine ⟨_, pe_cmpR (op_notIn_kd D) h1 (pe_glob hg hm (v := .ref d) rfl hdb) (by rfl), fun env σ Hf H s Q h => h2 env σ Hf H s _ (h.bnd.imp fun z e1 Hf1 H1 _ s1 k v r => ?_)⟩
  cases r <;> try exact k.elim
  case str z _ =>
    have q := Aft.ret s1.sr k (.bl _) (.bl _)
    cases e : kvs.lookup z with
    | some y =>
      rw [e] at q
      obtain ⟨t, ht⟩ := T.has z y e
      exact ⟨z, _, rfl, rfl, ht, q⟩
    | none =>
      rw [e] at q
      exact ⟨z, _, rfl, rfl, T.non z e, q⟩
theorem m_getK (T : TabK X.K X.w d kvs) (hm : X.mg x = some (.ref d)) (ha : PEM X g W a ma) (hg : Gl X x := by rfl) (hdb : (x == ("__debug__" : Str)) = false := by decide) (hs : PlainIx a := by exact fun _ _ => rfl) : PEM X g W (.Subscript (.Name x p) a pos) (mGetK kvs ma) := by
  obtain ⟨ta, h1, h2⟩ := ha
  refine ⟨_, pe_ix ix_kdict (pe_glob hg hm (v := .ref d) rfl hdb) h1 hs, fun env σ Hf H s Q h => h2 env σ Hf H s _ (h.bnd.imp fun z e1 Hf1 H1 _ s1 k v r => ?_)⟩
  cases r <;> try exact k.elim
  case str z _ =>
    dsimp only at k
    cases e : kvs.lookup z with
    | some y =>
      rw [e] at k
      exact ⟨_, z, .str y, rfl, rfl, T.get z y e, Aft.ret s1.sr k (.str _) (.str _)⟩
    | none =>
      rw [e] at k
      exact k.elim
end
end DL

set_option Elab.async false
set_option linter.all false
set_option maxRecDepth 100000
set_option maxHeartbeats 1000000
namespace DL
open PySem L2 PyProof.Rows
/-! ### x in (..), x in [..]: plain things -/
def plainVs : List D → Option (List V)
  | [] => some []
  | d :: ds => (plainV d).bind fun v => (plainVs ds).map (v :: ·)
theorem rep_plain {K : PySem.W.Frag} {g : G} {H : Hp} {d : D} {v v' : V} (r : Rep K g H d v) (h : plainV d = some v') : v = v' := by
  cases r <;> first | (cases h; rfl) | (cases h; done)
theorem reps_plain {K : PySem.W.Frag} {g : G} {H : Hp} : ∀ {ds : List D} {vs vs' : List V}, Reps K g H ds vs → plainVs ds = some vs' → vs = vs'
  | _, _, _, .nil, h => by cases h; rfl
  | d :: ds, _, vs', .cons r rs, h => by
    unfold plainVs at h
    cases e : plainV d with
    | none => rw [e] at h; cases h
    | some v =>
      rw [e] at h
      cases e2 : plainVs ds with
      | none => rw [e2] at h; cases h
      | some vs =>
        rw [e2] at h
        cases h
        rw [rep_plain r e, reps_plain rs e2]
def inSeq (neg : Bool) (x : D) (ys : List D) : Option D := match plainV x, plainVs ys with
  | some v, some vs => if (flatV v && vs.all flatV) = true then some (.bl (if neg then !inV v vs else inV v vs)) else none
  | _, _ => none
def inD (neg : Bool) (x y : D) : Option D := match y with
  | .tup ys => inSeq neg x ys
  | .lst ys => inSeq neg x ys
  | _ => none
section
variable {K : PySem.W.Frag} {g : G}
theorem rv_in (neg : Bool) : RvOk K g (rIn K neg) (inD neg) := fun Hf H x y dx dy Q e r1 r2 h => by
  have go : ∀ (ys : List D) (ws : List V) (p : Addr), Reps K g Hf ys ws → (SqL K H p ws ∨ SqT K H p ws) → (match inSeq neg dx ys with
      | some z => ∀ v Hf' H', Grow Hf H Hf' H' → Rep K g Hf' z v → Q v H'
      | none => False) → rIn K neg x (.ref p) H Q := fun ys ws p rs hp h => by
    unfold inSeq at h
    cases e1 : plainV dx with
    | none => rw [e1] at h; exact h.elim
    | some v =>
      rw [e1] at h
      cases e2 : plainVs ys with
      | none => rw [e2] at h; exact h.elim
      | some vs =>
        rw [e2] at h
        dsimp only at h
        split at h
        · rename_i z hz
          split at hz
          · rename_i fl
            cases hz
            have q := rep_plain r1 e1
            have q2 := reps_plain rs e2
            subst q q2
            obtain ⟨f1, f2⟩ := Bool.and_eq_true_iff.mp fl
            exact ⟨p, ws, rfl, hp, f1, f2, h _ Hf H (Grow.refl e) (.bl _)⟩
          · cases hz
        · exact h.elim
  cases r2 <;> try exact h.elim
  case tup a ds vs hs rs => exact go _ _ _ rs (.inr (e.t hs)) h
  case lst a ds vs hs rs => exact go _ _ _ rs (.inl (SqL.of (e _ _ hs))) h
end
section
variable {X : Cx} {g : G} {W : WX} {a b : Expr} {ma mb : M D} {pos : Pos}
theorem m_in (ha : PEM X g W a ma) (hb : PEM X g W b mb) (hm : behindInMarks .In b = false := by rfl) : PEM X g W (.Compare a [.In] [b] pos) (mBin (inD false) ma mb) := m_cmp op_in_seq (rv_in false) ha hb hm
theorem m_notIn (ha : PEM X g W a ma) (hb : PEM X g W b mb) (hm : behindInMarks .NotIn b = false := by rfl) : PEM X g W (.Compare a [.NotIn] [b] pos) (mBin (inD true) ma mb) := m_cmp op_notIn_seq (rv_in true) ha hb hm
end
end DL

set_option Elab.async false
set_option linter.all false
set_option maxRecDepth 100000
set_option maxHeartbeats 1000000
namespace DL
open PySem PySem.Spec L2 PyProof.Rows
/-! ### x += e, whole numbers -/
def addI : D → D → Option D
  | .int i, .int j => some (.int (i + j))
  | _, _ => none
def rAddI : R2 := fun x y H Q => ∃ i j, x = .int i ∧ y = .int j ∧ Q (.int (i + j)) H
theorem rv_addI {K : PySem.W.Frag} {g : G} : RvOk K g rAddI addI := fun Hf H x y dx dy Q e rx ry h => by
  cases rx <;> cases ry <;> try exact (show False from h).elim
  exact ⟨_, _, rfl, rfl, h _ Hf H (Grow.refl e) (.int _)⟩
section
variable {X : Cx} {g : G} {W : WX} {x : Str} {e : Expr} {m : M D} {p pos : Pos}
theorem s_augAdd (i : Nat) (he : PEM X g W e m) (hN : X.N.Nodup) (hi : X.N[i]? = some x := by rfl) (hx : Loc X.env.scope x := by first | exact Or.inl rfl | exact Or.inr rfl)
    (hf : X.fn x = true ∨ X.env.scope.names.lookup x = some .local := by first | exact .inl rfl | exact .inr rfl | assumption) : PSM X g W (.AugAssign (.Name x p) .Add e pos) (sSet i (mBin addI (mVar i) m)) := by
  obtain ⟨t, h1, h2⟩ := he
  exact ⟨_, ps_aug hN hi hx h1 ip_add hf, ev_set (rv_addI.ev (ev_var i) h2)⟩
end
/-! ### zip of a text and a tuple -/
def ItzS (K : PySem.W.Frag) (x : Str) (b : Addr) : L2.It :=
  ⟨fun i H => ∃ (ys : List V) (c : Nat) (y : V), SqT K H b ys ∧ x.cps[i]? = some c ∧ ys[i]? = some y,
    fun i H v H' => ∃ T c y, v = .ref T ∧ H T = none ∧ H' = upd H T (.tup [.str ⟨#[c]⟩, y]) ∧ x.cps[i]? = some c ∧ ∀ ys, SqT K H b ys → ys[i]? = some y,
    fun i H => ∃ ys : List V, SqT K H b ys ∧ i ≤ x.cps.size ∧ i ≤ ys.length ∧ (i = x.cps.size ∨ i = ys.length)⟩
theorem draws_text {prog : Program} {w : World} {A : Around} (hh : A.handled = none) (it : Addr) (x : Str) (t : Tok) :
    Draws prog w A it [it] x.cps.size (fun i v => ∃ c u, x.cps[i]? = some c ∧ v = .str ⟨#[c]⟩ u) (fun i h => h.IsStrIter it (strIterType x) x t i) := by
  unfold strIterType
  by_cases c : x.cps.all (· < 128) = true
  · rw [if_pos c]
    exact Draws.strAscii hh it x t
  · rw [if_neg c]
    exact Draws.strWide hh it x t
def zsT (x : Str) (t : Tok) (b z TI TO i1 i2 : Addr) : Nat → Heap → Prop := fun i h => IsZip h z TI TO .none ∧ IsTupOf2 h TI (.ref i1) (.ref i2) ∧ (∃ u v, IsTupOf2 h TO u v) ∧ h.IsStrIter i1 (strIterType x) x t i ∧ h.IsTupleIter i2 b i
theorem turn_zipS {P : Program} {w : World} {K : PySem.W.Frag} {elts : List Expr} {kk : Nat} {tpos : Pos} {x : Str} {t : Tok} {b z TI TO i1 i2 : Addr} (S : ZipSep2 z TI TO i1 i2 [i1] [i2, b]) (hb : b ≠ i2) :
    Turn P w K (.Tuple elts kk tpos) (ItzS K x b) [z, TI, TO, i1, i2] z (zsT x t b z TI TO i1 i2) := by
  have five : ∀ {c : Addr}, c ∈ [z, TI, TO, i1, i2] → c = z ∨ c = TI ∨ c = TO ∨ c = i1 ∨ c = i2 := fun {c} h => by simpa using h
  have out : ∀ {c : Addr}, c ∉ [z, TI, TO, i1, i2] → c ≠ z ∧ c ≠ TI ∧ c ≠ TO ∧ c ≠ i1 ∧ c ≠ i2 := fun {c} h => by simpa using h
  have all : ∀ {i : Nat} {h : Heap}, zsT x t b z TI TO i1 i2 i h → ∀ c ∈ [z, TI, TO, i1, i2], ∃ o, h.get? c = some o ∧ ∀ v, o.data ≠ .cell v := fun {i h} st c hc => by
    obtain ⟨a1, a2, ⟨u, v, a3⟩, ⟨o1, e1, _, d1⟩, ⟨o2, e2, _, d2⟩⟩ := st
    rcases five hc with rfl | rfl | rfl | rfl | rfl
    · exact ⟨_, a1, fun v q => nomatch q⟩
    · exact ⟨_, a2, fun v q => nomatch q⟩
    · exact ⟨_, a3, fun v q => nomatch q⟩
    · exact ⟨_, e1, fun v q => by rw [d1] at q; cases q⟩
    · exact ⟨_, e2, fun v q => by rw [d2] at q; cases q⟩
  have keep : ∀ (i : Nat) (h h' : Heap), zsT x t b z TI TO i1 i2 i h → (∀ c ∈ [z, TI, TO, i1, i2], ∀ o, h.get? c = some o → h'.get? c = some o) → zsT x t b z TI TO i1 i2 i h' := fun i h h' st k => by
    obtain ⟨a1, a2, ⟨u, v, a3⟩, ⟨o1, e1, r1⟩, a5⟩ := st
    exact ⟨k z (by simp) _ a1, k TI (by simp) _ a2, ⟨u, v, k TO (by simp) _ a3⟩, ⟨o1, k i1 (by simp) _ e1, r1⟩, a5.at fun o q => k i2 (by simp) o q⟩
  refine ⟨by simp, fun i h st => all st, keep, ?_, ?_, fun A i s Q E st h => wpAny_pyIter_zip st.1 h⟩
  · intro X hP hw hK hc i pins s σ H E I hf st hg
    subst hP hw hK
    have lt : ∀ c ∈ [z, TI, TO, i1, i2], c < s.heap.objs.size := fun c hcm => Heap.lt_size (all st c hcm).choose_spec.1
    obtain ⟨a1, a2, ⟨u0, v0, a3⟩, a4, a5⟩ := st
    obtain ⟨ys, c, y, hy, hcx, hyi⟩ := hg
    obtain ⟨its, rv, pt, _⟩ := I.tuple hy
    obtain ⟨u, hu, ru⟩ := rv.get hyi
    have hh : X.A.in1.handled = none := I.ok.hd hc
    have l1 : i < x.cps.size := (Array.getElem?_eq_some_iff.mp hcx).1
    have l2 : i < its.toArray.size := by
      have := (List.getElem?_eq_some_iff.mp hu).1
      simpa using this
    refine wpAny_pyNext_zipD2_item S (draws_text hh i1 x t) (Draws.tuple hh i2 b hb its.toArray) a1 a2 a3 a4 ⟨a5, pt⟩ l1 l2 fun x1 x2 h' tk p1 p2 b1 b2 b3 b4 b5 b6 b7 => ?_
    refine ⟨_, rfl, wpAny_letOwnedTupleGo_zip (s := { s with heap := h', toks := tk }) b1 fun h2 q1 sb => ?_⟩
    obtain ⟨c', tc, hc', rfl⟩ := p1
    rw [hcx] at hc'
    cases hc'
    have hx2 : its.toArray[i]? = some u := by simpa using hu
    rw [hx2] at p2
    cases p2
    have zl := lt z (by simp)
    have hT : h2.get? s.heap.objs.size = some { cls := .type "tuple", data := .seq #[.str ⟨#[c]⟩ tc, u] } := (sb.2 _ (Nat.ne_of_gt zl)).trans b5
    have new : ObjOk X.prog X.w (upd H s.heap.objs.size (.tup [.str ⟨#[c]⟩, y])) h2 s.heap.objs.size (.tup [.str ⟨#[c]⟩, y]) :=
      ⟨by show 2 ≤ sizeLine; decide, [.str ⟨#[c]⟩ tc, u], .cons ⟨tc, rfl⟩ (.cons ru .nil), ⟨_, hT, rfl, _, rfl⟩⟩
    have I1 : Inv X pins σ (upd H s.heap.objs.size (.tup [.str ⟨#[c]⟩, y])) { s with heap := h2, toks := tk } :=
      I.turnedNew (t' := tk) (ch := [z, TI, TO, i1, i2]) (fun d o hd q => by
        obtain ⟨n1, n2, n3, n4, n5⟩ := out hd
        exact (sb.2 d n1).trans (b7 d o n1 n3 n4 n5 q)) hf (Nat.le_refl _) new
    obtain ⟨o1, g1, r1⟩ := b3
    refine ⟨.ref s.heap.objs.size, _, I1, rfl, ⟨_, c, y, rfl, I.hok.fresh (Nat.le_refl _), rfl, hcx, fun l hl => by rw [I.tuple_inj hl hy]; exact hyi⟩, ⟨q1, ?_, ⟨_, _, (sb.2 _ S.TOz).trans b2⟩, ⟨o1, (sb.2 _ S.zi1.symm).trans g1, r1⟩, b4.1.at fun o q => (sb.2 _ S.zi2.symm).trans q⟩, fun d hd => ?_⟩
    · exact (sb.2 _ S.TIz).trans (b7 _ _ S.TIz S.TITO S.TIi1 S.TIi2 a2)
    · rw [upd_ne (Nat.ne_of_lt (lt d hd))]
      exact (hf d hd).1
  · intro X hP hw hK hc i pins s σ H E I hf st hg
    subst hP hw hK
    obtain ⟨a1, a2, ⟨u0, v0, a3⟩, a4, a5⟩ := st
    obtain ⟨ys, hy, k1, k2, k3⟩ := hg
    obtain ⟨its, rv, pt, _⟩ := I.tuple hy
    have hh : X.A.in1.handled = none := I.ok.hd hc
    have l := rv.length
    have sz : its.toArray.size = ys.length := by simp [l]
    refine wpAny_pyNext_zipD2_end S (draws_text hh i1 x t) (Draws.tuple hh i2 b hb its.toArray) a1 a2 a3 a4 ⟨a5, pt⟩ k1 (by rw [sz]; exact k2) (by rw [sz]; exact k3) fun h' tk hk => ⟨rfl, I.turnedL (t' := tk) (ch := [z, TI, TO, i1, i2]) (fun d o hd q => ?_) hf⟩
    obtain ⟨n1, n2, n3, n4, n5⟩ := out hd
    exact hk d o n1 n3 n4 n5 q
theorem nat_ne {a b : Nat} (h : a < b ∨ b < a) : a ≠ b := by omega
theorem zs_sep {n b : Nat} (h : b < n) : ZipSep2 (n + 4) (n + 2) (n + 3) n (n + 1) [n] [n + 1, b] :=
  ⟨nat_ne (by omega), nat_ne (by omega), nat_ne (by omega), nat_ne (by omega), by simp, fun q => nat_ne (a := n + 4) (b := n) (by omega) (by simpa using q), fun q => nat_ne (a := n + 3) (b := n) (by omega) (by simpa using q),
    nat_ne (by omega), by simp, fun q => (List.mem_cons.mp q).elim (nat_ne (a := n + 4) (b := n + 1) (by omega)) fun q => nat_ne (a := n + 4) (b := b) (by omega) (List.mem_singleton.mp q),
    fun q => (List.mem_cons.mp q).elim (nat_ne (a := n + 3) (b := n + 1) (by omega)) fun q => nat_ne (a := n + 3) (b := b) (by omega) (List.mem_singleton.mp q),
    fun q => (List.mem_cons.mp q).elim (nat_ne (a := n) (b := n + 1) (by omega)) fun q => nat_ne (a := n) (b := b) (by omega) (List.mem_singleton.mp q), fun q => nat_ne (a := n + 1) (b := n) (by omega) (List.mem_singleton.mp q)⟩
theorem zs_le {n c : Nat} (h : c ∈ [n + 4, n + 2, n + 3, n, n + 1]) : n ≤ c := by
  simp only [List.mem_cons, List.not_mem_nil, or_false] at h
  omega
def iZipS (K : PySem.W.Frag) (ta : TA) : TI := fun σ H R => ta σ H fun vs H1 => ∃ x b ys, vs = [.str x, .ref b] ∧ SqT K H1 b ys ∧ R (ItzS K x b) H1
theorem pi_zipS {X : Cx} {e e2 : Expr} {ta : TA} {p pos tpos : Pos} {elts : List Expr} {kk : Nat} (hg : Gl X "zip") (hm : X.mg "zip" = none) (ha : PA X [e, e2] ta)
    (hs : starEach [e, e2] X.env = (false, eval e X.env) :: starEach [e2] X.env := by rfl) (hpl : (backTo pos (starEach [e2] X.env)).any (·.1) = false := by rfl) :
    PI X (.Tuple elts kk tpos) (.Call (.Name "zip" p) [e, e2] [] pos) (iZipS X.K ta) := by
  refine ⟨fun pins s σ H R I h => ?_⟩
  refine Call_ (ld_blt I hg hm PyProof.Rows.boot_zip (PyProof.Rows.callWith_type1 (thn (ha.run pos pins s σ H _ I h) fun us s1 ⟨vs, H1, I1, r1, q1⟩ => ?_) hs hpl))
  obtain ⟨x, b, ys, rfl, hy, q⟩ := q1
  cases r1 with
  | cons r rr =>
    cases rr with
    | cons r' rr =>
      cases rr
      obtain ⟨t, rfl⟩ := r
      cases r'
      obtain ⟨its, rv, pt, _⟩ := I1.tuple hy
      obtain ⟨ob, hob, _⟩ := id pt
      have hb : b < s1.heap.objs.size := Heap.lt_size hob
      refine zip_begins2 (begins_text x t) (begins_tuple b its.toArray) trivial pt fun h' b1 b2 b3 b4 b5 b6 b7 => wpAny_pyIter_zip b1 ?_
      have I2 : Inv X pins σ H1 { s1 with heap := h' } := I1.kept (t' := s1.toks) b7
      refine ⟨s1.heap.objs.size + 4, [s1.heap.objs.size + 4, s1.heap.objs.size + 2, s1.heap.objs.size + 3, s1.heap.objs.size, s1.heap.objs.size + 1], _, _, H1, rfl, I2, turn_zipS (t := t) (zs_sep hb) (nat_ne (.inl (Nat.lt_succ_of_lt hb))), ⟨b1, b2, ⟨_, _, b3⟩, ⟨_, b4, rfl, rfl⟩, ⟨_, b5, rfl, rfl⟩⟩, fun c hc => ?_, q⟩
      exact I1.fpOk (zs_le hc) (I1.hok.fresh (zs_le hc))
def zipSD : List D → Option (List D)
  | [.str x, .tup ys] => some (zipL (x.cps.toList.map fun c => .str ⟨#[c]⟩) ys)
  | _ => none
section
variable {K : PySem.W.Frag} {g : G} {W : WX} {Hf0 : Hp}
theorem yl_zipS {x : Str} {b : Addr} {ws : List V} {es : List D} (h' : SqT K Hf0 b ws) (r' : Reps K g Hf0 es ws) : Yl K g (ItzS K x b) (zipL (x.cps.toList.map fun c => .str ⟨#[c]⟩) es) Hf0 := fun i Hf H e1 e2 => by
  have hs' : SqT K H b ws := e2.t (e1.t h')
  refine ⟨fun d hd => ?_, fun q => ?_⟩
  · obtain ⟨a, y, ha, hy, rfl⟩ := zipL_get _ _ _ _ hd
    rw [List.getElem?_map] at ha
    cases c : x.cps.toList[i]? with
    | none => rw [c] at ha; cases ha
    | some k =>
      rw [c] at ha
      cases ha
      have hi : x.cps[i]? = some k := by rw [← Array.getElem?_toList]; exact c
      obtain ⟨w, hw, rw'⟩ := Reps.getD r' hy
      refine ⟨⟨ws, k, w, hs', hi, hw⟩, fun v H' hx => ?_⟩
      obtain ⟨T, k', u, rfl, hT, rfl, hk, hu⟩ := hx
      have q2 := hu ws hs'
      rw [hw] at q2
      rw [hi] at hk
      cases q2
      cases hk
      obtain ⟨w, rr⟩ := new_tup (vs := [.str ⟨#[k]⟩, w]) (ds := [_, _]) e2 hT (.cons (.str _) (.cons (rw'.mono e1) .nil))
      exact ⟨_, w, rr⟩
  · rw [zipL_len, List.length_map, Array.length_toList] at q
    have l := r'.len
    exact ⟨ws, hs', by omega, by omega, by omega⟩
theorem evi_zipS {ta : TA} {m : M (List D)} (h : EvL K g W ta m) : EvI K g W (iZipS K ta) (iArg zipSD m) :=
  fun env σ Hf H s R q => h env σ Hf H s _ (q.bnd.imp fun ds e1 Hf1 H1 _ s1 h1 vs r => by
    obtain ⟨z, hz, k⟩ := Aft.lft s1.sr h1
    have k' := k Hf1 H1 (Grow.refl s1.sr.ex)
    unfold zipSD at hz
    split at hz
    · cases hz
      cases r with
      | cons a b =>
        cases b with
        | cons b c =>
          cases c
          cases a
          cases b with
          | tup e' r' => exact ⟨_, _, _, rfl, s1.sr.ex.t e', k' _ (yl_zipS e' r')⟩
    · cases hz)
end
section
variable {X : Cx} {g : G} {W : WX} {e e2 : Expr} {ma : M (List D)} {p pos tpos : Pos} {elts : List Expr} {kk : Nat}
theorem i_zipS (h : PAM X g W [e, e2] ma) (hm : X.mg "zip" = none) (hg : Gl X "zip" := by rfl) (hs : starEach [e, e2] X.env = (false, eval e X.env) :: starEach [e2] X.env := by rfl) (hpl : (backTo pos (starEach [e2] X.env)).any (·.1) = false := by rfl) :
    PIM X g W (.Tuple elts kk tpos) (.Call (.Name "zip" p) [e, e2] [] pos) (iArg zipSD ma) := by
  obtain ⟨t, h1, h2⟩ := h
  exact ⟨_, pi_zipS hg hm h1 hs hpl, evi_zipS h2⟩
end
end DL

set_option Elab.async false
set_option linter.all false
set_option maxRecDepth 100000
set_option maxHeartbeats 1000000
namespace DL
open PySem PySem.Spec L2 PyProof.Rows L2H
/-! ### xs + ys, a new list -/
def catL : D → D → Option D
  | .lst xs, .lst ys => if small (xs.length + ys.length) = true then some (.lst (xs ++ ys)) else none
  | _, _ => none
section
variable {K : PySem.W.Frag} {g : G} {W : WX}
theorem evf_cat {ta tb : TE} {ma mb : M D} (ha : EvM K g W ta ma) (hb : EvM K g W tb mb) : EvF K g W (tOp rCat ta tb) (mBin catL ma mb) :=
  fun env σ Hf H s Q h => ha env σ Hf H s _ (h.bnd.imp fun x e1 Hf1 H1 _ s1 h1 v r1 => hb e1 σ Hf1 H1 s1.sr _ (h1.bnd.imp fun y e2 Hf2 H2 _ s2 h2 w r2 => by
    obtain ⟨z, hz, k⟩ := Aft.lft s2.sr h2
    have r1' := r1.mono s2.f
    cases r1' <;> try (cases hz; done)
    case lst xs vs hx rx _ =>
      cases r2 <;> try (cases hz; done)
      case lst ys ws hy ry _ =>
        unfold catL at hz
        dsimp only at hz
        split at hz
        · rename_i c
          cases hz
          exact ⟨_, _, _, _, rfl, rfl, s2.sr.ex _ _ hx, s2.sr.ex _ _ hy, by rw [← rx.len, ← ry.len]; exact small_le c, fun p hp => k Hf2 _ (own_new s2.sr.ex hp) p ⟨⟨_, upd_same, .lst (rx.append ry)⟩, s2.sr.ex.back hp, fun o => Own.there s2.sr o hp, s1.th _ (s2.th _ hp)⟩⟩
        · cases hz))
end
section
variable {X : Cx} {g : G} {W : WX} {a b : Expr} {ma mb : M D} {pos : Pos}
theorem f_cat (ha : PEM X g W a ma) (hb : PEM X g W b mb) : PEF X g W (.BinOp a .Add b pos) (mBin catL ma mb) := by
  obtain ⟨ta, h1, h2⟩ := ha
  obtain ⟨tb, h3, h4⟩ := hb
  exact ⟨_, pe_op op_cat h1 h3, evf_cat h2 h4⟩
end
/-! ### what a def promises while an exception is handled, nothing raised in it -/
structure FnC (P : Program) (w : World) (K : PySem.W.Frag) (mg : Str → Option Value) (base : Heap) (CX : CXT) (k : Nat) (f : Addr) (fd : FuncData) (ps : List Str) (sp : Sp) : Prop where
  len : ∀ vs H Q E, sp vs H Q E → vs.length = ps.length
  run : ∀ (A : Around) (outer : List Env) (s : Shared) (H : Hp) (args : Args) (us : List Value) (vs : List V) (Q : VK) (E : XK) (p : Addr × Obj), RoomH k A → PinOk outer H s p → Env0 P w K mg base A outer s H → BindsTo s fd args (ps.zip us) → Vals vs us → sp vs H Q E →
    codeAny (model P w) A (.call (.ref f) args) (CR CX outer P w H s Q E) s
section
variable {P : Program} {w : World} {K : PySem.W.Frag} {mg : Str → Option Value} {base : Heap} {CX : CXT} {k : Nat} {f : Addr} {fd : FuncData} {x qual : Str} {params : Arguments} {body : List Stmt} {scope : Scope} {dvs : List V} {kws : List (Str × V)} {N ps : List Str} {sp sp' : Sp}
theorem FnC.imp (F : FnC P w K mg base CX k f fd ps sp) (h : ∀ vs H Q E, sp' vs H Q E → sp vs H Q E) : FnC P w K mg base CX k f fd ps sp' :=
  ⟨fun vs H Q E q => F.len vs H Q E (h _ _ _ _ q), fun A outer s H args us vs Q E p hr hp he hb hv hs => F.run A outer s H args us vs Q E p hr hp he hb hv (h _ _ _ _ hs)⟩
theorem fc_ok (F : FunD K x qual params body scope dvs kws f fd) (Sc : FnScope N ps scope) (len : ∀ vs H Q E, sp vs H Q E → vs.length = ps.length)
    (hb : ∀ (cdv : Value) (A : Around) (outer : List Env) (s : Shared) (H : Hp) (vs : List V) (Q : VK) (E : XK) (p : Addr × Obj), RoomH k (A.deeper (envOfC qual scope s.heap.objs.size f cdv)) → sp vs H Q E →
      ∃ t, PSs (cxH CX P w K mg base N qual scope f cdv A outer s H E p) body t ∧ t { nx := fun _ H' => Q .non H', rt := Q } (L2.start N vs) H) : FnC P w K mg base CX (k + 1) f fd ps sp := by
  obtain ⟨oc, od, dV, kV, doc, pm, an, cdv, ct, osl, rfl, lk, hcd, _, _⟩ := F.ex
  refine ⟨len, fun A outer s H args us vs Q E p hr hp e0 bd r hsp => ?_⟩
  have hl := len _ _ _ _ hsp
  have KX : K.In s.heap := e0.mod.kin.keeps fun b o e => (e0.bs b o e).1
  have here : ∀ y ∈ ps.zip us, scope.names.lookup y.1 = some .local ∨ (scope.names.lookup y.1 = some .cell ∧ ((cellsFrom (s.heap.objs.size + 1) scope.names []).lookup y.1).isSome = true) := fun y hy =>
    (Sc.par y.1 (List.of_mem_zip hy).1).imp id fun q => ⟨q, PySem.W.cellsFrom_some _ _ _ (.inl q)⟩
  refine codeAny_call_function hr.depth (KX _ _ lk) rfl Sc.co Sc.gen rfl (PySem.W.codeRec_of KX hcd) (bd _ _ _ _ (wpAny_newFunctionEnv_cells Sc.kind here fun env he s1 y => ?_))
  subst he
  refine ⟨(e0.mod.nolimit.keeps fun b o e => (e0.bs b o e).1).keeps y.toInCall.keep, codeAny_func ?_⟩
  obtain ⟨t, ht, hq⟩ := hb cdv A outer s H vs Q E p (hr.deeper _) hsp
  refine wpAny_mono (ht.run [] s1 (L2.start N vs) H _ (inv_startH Sc hp e0 hl r y) hq) (fun fl s' hs => ?_) fun _ _ hs => hs
  cases fl with
  | ret u => obtain ⟨v, σ', H', J, rv, q⟩ := hs; exact ⟨v, H', J.os, J.bare, J.base, J.hok, rv, q⟩
  | next => obtain ⟨σ', H', J, q⟩ := hs; exact ⟨V.non, H', J.os, J.bare, J.base, J.hok, rfl, q⟩
  | brk => obtain ⟨_, _, _, q⟩ := hs; exact False.elim q
  | cont => obtain ⟨_, _, _, q⟩ := hs; exact False.elim q
theorem df_C {g : G} {b : S} (F : FunD K x qual params body scope dvs kws f fd) (Sc : FnScope N ps scope)
    (hb : ∀ (cdv : Value) (A : Around) (outer : List Env) (s : Shared) (H : Hp) (E : XK) (p : Addr × Obj), RoomH k (A.deeper (envOfC qual scope s.heap.objs.size f cdv)) → PSsM (cxH (L2.CX P w) P w K mg base N qual scope f cdv A outer s H E p).nox g WF body b) :
    FnC P w K mg base (L2.CX P w) (k + 1) f fd ps (spM K g ps.length (fnM ps.length N.length (nox b))) := by
  refine FnC.imp ?_ spM_fnM
  refine fc_ok F Sc (fun vs H Q E h => ?_) (fun cdv A outer s H vs Q E p hr h => ?_)
  · obtain ⟨Hf, args, sr, l, _⟩ := h
    rw [← l, ← sr.len, List.length_map]
  · obtain ⟨Hf, args, sr, l, o⟩ := h
    obtain ⟨t, h1, h2⟩ := hb cdv A outer s H E p hr
    have lv : vs.length = args.length := by rw [← sr.len, List.length_map]
    refine ⟨t, PSs.nox h1, ?_⟩
    rw [start_eq, lv]
    refine h2 _ _ Hf H (sr_app sr _) _ ?_
    exact Out.nox (r := .bad) (out_run sr.len o)
end
/-- == of data, whatever is handled -/
theorem m_eqC {X : Cx} {g : G} {W : WX} {a b : Expr} {ma mb : M D} {pos : Pos} {k : Nat} (hr : RoomH k X.A) (ha : PEM X g W a ma) (hb : PEM X g W b mb) : PEM X g W (.Compare a [.Eq] [b] pos) (mBin eqD ma mb) :=
  m_cmp (op_eqD (by have := hr.un; omega)) rv_eq ha hb (nomark _)
structure OprC (P : Program) (w : World) (K : PySem.W.Frag) (mg : Str → Option Value) (base : Heap) (g : G) (c : Nat) (m : Str) (np : Nat) (F : Fm) (k : Nat) : Prop where
  ex : ∃ f fd ps, FnC P w K mg base (L2.CX P w) k f fd ps (spM K g np F) ∧ Binds K fd ps [] ∧ PySem.W.findIn K (.ref (g.cl c)) m = some (some (.ref f)) ∧ PySem.W.isFn K (.ref f) = true
  ar : Arity np F
def rOwnC (K : PySem.W.Frag) (g : G) (cs : List Nat) (c : Nat) (F : Fm) : R2 := fun x y H Q => ∃ a dx fs, x = .ref a ∧ H a = some (.ins (g.cl c) dx fs) ∧ RightE K g cs H y ∧ SpD K g F [] [x, y] H (fun v H' => ∃ k, v = .bl k ∧ Q (.bl k) H') E0
section
variable {X : Cx} {g : G} {cs : List Nat} {c k : Nat} {F : Fm}
theorem pass0 : Passes (L2.CX X.prog X.w) X E0 := fun _ _ _ _ _ _ _ h => by
  obtain ⟨_, _, _, _, _, _, _, _, _, _, _, _, z⟩ := h
  exact z.elim
theorem op_ownC (S : SubF X.K g cs) (hc : cs.contains c = true) (O : OprC X.prog X.w X.K X.mg X.base g c "__eq__" 2 F k) (hr : RoomH k X.A) (pn : ∃ p, p ∈ X.pn) : OpR X (compareOp .Eq) (rOwnC X.K g cs c F) := by
  intro pins s σ H x y v u Q I rx ry h
  obtain ⟨a, dx, fs, rfl, ha, hy, q⟩ := h
  cases (show v = Value.ref a from rx)
  obtain ⟨⟨f, fd, ps, Fn, b, hs, hf⟩, ar⟩ := O
  obtain ⟨ox, od, m, J, hF⟩ := own_inst I ha
  obtain ⟨tb, hb, nf⟩ := right_looks (M := model X.prog X.w) I S hc ry hy
  obtain ⟨p, hp⟩ := pn
  have q1 := q [] 2 (fun _ => .nil) ar
  rw [List.append_nil] at q1
  have P1 := I.pin p (List.mem_append_left _ hp)
  have hpin : PinOk X.stack H s p := ⟨P1.1, P1.2.1, fun hm => (List.mem_cons.mp (I.stkSub p.1 hm)).elim P1.2.2.1 P1.2.2.2.1, P1.2.2.2.2⟩
  have r2 : Vals [.ref a, y] [.ref a, u] := .cons rfl (.cons ry .nil)
  have hl : ([Value.ref a, u] ++ []).length = ps.length := by rw [List.append_nil, ← r2.length]; exact Fn.len _ _ _ _ q1
  have bd := b s [.ref a, u] I.kIn hl
  rw [List.append_nil] at bd
  have call1 : wpAny (model X.prog X.w) X.A (call (.ref f) [.ref a, u]) (EP X pins σ fun v H' => ∃ k, v = .bl k ∧ Q (.bl k) H') X.xe s := by
    refine wpAny_call (codeAny_mono (Fn.run X.A X.stack s H ⟨[.ref a, u], []⟩ [.ref a, u] [.ref a, y] _ E0 p hr hpin I.env0 bd r2 q1) fun r s' hq => ?_)
    cases r with
    | error e => exact pass0 pins σ H s e s' I hq
    | ok fl => cases fl <;> first | exact I.after hq | exact False.elim hq
  have q2 : wpAny (model X.prog X.w) X.A (call (.ref f) [.ref a, u]) (PySem.W.CmpBack (EP X pins σ Q)) X.xe s := by
    refine wpAny_mono call1 (fun w s' z => ?_) fun _ _ x => x
    obtain ⟨z', H', I', rz, k, rfl, qz⟩ := z
    exact SlX.cmpback rz ⟨_, H', I', rz, qz⟩
  exact PySem.W.cmp_K (op := .Eq) (tb := tb) (by have := hr.un; omega) hF I.ok.mod.kin J hb nf hs hf q2
end
end DL

set_option Elab.async false
set_option linter.all false
set_option maxRecDepth 100000
set_option maxHeartbeats 1000000
namespace DL
open PySem PySem.Spec L2 PyProof.Rows L2H
/-! ### try: .. except x as n: return n.f == y, own things -/
def sTryE (c kc : Nat) (cs : List Nat) (i j : Nat) (F : Fm) (mb : S) : S := fun env => match mb env with
  | .ex c' d e => if c' = c then (match e[i]?, d, e[j]? with
    | some .no, .ins k ds, some (.sh y) => if k = kc ∧ okE cs y = true then (match callA F [.ins k ds, y] e with
      | .ok (.bl b) e2 => .ok (.rt (.bl b)) e2
      | _ => .bad) else .bad
    | _, _, _ => .bad) else .bad
  | r => r
/-- what the suite asks -/
def tsE (K : PySem.W.Frag) (g : G) (cs : List Nat) (kc : Nat) (F : Fm) (C : Addr) (f : Str) (i j : Nat) : Addr → Value → Option Addr → TS := fun a cls d D σ H => ∃ (dd : Addr) (fs : List (Str × V)) (v y : V), cls = .ref C ∧ d = some dd ∧ σ[i]? = some (some (.ref a)) ∧ H dd = some (.xd fs) ∧ fs.lookup f = some v ∧ σ[j]? = some (some y) ∧
  rOwnC K g cs kc F v y H D.rt
section
variable {X : Cx} {g : G} {W : WX} {B : Addr} {c kc i j j' k : Nat} {cs : List Nat} {F : Fm} {x n y : Str} {body : List Stmt} {mb : S} {np q3 q4 q5 q6 q11 pos pos' : Pos}
theorem s_tryE (b : ExB X.prog X.w X.K X.mg X.base g x c B) (S : SubF X.K g cs) (hc : cs.contains kc = true) (O : OprC X.prog X.w X.K X.mg X.base g kc "__eq__" 2 F k) (hr : Room j' X.A) (tk : Takes X W) (hN : X.N.Nodup) (hi : X.N[i]? = some n) (hj : X.N[j]? = some y) (hk : k ≤ j') (hln : X.env.kindOf n = some .local) (hs : X.stack = X.env :: X.outer) (hf : X.env.frame = some X.env.locals)
    (hb : ∀ (W : WX) (pn : List (Addr × Obj)) (xe : Value → Shared → Prop), Takes (X.tr pn xe) W → PSsM (X.tr pn xe) g W body mb)
    (hv : Vis X.env.scope n) (hn1 : (n == ("__debug__" : Str)) = false) (hn2 : (n == ("__classdict__" : Str)) = false) (hvy : Vis X.env.scope y) (hy1 : (y == ("__debug__" : Str)) = false) (hy2 : (y == ("__classdict__" : Str)) = false) (hg : Gl X x) (hdb : (x == ("__debug__" : Str)) = false)
    (hab : attributeBase (.Name n q3) (xfT c) X.env (eval (.Name n q3) X.env) = eval (.Name n q3) X.env) :
    PSM X g W (.Try body [.ExceptHandler (some (.Name x np)) (some n) [.Return (some (.Compare (.Attribute (.Name n q3) (xfT c) q4) [.Eq] [.Name y q5] q6)) q11] pos'] [] [] pos) (sTryE c kc cs i j F mb) := by
  obtain ⟨⟨fI, fd, T, _, _⟩, hm⟩ := b
  refine ⟨_, ps_try_as (tb := fun W' D σ H => ∃ env Hf, SR X.K g env σ Hf H ∧ Out X.K g W' env σ Hf H (mb env) D) (ts := tsE X.K g cs kc F (g.xl c) (xfT c) i j) hs hf hN hi hln ⟨hg, hdb, .inl hm⟩ tk (fun W' pn xe tk' _ => ?_) (fun a oe cls d pn hz hfl => ?_), ?_⟩
  · obtain ⟨t, h1, h2⟩ := hb W' pn xe tk'
    exact ⟨fun pins s σ H D I h => by
      obtain ⟨env, Hf, sr, o⟩ := h
      exact h1.run pins s σ H D I (h2 env σ Hf H sr D o)⟩
  · refine ⟨fun pins s0 σ H D I h => ?_⟩
    obtain ⟨dd, fs, v, w, rfl, rfl, hσ, hd, hl, hw, q⟩ := h
    have rh : RoomH k (X.suite a ((a, oe) :: pn)).A := ⟨(hr.mono hk).dp, (hr.mono hk).un⟩
    have P1 := pe_xf (pn := pn) T.xf T.no hz hfl (pe_var (X := X.suite a ((a, oe) :: pn)) (i := i) (pos := q3) hi hv hn1 hn2) hab (pos := q4)
    have P2 : PE (X.suite a ((a, oe) :: pn)) (.Name y q5) (tVar j) := pe_var hj hvy hy1 hy2
    have P3 := pe_cmpR (pos := q6) (op_ownC (X := X.suite a ((a, oe) :: pn)) S hc O rh ⟨_, List.mem_cons_self⟩) P1 P2 (nomark _)
    refine (pss_one (ps_ret P3)).run pins s0 σ H D I ?_
    exact ⟨_, hσ, rfl, rfl, dd, fs, v, rfl, hd, hl, _, hw, q⟩
  · intro env σ Hf H sr Z h
    refine ⟨env, Hf, sr, ?_⟩
    unfold sTryE at h
    revert h
    cases mb env with
    | bad => exact fun h => h
    | ok x e => cases x <;> exact fun h => h
    | ex c' d e =>
      intro h dx v fs σ' Hf' H' st r e1 e2 e3 e4 e5
      dsimp only at h
      by_cases cc : c' = c
      case neg => rw [if_neg cc] at h; exact h.elim
      rw [if_pos cc] at h
      subst cc
      split at h
      · rename_i k0 ds y0 hno hy0
        split at h
        · rename_i okk
          obtain ⟨rfl, ok⟩ := okk
          have hlt : i < σ'.length := by
            rw [st.sr.len]
            exact (List.getElem?_eq_some_iff.mp hno).1
          obtain ⟨w, hw, rw'⟩ := st.sr.sh_ hy0
          have ne : i ≠ j := fun z => by
            rw [z, hy0] at hno
            cases hno
          have r' := r
          cases r with
          | @ins a0 dx0 _ _ vs hx hvv hll okc =>
            refine ⟨true, T.te, fun _ a na => ⟨dx, fs, _, w, rfl, rfl, List.getElem?_set_self hlt, e1, e2, by rw [List.getElem?_set_ne ne]; exact hw, a0, dx0, _, rfl, st.sr.ex _ _ hx, right_of st.sr.ex rw' ok, ?_⟩, fun z => nomatch z⟩
            refine spD_A (dfl := []) (env := e) st.sr (.cons r' (.cons rw' .nil)) ?_
            rw [List.append_nil]
            revert h
            cases callA F [.ins k0 ds, y0] e with
            | bad => exact fun h => h.elim
            | ex c2 d2 e' => exact fun h => h.elim
            | ok z e' =>
              intro h Hf2 H2 s2 v2 r2
              cases z <;> try exact h.elim
              case bl bb =>
                cases r2
                exact ⟨bb, rfl, h σ' Hf2 H2 (st.trans s2) _ (.bl bb)⟩
        · exact h.elim
      · exact h.elim
end
end DL

set_option Elab.async false
set_option linter.all false
set_option maxRecDepth 100000
set_option maxHeartbeats 1000000
namespace DL
open PySem L2 PyProof.Rows
/-! ### xs * k, a new list -/
def repL : D → D → Option D
  | .lst a, .int k => if -1000000 ≤ k ∧ k ≤ 1000000 ∧ a.length * k.toNat ≤ 16777216 then some (.lst (List.replicate k.toNat a).flatten) else none
  | _, _ => none
section
variable {K : PySem.W.Frag} {g : G} {W : WX}
theorem reps_rep {H : Hp} {ds : List D} {vs : List V} (r : Reps K g H ds vs) : ∀ n : Nat, Reps K g H (List.replicate n ds).flatten (List.replicate n vs).flatten
  | 0 => .nil
  | n + 1 => by
    rw [List.replicate_succ, List.replicate_succ, List.flatten_cons, List.flatten_cons]
    exact r.append (reps_rep r n)
theorem evf_rep {ta tb : TE} {ma mb : M D} (ha : EvM K g W ta ma) (hb : EvM K g W tb mb) : EvF K g W (tOp rRep ta tb) (mBin repL ma mb) :=
  fun env σ Hf H s Q h => ha env σ Hf H s _ (h.bnd.imp fun x e1 Hf1 H1 _ s1 h1 v r1 => hb e1 σ Hf1 H1 s1.sr _ (h1.bnd.imp fun y e2 Hf2 H2 _ s2 h2 w r2 => by
    obtain ⟨z, hz, k⟩ := Aft.lft s2.sr h2
    have r1' := r1.mono s2.f
    cases r1' <;> try (cases hz; done)
    case lst xs vs hx rx _ =>
      cases r2 <;> try (cases hz; done)
      case int n _ =>
        unfold repL at hz
        dsimp only at hz
        split at hz
        · rename_i c
          obtain ⟨c1, c2, c3⟩ := c
          cases hz
          have b1 : (-(2 ^ 63) : Int) ≤ n := Int.le_trans (by decide) c1
          have b2 : n < (2 ^ 63 : Int) := Int.lt_of_le_of_lt c2 (by decide)
          exact ⟨_, _, _, rfl, rfl, s2.sr.ex _ _ hx, b1, b2, by rw [← rx.len]; exact c3, fun p hp => k Hf2 _ (own_new s2.sr.ex hp) p ⟨⟨_, upd_same, .lst (reps_rep rx _)⟩, s2.sr.ex.back hp, fun o => Own.there s2.sr o hp, s1.th _ (s2.th _ hp)⟩⟩
        · cases hz))
end
section
variable {X : Cx} {g : G} {W : WX} {a b : Expr} {ma mb : M D} {pos : Pos}
theorem f_rep (ha : PEM X g W a ma) (hb : PEM X g W b mb) : PEF X g W (.BinOp a .Mult b pos) (mBin repL ma mb) := by
  obtain ⟨ta, h1, h2⟩ := ha
  obtain ⟨tb, h3, h4⟩ := hb
  exact ⟨_, pe_op op_rep h1 h3, evf_rep h2 h4⟩
end
/-! ### a, b, c, d = w, x, y, z: new own things among them; the tuple between is forgotten -/
section
variable {K : PySem.W.Frag} {g : G} {W : WX} {env : En} {σ : L2.St} {Hf H : Hp}
theorem Its.grown {H0 Hf' H' : Hp} {p : Addr} {u : HO} (hp : H' p = none) : ∀ {ds : List It} {vs : List V}, Its K g env σ H0 Hf' H' ds vs → Its K g env σ H0 Hf' (upd H' p u) ds vs
  | _, _, .nil => .nil
  | _, _, .s r k => .s r (k.grown hp)
  | _, _, .o n e k => by
    obtain ⟨w, hw, rw'⟩ := n.at_
    exact .o ⟨⟨w, by rw [upd_ne (fun c => by rw [c, hp] at hw; cases hw)]; exact hw, rw'⟩, n.nf, n.no, n.nw⟩ e (k.grown hp)
theorem ev_parX4 {i j l o : Nat} {ta : TA} {m : M (List It)} (ha : EvX K g W ta m) : EvS K g W (tAsg (tTup ta) (gTup K 4 (gCons (gName i) (gCons (gName j) (gCons (gName l) (gCons (gName o) gNil)))))) (sParX [i, j, l, o] m) := by
  intro env σ Hf H s Z h
  refine ha env σ Hf H s _ ?_
  unfold sParX DL.bnd at h
  revert h
  cases m env with
  | bad => exact fun h => h
  | ex c d e => exact fun h => h
  | ok ds e =>
    intro h Hf1 H1 s1 vs r
    dsimp only at h
    by_cases c : ds.length = [i, j, l, o].length
    case neg => rw [if_neg c] at h; exact h.elim
    rw [if_pos c] at h
    have lv : vs.length = 4 := by rw [← r.len]; exact c
    match vs, lv, r with
    | [v1, v2, v3, v4], _, r =>
      refine ⟨(by decide : 4 ≤ 16777216), fun p hp => ⟨p, _, rfl, SqT.of upd_same, rfl, v1, _, rfl, v2, _, rfl, v3, _, rfl, v4, _, rfl, rfl, ?_⟩⟩
      exact ev_stoX (s1.trans ((own_new s1.sr.ex hp).step s1.sr)) (r.grown hp) c h
end
section
variable {X : Cx} {g : G} {W : WX} {m : M (List It)} {x1 x2 x3 x4 : Str} {e1 e2 e3 e4 : Expr} {p1 p2 p3 p4 pt pt2 pos : Pos} {kt k2 : Nat}
theorem s_parX4 (i j l o : Nat) (h : PXM X g W [e1, e2, e3, e4] m) (hN : X.N.Nodup) (hc : X.calm = true := by rfl) (h1 : X.N[i]? = some x1 := by rfl) (h2 : X.N[j]? = some x2 := by rfl) (h3 : X.N[l]? = some x3 := by rfl) (h4 : X.N[o]? = some x4 := by rfl)
    (l1 : X.env.scope.names.lookup x1 = some .local := by rfl) (l2 : X.env.scope.names.lookup x2 = some .local := by rfl) (l3 : X.env.scope.names.lookup x3 = some .local := by rfl) (l4 : X.env.scope.names.lookup x4 = some .local := by rfl)
    (hn : (assignEach [.Name x1 p1, .Name x2 p2, .Name x3 p3, .Name x4 p4] X.env).length = 4 := by rfl) (hst : (assignEach [.Name x1 p1, .Name x2 p2, .Name x3 p3, .Name x4 p4] X.env).findIdx? (·.1) = none := by rfl)
    (a1 : (assignEach [.Name x1 p1, .Name x2 p2, .Name x3 p3, .Name x4 p4] X.env).map (·.2) = assign (.Name x1 p1) X.env :: (assignEach [.Name x2 p2, .Name x3 p3, .Name x4 p4] X.env).map (·.2) := by rfl)
    (a2 : (assignEach [.Name x2 p2, .Name x3 p3, .Name x4 p4] X.env).map (·.2) = assign (.Name x2 p2) X.env :: (assignEach [.Name x3 p3, .Name x4 p4] X.env).map (·.2) := by rfl)
    (a3 : (assignEach [.Name x3 p3, .Name x4 p4] X.env).map (·.2) = assign (.Name x3 p3) X.env :: (assignEach [.Name x4 p4] X.env).map (·.2) := by rfl)
    (a4 : (assignEach [.Name x4 p4] X.env).map (·.2) = assign (.Name x4 p4) X.env :: (assignEach [] X.env).map (·.2) := by rfl)
    (hs : swapsWith (.Tuple [e1, e2, e3, e4] k2 pt2) (some (.Tuple [.Name x1 p1, .Name x2 p2, .Name x3 p3, .Name x4 p4] kt pt)) pos.line X.env = pure false := by rfl) :
    PSM X g W (.Assign [.Tuple [.Name x1 p1, .Name x2 p2, .Name x3 p3, .Name x4 p4] kt pt] (.Tuple [e1, e2, e3, e4] k2 pt2) pos) (sParX [i, j, l, o] m) := by
  obtain ⟨t, k1, k2'⟩ := h
  exact ⟨_, ps_asg (pe_tup k1) (pg_tup hc (pgs_cons (pg_name hN h1 (.inl l1) (.inr l1)) (pgs_cons (pg_name hN h2 (.inl l2) (.inr l2)) (pgs_cons (pg_name hN h3 (.inl l3) (.inr l3)) (pgs_cons (pg_name hN h4 (.inl l4) (.inr l4)) pgs_nil a4) a3) a2) a1) hn hst) hs, ev_parX4 k2'⟩
end
end DL

set_option Elab.async false
set_option linter.all false
set_option maxRecDepth 100000
set_option maxHeartbeats 1000000
namespace DL
open PySem L2 PyProof.Rows
/-! ### in, not in: as tests -/
section
variable {X : Cx} {g : G} {W : WX} {a b : Expr} {ma mb : M D} {pos p : Pos} {x : Str} {d : Addr} {kvs : List (Str × Str)}
theorem t_in (ha : PEM X g W a ma) (hb : PEM X g W b mb) (hm : behindInMarks .In b = false := by rfl) : PTM X g W (.Compare a [.In] [b] pos) (mB (mBin (inD false) ma mb)) := t_cmp op_in_seq (rv_in false) ha hb hm
theorem t_notIn (ha : PEM X g W a ma) (hb : PEM X g W b mb) (hm : behindInMarks .NotIn b = false := by rfl) : PTM X g W (.Compare a [.NotIn] [b] pos) (mB (mBin (inD true) ma mb)) := t_cmp op_notIn_seq (rv_in true) ha hb hm
theorem t_inK (T : TabK X.K X.w d kvs) (hm : X.mg x = some (.ref d)) (ha : PEM X g W a ma) (hg : Gl X x := by rfl) (hdb : (x == ("__debug__" : Str)) = false := by decide) : PTM X g W (.Compare a [.In] [.Name x p] pos) (mB (mInK kvs false ma)) := by
  obtain ⟨ta, h1, h2⟩ := ha
  obtain ⟨es, n, D⟩ := T.kd
  refine ⟨_, pt_cmpR (op_in_kd D) h1 (pe_glob hg hm (v := .ref d) rfl hdb) (by rfl), ev_Test fun env σ Hf H s Q h => h2 env σ Hf H s _ (h.bnd.imp fun z e1 Hf1 H1 _ s1 k v r => ?_)⟩
  cases r <;> try exact k.elim
  case str z _ =>
    have q := Aft.ret s1.sr k (.bl _) (.bl _)
    cases e : kvs.lookup z with
    | some y =>
      rw [e] at q
      obtain ⟨t, ht⟩ := T.has z y e
      exact ⟨z, _, rfl, rfl, ht, q⟩
    | none =>
      rw [e] at q
      exact ⟨z, _, rfl, rfl, T.non z e, q⟩
theorem t_notInK (T : TabK X.K X.w d kvs) (hm : X.mg x = some (.ref d)) (ha : PEM X g W a ma) (hg : Gl X x := by rfl) (hdb : (x == ("__debug__" : Str)) = false := by decide) : PTM X g W (.Compare a [.NotIn] [.Name x p] pos) (mB (mInK kvs true ma)) := by
  obtain ⟨ta, h1, h2⟩ := ha
  obtain ⟨es, n, D⟩ := T.kd
  refine ⟨_, pt_cmpR (op_notIn_kd D) h1 (pe_glob hg hm (v := .ref d) rfl hdb) (by rfl), ev_Test fun env σ Hf H s Q h => h2 env σ Hf H s _ (h.bnd.imp fun z e1 Hf1 H1 _ s1 k v r => ?_)⟩
  cases r <;> try exact k.elim
  case str z _ =>
    have q := Aft.ret s1.sr k (.bl _) (.bl _)
    cases e : kvs.lookup z with
    | some y =>
      rw [e] at q
      obtain ⟨t, ht⟩ := T.has z y e
      exact ⟨z, _, rfl, rfl, ht, q⟩
    | none =>
      rw [e] at q
      exact ⟨z, _, rfl, rfl, T.non z e, q⟩
end
end DL

set_option Elab.async false
set_option linter.all false
set_option maxRecDepth 100000
set_option maxHeartbeats 1000000
namespace DL
open PySem PySem.Spec L2 PyProof.Rows
/-! ### try: .. except x as n: .. except y as m: .. -/
abbrev ClsH := Value × Nat × (Addr → Value → Option Addr → TS)
def wAsL (K : PySem.W.Frag) (Wz : WX) (D : Ends) : List ClsH → WX
  | [] => Wz
  | q :: r => wAs K q.1 q.2.1 q.2.2 (wAsL K Wz D r) D
inductive HdA (X : Cx) : List ExceptHandler → List ClsH → Prop
  | none : HdA X [] []
  | next {x n : Str} {c : Value} {i : Nat} {ts : Addr → Value → Option Addr → TS} {st : Stmt} {su : List Stmt} {q1 q2 : Pos} {hs : List ExceptHandler} {l : List ClsH}
      (at_ : X.N[i]? = some n) (loc : X.env.kindOf n = some .local) (nm : Names X x c)
      (run : ∀ (a : Addr) (oe : Obj) (cls : Value) (d : Option Addr) (pn : List (Addr × Obj)), Zc cls d oe → (∃ vs, oe.data = .fields vs) → PSs (X.suite a ((a, oe) :: pn)) (st :: su) (ts a cls d))
      (more : HdA X hs l) : HdA X (.ExceptHandler (some (.Name x q1)) (some n) (st :: su) q2 :: hs) ((c, i, ts) :: l)
section
variable {X : Cx} {body : List Stmt} {hd : ExceptHandler} {hds : List ExceptHandler} {l : List ClsH} {pos : Pos} {tb : WX → TS} {Wz : WX}
/-- an end of the body, seen from ahead of the try -/
theorem body_end {pins : List (Addr × Obj)} {D : Ends} {xe : Value → Shared → Prop} {pn : List (Addr × Obj)} {fl : Flow} {s : Shared} (ok : ∀ {σ H}, Inv (X.tr pn xe) [] σ H s → Inv X pins σ H s) (h : SP (X.tr pn xe) [] D fl s) : SP X pins D fl s := by
  cases fl with
  | ret u => exact let ⟨v, σ, H, J, r, q⟩ := h; ⟨v, σ, H, ok J, r, q⟩
  | next => exact let ⟨σ, H, J, q⟩ := h; ⟨σ, H, ok J, q⟩
  | brk => exact let ⟨σ, H, J, q⟩ := h; ⟨σ, H, ok J, q⟩
  | cont => exact let ⟨σ, H, J, q⟩ := h; ⟨σ, H, ok J, q⟩
/-- an end of a suite: its name goes -/
theorem suite_end {pins : List (Addr × Obj)} {D : Ends} {a : Addr} {oe : Obj} {pn : List (Addr × Obj)} {fl : Flow} {s : Shared} {i : Nat} {n : Str} {q2 : Pos} (hN : X.N.Nodup) (at_ : X.N[i]? = some n) (loc : X.env.kindOf n = some .local)
    (un : ∀ {σ H}, Inv (X.suite a ((a, oe) :: pn)) [] σ H s → Inv X pins σ H s)
    (h : SP (X.suite a ((a, oe) :: pn)) [] { nx := fun σ' H' => D.nx (σ'.set i none) H', rt := D.rt, bk := fun σ' H' => D.bk (σ'.set i none) H', ct := fun σ' H' => D.ct (σ'.set i none) H' } fl s) :
    wpAny (model X.prog X.w) X.A (do bindName X.env n .none; unbindBehindTheSuite X.env n q2) (fun _ s7 => SP X pins D fl s7) X.xe s := by
  cases fl with
  | ret u => exact let ⟨v, σ, H, J, r, q⟩ := h; gone_ok (un J) hN at_ loc fun _ J7 => ⟨v, _, H, J7, r, q⟩
  | next => exact let ⟨σ, H, J, q⟩ := h; gone_ok (un J) hN at_ loc fun _ J7 => ⟨_, H, J7, q⟩
  | brk => exact let ⟨σ, H, J, q⟩ := h; gone_ok (un J) hN at_ loc fun _ J7 => ⟨_, H, J7, q⟩
  | cont => exact let ⟨σ, H, J, q⟩ := h; gone_ok (un J) hN at_ loc fun _ J7 => ⟨_, H, J7, q⟩
theorem ps_tryL (hs : X.stack = X.env :: X.outer) (hf : X.env.frame = some X.env.locals) (hN : X.N.Nodup) (tk : Takes X Wz)
    (hb : ∀ (W : WX) (pn : List (Addr × Obj)) (xe : Value → Shared → Prop), Takes (X.tr pn xe) W → PSs (X.tr pn xe) body (tb W))
    (hh : HdA X (hd :: hds) l) : PS X (.Try body (hd :: hds) [] [] pos) (fun D σ H => tb (wAsL X.K Wz D l) D σ H) := by
  refine ⟨fun pins s σ H D I start => wpAny_Try_except ?_⟩
  have ok := I.ok
  have frames : X.A.frames = some (X.env :: X.outer) := ok.frames.trans (by rw [hs])
  have B := (hb (wAsL X.K Wz D l) (X.pn ++ pins) (fun e u1 => wpAny (model X.prog X.w) X.A (noteFrame e X.env) (fun _ u2 => wpAny (model X.prog X.w) X.A (setFlight e none) (fun _ u3 =>
    wpAny (model X.prog X.w) X.A (handleBy e X.env (hd :: hds)) (SP X pins D) X.xe u3) X.xe u2) X.xe u1) (fun v u got => ?_)).run [] s σ H D (I.toTry _) start
  · refine wpAny_mono B (fun fl u e => ?_) fun _ _ z => z
    have e' := body_end (pins := pins) (fun J => J.ofTry ok) e
    cases fl <;> first | exact wpAny_execs_nil e' | exact e'
  · obtain ⟨a, lo, sI, pinsB, σ1, H1, cls, dd, rfl, J0, nb, up, sky0, new, os, ag, wish⟩ := got
    have J := J0.ofTry ok
    have sky : Sky lo (X.env :: X.outer) a (Zc cls dd) X.env.locals u.heap := hs ▸ sky0
    change wpAny (model X.prog X.w) X.A (noteFrame (.ref a) X.env) _ _ _
    refine Sky.land Zc.steady frames hf sky fun m air um => ?_
    have JM : Inv X pins σ1 H1 { u with heap := m } := J.landed nb air.1 (up.trans um) os ag
    obtain ⟨eo, fv, look, zc, fields⟩ := air.there
    have off : a ∉ frs (X.env :: X.outer) := fun z => by
      obtain ⟨_, o2, l2, no2⟩ := air.2.2.1.mem z
      have : o2 = eo := Option.some.inj (l2.symm.trans look)
      exact no2 _ (this ▸ fields)
    have offL : a ≠ X.env.locals := fun z => off (List.mem_filterMap.mpr ⟨X.env, List.mem_cons_self, z ▸ hf⟩)
    have offF : a ∉ X.fs := fun z => let ⟨e, k1, k2⟩ := List.mem_filterMap.mp z; off (List.mem_filterMap.mpr ⟨e, List.mem_cons_of_mem _ k1, k2⟩)
    have In := JM.suite look fields new offL offF
    suffices all : ∀ {hs' : List ExceptHandler} {l' : List ClsH}, HdA X hs' l' → wAsL X.K Wz D l' cls dd σ1 H1 → wpAny (model X.prog X.w) X.A (handleBy (.ref a) X.env hs') (SP X pins D) X.xe { u with heap := m } from all hh wish
    intro hs' l' k
    induction k with
    | none =>
      intro z
      obtain ⟨_, _, _, oe, vs, T, oT, _, at1, _, at2, at3, _⟩ := id air
      refine wpAny_handleBy_nil ?_
      unfold PySem.passOn
      refine wpAny_bind (wpAny_field at1 at2 at3 ?_)
      rw [if_neg (by simp : ¬ ((Value.ref T == Value.none) = true))]
      have out : wpAny (model X.prog X.w) X.A (setFlight (.ref a) X.env.frame) (fun _ u4 => wpAny (model X.prog X.w) X.A (throw (.ref a) : Sem Flow) (SP X pins D) X.xe u4) X.xe { u with heap := m } := by
        rw [hf]
        exact HandSPX.setFlight_upZ air fun _ sk u4 => wpAny_throw (tk _ _ ⟨a, lo, sI, pins, σ1, H1, cls, dd, rfl, J, nb, (up.trans um).trans u4, .inr (.inr (hs.symm ▸ sk)), new, os, ag, z⟩)
      first
        | exact wpAny_bind out
        | exact wpAny_bind (wpAny_pure (wpAny_bind out))
    | @next x n c i ts st su q1 q2 hs2 l2 at_ loc nm run more ih =>
      rintro ⟨yes, test, h1, h2⟩
      have ty : PySem.W.Looks (model X.prog X.w) m (typeOf (.ref a)) cls := fun A Q E s' k q => wpAny_typeOf_ref (k _ _ look) (zc.1.symm ▸ q)
      have asks := PySem.W.exm_one (M := model X.prog X.w) JM.kIn ty test
      have names : ∀ {Q : Value → Shared → Prop} {E : Value → Shared → Prop}, Q c { u with heap := m } → wpAny (model X.prog X.w) (X.A.mark (some (.ref a))) (eval (.Name x q1) X.env) Q E { u with heap := m } := fun q => by
        rcases nm with ⟨g1, g2, g3 | ⟨g3, g4, g5⟩⟩
        · exact ld_glob (X := X.suite a ((a, eo) :: (X.pn ++ pins))) In g1 g3 q g2
        · exact ld_blt (X := X.suite a ((a, eo) :: (X.pn ++ pins))) In g1 g3 g4 q g5 g2
      refine wpAny_handleBy_cons (codeAny_handlers_test (names (asks.here ?_))) (fun z => nomatch z)
      cases yes with
      | false => exact ih (h2 rfl)
      | true =>
        refine codeAny_handlers_suite_as (HandSPX.lands_againZ air fun m2 air2 um2 => ?_)
        obtain ⟨eo2, _, look2, zc2, fields2⟩ := air2.there
        have JN : Inv X pins σ1 H1 { u with heap := m2 } := J.landed nb air2.1 ((up.trans um).trans um2) os ag
        have In2 := JN.suite look2 fields2 new offL offF
        refine store_ok (X := X.suite a ((a, eo2) :: (X.pn ++ pins))) (v := .ref a) In2 hN at_ (.inl loc) rfl (fun u5 In5 => ?_) (.inr loc)
        exact wpAny_mono ((run a eo2 cls dd (X.pn ++ pins) zc2 ⟨_, fields2⟩).run [] u5 _ H1 _ In5 (h1 rfl a new)) (fun fl u6 e => suite_end hN at_ loc (fun z => z.unsuite ok) e) fun _ _ z => z.elim
end
end DL

set_option Elab.async false
set_option linter.all false
set_option maxRecDepth 100000
set_option maxHeartbeats 1000000
namespace DL
open PySem PySem.Spec L2 PyProof.Rows L2H
/-! ### suites of except clauses: what they read of the exception -/
structure HasX (K : PySem.W.Frag) (g : G) (i : Nat) (a dx : Addr) (c : Nat) (d : D) (env : En) (σ : L2.St) (Hf H : Hp) : Prop where
  at_ : σ[i]? = some (some (.ref a))
  fd : ∃ fs v, H dx = some (.xd fs) ∧ fs.lookup (xfT c) = some v ∧ Rep K g Hf d v
  nf : Hf dx = none
  no : ¬ Own env σ dx
theorem HasX.step {K : PySem.W.Frag} {g : G} {i : Nat} {a dx : Addr} {c : Nat} {d : D} {env env' : En} {σ : L2.St} {Hf H Hf' H' : Hp} (h : HasX K g i a dx c d env σ Hf H) (s : Step K g env σ Hf H env' σ Hf' H') : HasX K g i a dx c d env' σ Hf' H' := by
  obtain ⟨fs, v, h1, h2, h3⟩ := h.fd
  obtain ⟨k1, k2⟩ := s.kp dx _ h1 h.nf h.no
  refine ⟨h.at_, ⟨fs, v, k1, h2, h3.mono s.f⟩, k2, fun o => ?_⟩
  rcases s.ow dx o with q | q
  · exact h.no q
  · rw [h1] at q; cases q
def EvN (K : PySem.W.Frag) (g : G) (W : WX) (i : Nat) (a dx : Addr) (c : Nat) (d : D) (te : TE) (m : M D) : Prop := ∀ env σ Hf H, SR K g env σ Hf H → HasX K g i a dx c d env σ Hf H → ∀ Q : VK, Aft K g W env σ Hf H (m env) (fun z _ Hf' H' => ∀ v, Rep K g Hf' z v → Q v H') → te σ H Q
def EvNL (K : PySem.W.Frag) (g : G) (W : WX) (i : Nat) (a dx : Addr) (c : Nat) (d : D) (ta : TA) (m : M (List D)) : Prop := ∀ env σ Hf H, SR K g env σ Hf H → HasX K g i a dx c d env σ Hf H → ∀ Q : List V → Hp → Prop, Aft K g W env σ Hf H (m env) (fun z _ Hf' H' => ∀ vs, Reps K g Hf' z vs → Q vs H') → ta σ H Q
def PEN (X : Cx) (g : G) (W : WX) (i c : Nat) (e : Expr) (m : D → M D) : Prop := ∀ (a dx : Addr) (oe : Obj) (pn : List (Addr × Obj)), Zc (.ref (g.xl c)) (some dx) oe → (∃ vs, oe.data = .fields vs) →
  ∃ te, PE (X.suite a ((a, oe) :: pn)) e te ∧ ∀ d, EvN X.K g W i a dx c d te (m d)
def PAN (X : Cx) (g : G) (W : WX) (i c : Nat) (es : List Expr) (m : D → M (List D)) : Prop := ∀ (a dx : Addr) (oe : Obj) (pn : List (Addr × Obj)), Zc (.ref (g.xl c)) (some dx) oe → (∃ vs, oe.data = .fields vs) →
  ∃ ta, PA (X.suite a ((a, oe) :: pn)) es ta ∧ ∀ d, EvNL X.K g W i a dx c d ta (m d)
def PSN (X : Cx) (g : G) (i c : Nat) (st : List Stmt) (m : D → S) : Prop := ∀ (a dx : Addr) (oe : Obj) (pn : List (Addr × Obj)), Zc (.ref (g.xl c)) (some dx) oe → (∃ vs, oe.data = .fields vs) →
  ∃ t, PSs (X.suite a ((a, oe) :: pn)) st t ∧ ∀ d env σ Hf H, SR X.K g env σ Hf H → HasX X.K g i a dx c d env σ Hf H → ∀ Z : Ends, Out X.K g WF env σ Hf H (m d env) Z → t Z σ H
/-- repr, a text -/
def rp1 (x : D) : Option D := match reprE [x] with
  | some (.str r) => some (.str r)
  | _ => none
def onlyB (r : Rs D) : Rs D := match r with
  | .ok (.bl b) e => .ok (.bl b) e
  | _ => .bad
/-- own == whose answer is a bool -/
def ownEq (kc : Nat) (cs : List Nat) (F : Fm) (x y : D) : M D := match x with
  | .ins k ds => if k = kc ∧ okE cs y = true then (fun env => onlyB (callA F [.ins k ds, y] env)) else fun _ => .bad
  | _ => fun _ => .bad
section
variable {X : Cx} {g : G} {W : WX} {B : Addr} {c i j j' k kc : Nat} {cs : List Nat} {F : Fm} {x n y : Str} {e e1 e2 e3 t : Expr} {es : List Expr} {m m1 m2 : D → M D} {ms : D → M (List D)} {m0 : M D} {mt : M Bool} {q2 q3 q4 q5 q6 q10 q11 pos p1 apos cpos : Pos}
theorem n_of (h : ∀ (a : Addr) (oe : Obj) (pn : List (Addr × Obj)), PEM (X.suite a ((a, oe) :: pn)) g W e m0) : PEN X g W i c e (fun _ => m0) := fun a dx oe pn _ _ => by
  obtain ⟨te, h1, h2⟩ := h a oe pn
  exact ⟨te, h1, fun d env σ Hf H s _ => h2 env σ Hf H s⟩
theorem n_val (b : ExB X.prog X.w X.K X.mg X.base g x c B) (hN : X.N[i]? = some n) (hv : Vis X.env.scope n) (hn1 : (n == ("__debug__" : Str)) = false) (hn2 : (n == ("__classdict__" : Str)) = false)
    (hab : attributeBase (.Name n q3) (xfT c) X.env (eval (.Name n q3) X.env) = eval (.Name n q3) X.env) : PEN X g W i c (.Attribute (.Name n q3) (xfT c) q4) (fun d => ret d) := fun a dx oe pn hz hf => by
  obtain ⟨⟨fI, fd, T, _, _⟩, hm⟩ := b
  refine ⟨_, pe_xf T.xf T.no hz hf (pe_var hN hv hn1 hn2) hab, fun d env σ Hf H s hx Q h => ?_⟩
  obtain ⟨fs, v, h1, h2, h3⟩ := hx.fd
  exact ⟨_, hx.at_, rfl, rfl, dx, fs, v, rfl, h1, h2, Aft.ret s h v h3⟩
theorem n_isi (b : ExB X.prog X.w X.K X.mg X.base g x c B) (h3 : ∀ (C fI dd a : Addr) (oe : Obj) (pn : List (Addr × Obj)), XcF X.K C B fI (xfT c) → Zc (.ref C) (some dd) oe → (∃ vs, oe.data = .fields vs) → PE (X.suite a ((a, oe) :: pn)) e3 (t3 i a dd)) :
    PEN X g W i c e3 (fun _ => ret (.bl true)) := fun a dx oe pn hz hf => by
  obtain ⟨⟨fI, fd, T, _, _⟩, hm⟩ := b
  refine ⟨_, h3 _ _ dx a oe pn T hz hf, fun d env σ Hf H s hx Q h => ?_⟩
  obtain ⟨fs, v, h1, _, _⟩ := hx.fd
  exact ⟨hx.at_, ⟨fs, h1⟩, Aft.ret s h _ (.bl true)⟩
theorem n_repr (nog : NoG X.A) (hr : Room j X.A) (hrp : X.mg "repr" = none) (grp : Gl X "repr") (h : PEN X g W i c e1 m) (he1 : starEach [e1] X.env = (false, eval e1 X.env) :: starEach [] X.env) (hpl1 : (backTo q5 (starEach [] X.env)).any (·.1) = false) :
    PEN X g W i c (.Call (.Name "repr" q2) [e1] [] q5) (fun d => bnd (m d) fun x => lft (rp1 x)) := fun a dx oe pn hz hf => by
  obtain ⟨te, h1, h2⟩ := h a dx oe pn hz hf
  refine ⟨_, pe_callB (call_repr_0U (X := X.suite a ((a, oe) :: pn)) nog (by have := hr.un; show X.A.units + 100 < cLine; omega)) grp hrp (by rfl) (pa_cons h1 pa_nil he1) (by decide) (by decide) he1 hpl1, fun d env σ Hf H s hx Q q => ?_⟩
  refine h2 d env σ Hf H s hx _ (q.bnd.imp fun z e' Hf1 H1 _ s1 q1 v r => ?_)
  obtain ⟨u, hu, q2⟩ := Aft.lft s1.sr q1
  unfold rp1 at hu
  split at hu
  · rename_i rr hrr
    cases hu
    exact reprE_some s1.sr.ex r hrr rr rfl _ (q2 Hf1 H1 (Grow.refl s1.sr.ex) _ (.str rr))
  · cases hu
theorem n_op {op : CmpOp} {r : R2} {f : D → D → Option D} (ho : ∀ (a : Addr) (oe : Obj) (pn : List (Addr × Obj)), OpR (X.suite a ((a, oe) :: pn)) (compareOp op) r) (hr : RvOk X.K g r f) (ha : PEN X g W i c e1 m1) (hb : PEN X g W i c e2 m2) (hm : behindInMarks op e2 = false) :
    PEN X g W i c (.Compare e1 [op] [e2] pos) (fun d => bnd (m1 d) fun x => bnd (m2 d) fun y => lft (f x y)) := fun a dx oe pn hz hf => by
  obtain ⟨ta, h1, h2⟩ := ha a dx oe pn hz hf
  obtain ⟨tb, h3, h4⟩ := hb a dx oe pn hz hf
  refine ⟨_, pe_cmpR (ho a oe pn) h1 h3 hm, fun d env σ Hf H s hx Q q => ?_⟩
  refine h2 d env σ Hf H s hx _ (q.bnd.imp fun x e1 Hf1 H1 _ s1 q1 v r1 => h4 d e1 σ Hf1 H1 s1.sr (hx.step s1) _ (q1.bnd.imp fun y e2 Hf2 H2 _ s2 q2 w r2 => ?_))
  obtain ⟨z, hz, k⟩ := Aft.lft s2.sr q2
  refine hr Hf2 H2 v w x y Q s2.sr.ex (r1.mono s2.f) r2 ?_
  rw [hz]
  exact fun v Hf' H' w r => k Hf' H' w v r
theorem n_eq (hr : Room j X.A) (ha : PEN X g W i c e1 m1) (hb : PEN X g W i c e2 m2) : PEN X g W i c (.Compare e1 [.Eq] [e2] pos) (fun d => bnd (m1 d) fun x => bnd (m2 d) fun y => lft (eqD x y)) :=
  n_op (fun a oe pn => op_eqD (X := X.suite a ((a, oe) :: pn)) (by have := hr.un; show X.A.units + 64 < cLine; omega)) rv_eq ha hb (nomark _)
theorem n_eqO (S : SubF X.K g cs) (hc : cs.contains kc = true) (O : OprC X.prog X.w X.K X.mg X.base g kc "__eq__" 2 F k) (hr : Room j' X.A) (hk : k ≤ j') (ha : PEN X g WF i c e1 m1) (hb : PEN X g WF i c e2 m2) :
    PEN X g WF i c (.Compare e1 [.Eq] [e2] pos) (fun d => bnd (m1 d) fun x => bnd (m2 d) fun y => ownEq kc cs F x y) := fun a dx oe pn hz hf => by
  obtain ⟨ta, h1, h2⟩ := ha a dx oe pn hz hf
  obtain ⟨tb, h3, h4⟩ := hb a dx oe pn hz hf
  have rh : RoomH k (X.suite a ((a, oe) :: pn)).A := ⟨(hr.mono hk).dp, (hr.mono hk).un⟩
  refine ⟨_, pe_cmpR (op_ownC (X := X.suite a ((a, oe) :: pn)) S hc O rh ⟨_, List.mem_cons_self⟩) h1 h3 (nomark _), fun d env σ Hf H s hx Q q => ?_⟩
  refine h2 d env σ Hf H s hx _ (q.bnd.imp fun x e1 Hf1 H1 _ s1 q1 v r1 => h4 d e1 σ Hf1 H1 s1.sr (hx.step s1) _ (q1.bnd.imp fun y e2 Hf2 H2 _ s2 q2 w r2 => ?_))
  have r1' := r1.mono s2.f
  have r1'' := r1'
  unfold ownEq at q2
  cases r1' with
  | @ins a0 dx0 k0 ds vs hx0 hvv hll okc =>
    dsimp only at q2
    split at q2
    · rename_i okk
      obtain ⟨rfl, ok⟩ := okk
      refine ⟨a0, dx0, _, rfl, s2.sr.ex _ _ hx0, right_of s2.sr.ex r2 ok, ?_⟩
      refine spD_A (dfl := []) (env := e2) s2.sr (.cons r1'' (.cons r2 .nil)) ?_
      rw [List.append_nil]
      change Aft X.K g WF e2 σ Hf2 H2 (onlyB (callA F [.ins k0 ds, y] e2)) _ at q2
      revert q2
      cases callA F [.ins k0 ds, y] e2 with
      | bad => exact fun h => False.elim h
      | ex c2 d2 e' => exact fun h => False.elim h
      | ok z e' =>
        cases z <;> first
          | exact fun h => False.elim h
          | exact fun h Hf3 H3 s3 v3 r3 => by
              cases r3
              exact ⟨_, rfl, h Hf3 H3 s3 _ (.bl _)⟩
    · exact q2.elim
  | _ => exact q2.elim
theorem n_if (ht : ∀ (a : Addr) (oe : Obj) (pn : List (Addr × Obj)), PTM (X.suite a ((a, oe) :: pn)) g W t mt) (ha : PEN X g W i c e1 m1) (hb : PEN X g W i c e2 m2) : PEN X g W i c (.IfExp t e1 e2 pos) (fun d => mIf mt (m1 d) (m2 d)) := fun a dx oe pn hz hf => by
  obtain ⟨tt, h5, h6⟩ := ht a oe pn
  obtain ⟨ta, h1, h2⟩ := ha a dx oe pn hz hf
  obtain ⟨tb, h3, h4⟩ := hb a dx oe pn hz hf
  refine ⟨_, pe_ifExp h5 h1 h3, fun d env σ Hf H s hx Q q => h6 env σ Hf H s _ (q.bnd.imp fun x e1 Hf1 H1 _ s1 q1 => ?_)⟩
  cases x with
  | true => exact h2 d e1 σ Hf1 H1 s1.sr (hx.step s1) Q q1
  | false => exact h4 d e1 σ Hf1 H1 s1.sr (hx.step s1) Q q1
theorem na_nil : PAN X g W i c [] (fun _ => mNil) := fun a dx oe pn _ _ => ⟨_, pa_nil, fun d env σ Hf H s _ => ev_nil env σ Hf H s⟩
theorem na_cons (ha : PEN X g W i c e m) (hb : PAN X g W i c es ms) (hs : starEach (e :: es) X.env = (false, eval e X.env) :: starEach es X.env := by rfl) : PAN X g W i c (e :: es) (fun d => mCons (m d) (ms d)) := fun a dx oe pn hz hf => by
  obtain ⟨ta, h1, h2⟩ := ha a dx oe pn hz hf
  obtain ⟨tb, h3, h4⟩ := hb a dx oe pn hz hf
  refine ⟨_, pa_cons h1 h3 hs, fun d env σ Hf H s hx Q q => ?_⟩
  exact h2 d env σ Hf H s hx _ (q.bnd.imp fun x e1 Hf1 H1 _ s1 q1 v r1 => h4 d e1 σ Hf1 H1 s1.sr (hx.step s1) _ (q1.bnd.imp fun y e2 Hf2 H2 _ s2 q2 vs r2 => Aft.ret s2.sr q2 _ (.cons (r1.mono s2.f) r2)))
theorem n_lst (h : PAN X g W i c es ms) : PEN X g W i c (.List es pos) (fun d => mLst (ms d)) := fun a dx oe pn hz hf => by
  obtain ⟨ta, h1, h2⟩ := h a dx oe pn hz hf
  refine ⟨_, pe_lst h1, fun d env σ Hf H s hx Q q => h2 d env σ Hf H s hx _ (q.bnd.imp fun ds e1 Hf1 H1 _ s1 q1 vs r1 => ?_)⟩
  obtain ⟨z, k⟩ := lft_if s1.sr q1
  refine ⟨by rw [← r1.len]; exact small_le z, fun p hp => ?_⟩
  obtain ⟨gw, r⟩ := new_lst s1.sr.ex hp r1
  exact k _ _ gw _ r
theorem ns_ret (h : PEN X g WF i c e m) : PSN X g i c [.Return (some e) pos] (fun d => sRet (m d)) := fun a dx oe pn hz hf => by
  obtain ⟨te, h1, h2⟩ := h a dx oe pn hz hf
  exact ⟨_, pss_one (ps_ret h1), fun d env σ Hf H s hx Z q => h2 d env σ Hf H s hx _ (q.bnd.imp fun z e1 Hf1 H1 _ s1 q1 v r => q1 σ Hf1 H1 (Step.refl s1.sr) v r)⟩
end
end DL

set_option Elab.async false
set_option linter.all false
set_option maxRecDepth 100000
set_option maxHeartbeats 1000000
namespace DL
open PySem PySem.Spec L2 PyProof.Rows L2H
section
variable {X : Cx} {g : G} {W : WX} {B : Addr} {c i j k kc : Nat} {x n y : Str} {e : Expr} {m : D → M D} {p1 apos cpos pos : Pos}
/-- x.append(e), in a suite -/
theorem ns_app (j : Nat) (ha : PEN X g WF i c e m) (hN : X.N[j]? = some x := by rfl) (hv : Vis X.env.scope x := by first | exact Or.inl rfl | exact Or.inr (Or.inl rfl) | exact Or.inr (Or.inr rfl)) (hd : (x == ("__debug__" : Str)) = false := by decide) (hcd : (x == ("__classdict__" : Str)) = false := by decide)
    (hbase : attributeBase (.Name x p1) "append" X.env (eval (.Name x p1) X.env) = eval (.Name x p1) X.env := by rfl)
    (hfew : ((backTo cpos (starEach (e :: []) X.env)).all (fun x => !x.1) && (backToKw cpos (keywordEach [] X.env)).all (fun x => x.1.isSome)
      && decide ((e :: []).length + ([] : List Keyword).length + (if ([] : List Keyword).isEmpty then 0 else 1) < 30)) = true := by rfl)
    (hline : (apos.endLine == cpos.line) = true := by rfl) (hs : starEach (e :: []) X.env = (false, eval e X.env) :: starEach [] X.env := by rfl) (hplain : (backTo cpos (starEach [] X.env)).any (·.1) = false := by rfl)
    (hsw : swapsWith (.Call (.Attribute (.Name x p1) "append" apos) [e] [] cpos) none pos.line X.env = pure false := by rfl) : PSN X g i c [.Expr (.Call (.Attribute (.Name x p1) "append" apos) [e] [] cpos) pos] (fun d => sApp j (m d)) := fun a dx oe pn hz hf => by
  obtain ⟨te, h1, h2⟩ := ha a dx oe pn hz hf
  refine ⟨_, pss_one (ps_expr (pe_bm PySem.F.plainAttrs_list PySem.F.slot_list_append PySem.F.type_list_append mt_append (pe_var (X := X.suite a ((a, oe) :: pn)) hN hv hd hcd) (pa_cons h1 pa_nil hs) hbase hfew hline hs hplain) hsw), fun d env σ Hf H s hx Z h => ?_⟩
  obtain ⟨x0, d0, hx0, mx, h1⟩ := own_okS s h
  obtain ⟨p, u, hp, hu, ru⟩ := s.mut_at hx0 mx
  by_cases cl : isLst d0 = true
  case neg => rw [if_neg cl] at h1; exact h1.elim
  rw [if_pos cl] at h1
  have tyl : ∃ ys, H p = some (.lst ys) := by
    cases ru <;> first | exact ⟨_, hu⟩ | (cases cl; done)
  obtain ⟨ys, hys⟩ := tyl
  refine ⟨_, hp, .inl ⟨rfl, ys, SqL.of hys⟩, h2 d env σ Hf H s hx _ (h1.bnd.imp fun z e1 Hf1 H1 _ s1 h2 v rv => ?_)⟩
  obtain ⟨x1, d1, hx1, mx1, h3⟩ := own_okS s1.sr h2
  obtain ⟨p1, u1, hp1, hu1, ru1⟩ := s1.sr.mut_at hx1 mx1
  rw [hp] at hp1
  cases hp1
  cases ru1 with
  | @lst ds vs r =>
    dsimp only at h3
    by_cases q : small (ds.length + 1) = true
    · rw [if_pos q] at h3
      refine ⟨p, _, v, rfl, rfl, hu1, by rw [← r.len]; exact small_le q, ?_⟩
      exact h3 σ Hf1 _ (step_mut s1.sr hx1 mx1 hp (.lst (r.append (.cons rv .nil))))
    · rw [if_neg q] at h3
      exact h3.elim
  | _ => exact h3.elim
end
/-! ### try, with named clauses, mirrored -/
/-- of the class c: the slot, the suite -/
def selH : List (Nat × Nat × (D → S)) → Nat → Option (Nat × (D → S))
  | [], _ => none
  | q :: r, c => if c = q.1 then some q.2 else selH r c
def isNo : Option Sl → Bool
  | some .no => true
  | _ => false
def endH (i : Nat) (r : Rs Ctl) : Rs Ctl := match r with
  | .ok .nx e => if isNo e[i]? = true then .ok .nx e else .bad
  | .ok (.rt d) e => .ok (.rt d) e
  | _ => .bad
def sTryL (l : List (Nat × Nat × (D → S))) (mb : S) : S := fun env => match mb env with
  | .ex c d e => (match selH l c with
    | some q => if isNo e[q.1]? = true then endH q.1 (q.2 d e) else .bad
    | none => .bad)
  | r => r
def OffL (K : PySem.W.Frag) (g : G) (c : Nat) : List (Nat × Nat × (D → S)) → Prop
  | [] => True
  | q :: r => PySem.W.exmOne K (.ref (g.xl q.1)) (.ref (g.xl c)) = some false ∧ OffL K g c r
theorem OffL.at_ {K : PySem.W.Frag} {g : G} {c0 : Nat} : ∀ {l : List (Nat × Nat × (D → S))} {c : Nat} {p : Nat × (D → S)}, OffL K g c0 l → selH l c = some p → PySem.W.exmOne K (.ref (g.xl c)) (.ref (g.xl c0)) = some false
  | [], _, _, _, h => by cases h
  | q :: r, c, p, h, hs => by
    unfold selH at hs
    by_cases e : c = q.1
    · rw [e]; exact h.1
    · rw [if_neg e] at hs; exact OffL.at_ h.2 hs
inductive HdN (X : Cx) (g : G) : List ExceptHandler → List (Nat × Nat × (D → S)) → Prop
  | nil : HdN X g [] []
  | cons {x n : Str} {c i : Nat} {B : Addr} {st : Stmt} {su : List Stmt} {sm : D → S} {np pos' : Pos} {hs : List ExceptHandler} {l : List (Nat × Nat × (D → S))} (b : ExB X.prog X.w X.K X.mg X.base g x c B) (su_ : PSN X g i c (st :: su) sm) (off : OffL X.K g c l)
      (hi : X.N[i]? = some n) (hln : X.env.kindOf n = some .local) (hg : Gl X x) (hdb : (x == ("__debug__" : Str)) = false) (more : HdN X g hs l) : HdN X g (.ExceptHandler (some (.Name x np)) (some n) (st :: su) pos' :: hs) ((c, i, sm) :: l)
/-- what a clause asks -/
def tsN (K : PySem.W.Frag) (g : G) (i c : Nat) (sm : D → S) : Addr → Value → Option Addr → TS := fun a cls dd Z σ H => ∃ dx d env Hf, cls = .ref (g.xl c) ∧ dd = some dx ∧ SR K g env σ Hf H ∧ HasX K g i a dx c d env σ Hf H ∧ Out K g WF env σ Hf H (sm d env) Z
def clN (K : PySem.W.Frag) (g : G) (q : Nat × Nat × (D → S)) : ClsH := (.ref (g.xl q.1), q.2.1, tsN K g q.2.1 q.1 q.2.2)
theorem HdN.a {X : Cx} {g : G} : ∀ {hs : List ExceptHandler} {l : List (Nat × Nat × (D → S))}, HdN X g hs l → HdA X hs (l.map (clN X.K g))
  | _, _, .nil => .none
  | _, _, .cons b su off hi hln hg hdb more => .next hi hln ⟨hg, hdb, .inl b.gl⟩ (fun a oe cls dd pn hz hf => ⟨fun pins s σ H Z I h => by
      obtain ⟨dx, d, env, Hf, rfl, rfl, sr, hx, o⟩ := h
      obtain ⟨t, h1, h2⟩ := su a dx oe pn hz hf
      exact h1.run pins s σ H Z I (h2 d env σ Hf H sr hx Z o)⟩) more.a
section
variable {K : PySem.W.Frag} {g : G} {W : WX} {env e : En} {σ σ' : L2.St} {Hf H Hf' H' : Hp} {i : Nat}
theorem isNo_eq {o : Option Sl} (h : isNo o = true) : o = some .no := by
  unfold isNo at h
  split at h
  · rfl
  · cases h
/-- a slot that nothing is said of, set -/
theorem step_no (s : SR K g env σ Hf H) (hi : env[i]? = some .no) (x : Option V) : Step K g env σ Hf H env (σ.set i x) Hf H := by
  have ow : ∀ a, Own env (σ.set i x) a → Own env σ a := fun a ⟨j, t, d, h1, h2, h3⟩ => by
    by_cases cj : i = j
    · subst cj
      rw [hi] at h1
      cases h1
      cases h2
    · rw [List.getElem?_set_ne cj] at h3
      exact ⟨j, t, d, h1, h2, h3⟩
  refine ⟨Ex.refl _, ⟨s.ex, by rw [List.length_set]; exact s.len, fun j t o h1 h2 => ?_, fun j l t u d d' p nj h1 h2 m1 m2 h3 => ?_⟩, fun _ _ h h' _ => ⟨h, h'⟩, fun a o => .inl (ow a o), fun _ h => h, fun j d h => ⟨⟨d, h⟩, ?_⟩, rfl⟩
  · by_cases cj : i = j
    · subst cj
      rw [hi] at h1
      cases h1
      trivial
    · rw [List.getElem?_set_ne cj] at h2
      exact s.sl j t o h1 h2
  · have c1 : i ≠ j := fun z => by
      subst z
      rw [hi] at h1
      cases h1
      cases m1
    have c2 : i ≠ l := fun z => by
      subst z
      rw [hi] at h2
      cases h2
      cases m2
    rw [List.getElem?_set_ne c1] at h3
    rw [List.getElem?_set_ne c2]
    exact s.ne j l t u d d' p nj h1 h2 m1 m2 h3
  · have cj : i ≠ j := fun z => by
      subst z
      rw [hi] at h
      cases h
    rw [List.getElem?_set_ne cj]
/-- from the raising on -/
theorem wish_of {X : Cx} {Z : Ends} {c : Nat} {d : D} {dx : Addr} {fs : List (Str × V)} {v : V} (st : Step X.K g env σ Hf H e σ' Hf' H') (r : Rep X.K g Hf' d v) (e1 : H' dx = some (.xd fs)) (e2 : fs.lookup (xfT c) = some v) (e3 : Hf' dx = none) (e4 : ¬ Own e σ' dx) :
    ∀ {hs : List ExceptHandler} {l : List (Nat × Nat × (D → S))}, HdN X g hs l → ∀ p, selH l c = some p → isNo e[p.1]? = true → Out X.K g W env σ Hf H (endH p.1 (p.2 d e)) Z → wAsL X.K W Z (l.map (clN X.K g)) (.ref (g.xl c)) (some dx) σ' H'
  | _, _, .nil, p, h, _, _ => by cases h
  | _, _, @HdN.cons _ _ x n c0 i B st0 su sm np pos' hs l b su_ off hi hln hg hdb more, p, h, hno, ho => by
    unfold selH at h
    by_cases cc : c = c0
    · subst cc
      rw [if_pos rfl] at h
      cases h
      obtain ⟨⟨fI, fd, T, _, _⟩, hm⟩ := b
      refine ⟨true, T.te, fun _ a na => ?_, fun z => nomatch z⟩
      have hno' := isNo_eq hno
      have sn := step_no st.sr hno' (some (.ref a))
      have hlt : i < σ'.length := by
        rw [st.sr.len]
        exact (List.getElem?_eq_some_iff.mp hno').1
      refine ⟨dx, d, e, Hf', rfl, rfl, sn.sr, ⟨List.getElem?_set_self hlt, ⟨fs, v, e1, e2, r⟩, e3, fun o => ?_⟩, ?_⟩
      · rcases sn.ow dx o with q | q
        · exact e4 q
        · rw [e1] at q; cases q
      · dsimp only at ho
        change Out X.K g WF e (σ'.set i (some (.ref a))) Hf' H' (sm d e) { nx := fun σ' H' => Z.nx (σ'.set i none) H', rt := Z.rt, bk := fun σ' H' => Z.bk (σ'.set i none) H', ct := fun σ' H' => Z.ct (σ'.set i none) H' }
        revert ho
        cases sm d e with
        | bad => exact fun h => False.elim h
        | ex _ _ _ => exact fun h => False.elim h
        | ok z e' =>
          cases z with
          | nx =>
            intro ho σ2 Hf2 H2 s2
            unfold endH at ho
            dsimp only at ho
            split at ho
            · rename_i hno2
              exact ho _ Hf2 H2 ((st.trans (sn.trans s2)).trans (step_no s2.sr (isNo_eq hno2) none))
            · exact ho.elim
          | rt z => exact fun ho σ2 Hf2 H2 s2 v2 r2 => ho σ2 Hf2 H2 (st.trans (sn.trans s2)) v2 r2
          | _ => exact fun h => False.elim h
    · rw [if_neg cc] at h
      refine ⟨false, off.at_ h, ?_, ?_⟩
      · intro z
        cases z
      intro _
      exact wish_of st r e1 e2 e3 e4 more p h hno ho
end
section
variable {X : Cx} {g : G} {W : WX} {body : List Stmt} {mb : S} {hd : ExceptHandler} {hds : List ExceptHandler} {l : List (Nat × Nat × (D → S))} {pos : Pos}
theorem s_tryL (tk : Takes X W) (hN : X.N.Nodup) (hs : X.stack = X.env :: X.outer) (hf : X.env.frame = some X.env.locals)
    (hb : ∀ (W : WX) (pn : List (Addr × Obj)) (xe : Value → Shared → Prop), Takes (X.tr pn xe) W → PSsM (X.tr pn xe) g W body mb) (hh : HdN X g (hd :: hds) l) : PSM X g W (.Try body (hd :: hds) [] [] pos) (sTryL l mb) := by
  refine ⟨_, ps_tryL (tb := fun W' D σ H => ∃ env Hf, SR X.K g env σ Hf H ∧ Out X.K g W' env σ Hf H (mb env) D) hs hf hN tk (fun W' pn xe tk' => ?_) hh.a, ?_⟩
  · obtain ⟨t, h1, h2⟩ := hb W' pn xe tk'
    exact ⟨fun pins s σ H D I h => by
      obtain ⟨env, Hf, sr, o⟩ := h
      exact h1.run pins s σ H D I (h2 env σ Hf H sr D o)⟩
  · intro env σ Hf H sr Z h
    refine ⟨env, Hf, sr, ?_⟩
    unfold sTryL at h
    revert h
    cases mb env with
    | bad => exact fun h => h
    | ok x e => cases x <;> exact fun h => h
    | ex c d e =>
      intro h dx v fs σ' Hf' H' st r e1 e2 e3 e4 e5
      dsimp only at h
      split at h
      · rename_i p hp
        split at h
        · rename_i hno
          exact wish_of st r e1 e2 e3 e4 hh p hp hno h
        · exact h.elim
      · exact h.elim
end
end DL

set_option Elab.async false
set_option linter.all false
set_option maxRecDepth 100000
set_option maxHeartbeats 1000000
namespace DL
open PySem PySem.Spec L2 PyProof.Rows L2H
/-- == of data, as a test in a suite -/
theorem ts_eq {X : Cx} {g : G} {W : WX} {j : Nat} {e1 e2 : Expr} {m1 m2 : M D} {pos : Pos} (hr : Room j X.A) (h1 : ∀ (a : Addr) (oe : Obj) (pn : List (Addr × Obj)), PEM (X.suite a ((a, oe) :: pn)) g W e1 m1) (h2 : ∀ (a : Addr) (oe : Obj) (pn : List (Addr × Obj)), PEM (X.suite a ((a, oe) :: pn)) g W e2 m2) :
    ∀ (a : Addr) (oe : Obj) (pn : List (Addr × Obj)), PTM (X.suite a ((a, oe) :: pn)) g W (.Compare e1 [.Eq] [e2] pos) (mB (mBin eqD m1 m2)) := fun a oe pn =>
  t_cmp (op_eqD (X := X.suite a ((a, oe) :: pn)) (by have := hr.un; show X.A.units + 64 < cLine; omega)) rv_eq (h1 a oe pn) (h2 a oe pn) (nomark _)
end DL

set_option Elab.async false
set_option linter.all false
set_option maxRecDepth 100000
set_option maxHeartbeats 1000000
namespace DL
open PySem PySem.Spec L2 PyProof.Rows L2H
section
variable {X : Cx} {g : G} {W : WX} {j k c np : Nat} {L : List (Nat × Fm)} {F : Fm} {dfl : List D} {x m : Str} {a b e : Expr} {es : List Expr} {ma mb : M D} {ms : M (List D)} {p1 pos apos : Pos} {pl : Sem Bool}
/-- x[i], own x, its exceptions to the place -/
theorem m_ixSX (hL : AllO X.prog X.w X.K X.mg X.base g 1 j "__getitem__" 2 L) (hr : Room j X.A) (tk : Takes X W) (ha : PEM X g W a ma) (hb : PEM X g W b mb) (hs : PlainIx b := by exact fun _ _ => rfl)
    (hs2 : ∀ (o : Addr) i, subscripted b true (.ref o) i = runValue (.builtin "lifetime.subscript" ⟨[.ref o, i], []⟩) := by exact fun _ _ => by with_unfolding_all rfl) : PEM X g W (.Subscript a b pos) (mSubO L ma mb) := by
  obtain ⟨ta, h1, h2⟩ := ha
  obtain ⟨tb, h3, h4⟩ := hb
  exact ⟨_, pe_ixS ix_seq hL hr tk h1 h3 hs hs2, (rv_ixS rv_ix).ev h2 h4⟩
theorem run_fnRS {E : XK} {pins : List (Addr × Obj)} {σ : L2.St} {H : Hp} {s : Shared} {f : Addr} {us : List Value} {vs : List V} {Q : VK} {sp : Sp} (Fn : FnR X.prog X.w X.K X.mg X.base (L2.CX X.prog X.w) k f sp) (hr : Room k X.A) (hx : PassesAt (L2.CX X.prog X.w) X σ E)
    (I : Inv X pins σ H s) (r : Vals vs us) (h : sp vs H Q E) : codeAny (model X.prog X.w) X.A (.call (.ref f) ⟨us, []⟩) (fun z s' => match z with
      | .ok (.ret v) => EP X pins σ Q v s'
      | .ok _ => False
      | .error e => X.xe e s') s := by
  refine codeAny_mono (Fn X.A X.stack s H us vs Q E hr I.env0 r h) fun z s' hq => ?_
  cases z with
  | error e => exact hx pins H s e s' I hq
  | ok fl => cases fl <;> first | exact I.after hq | exact False.elim hq
/-- C.m(..), a classmethod, its exceptions to the place -/
def tCmeS (C : Addr) (sp : Sp) (W : WX) (t : TA) : TE := fun σ H Q => t σ H fun vs H2 => sp (.ref C :: vs) H2 Q (WE W σ)
theorem m_cmeS (d : Cme X.prog X.w X.K X.mg X.base g x c m F k dfl) (hr : Room j X.A) (tk : Takes X W) (ha : PAM X g W (e :: es) ms) (hk : k ≤ j := by decide) (hg : Gl X x := by rfl) (hdb : (x == ("__debug__" : Str)) = false := by decide)
    (hst : starEach (e :: es) X.env = (false, eval e X.env) :: starEach es X.env := by rfl) (hpl : (backTo pos (starEach es X.env)).any (·.1) = false := by rfl)
    (ht : eval (.Call (.Attribute (.Name x p1) m apos) (e :: es) [] pos) X.env = (do
      let ov ← eval (.Name x p1) X.env
      standAt apos.atName
      let (f, first) ← holding [ov] (getMethod ov m pl)
      callWith pos f first (backTo pos (starEach (e :: es) X.env)) (backToKw pos (keywordEach [] X.env))) := by rfl) : PEM X g W (.Call (.Attribute (.Name x p1) m apos) (e :: es) [] pos) (mCme F c dfl ms) := by
  obtain ⟨t, h1, h2⟩ := ha
  obtain ⟨⟨f, fd, ps, dvs, ds, np, p, mc, F1, cr, cm, b, v, rp, ar⟩, hm⟩ := d
  refine ⟨tCmeS (g.cl c) (fun vs H Q E => spM X.K g np F (vs ++ dvs) H Q E) W t, ⟨fun pins s σ H Q I h => ?_⟩, fun env σ Hf H s Q h => h2 env σ Hf H s _ (h.bnd.imp fun zs e1 Hf1 H1 _ s1 q ws rw' => spAS (ds := .cls c :: (zs ++ dfl)) ar s1.sr (.cons (.cls c) (rw'.append (rp Hf1))) q)⟩
  refine PySem.W.methodCall_KW (pl := pl) (thn ((pe_glob hg hm (v := .ref (g.cl c)) rfl hdb).run pins s σ H (fun z H1 => z = .ref (g.cl c) ∧ tCmeS (g.cl c) (fun vs H Q E => spM X.K g np F (vs ++ dvs) H Q E) W t σ H1 Q) I ⟨rfl, h⟩) fun u s1 ⟨z, H1, J1, rz, ez, q⟩ => ?_) ht
  subst ez
  cases (show u = Value.ref (g.cl c) from rz)
  refine ClX.getmethcm_ok J1 cr cm fun s2 J2 => ?_
  refine ClX.callwith_cm J2 (ClX.base_none J1 (Nat.le_refl _)) cm.fi (thn (h1.run pos _ s2 σ H1 _ J2 q) fun us s3 ⟨vs, H2, J3, rv, q2⟩ => ⟨⟨ClX.pin_at J3, J3.kIn⟩, ?_⟩) hst hpl
  exact thn (wpAny_call (PySem.W.method_call (ClX.pin_at J3) (run_fnRS (us := .ref (g.cl c) :: us) (vs := .ref (g.cl c) :: vs) (F1.raw b v) (hr.mono hk) (passAt tk σ) J3 (.cons rfl rv) q2))) fun _ _ y => ClX.unpinE y
end
end DL

set_option Elab.async false
set_option linter.all false
set_option maxRecDepth 100000
set_option maxHeartbeats 400000
namespace DL
open PySem L2
/-! ### mirrors, evaluated -/
def np : Sl → Bool
  | .pn _ => false
  | _ => true
def cm : Sl → Bool
  | .sh _ => true
  | .no => true
  | _ => false
def npAt (env : En) (i : Nat) : Bool := match env[i]? with
  | some y => np y
  | none => false
theorem sto_np (i : Nat) (x : Sl) (env : En) : sto i x env = if npAt env i = true then .ok .nx (env.set i x) else .bad := by
  unfold sto npAt
  cases env[i]? with
  | none => simp
  | some y => cases y <;> simp [np]
theorem stE_np (i : Nat) (x : Sl) (env : En) : stE i x env = if npAt env i = true then some (env.set i x) else none := by
  unfold stE npAt
  cases env[i]? with
  | none => simp
  | some y => cases y <;> simp [np]
theorem calmS_cm (y : Sl) : calmS (some y) = cm y := by cases y <;> rfl
theorem np_sh (d : D) : np (.sh d) = true := rfl
theorem np_ow (d : D) : np (.ow d) = true := rfl
theorem np_no : np .no = true := rfl
theorem cm_sh (d : D) : cm (.sh d) = true := rfl
theorem cm_no : cm .no = true := rfl
theorem full_lst (xs : List D) : full (.lst xs) = true := rfl
theorem full_ins (c : Nat) (xs : List D) : full (.ins c xs) = (xs.length == nmN c) := rfl
theorem loop_nx {t : Tg} {b : S} {d : D} {ds : List D} {env e1 e2 : En} (h1 : t d env = some e1) (h2 : b e1 = .ok .nx e2) : sLoop t b (d :: ds) env = sLoop t b ds e2 := by
  simp only [sLoop, h1, h2]
theorem for_ok {mi : M (List D)} {t : Tg} {b : S} {env e1 e2 : En} {ds : List D} (h1 : mi env = .ok ds e1) (h2 : sLoop t b ds e1 = .ok .nx e2) : sFor mi t b env = .ok .nx e2 := by
  simp only [sFor, DL.bnd, h1, h2]
theorem seq_nx {a b : S} {env e1 : En} (h1 : a env = .ok .nx e1) : sSeq a b env = b e1 := by
  simp only [sSeq, h1]
theorem fn_rt {k n : Nat} {b : S} {args : En} {d : D} {e args' : En} (hl : args.length = k) (h : b (args ++ List.replicate (n - k) .no) = .ok (.rt d) e) (ht : e.take k = args') : fnM k n (nox b) args = .ok (.rt d) args' := by
  subst hl
  simp only [fnM, DL.run, DL.nox, if_true, h, ht]
theorem fn_rto {k n : Nat} {b : S} {args : En} {d : D} {e args' : En} (hl : args.length = k) (h : b (args ++ List.replicate (n - k) .no) = .ok (.rto d) e) (ht : e.take k = args') : fnM k n (nox b) args = .ok (.rto d) args' := by
  subst hl
  simp only [fnM, DL.run, DL.nox, if_true, h, ht]
theorem fn_nx {k n : Nat} {b : S} {args : En} {e args' : En} (hl : args.length = k) (h : b (args ++ List.replicate (n - k) .no) = .ok .nx e) (ht : e.take k = args') : fnM k n (nox b) args = .ok (.rt .non) args' := by
  subst hl
  simp only [fnM, DL.run, DL.nox, if_true, h, ht]
/-! a comprehension over a pure item -/
theorem lc_pure {v : Nat} {m : M D} {env : En} {f : D → D} (hv : env[v]? = some .no) : ∀ (ds acc : List D), (∀ d ∈ ds, m (env.set v (.sh d)) = .ok (f d) (env.set v (.sh d))) → lcLoop (tgName v) (ret true) m [v] ds acc env = .ok (acc ++ ds.map f) env
  | [], acc, _ => by simp [lcLoop, DL.ret]
  | d :: ds, acc, h => by
    have hlt : v < env.length := (List.getElem?_eq_some_iff.mp hv).1
    have h1 : tgName v d env = some (env.set v (.sh d)) := by
      simp [tgName, stE, hv]
    have h2 := h d List.mem_cons_self
    have h3 : calmE (env.set v (.sh d)) [v] = true := by
      simp [calmE, List.getElem?_set_self hlt, calmS]
    have h4 : wpE (env.set v (.sh d)) [v] = env := by
      simp only [wpE, List.set_set]
      rw [List.getElem?_eq_getElem hlt] at hv
      rw [← Option.some.inj hv, List.set_getElem_self]
    have ih := lc_pure (m := m) (f := f) hv ds (acc ++ [f d]) fun d' hd => h d' (List.mem_cons_of_mem _ hd)
    simp only [lcLoop, h1, DL.bnd, DL.ret, if_true, h2, h3, h4, ih, List.map_cons, List.append_assoc, List.singleton_append]
theorem mLc_pure {v : Nat} {mi : M (List D)} {m : M D} {env : En} {f : D → D} {ds : List D} {y : Sl} (hmi : mi env = .ok ds env) (hv : env[v]? = some y) (hc : cm y = true) (hs : small ds.length = true) (hm : ∀ d ∈ ds, m (env.set v (.sh d)) = .ok (f d) (env.set v (.sh d))) :
    mLc mi (tgName v) (ret true) m [v] env = .ok (.lst (ds.map f)) env := by
  have hlt : v < env.length := (List.getElem?_eq_some_iff.mp hv).1
  have c1 : calmE env [v] = true := by
    simp only [calmE, List.all_cons, List.all_nil, Bool.and_true, hv, calmS_cm, hc]
  have h := lc_pure (v := v) (m := m) (env := env.set v .no) (f := f) (List.getElem?_set_self hlt) ds [] (by simpa using hm)
  have h4 : rsE (env.set v .no) env [v] = env := by
    simp only [rsE, List.set_set]
    have : env.getD v .no = env[v] := by simp [List.getD, List.getElem?_eq_getElem hlt]
    rw [this, List.set_getElem_self]
  simp only [mLc, DL.bnd, hmi, c1, hs, and_self, if_true, DL.nox, wpE, h, h4, List.nil_append]
theorem cand_int {α : Type} (L : List (Nat × α)) (i : Int) : cand L (.int i) = none := rfl
theorem cand_tup {α : Type} (L : List (Nat × α)) (i : List D) : cand L (.tup i) = none := rfl
theorem cand_lst {α : Type} (L : List (Nat × α)) (i : List D) : cand L (.lst i) = none := rfl
theorem cand_scr {α : Type} (L : List (Nat × α)) (i : List Int) : cand L (.scr i) = none := rfl
theorem cand_str {α : Type} (L : List (Nat × α)) (i : Str) : cand L (.str i) = none := rfl
theorem cand_bl {α : Type} (L : List (Nat × α)) (i : Bool) : cand L (.bl i) = none := rfl
theorem cand_non {α : Type} (L : List (Nat × α)) : cand L .non = none := rfl
theorem cand_ins {α : Type} (L : List (Nat × α)) (c : Nat) (ds : List D) : cand L (.ins c ds) = L.lookup c := rfl
theorem look0 {α : Type} (F : α) (L : List (Nat × α)) : List.lookup 0 ((0, F) :: L) = some F := rfl
theorem okY_ii (c : Nat) (xs ys : List D) : okY (.ins c xs) (.ins c ys) = true := by simp [okY]
theorem okY_int (c : Nat) (xs : List D) (i : Int) : okY (.ins c xs) (.int i) = true := rfl
theorem sameC_ii (c : Nat) (xs ys : List D) : sameC (.ins c xs) (.ins c ys) = true := by simp [sameC]
theorem isi_cl0 (cs : List Nat) (ds : List D) (h : cs.contains 0 = true) : isiD (okOf cs) [.cl 0] (.ins 0 ds) = some (.bl true) := by
  simp [isiD, okK, okOf, h, kindD, kitCK]
  simpa using h
theorem isi_int (cs : List Nat) (i : Int) : isiD (okOf cs) [.ty "int"] (.int i) = some (.bl true) := rfl
theorem isi_intb (cs : List Nat) (i : Int) : isiD (okOf cs) [.ty "bool"] (.int i) = some (.bl false) := rfl
end DL

set_option Elab.async false
set_option linter.all false
set_option maxRecDepth 100000
set_option maxHeartbeats 400000
namespace DL
open PySem L2
/-! ### equality of rows of ints, digits -/
theorem pds_ints : ∀ ns : List Int, toPDs (ns.map .int) = some (ns.map .int)
  | [] => by simp only [List.map_nil, toPDs]
  | n :: ns => by simp only [List.map_cons, toPDs, toPD, pds_ints ns]
theorem lay_ints : ∀ ns : List Int, PyData.canLayAll0 (ns.map .int) = true
  | [] => by simp only [List.map_nil, PyData.canLayAll0]
  | n :: ns => by simp only [List.map_cons, PyData.canLayAll0, PyData.canLay0, lay_ints ns, Bool.and_self]
theorem dep_ints : ∀ ns : List Int, PyData.depthAll (ns.map .int) = 0
  | [] => by simp only [List.map_nil, PyData.depthAll]
  | n :: ns => by simp only [List.map_cons, PyData.depthAll, PyData.depth, dep_ints ns, Nat.max_self]
theorem eqv_ints : ∀ xs ys : List Int, PyData.eqvAll (xs.map .int) (ys.map .int) = decide (xs = ys)
  | [], [] => by simp [PyData.eqvAll]
  | [], _ :: _ => by simp [PyData.eqvAll]
  | _ :: _, [] => by simp [PyData.eqvAll]
  | x :: xs, y :: ys => by
    simp only [List.map_cons, PyData.eqvAll, PyData.eqv, eqv_ints xs ys, List.cons.injEq, Bool.decide_and]
    congr 1
theorem eqB_int (i j : Int) : eqB (.int i) (.int j) = some (decide (i = j)) := by
  simp only [eqB, toPD, SeqAt.shaped, PyData.canLay0, PyData.depth, PyData.eqv]
  rfl
theorem eqB_tup (xs ys : List Int) : eqB (.tup (xs.map .int)) (.tup (ys.map .int)) = some (decide (xs = ys)) := by
  simp [eqB, toPD, pds_ints, SeqAt.shaped, PyData.canLay0, lay_ints, PyData.depth, dep_ints, PyData.eqv, eqv_ints]
theorem eqB_lst (xs ys : List Int) : eqB (.lst (xs.map .int)) (.lst (ys.map .int)) = some (decide (xs = ys)) := by
  simp [eqB, toPD, pds_ints, SeqAt.shaped, PyData.canLay0, lay_ints, PyData.depth, dep_ints, PyData.eqv, eqv_ints]
theorem emod_succ (x : Int) {b : Int} (hb : 0 < b) (w : Nat) : x % b ^ (w + 1) = x % b ^ w + b ^ w * (x / b ^ w % b) := by
  have hp : 0 < b ^ w := Int.pow_pos hb
  have e1 := Int.mul_ediv_add_emod x (b ^ w)
  have e2 := Int.mul_ediv_add_emod (x / b ^ w) b
  have r0 := Int.emod_nonneg x (by omega : b ^ w ≠ 0)
  have r1 := Int.emod_lt_of_pos x hp
  have d0 := Int.emod_nonneg (x / b ^ w) (by omega : b ≠ 0)
  have d1 := Int.emod_lt_of_pos (x / b ^ w) hb
  have e3 : x = (x % b ^ w + b ^ w * (x / b ^ w % b)) + b ^ (w + 1) * (x / b ^ w / b) := by
    rw [Int.pow_succ, Int.mul_assoc]
    calc x = b ^ w * (x / b ^ w) + x % b ^ w := e1.symm
      _ = b ^ w * (b * (x / b ^ w / b) + x / b ^ w % b) + x % b ^ w := by rw [e2]
      _ = _ := by rw [Int.mul_add]; omega
  have c0 : 0 ≤ x % b ^ w + b ^ w * (x / b ^ w % b) := by
    have := Int.mul_nonneg (by omega : 0 ≤ b ^ w) d0
    omega
  have c1 : x % b ^ w + b ^ w * (x / b ^ w % b) < b ^ (w + 1) := by
    have h : b ^ w * (x / b ^ w % b) ≤ b ^ w * (b - 1) := Int.mul_le_mul_of_nonneg_left (by omega) (by omega)
    have e5 : b ^ (w + 1) = b ^ w * b := Int.pow_succ ..
    rw [Int.mul_sub, Int.mul_one, ← e5] at h
    omega
  have e4 : x % b ^ (w + 1) = (x % b ^ w + b ^ w * (x / b ^ w % b)) % b ^ (w + 1) := by
    conv => lhs; rw [e3]
    rw [Int.add_mul_emod_self_left]
  rw [e4, Int.emod_eq_of_lt c0 c1]
theorem digs_eq {b : Int} (hb : 0 < b) {x y : Int} : ∀ w : Nat, (∀ i, i < w → x / b ^ i % b = y / b ^ i % b) → x % b ^ w = y % b ^ w
  | 0, _ => by simp [Int.emod_one]
  | w + 1, h => by rw [emod_succ x hb, emod_succ y hb, digs_eq hb w fun i hi => h i (by omega), h w (by omega)]
end DL

set_option Elab.async false
set_option linter.all false
set_option maxRecDepth 100000
set_option maxHeartbeats 400000
namespace DL
open PySem L2
theorem okE_n (c : Nat) (l : List Nat) (ds : List D) : okE (c :: l) (.ins c ds) = true := by simp [okE]
theorem okE_01 (l : List Nat) (ds : List D) : okE (0 :: l) (.ins 1 ds) = okE l (.ins 1 ds) := by simp [okE]
theorem okE_int (l : List Nat) (i : Int) : okE l (.int i) = true := rfl
theorem okE_bl (l : List Nat) (i : Bool) : okE l (.bl i) = true := rfl
theorem okE_str (l : List Nat) (i : Str) : okE l (.str i) = true := rfl
theorem okE_non (l : List Nat) : okE l .non = true := rfl
theorem look1 {α : Type} (F : α) (L : List (Nat × α)) : List.lookup 1 ((1, F) :: L) = some F := rfl
theorem look01 {α : Type} (F : α) (L : List (Nat × α)) : List.lookup 0 ((1, F) :: L) = List.lookup 0 L := rfl
theorem look10 {α : Type} (F : α) (L : List (Nat × α)) : List.lookup 1 ((0, F) :: L) = List.lookup 1 L := rfl
theorem sub_nil_len : ([] : List D).length = 0 := rfl
theorem stoX_cons (i : Nat) (d : It) (r : List (Nat × It)) (env : En) : sStoX ((i, d) :: r) env = if npAt env i = true then sStoX r (env.set i d.sl) else .bad := by
  show (match sto i d.sl env with
    | .ok .nx e => sStoX r e
    | _ => .bad) = _
  rw [sto_np]
  by_cases h : npAt env i = true
  · rw [if_pos h, if_pos h]
  · rw [if_neg h, if_neg h]
theorem stoX_nil (env : En) : sStoX [] env = .ok .nx env := rfl
theorem parX {ix : List Nat} {m : M (List It)} {ds : List It} {env e1 : En} (h : m env = .ok ds e1) (l : ds.length = ix.length) : sParX ix m env = sStoX (ix.zip ds) e1 := by
  simp only [sParX, DL.bnd, h, l, if_true]
theorem zip2 (i j : Nat) (a b : It) : [i, j].zip [a, b] = [(i, a), (j, b)] := rfl
theorem zip3 (i j k : Nat) (a b c : It) : [i, j, k].zip [a, b, c] = [(i, a), (j, b), (k, c)] := rfl
theorem eqB_lst0 : eqB (.lst []) (.lst []) = some true := eqB_lst [] []
theorem isi_cl0_int (i : Int) (cs : List Nat) : isiD (okOf cs) [.cl 0] (.int i) = if cs.contains 0 = true then some (.bl false) else none := by
  simp [isiD, okK, okOf, kindD, kitCK]
theorem app_ow {i : Nat} {m : M D} {env e1 : En} {xs xs' : List D} {z : D} (h : own i env = .ok (.lst xs) env) (hm : m env = .ok z e1) (h2 : own i e1 = .ok (.lst xs') e1) (hs : small (xs'.length + 1) = true) : sApp i m env = .ok .nx (mdf i (.lst (xs' ++ [z])) e1) := by
  have c : isLst (.lst xs) = true := rfl
  simp only [sApp, DL.bnd, h, c, if_true, hm, h2, hs]
theorem lc_drop {v : Nat} {c : M Bool} {m : M D} {env : En} (hv : env[v]? = some .no) : ∀ (ds acc : List D), (∀ d ∈ ds, c (env.set v (.sh d)) = .ok false (env.set v (.sh d))) → lcLoop (tgName v) c m [v] ds acc env = .ok acc env
  | [], acc, _ => by simp [lcLoop, DL.ret]
  | d :: ds, acc, h => by
    have hlt : v < env.length := (List.getElem?_eq_some_iff.mp hv).1
    have h1 : tgName v d env = some (env.set v (.sh d)) := by
      simp [tgName, stE, hv]
    have h2 := h d List.mem_cons_self
    have h3 : calmE (env.set v (.sh d)) [v] = true := by
      simp [calmE, List.getElem?_set_self hlt, calmS]
    have h4 : wpE (env.set v (.sh d)) [v] = env := by
      simp only [wpE, List.set_set]
      rw [List.getElem?_eq_getElem hlt] at hv
      rw [← Option.some.inj hv, List.set_getElem_self]
    have ih := lc_drop (c := c) (m := m) hv ds acc fun d' hd => h d' (List.mem_cons_of_mem _ hd)
    simp only [lcLoop, h1, DL.bnd, Bool.false_eq_true, if_false, h2, h3, h4, if_true, ih]
theorem mLc_none {v : Nat} {mi : M (List D)} {c : M Bool} {m : M D} {env : En} {ds : List D} {y : Sl} (hmi : mi env = .ok ds env) (hv : env[v]? = some y) (hc : cm y = true) (hs : small ds.length = true) (hm : ∀ d ∈ ds, c (env.set v (.sh d)) = .ok false (env.set v (.sh d))) :
    mLc mi (tgName v) c m [v] env = .ok (.lst []) env := by
  have hlt : v < env.length := (List.getElem?_eq_some_iff.mp hv).1
  have c1 : calmE env [v] = true := by
    simp only [calmE, List.all_cons, List.all_nil, Bool.and_true, hv, calmS_cm, hc]
  have h := lc_drop (v := v) (c := c) (m := m) (env := env.set v .no) (List.getElem?_set_self hlt) ds [] (by simpa using hm)
  have h4 : rsE (env.set v .no) env [v] = env := by
    simp only [rsE, List.set_set]
    have : env.getD v .no = env[v] := by simp [List.getD, List.getElem?_eq_getElem hlt]
    rw [this, List.set_getElem_self]
  simp only [mLc, DL.bnd, hmi, c1, hs, and_self, if_true, DL.nox, wpE, h, h4]
end DL

set_option Elab.async false
set_option linter.all false
set_option maxRecDepth 100000
set_option maxHeartbeats 400000
namespace LW
open PySem L2 PyProof.Rows DL
def pw_10_18 : M D := mBin powD (ret (.int 10)) (ret (.int 18))
def pw_10_60 : M D := mBin powD (ret (.int 10)) (ret (.int 60))
def pw_10_30 : M D := mBin powD (ret (.int 10)) (ret (.int 30))
def pw_10_20 : M D := mBin powD (ret (.int 10)) (ret (.int 20))
def pw_10_9 : M D := mBin powD (ret (.int 10)) (ret (.int 9))
def m_is_integer : S := sRet (bnd (mB (mUn (isiD (okOf [0]) [.ty "int"]) (mVar 0))) fun x => if x = true then mBv (mNot (mB (mUn (isiD (okOf [0]) [.ty "bool"]) (mVar 0)))) else ret (.bl false))
def F_is_integer : Fm := fnM 1 1 (nox m_is_integer)
def m_is_between : S := sRet (bnd (mB (mCallA F_is_integer [] (mCons (mVar 0) mNil))) fun x => if x = true then mChain leD leD (mVar 1) (mVar 0) (mVar 2) else ret (.bl false))
def F_is_between : Fm := fnM 3 3 (nox m_is_between)
def m_check_between : S := sIf (mNot (mTru (mCallA F_is_between [] (mCons (mVar 0) (mCons (mVar 1) (mCons (mVar 2) mNil)))))) (sRaise 0 (mVar 0)) sNx
def F_check_between : Fm := fnM 3 3 m_check_between
def m_check_integer : S := sIf (mNot (mTru (mCallA F_is_integer [] (mCons (mVar 0) mNil)))) (sRaise 0 (mVar 0)) sNx
def F_check_integer : Fm := fnM 1 1 m_check_integer
def m_power : S := sSeq (sSet 2 (ret (.int 1)))
  (sSeq (sFor (iArg rng1D (mCons (mVar 1) mNil)) (tgName 3) (sSet 2 (mBin mulD (mVar 2) (mVar 0))))
  (sRet (mVar 2)))
def F_power : Fm := fnM 2 4 (nox m_power)
def m_digits_of : S := sRet (frz (mLc (iArg rng1D (mCons (mVar 2) mNil)) (tgName 3) (ret true) (mBin modD (mBin divD (mVar 0) (mCallA F_power [] (mCons (mVar 1) (mCons (mVar 3) mNil)))) (mVar 1)) [3]))
def F_digits_of : Fm := fnM 3 4 (nox m_digits_of)
def m_number_of : S := sSeq (sSet 2 (ret (.int 0)))
  (sSeq (sFor (iItm (mUn revA (mVar 0))) (tgName 3) (sSet 2 (mBin addD (mBin mulD (mVar 2) (mVar 1)) (mVar 3))))
  (sRet (mVar 2)))
def F_number_of : Fm := fnM 2 4 (nox m_number_of)
def m_Word_init : S := sSeq (sDrop (mCallA F_check_between [] (mCons (mVar 2) (mCons (ret (.int 2)) (mCons (ret (.int 36)) mNil)))))
  (sSeq (sDrop (mCallA F_check_between [] (mCons (mVar 3) (mCons (ret (.int 1)) (mCons (ret (.int 40)) mNil)))))
  (sSeq (sDrop (mCallA F_check_integer [] (mCons (mVar 1) mNil)))
  (sSeq (sFldS "radix" 0 (mVar 2))
  (sSeq (sFldS "amount" 0 (mBin modD (mVar 1) (mCallA F_power [] (mCons (mVar 2) (mCons (mVar 3) mNil)))))
  (sFldS "row" 0 (mCb tupleD (mCons (mCallA F_digits_of [] (mCons (bnd (own 0) fun d => lft (fldD "amount" d)) (mCons (mVar 2) (mCons (mVar 3) mNil)))) mNil)))))))
def F_Word_init : Fm := fnM 4 4 m_Word_init
def m_Word_of : S := sSeq (sDrop (mCallA F_check_between [] (mCons (mVar 2) (mCons (ret (.int 2)) (mCons (ret (.int 36)) mNil)))))
  (sSeq (sIf (mOr (mNot (mTru (mUn (isiD (okOf [0]) [.ty "list", .ty "tuple"]) (mVar 1)))) (mNot (mB (mChain leD leD (ret (.int 1)) (mCb lenD (mCons (mVar 1) mNil)) (ret (.int 40)))))) (sRaise 1 (mVar 1)) sNx)
  (sSeq (sIf (mNot (mTru (mCb allD (mCons (frz (mLc (iItm (mVar 1)) (tgName 3) (ret true) (mCallA F_is_between [] (mCons (mVar 3) (mCons (ret (.int 0)) (mCons (mBin subD (mVar 2) (ret (.int 1))) mNil)))) [3])) mNil)))) (sRaise 1 (mVar 1)) sNx)
  (sRet (frz (mClsF F_Word_init 0 0 [] (mCons (mCallA F_number_of [] (mCons (mVar 1) (mCons (mVar 2) mNil))) (mCons (mVar 2) (mCons (mCb lenD (mCons (mVar 1) mNil)) mNil))))))))
def F_Word_of : Fm := fnM 3 4 m_Word_of
def m_Word_number : S := sRet (mUn (fldD "amount") (mVar 0))
def F_Word_number : Fm := fnM 1 1 (nox m_Word_number)
def m_Word_base : S := sRet (mUn (fldD "radix") (mVar 0))
def F_Word_base : Fm := fnM 1 1 (nox m_Word_base)
def m_Word_width : S := sRet (mCb lenD (mCons (mUn (fldD "row") (mVar 0)) mNil))
def F_Word_width : Fm := fnM 1 1 (nox m_Word_width)
def m_Word_digits : S := sRet (mUn (fldD "row") (mVar 0))
def F_Word_digits : Fm := fnM 1 1 (nox m_Word_digits)
def m_Word_len : S := sRet (mCb lenD (mCons (mUn (fldD "row") (mVar 0)) mNil))
def F_Word_len : Fm := fnM 1 1 (nox m_Word_len)
def m_Word_eq : S := sRet (bnd (mB (mUn (isiD (okOf [0]) [.cl 0]) (mVar 1))) fun x => if x = true then bnd (mB (mBin eqD (mUn (fldD "row") (mVar 0)) (mUn (fldD "row") (mVar 1)))) fun x => if x = true then mBin eqD (mUn (fldD "radix") (mVar 0)) (mUn (fldD "radix") (mVar 1)) else ret (.bl false) else ret (.bl false))
def F_Word_eq : Fm := fnM 2 2 (nox m_Word_eq)
def m_Word_bool : S := sRet (mCb boolD (mCons (mCmpG [0] [(0, F_Word_eq)] true neD (mUn (fldD "amount") (mVar 0)) (ret (.int 0))) mNil))
def F_Word_bool : Fm := fnM 1 1 (nox m_Word_bool)
def m_Word_getitem : S := sSeq (sDrop (mCallA F_check_between [] (mCons (mVar 1) (mCons (ret (.int 0)) (mCons (mBin subD (bnd (mCons (mUn (fldD "row") (mVar 0)) mNil) (mLenO [(0, F_Word_len)] lenD)) (ret (.int 1))) mNil)))))
  (sRet (mBin ixD (mUn (fldD "row") (mVar 0)) (mVar 1)))
def F_Word_getitem : Fm := fnM 2 2 m_Word_getitem
def m_Word_iter : S := fun _ => .bad
def F_Word_iter : Fm := fnM 1 1 (nox m_Word_iter)
def m_Word_add : S := sSeq (sIf (mOr (mB (mCmpG [0] [(0, F_Word_eq)] true neD (mUn (fldD "radix") (mVar 0)) (mUn (fldD "radix") (mVar 1)))) (mB (mCmpG [0] [(0, F_Word_eq)] true neD (bnd (mCons (mUn (fldD "row") (mVar 0)) mNil) (mLenO [(0, F_Word_len)] lenD)) (bnd (mCons (mUn (fldD "row") (mVar 1)) mNil) (mLenO [(0, F_Word_len)] lenD))))) (sRaise 1 (mVar 1)) sNx)
  (sRet (frz (mMakF F_Word_init 0 [] (mCons (mBin addD (mUn (fldD "amount") (mVar 0)) (mUn (fldD "amount") (mVar 1))) (mCons (mUn (fldD "radix") (mVar 0)) (mCons (bnd (mCons (mUn (fldD "row") (mVar 0)) mNil) (mLenO [(0, F_Word_len)] lenD)) mNil))))))
def F_Word_add : Fm := fnM 2 2 m_Word_add
def m_Word_sub : S := sSeq (sIf (mOr (mB (mCmpG [0] [(0, F_Word_eq)] true neD (mUn (fldD "radix") (mVar 0)) (mUn (fldD "radix") (mVar 1)))) (mB (mCmpG [0] [(0, F_Word_eq)] true neD (bnd (mCons (mUn (fldD "row") (mVar 0)) mNil) (mLenO [(0, F_Word_len)] lenD)) (bnd (mCons (mUn (fldD "row") (mVar 1)) mNil) (mLenO [(0, F_Word_len)] lenD))))) (sRaise 1 (mVar 1)) sNx)
  (sRet (frz (mMakF F_Word_init 0 [] (mCons (mBin subD (mUn (fldD "amount") (mVar 0)) (mUn (fldD "amount") (mVar 1))) (mCons (mUn (fldD "radix") (mVar 0)) (mCons (bnd (mCons (mUn (fldD "row") (mVar 0)) mNil) (mLenO [(0, F_Word_len)] lenD)) mNil))))))
def F_Word_sub : Fm := fnM 2 2 m_Word_sub
def m_Word_neg : S := sRet (frz (mMakF F_Word_init 0 [] (mCons (mUn negD (mUn (fldD "amount") (mVar 0))) (mCons (mUn (fldD "radix") (mVar 0)) (mCons (bnd (mCons (mUn (fldD "row") (mVar 0)) mNil) (mLenO [(0, F_Word_len)] lenD)) mNil)))))
def F_Word_neg : Fm := fnM 1 1 m_Word_neg
def m_Word_invert : S := sRet (frz (mMakF F_Word_init 0 [] (mCons (mBinO [(0, F_Word_sub)] subD (bnd (ret (.int 1)) (mUnO [(0, F_Word_neg)] negD)) (mUn (fldD "amount") (mVar 0))) (mCons (mUn (fldD "radix") (mVar 0)) (mCons (bnd (mCons (mUn (fldD "row") (mVar 0)) mNil) (mLenO [(0, F_Word_len)] lenD)) mNil)))))
def F_Word_invert : Fm := fnM 1 1 m_Word_invert
def m_Word_lshift : S := sSeq (sSet 2 (mCb min2D (mCons (mVar 1) (mCons (bnd (mCons (mUn (fldD "row") (mVar 0)) mNil) (mLenO [(0, F_Word_len)] lenD)) mNil))))
  (sRet (frz (mMakF F_Word_init 0 [] (mCons (mBin mulD (mUn (fldD "amount") (mVar 0)) (mCallA F_power [] (mCons (mUn (fldD "radix") (mVar 0)) (mCons (mVar 2) mNil)))) (mCons (mUn (fldD "radix") (mVar 0)) (mCons (bnd (mCons (mUn (fldD "row") (mVar 0)) mNil) (mLenO [(0, F_Word_len)] lenD)) mNil))))))
def F_Word_lshift : Fm := fnM 2 3 m_Word_lshift
def m_Word_rshift : S := sSeq (sSet 2 (mCb min2D (mCons (mVar 1) (mCons (bnd (mCons (mUn (fldD "row") (mVar 0)) mNil) (mLenO [(0, F_Word_len)] lenD)) mNil))))
  (sRet (frz (mMakF F_Word_init 0 [] (mCons (mBin divD (mUn (fldD "amount") (mVar 0)) (mCallA F_power [] (mCons (mUn (fldD "radix") (mVar 0)) (mCons (mVar 2) mNil)))) (mCons (mUn (fldD "radix") (mVar 0)) (mCons (bnd (mCons (mUn (fldD "row") (mVar 0)) mNil) (mLenO [(0, F_Word_len)] lenD)) mNil))))))
def F_Word_rshift : Fm := fnM 2 3 m_Word_rshift
def m_law_pool : S := sSeq (sSet 2 (ret (.int 0)))
  (sSeq (sIf (mB (mBin ltD (mVar 1) (bnd (mCons (mVar 0) mNil) (mLenO [(0, F_Word_len)] lenD)))) (sSet 2 (mCb absD (mCons (mSubO [(0, F_Word_getitem)] (mVar 0) (mVar 1)) mNil))) sNx)
  (sSeq (sSet 3 (mBin modD (mBin mulD (mBinO [(0, F_Word_add)] addD (mBinO [(0, F_Word_add)] addD (mBinO [(0, F_Word_add)] addD (mBin modD (mVar 2) (ret (.int 2147483629))) (mBin mulD (mBin mulD (ret (.int 7919)) (mVar 1)) (mVar 1))) (mBin mulD (ret (.int 31)) (mVar 1))) (ret (.int 17))) (ret (.int 48271))) (ret (.int 2147483647))))
  (sRetF (mLst (mCons (mBin mulD (mVar 2) (mCb intD (mCons (mBin geD (mVar 2) pw_10_18) mNil))) (mCons (mBin modD (mBin mulD (mVar 3) (mVar 3)) (ret (.int 2147483629))) mNil))))))
def F_law_pool : Fm := fnM 2 4 (nox m_law_pool)
def m_law_take : S := sSeq (sIf (mB (mBin gtD (mIxS 0 (ret (.int 0))) (ret (.int 0)))) (sSeq (sSet 2 (mBin modD (mIxS 0 (ret (.int 0))) (mVar 1)))
  (sSeq (sPut 0 (mBin divD (mIxS 0 (ret (.int 0))) (mVar 1)) (ret (.int 0)))
  (sRet (mVar 2)))) sNx)
  (sSeq (sPut 0 (mBin modD (mBinO [(0, F_Word_add)] addD (mBin mulD (mIxS 0 (ret (.int 1))) (ret (.int 48271))) (ret (.int 12345))) (ret (.int 2147483647))) (ret (.int 1)))
  (sRet (mBin modD (mBin divD (mBin modD (mBin mulD (mIxS 0 (ret (.int 1))) (mIxS 0 (ret (.int 1)))) (ret (.int 2147483629))) (ret (.int 64))) (mVar 1))))
def F_law_take : Fm := fnM 2 3 (nox m_law_take)
def m_law_caught : S := sSeq (sTryL [(0, 4, fun d => sRet (mLst (mCons (ret (.str "number")) (mCons (bnd (ret d) fun x => lft (rp1 x)) (mCons (ret (.bl true)) mNil))))), (1, 4, fun d => sRet (mLst (mCons (ret (.str "word")) (mCons (mIf (mB (mBin eqD (mVar 0) (ret (.int 1)))) (bnd (ret d) fun x => lft (rp1 x)) (bnd (ret d) fun x => bnd (mVar 2) fun y => ownEq 0 [0] F_Word_eq x y)) (mCons (ret (.bl true)) mNil)))))] (sIf (mB (mBin eqD (mVar 0) (ret (.int 0)))) (sDrop (frz (mMakF F_Word_init 0 [] (mCons (mVar 1) (mCons (mVar 2) (mCons (mVar 3) mNil)))))) (sIf (mB (mBin eqD (mVar 0) (ret (.int 1)))) (sDrop (mCme F_Word_of 0 [] (mCons (mVar 1) (mCons (mVar 2) mNil)))) (sIf (mB (mBin eqD (mVar 0) (ret (.int 2)))) (sRet (mLst (mCons (ret (.str "told")) (mCons (mSubO [(0, F_Word_getitem)] (mVar 1) (mVar 2)) mNil)))) (sIf (mB (mBin eqD (mVar 0) (ret (.int 3)))) (sRet (mLst (mCons (ret (.str "told")) (mCons (mPrp [(0, F_Word_number)] (mBinO [(0, F_Word_add)] addD (mVar 1) (mVar 2))) mNil)))) (sRet (mLst (mCons (ret (.str "told")) (mCons (mPrp [(0, F_Word_number)] (mBinO [(0, F_Word_sub)] subD (mVar 1) (mVar 2))) mNil)))))))))
  (sRet (mLst (mCons (ret (.str "made")) mNil)))
def F_law_caught : Fm := fnM 4 5 (nox m_law_caught)
def m_law_b_2 : S := sIf (mAnd (mB (mCmpG [0] [(0, F_Word_eq)] true neD (mPrp [(0, F_Word_width)] (mVar 7)) (mVar 4))) (mB (mCmpG [0] [(0, F_Word_eq)] true neD (mCallA F_law_caught [] (mCons (mVar 8) (mCons (mVar 6) (mCons (mVar 7) (mCons (ret .non) mNil))))) (mLst (mCons (ret (.str "word")) (mCons (ret (.bl true)) (mCons (ret (.bl true)) mNil))))))) (sRet (ret (.bl false))) sNx
def m_law_b_1 : S := sIf (mAnd (mB (mCmpG [0] [(0, F_Word_eq)] true neD (mPrp [(0, F_Word_base)] (mVar 7)) (mVar 3))) (mB (mCmpG [0] [(0, F_Word_eq)] true neD (mCallA F_law_caught [] (mCons (mVar 8) (mCons (mVar 6) (mCons (mVar 7) (mCons (ret .non) mNil))))) (mLst (mCons (ret (.str "word")) (mCons (ret (.bl true)) (mCons (ret (.bl true)) mNil))))))) (sRet (ret (.bl false))) sNx
def m_law_a_1 : S := sFor (iItm (mLst (mCons (ret (.int 3)) (mCons (ret (.int 4)) mNil)))) (tgName 8) (sSeq m_law_b_1
  m_law_b_2)
def m_law_9 : S := sFor (iItm (mLst (mCons (frz (mMakF F_Word_init 0 [] (mCons (ret (.int 1)) (mCons (mVar 3) (mCons (mBinO [(0, F_Word_add)] addD (mBin modD (mVar 4) (ret (.int 40))) (ret (.int 1))) mNil))))) (mCons (frz (mMakF F_Word_init 0 [] (mCons (ret (.int 1)) (mCons (mIf (mB (mCmpG [0] [(0, F_Word_eq)] false eqD (mVar 3) (ret (.int 4)))) (ret (.int 5)) (ret (.int 4))) (mCons (mVar 4) mNil))))) mNil)))) (tgName 7) m_law_a_1
def m_law_c_1 : S := sIf (mB (mCmpG [0] [(0, F_Word_eq)] true neD (mCallA F_law_caught [] (mCons (ret (.int 2)) (mCons (mVar 6) (mCons (mVar 5) (mCons (ret .non) mNil))))) (mLst (mCons (ret (.str "number")) (mCons (mCb reprE (mCons (mVar 5) mNil)) (mCons (ret (.bl true)) mNil)))))) (sRet (ret (.bl false))) sNx
def m_law_8 : S := sFor (iItm (mLst (mCons (ret .non) (mCons (ret (.bl true)) (mCons (ret (.str "0")) (mCons (bnd (ret (.int 1)) (mUnO [(0, F_Word_neg)] negD)) (mCons (mVar 4) (mCons pw_10_20 (mCons (mLst (mCons (ret (.int 0)) mNil)) (mCons (mTup (mCons (ret (.int 0)) mNil)) mNil)))))))))) (tgName 5) m_law_c_1
def m_law_7 : S := sSet 6 (frz (mMakF F_Word_init 0 [] (mCons (mCallB F_law_take 2 [] (mCons pw_10_9 mNil)) (mCons (mVar 3) (mCons (mVar 4) mNil)))))
def m_law_d_1 : S := sIf (mB (mCmpG [0] [(0, F_Word_eq)] true neD (mCallA F_law_caught [] (mCons (ret (.int 1)) (mCons (mVar 5) (mCons (mVar 3) (mCons (ret .non) mNil))))) (mLst (mCons (ret (.str "word")) (mCons (mCb reprE (mCons (mVar 5) mNil)) (mCons (ret (.bl true)) mNil)))))) (sRet (ret (.bl false))) sNx
def m_law_6 : S := sFor (iItm (mLst (mCons (ret .non) (mCons (ret (.int 5)) (mCons (ret (.str "12")) (mCons (mLst mNil) (mCons (mTup mNil) (mCons (mLst (mCons (mVar 3) mNil)) (mCons (mLst (mCons (ret (.int 0)) (mCons (bnd (ret (.int 1)) (mUnO [(0, F_Word_neg)] negD)) mNil))) (mCons (mLst (mCons (ret (.int 0)) (mCons (ret (.bl true)) mNil))) (mCons (mLst (mCons (ret .non) mNil)) (mCons (mBin mulD (mLst (mCons (ret (.int 0)) mNil)) (ret (.int 41))) (mCons (ret (.dic [.inl 0] [.int 1])) (mCons (mLst (mCons (mLst (mCons (ret (.int 0)) mNil)) mNil)) mNil)))))))))))))) (tgName 5) m_law_d_1
def m_law_e_1 : S := sIf (mB (mCmpG [0] [(0, F_Word_eq)] true neD (mCallA F_law_caught [] (mCons (ret (.int 0)) (mCons (mVar 5) (mCons (mVar 3) (mCons (mVar 4) mNil))))) (mLst (mCons (ret (.str "number")) (mCons (mCb reprE (mCons (mVar 5) mNil)) (mCons (ret (.bl true)) mNil)))))) (sRet (ret (.bl false))) sNx
def m_law_5 : S := sFor (iItm (mLst (mCons (ret .non) (mCons (ret (.bl false)) (mCons (ret (.str "5")) (mCons (mLst (mCons (ret (.int 5)) mNil)) (mCons (mTup (mCons (ret (.int 5)) mNil)) (mCons (ret (.dic [] [])) mNil)))))))) (tgName 5) m_law_e_1
def m_law_f_1 : S := sIf (mB (mCmpG [0] [(0, F_Word_eq)] true neD (mCallA F_law_caught [] (mCons (ret (.int 0)) (mCons (ret .non) (mCons (mVar 3) (mCons (mVar 5) mNil))))) (mLst (mCons (ret (.str "number")) (mCons (mCb reprE (mCons (mVar 5) mNil)) (mCons (ret (.bl true)) mNil)))))) (sRet (ret (.bl false))) sNx
def m_law_4 : S := sFor (iItm (mLst (mCons (ret .non) (mCons (ret (.bl true)) (mCons (ret (.str "8")) (mCons (ret (.int 0)) (mCons (ret (.int 41)) (mCons (bnd (ret (.int 1)) (mUnO [(0, F_Word_neg)] negD)) (mCons pw_10_20 (mCons (mLst (mCons (ret (.int 8)) mNil)) (mCons (ret (.dic [] [])) mNil))))))))))) (tgName 5) m_law_f_1
def m_law_g_2 : S := sIf (mB (mCmpG [0] [(0, F_Word_eq)] true neD (mCallA F_law_caught [] (mCons (ret (.int 1)) (mCons (ret .non) (mCons (mVar 5) (mCons (ret .non) mNil))))) (mLst (mCons (ret (.str "number")) (mCons (mCb reprE (mCons (mVar 5) mNil)) (mCons (ret (.bl true)) mNil)))))) (sRet (ret (.bl false))) sNx
def m_law_g_1 : S := sIf (mB (mCmpG [0] [(0, F_Word_eq)] true neD (mCallA F_law_caught [] (mCons (ret (.int 0)) (mCons (ret .non) (mCons (mVar 5) (mCons (ret .non) mNil))))) (mLst (mCons (ret (.str "number")) (mCons (mCb reprE (mCons (mVar 5) mNil)) (mCons (ret (.bl true)) mNil)))))) (sRet (ret (.bl false))) sNx
def m_law_3 : S := sFor (iItm (mLst (mCons (ret .non) (mCons (ret (.bl true)) (mCons (ret (.str "10")) (mCons (ret (.int 1)) (mCons (ret (.int 37)) (mCons (ret (.int 0)) (mCons (bnd (ret (.int 2)) (mUnO [(0, F_Word_neg)] negD)) (mCons pw_10_20 (mCons (mLst (mCons (ret (.int 10)) mNil)) (mCons (mTup (mCons (ret (.int 10)) mNil)) mNil)))))))))))) (tgName 5) (sSeq m_law_g_1
  m_law_g_2)
def m_law_2 : S := sPar2 3 4 (mCons (mBinO [(0, F_Word_add)] addD (ret (.int 2)) (mCallB F_law_take 2 [] (mCons (ret (.int 35)) mNil))) (mCons (mBinO [(0, F_Word_add)] addD (ret (.int 1)) (mCallB F_law_take 2 [] (mCons (ret (.int 40)) mNil))) mNil))
def m_law_1 : S := sSetF 2 (mCallAF F_law_pool [] (mCons (mVar 0) (mCons (mVar 1) mNil)))
def m_law : S := sSeq (sFor (iArg rng1D (mCons (mCb max2D (mCons (ret (.int 1)) (mCons (mCb min2D (mCons (ret (.int 8)) (mCons (bnd (mCons (mVar 0) mNil) (mLenO [(0, F_Word_len)] lenD)) mNil))) mNil))) mNil)) (tgName 1) (sSeq m_law_1
  (sSeq m_law_2
  (sSeq m_law_3
  (sSeq m_law_4
  (sSeq m_law_5
  (sSeq m_law_6
  (sSeq m_law_7
  (sSeq m_law_8
  m_law_9)))))))))
  (sSeq (sIf (mB (mCmpG [0] [(0, F_Word_eq)] true neD (frz (mLc (iItm (mLst (mCons (ret (.int 2)) (mCons (ret (.int 36)) mNil)))) (tgName 3) (ret true) (mCallA F_law_caught [] (mCons (ret (.int 0)) (mCons (ret (.int 0)) (mCons (mVar 3) (mCons (ret (.int 1)) mNil))))) [3])) (mBin mulD (mLst (mCons (mLst (mCons (ret (.str "made")) mNil)) mNil)) (ret (.int 2))))) (sRet (ret (.bl false))) sNx)
  (sRet (bnd (mB (mCmpG [0] [(0, F_Word_eq)] false eqD (mCallA F_law_caught [] (mCons (ret (.int 0)) (mCons (mBin mulD pw_10_60 pw_10_30) (mCons (ret (.int 36)) (mCons (ret (.int 40)) mNil))))) (mLst (mCons (ret (.str "made")) mNil)))) fun x => if x = true then mCmpG [0] [(0, F_Word_eq)] false eqD (mCallA F_law_caught [] (mCons (ret (.int 1)) (mCons (mBin mulD (mLst (mCons (ret (.int 35)) mNil)) (ret (.int 40))) (mCons (ret (.int 36)) (mCons (ret .non) mNil))))) (mLst (mCons (ret (.str "made")) mNil)) else ret (.bl false))))
def F_law : Fm := fnM 1 9 (nox m_law)
end LW

set_option Elab.async false
set_option linter.all false
set_option maxRecDepth 100000
set_option maxHeartbeats 400000
namespace LW
open PySem L2 DL
theorem fx_nx {k n : Nat} {b : S} {args : En} {e args' : En} (hl : args.length = k) (h : b (args ++ List.replicate (n - k) .no) = .ok .nx e) (ht : e.take k = args') : fnM k n b args = .ok (.rt .non) args' := by
  subst ht
  unfold fnM DL.run
  rw [if_pos hl, hl, h]
theorem fx_ex {k n : Nat} {b : S} {args : En} {c : Nat} {d : D} {e : En} (hl : args.length = k) (h : b (args ++ List.replicate (n - k) .no) = .ex c d e) : fnM k n b args = .ex c d (e.take k) := by
  unfold fnM DL.run
  rw [if_pos hl, hl, h]
theorem e_is_integer (i : Int) : F_is_integer [.sh (.int i)] = .ok (.rt (.bl true)) [.sh (.int i)] := by
  simp only [DL.bnd, DL.ret, DL.lft, mVar, mCons, mNil, mCallA, callA, callAF, callB, mCallAF, mCallB, mBin, mUn, mB, mTru, truD, mNot, mAnd, mOr, mBv, mIf, mCb, mChain, mTup, mLst, sSeq, sNx, sIf, sRet, sRetF, sDrop, sSet, sSetF, sto_np, npAt, np_sh, np_ow, np_no, cm_sh, cm_no, DL.nox, fnM, DL.run,
  frz, full_lst, full_ins, nmN, DL.own, mdf, Sl.put, Sl.mut, Option.bind, cmpD, ltD, leD, gtD, geD, addD, subD, negD, modD, mMakF, mkA, sFldS, putD, fldD, mBinO, mOpO, mCmpO, mEqO, mUnO, mLenO, mSubO, mIxO, mPrp, cand_int, cand_tup, cand_lst, cand_scr, cand_str, cand_bl, cand_non, cand_ins, look0, okY_ii, okY_int, sameC_ii, mCmpG, mEqG, okE_n, okE_01, okE_int, okE_bl, okE_str, okE_non, look1, look01, look10, mTruO, mBlO, sParX, xS, xO, xNil, stoX_cons, stoX_nil, It.sl, zip2, zip3, blD, lenD, eqD, neD, Option.map_some, eqB_int,
  List.map, List.length_cons, List.length_nil, List.getElem?_cons_zero, List.getElem?_cons_succ, List.set_cons_zero, List.set_cons_succ, List.append, List.cons_append, List.nil_append, List.replicate, List.take, Nat.reduceAdd, Nat.reduceSub, Bool.not_true, Bool.not_false, decide_true, decide_false, beq_self_eq_true, bne_self_eq_false, Bool.false_eq_true, reduceIte, ↓reduceIte, F_is_integer, m_is_integer, isi_int, isi_intb]
theorem e_is_between (v a b : Int) : F_is_between [.sh (.int v), .sh (.int a), .sh (.int b)] = .ok (.rt (.bl (decide (a ≤ v ∧ v ≤ b)))) [.sh (.int v), .sh (.int a), .sh (.int b)] := by
  by_cases h : a ≤ v
  · simp only [DL.bnd, DL.ret, DL.lft, mVar, mCons, mNil, mCallA, callA, callAF, callB, mCallAF, mCallB, mBin, mUn, mB, mTru, truD, mNot, mAnd, mOr, mBv, mIf, mCb, mChain, mTup, mLst, sSeq, sNx, sIf, sRet, sRetF, sDrop, sSet, sSetF, sto_np, npAt, np_sh, np_ow, np_no, cm_sh, cm_no, DL.nox, fnM, DL.run,
  frz, full_lst, full_ins, nmN, DL.own, mdf, Sl.put, Sl.mut, Option.bind, cmpD, ltD, leD, gtD, geD, addD, subD, negD, modD, mMakF, mkA, sFldS, putD, fldD, mBinO, mOpO, mCmpO, mEqO, mUnO, mLenO, mSubO, mIxO, mPrp, cand_int, cand_tup, cand_lst, cand_scr, cand_str, cand_bl, cand_non, cand_ins, look0, okY_ii, okY_int, sameC_ii, mCmpG, mEqG, okE_n, okE_01, okE_int, okE_bl, okE_str, okE_non, look1, look01, look10, mTruO, mBlO, sParX, xS, xO, xNil, stoX_cons, stoX_nil, It.sl, zip2, zip3, blD, lenD, eqD, neD, Option.map_some, eqB_int,
  List.map, List.length_cons, List.length_nil, List.getElem?_cons_zero, List.getElem?_cons_succ, List.set_cons_zero, List.set_cons_succ, List.append, List.cons_append, List.nil_append, List.replicate, List.take, Nat.reduceAdd, Nat.reduceSub, Bool.not_true, Bool.not_false, decide_true, decide_false, beq_self_eq_true, bne_self_eq_false, Bool.false_eq_true, reduceIte, ↓reduceIte, F_is_between, m_is_between, e_is_integer, h, true_and]
  · simp only [DL.bnd, DL.ret, DL.lft, mVar, mCons, mNil, mCallA, callA, callAF, callB, mCallAF, mCallB, mBin, mUn, mB, mTru, truD, mNot, mAnd, mOr, mBv, mIf, mCb, mChain, mTup, mLst, sSeq, sNx, sIf, sRet, sRetF, sDrop, sSet, sSetF, sto_np, npAt, np_sh, np_ow, np_no, cm_sh, cm_no, DL.nox, fnM, DL.run,
  frz, full_lst, full_ins, nmN, DL.own, mdf, Sl.put, Sl.mut, Option.bind, cmpD, ltD, leD, gtD, geD, addD, subD, negD, modD, mMakF, mkA, sFldS, putD, fldD, mBinO, mOpO, mCmpO, mEqO, mUnO, mLenO, mSubO, mIxO, mPrp, cand_int, cand_tup, cand_lst, cand_scr, cand_str, cand_bl, cand_non, cand_ins, look0, okY_ii, okY_int, sameC_ii, mCmpG, mEqG, okE_n, okE_01, okE_int, okE_bl, okE_str, okE_non, look1, look01, look10, mTruO, mBlO, sParX, xS, xO, xNil, stoX_cons, stoX_nil, It.sl, zip2, zip3, blD, lenD, eqD, neD, Option.map_some, eqB_int,
  List.map, List.length_cons, List.length_nil, List.getElem?_cons_zero, List.getElem?_cons_succ, List.set_cons_zero, List.set_cons_succ, List.append, List.cons_append, List.nil_append, List.replicate, List.take, Nat.reduceAdd, Nat.reduceSub, Bool.not_true, Bool.not_false, decide_true, decide_false, beq_self_eq_true, bne_self_eq_false, Bool.false_eq_true, reduceIte, ↓reduceIte, F_is_between, m_is_between, e_is_integer, h, false_and]
theorem e_check_between {v a b : Int} (h : a ≤ v) (h2 : v ≤ b) : F_check_between [.sh (.int v), .sh (.int a), .sh (.int b)] = .ok (.rt .non) [.sh (.int v), .sh (.int a), .sh (.int b)] := by
  simp only [DL.bnd, DL.ret, DL.lft, mVar, mCons, mNil, mCallA, callA, callAF, callB, mCallAF, mCallB, mBin, mUn, mB, mTru, truD, mNot, mAnd, mOr, mBv, mIf, mCb, mChain, mTup, mLst, sSeq, sNx, sIf, sRet, sRetF, sDrop, sSet, sSetF, sto_np, npAt, np_sh, np_ow, np_no, cm_sh, cm_no, DL.nox, fnM, DL.run,
  frz, full_lst, full_ins, nmN, DL.own, mdf, Sl.put, Sl.mut, Option.bind, cmpD, ltD, leD, gtD, geD, addD, subD, negD, modD, mMakF, mkA, sFldS, putD, fldD, mBinO, mOpO, mCmpO, mEqO, mUnO, mLenO, mSubO, mIxO, mPrp, cand_int, cand_tup, cand_lst, cand_scr, cand_str, cand_bl, cand_non, cand_ins, look0, okY_ii, okY_int, sameC_ii, mCmpG, mEqG, okE_n, okE_01, okE_int, okE_bl, okE_str, okE_non, look1, look01, look10, mTruO, mBlO, sParX, xS, xO, xNil, stoX_cons, stoX_nil, It.sl, zip2, zip3, blD, lenD, eqD, neD, Option.map_some, eqB_int,
  List.map, List.length_cons, List.length_nil, List.getElem?_cons_zero, List.getElem?_cons_succ, List.set_cons_zero, List.set_cons_succ, List.append, List.cons_append, List.nil_append, List.replicate, List.take, Nat.reduceAdd, Nat.reduceSub, Bool.not_true, Bool.not_false, decide_true, decide_false, beq_self_eq_true, bne_self_eq_false, Bool.false_eq_true, reduceIte, ↓reduceIte, F_check_between, m_check_between, e_is_between, h, h2, and_self]
theorem e_check_integer (v : Int) : F_check_integer [.sh (.int v)] = .ok (.rt .non) [.sh (.int v)] := by
  simp only [DL.bnd, DL.ret, DL.lft, mVar, mCons, mNil, mCallA, callA, callAF, callB, mCallAF, mCallB, mBin, mUn, mB, mTru, truD, mNot, mAnd, mOr, mBv, mIf, mCb, mChain, mTup, mLst, sSeq, sNx, sIf, sRet, sRetF, sDrop, sSet, sSetF, sto_np, npAt, np_sh, np_ow, np_no, cm_sh, cm_no, DL.nox, fnM, DL.run,
  frz, full_lst, full_ins, nmN, DL.own, mdf, Sl.put, Sl.mut, Option.bind, cmpD, ltD, leD, gtD, geD, addD, subD, negD, modD, mMakF, mkA, sFldS, putD, fldD, mBinO, mOpO, mCmpO, mEqO, mUnO, mLenO, mSubO, mIxO, mPrp, cand_int, cand_tup, cand_lst, cand_scr, cand_str, cand_bl, cand_non, cand_ins, look0, okY_ii, okY_int, sameC_ii, mCmpG, mEqG, okE_n, okE_01, okE_int, okE_bl, okE_str, okE_non, look1, look01, look10, mTruO, mBlO, sParX, xS, xO, xNil, stoX_cons, stoX_nil, It.sl, zip2, zip3, blD, lenD, eqD, neD, Option.map_some, eqB_int,
  List.map, List.length_cons, List.length_nil, List.getElem?_cons_zero, List.getElem?_cons_succ, List.set_cons_zero, List.set_cons_succ, List.append, List.cons_append, List.nil_append, List.replicate, List.take, Nat.reduceAdd, Nat.reduceSub, Bool.not_true, Bool.not_false, decide_true, decide_false, beq_self_eq_true, bne_self_eq_false, Bool.false_eq_true, reduceIte, ↓reduceIte, F_check_integer, m_check_integer, e_is_integer]
/-! powers -/
theorem loop_power (b : Int) (hb2 : b.natAbs < 2 ^ 64) (n : D) : ∀ (ds : List D) (x3 : Sl) (acc : Int), np x3 = true → ∃ y, np y = true ∧ sLoop (tgName 3) (sSet 2 (mBin mulD (mVar 2) (mVar 0))) ds [.sh (.int b), .sh n, .sh (.int acc), x3] = .ok .nx [.sh (.int b), .sh n, .sh (.int (acc * b ^ ds.length)), y]
  | [], x3, acc, h => ⟨x3, h, by simp [sLoop, sNx, DL.ret]⟩
  | d :: ds, x3, acc, h => by
    have m : mulOk2 acc b = true := by simp [mulOk2, hb2]
    obtain ⟨y, hy, e⟩ := loop_power b hb2 n ds (.sh d) (acc * b) rfl
    refine ⟨y, hy, ?_⟩
    rw [loop_nx (e1 := [.sh (.int b), .sh n, .sh (.int acc), .sh d]) (e2 := [.sh (.int b), .sh n, .sh (.int (acc * b)), .sh d]), e, List.length_cons, Int.pow_succ, Int.mul_assoc, Int.mul_comm b]
    · simp only [DL.bnd, DL.ret, DL.lft, mVar, mCons, mNil, mCallA, callA, callAF, callB, mCallAF, mCallB, mBin, mUn, mB, mTru, truD, mNot, mAnd, mOr, mBv, mIf, mCb, mChain, mTup, mLst, sSeq, sNx, sIf, sRet, sRetF, sDrop, sSet, sSetF, sto_np, npAt, np_sh, np_ow, np_no, cm_sh, cm_no, DL.nox, fnM, DL.run,
  frz, full_lst, full_ins, nmN, DL.own, mdf, Sl.put, Sl.mut, Option.bind, cmpD, ltD, leD, gtD, geD, addD, subD, negD, modD, mMakF, mkA, sFldS, putD, fldD, mBinO, mOpO, mCmpO, mEqO, mUnO, mLenO, mSubO, mIxO, mPrp, cand_int, cand_tup, cand_lst, cand_scr, cand_str, cand_bl, cand_non, cand_ins, look0, okY_ii, okY_int, sameC_ii, mCmpG, mEqG, okE_n, okE_01, okE_int, okE_bl, okE_str, okE_non, look1, look01, look10, mTruO, mBlO, sParX, xS, xO, xNil, stoX_cons, stoX_nil, It.sl, zip2, zip3, blD, lenD, eqD, neD, Option.map_some, eqB_int,
  List.map, List.length_cons, List.length_nil, List.getElem?_cons_zero, List.getElem?_cons_succ, List.set_cons_zero, List.set_cons_succ, List.append, List.cons_append, List.nil_append, List.replicate, List.take, Nat.reduceAdd, Nat.reduceSub, Bool.not_true, Bool.not_false, decide_true, decide_false, beq_self_eq_true, bne_self_eq_false, Bool.false_eq_true, reduceIte, ↓reduceIte, tgName, stE_np, h]
    · simp only [DL.bnd, DL.ret, DL.lft, mVar, mCons, mNil, mCallA, callA, callAF, callB, mCallAF, mCallB, mBin, mUn, mB, mTru, truD, mNot, mAnd, mOr, mBv, mIf, mCb, mChain, mTup, mLst, sSeq, sNx, sIf, sRet, sRetF, sDrop, sSet, sSetF, sto_np, npAt, np_sh, np_ow, np_no, cm_sh, cm_no, DL.nox, fnM, DL.run,
  frz, full_lst, full_ins, nmN, DL.own, mdf, Sl.put, Sl.mut, Option.bind, cmpD, ltD, leD, gtD, geD, addD, subD, negD, modD, mMakF, mkA, sFldS, putD, fldD, mBinO, mOpO, mCmpO, mEqO, mUnO, mLenO, mSubO, mIxO, mPrp, cand_int, cand_tup, cand_lst, cand_scr, cand_str, cand_bl, cand_non, cand_ins, look0, okY_ii, okY_int, sameC_ii, mCmpG, mEqG, okE_n, okE_01, okE_int, okE_bl, okE_str, okE_non, look1, look01, look10, mTruO, mBlO, sParX, xS, xO, xNil, stoX_cons, stoX_nil, It.sl, zip2, zip3, blD, lenD, eqD, neD, Option.map_some, eqB_int,
  List.map, List.length_cons, List.length_nil, List.getElem?_cons_zero, List.getElem?_cons_succ, List.set_cons_zero, List.set_cons_succ, List.append, List.cons_append, List.nil_append, List.replicate, List.take, Nat.reduceAdd, Nat.reduceSub, Bool.not_true, Bool.not_false, decide_true, decide_false, beq_self_eq_true, bne_self_eq_false, Bool.false_eq_true, reduceIte, ↓reduceIte, mulD, m]
theorem rng_nat (n : Nat) (h : n ≤ 1000000) (x : M (List D)) (env e1 : En) (hx : x env = .ok [.int (n : Int)] e1) : iArg rng1D x env = .ok ((List.range n).map fun i => .int ((i : Nat) : Int)) e1 := by
  have h2 : (n : Int) ≤ 1000000 ∧ (-1000000 : Int) ≤ n := by omega
  simp only [iArg, DL.bnd, hx, rng1D, DL.lft, h2, and_self, if_true, Int.toNat_natCast]
theorem e_power (b : Int) (hb2 : b.natAbs < 2 ^ 64) (n : Nat) (hn : n ≤ 1000000) : F_power [.sh (.int b), .sh (.int (n : Int))] = .ok (.rt (.int (b ^ n))) [.sh (.int b), .sh (.int (n : Int))] := by
  have h := loop_power b hb2 (.int (n : Int)) ((List.range n).map fun i => .int ((i : Nat) : Int)) .no 1 rfl
  obtain ⟨y, hy, e⟩ := h
  rw [List.length_map, List.length_range, Int.one_mul] at e
  have e2 : m_power [.sh (.int b), .sh (.int (n : Int)), .no, .no] = .ok (.rt (.int (b ^ n))) [.sh (.int b), .sh (.int (n : Int)), .sh (.int (b ^ n)), y] := by
    unfold m_power
    rw [seq_nx (e1 := [.sh (.int b), .sh (.int (n : Int)), .sh (.int 1), .no]), seq_nx (for_ok (rng_nat n hn _ _ [.sh (.int b), .sh (.int (n : Int)), .sh (.int 1), .no] (by simp only [DL.bnd, DL.ret, DL.lft, mVar, mCons, mNil, mCallA, callA, callAF, callB, mCallAF, mCallB, mBin, mUn, mB, mTru, truD, mNot, mAnd, mOr, mBv, mIf, mCb, mChain, mTup, mLst, sSeq, sNx, sIf, sRet, sRetF, sDrop, sSet, sSetF, sto_np, npAt, np_sh, np_ow, np_no, cm_sh, cm_no, DL.nox, fnM, DL.run,
  frz, full_lst, full_ins, nmN, DL.own, mdf, Sl.put, Sl.mut, Option.bind, cmpD, ltD, leD, gtD, geD, addD, subD, negD, modD, mMakF, mkA, sFldS, putD, fldD, mBinO, mOpO, mCmpO, mEqO, mUnO, mLenO, mSubO, mIxO, mPrp, cand_int, cand_tup, cand_lst, cand_scr, cand_str, cand_bl, cand_non, cand_ins, look0, okY_ii, okY_int, sameC_ii, mCmpG, mEqG, okE_n, okE_01, okE_int, okE_bl, okE_str, okE_non, look1, look01, look10, mTruO, mBlO, sParX, xS, xO, xNil, stoX_cons, stoX_nil, It.sl, zip2, zip3, blD, lenD, eqD, neD, Option.map_some, eqB_int,
  List.map, List.length_cons, List.length_nil, List.getElem?_cons_zero, List.getElem?_cons_succ, List.set_cons_zero, List.set_cons_succ, List.append, List.cons_append, List.nil_append, List.replicate, List.take, Nat.reduceAdd, Nat.reduceSub, Bool.not_true, Bool.not_false, decide_true, decide_false, beq_self_eq_true, bne_self_eq_false, Bool.false_eq_true, reduceIte, ↓reduceIte])) e)]
    · simp only [DL.bnd, DL.ret, DL.lft, mVar, mCons, mNil, mCallA, callA, callAF, callB, mCallAF, mCallB, mBin, mUn, mB, mTru, truD, mNot, mAnd, mOr, mBv, mIf, mCb, mChain, mTup, mLst, sSeq, sNx, sIf, sRet, sRetF, sDrop, sSet, sSetF, sto_np, npAt, np_sh, np_ow, np_no, cm_sh, cm_no, DL.nox, fnM, DL.run,
  frz, full_lst, full_ins, nmN, DL.own, mdf, Sl.put, Sl.mut, Option.bind, cmpD, ltD, leD, gtD, geD, addD, subD, negD, modD, mMakF, mkA, sFldS, putD, fldD, mBinO, mOpO, mCmpO, mEqO, mUnO, mLenO, mSubO, mIxO, mPrp, cand_int, cand_tup, cand_lst, cand_scr, cand_str, cand_bl, cand_non, cand_ins, look0, okY_ii, okY_int, sameC_ii, mCmpG, mEqG, okE_n, okE_01, okE_int, okE_bl, okE_str, okE_non, look1, look01, look10, mTruO, mBlO, sParX, xS, xO, xNil, stoX_cons, stoX_nil, It.sl, zip2, zip3, blD, lenD, eqD, neD, Option.map_some, eqB_int,
  List.map, List.length_cons, List.length_nil, List.getElem?_cons_zero, List.getElem?_cons_succ, List.set_cons_zero, List.set_cons_succ, List.append, List.cons_append, List.nil_append, List.replicate, List.take, Nat.reduceAdd, Nat.reduceSub, Bool.not_true, Bool.not_false, decide_true, decide_false, beq_self_eq_true, bne_self_eq_false, Bool.false_eq_true, reduceIte, ↓reduceIte]
    · simp only [DL.bnd, DL.ret, DL.lft, mVar, mCons, mNil, mCallA, callA, callAF, callB, mCallAF, mCallB, mBin, mUn, mB, mTru, truD, mNot, mAnd, mOr, mBv, mIf, mCb, mChain, mTup, mLst, sSeq, sNx, sIf, sRet, sRetF, sDrop, sSet, sSetF, sto_np, npAt, np_sh, np_ow, np_no, cm_sh, cm_no, DL.nox, fnM, DL.run,
  frz, full_lst, full_ins, nmN, DL.own, mdf, Sl.put, Sl.mut, Option.bind, cmpD, ltD, leD, gtD, geD, addD, subD, negD, modD, mMakF, mkA, sFldS, putD, fldD, mBinO, mOpO, mCmpO, mEqO, mUnO, mLenO, mSubO, mIxO, mPrp, cand_int, cand_tup, cand_lst, cand_scr, cand_str, cand_bl, cand_non, cand_ins, look0, okY_ii, okY_int, sameC_ii, mCmpG, mEqG, okE_n, okE_01, okE_int, okE_bl, okE_str, okE_non, look1, look01, look10, mTruO, mBlO, sParX, xS, xO, xNil, stoX_cons, stoX_nil, It.sl, zip2, zip3, blD, lenD, eqD, neD, Option.map_some, eqB_int,
  List.map, List.length_cons, List.length_nil, List.getElem?_cons_zero, List.getElem?_cons_succ, List.set_cons_zero, List.set_cons_succ, List.append, List.cons_append, List.nil_append, List.replicate, List.take, Nat.reduceAdd, Nat.reduceSub, Bool.not_true, Bool.not_false, decide_true, decide_false, beq_self_eq_true, bne_self_eq_false, Bool.false_eq_true, reduceIte, ↓reduceIte]
  exact fn_rt rfl e2 rfl
theorem pow_pos' {b : Int} (h : 2 ≤ b) (n : Nat) : 0 < b ^ n := Int.pow_pos (by omega)
theorem pow_log {b : Int} (h : 2 ≤ b) (h2 : b ≤ 36) {n : Nat} (hn : n ≤ 80) : (b ^ n).natAbs.log2 < 9000 := by
  have e : (b ^ n).natAbs = b.natAbs ^ n := Int.natAbs_pow b n
  rw [e]
  have h3 : b.natAbs ^ n < 2 ^ 9000 := by
    have h4 : b.natAbs ≤ 2 ^ 6 := by omega
    have h5 : b.natAbs ^ n ≤ (2 ^ 6) ^ n := Nat.pow_le_pow_left h4 n
    have h6 : ((2 : Nat) ^ 6) ^ n = 2 ^ (6 * n) := by rw [← Nat.pow_mul]
    have h7 : (2 : Nat) ^ (6 * n) < 2 ^ 9000 := Nat.pow_lt_pow_right (by omega) (by omega)
    omega
  have h0 : b.natAbs ^ n ≠ 0 := by
    have : 0 < b.natAbs ^ n := Nat.pow_pos (by omega)
    omega
  exact (Nat.log2_lt h0).mpr h3
def dig (b a : Int) (i : Nat) : Int := a / b ^ i % b
def dg (b : Int) (w : Nat) (a : Int) : List D := (List.range w).map fun i => .int (dig b a i)
theorem nat_abs_lt {b : Int} (h : 2 ≤ b) (h2 : b ≤ 36) : b.natAbs < 2 ^ 64 := by omega
theorem e_digits (b : Int) (h : 2 ≤ b) (h2 : b ≤ 36) (w : Nat) (hw : w ≤ 40) (a : Int) : F_digits_of [.sh (.int a), .sh (.int b), .sh (.int (w : Int))] = .ok (.rt (.lst (dg b w a))) [.sh (.int a), .sh (.int b), .sh (.int (w : Int))] := by
  refine fn_rt (e := [.sh (.int a), .sh (.int b), .sh (.int (w : Int)), .no]) rfl ?_ rfl
  have h1 := mLc_pure (v := 3) (y := .no) (env := [.sh (.int a), .sh (.int b), .sh (.int (w : Int)), .no]) (m := mBin modD (mBin divD (mVar 0) (mCallA F_power [] (mCons (mVar 1) (mCons (mVar 3) mNil)))) (mVar 1))
    (f := fun d => match d with | .int i => .int (dig b a i.toNat) | x => x)
    (rng_nat w (by omega) (mCons (mVar 2) mNil) [.sh (.int a), .sh (.int b), .sh (.int (w : Int)), .no] _ (by simp only [DL.bnd, DL.ret, DL.lft, mVar, mCons, mNil, mCallA, callA, callAF, callB, mCallAF, mCallB, mBin, mUn, mB, mTru, truD, mNot, mAnd, mOr, mBv, mIf, mCb, mChain, mTup, mLst, sSeq, sNx, sIf, sRet, sRetF, sDrop, sSet, sSetF, sto_np, npAt, np_sh, np_ow, np_no, cm_sh, cm_no, DL.nox, fnM, DL.run,
  frz, full_lst, full_ins, nmN, DL.own, mdf, Sl.put, Sl.mut, Option.bind, cmpD, ltD, leD, gtD, geD, addD, subD, negD, modD, mMakF, mkA, sFldS, putD, fldD, mBinO, mOpO, mCmpO, mEqO, mUnO, mLenO, mSubO, mIxO, mPrp, cand_int, cand_tup, cand_lst, cand_scr, cand_str, cand_bl, cand_non, cand_ins, look0, okY_ii, okY_int, sameC_ii, mCmpG, mEqG, okE_n, okE_01, okE_int, okE_bl, okE_str, okE_non, look1, look01, look10, mTruO, mBlO, sParX, xS, xO, xNil, stoX_cons, stoX_nil, It.sl, zip2, zip3, blD, lenD, eqD, neD, Option.map_some, eqB_int,
  List.map, List.length_cons, List.length_nil, List.getElem?_cons_zero, List.getElem?_cons_succ, List.set_cons_zero, List.set_cons_succ, List.append, List.cons_append, List.nil_append, List.replicate, List.take, Nat.reduceAdd, Nat.reduceSub, Bool.not_true, Bool.not_false, decide_true, decide_false, beq_self_eq_true, bne_self_eq_false, Bool.false_eq_true, reduceIte, ↓reduceIte])) rfl rfl (by simp [small]; omega) (fun d hd => by
      obtain ⟨i, hi, rfl⟩ := List.mem_map.mp hd
      have hi := List.mem_range.mp hi
      have c : 0 < b ^ i ∧ (b ^ i).natAbs.log2 < 9000 := ⟨pow_pos' h i, pow_log h h2 (by omega)⟩
      have c2 : 0 < b := by omega
      simp only [DL.bnd, DL.ret, DL.lft, mVar, mCons, mNil, mCallA, callA, callAF, callB, mCallAF, mCallB, mBin, mUn, mB, mTru, truD, mNot, mAnd, mOr, mBv, mIf, mCb, mChain, mTup, mLst, sSeq, sNx, sIf, sRet, sRetF, sDrop, sSet, sSetF, sto_np, npAt, np_sh, np_ow, np_no, cm_sh, cm_no, DL.nox, fnM, DL.run,
  frz, full_lst, full_ins, nmN, DL.own, mdf, Sl.put, Sl.mut, Option.bind, cmpD, ltD, leD, gtD, geD, addD, subD, negD, modD, mMakF, mkA, sFldS, putD, fldD, mBinO, mOpO, mCmpO, mEqO, mUnO, mLenO, mSubO, mIxO, mPrp, cand_int, cand_tup, cand_lst, cand_scr, cand_str, cand_bl, cand_non, cand_ins, look0, okY_ii, okY_int, sameC_ii, mCmpG, mEqG, okE_n, okE_01, okE_int, okE_bl, okE_str, okE_non, look1, look01, look10, mTruO, mBlO, sParX, xS, xO, xNil, stoX_cons, stoX_nil, It.sl, zip2, zip3, blD, lenD, eqD, neD, Option.map_some, eqB_int,
  List.map, List.length_cons, List.length_nil, List.getElem?_cons_zero, List.getElem?_cons_succ, List.set_cons_zero, List.set_cons_succ, List.append, List.cons_append, List.nil_append, List.replicate, List.take, Nat.reduceAdd, Nat.reduceSub, Bool.not_true, Bool.not_false, decide_true, decide_false, beq_self_eq_true, bne_self_eq_false, Bool.false_eq_true, reduceIte, ↓reduceIte, e_power b (nat_abs_lt h h2) i (by omega), divD, c, c2, and_self, dig, Int.toNat_natCast])
  have e2 : (List.map (fun d => match d with | .int i => D.int (dig b a i.toNat) | x => x) (List.map (fun i => D.int ((i : Nat) : Int)) (List.range w))) = dg b w a := by
    rw [List.map_map]
    rfl
  rw [e2] at h1
  show m_digits_of [.sh (.int a), .sh (.int b), .sh (.int (w : Int)), .no] = _
  simp only [m_digits_of, sRet, frz, DL.bnd, h1, full_lst, if_true, DL.ret]
/-! words -/
abbrev Wd (b : Int) (w : Nat) (a : Int) : D := .ins 0 [.int b, .int a, .tup (dg b w a)]
theorem ix0 : ixF "radix" (nmT 0) = some 0 := rfl
theorem ix1 : ixF "amount" (nmT 0) = some 1 := rfl
theorem ix2 : ixF "row" (nmT 0) = some 2 := rfl
theorem dg_len (b : Int) (w : Nat) (a : Int) : (dg b w a).length = w := by simp [dg]
section
variable {b : Int} {w : Nat} (hb : 2 ≤ b) (hb2 : b ≤ 36) (hw : 1 ≤ w) (hw2 : w ≤ 40)
include hb hb2 hw hw2
theorem e_init (v : Int) : F_Word_init [.pn (.ins 0 []), .sh (.int v), .sh (.int b), .sh (.int (w : Int))] = .ok (.rt .non) [.pn (Wd b w (v % b ^ w)), .sh (.int v), .sh (.int b), .sh (.int (w : Int))] := by
  refine fx_nx rfl (e := [.pn (Wd b w (v % b ^ w)), .sh (.int v), .sh (.int b), .sh (.int (w : Int))]) ?_ rfl
  have c1 : (1 : Int) ≤ w := by omega
  have c2 : (w : Int) ≤ 40 := by omega
  have c3 := pow_pos' hb w
  simp only [DL.bnd, DL.ret, DL.lft, mVar, mCons, mNil, mCallA, callA, callAF, callB, mCallAF, mCallB, mBin, mUn, mB, mTru, truD, mNot, mAnd, mOr, mBv, mIf, mCb, mChain, mTup, mLst, sSeq, sNx, sIf, sRet, sRetF, sDrop, sSet, sSetF, sto_np, npAt, np_sh, np_ow, np_no, cm_sh, cm_no, DL.nox, fnM, DL.run,
  frz, full_lst, full_ins, nmN, DL.own, mdf, Sl.put, Sl.mut, Option.bind, cmpD, ltD, leD, gtD, geD, addD, subD, negD, modD, mMakF, mkA, sFldS, putD, fldD, mBinO, mOpO, mCmpO, mEqO, mUnO, mLenO, mSubO, mIxO, mPrp, cand_int, cand_tup, cand_lst, cand_scr, cand_str, cand_bl, cand_non, cand_ins, look0, okY_ii, okY_int, sameC_ii, mCmpG, mEqG, okE_n, okE_01, okE_int, okE_bl, okE_str, okE_non, look1, look01, look10, mTruO, mBlO, sParX, xS, xO, xNil, stoX_cons, stoX_nil, It.sl, zip2, zip3, blD, lenD, eqD, neD, Option.map_some, eqB_int,
  List.map, List.length_cons, List.length_nil, List.getElem?_cons_zero, List.getElem?_cons_succ, List.set_cons_zero, List.set_cons_succ, List.append, List.cons_append, List.nil_append, List.replicate, List.take, Nat.reduceAdd, Nat.reduceSub, Bool.not_true, Bool.not_false, decide_true, decide_false, beq_self_eq_true, bne_self_eq_false, Bool.false_eq_true, reduceIte, ↓reduceIte, m_Word_init, e_check_between hb hb2, e_check_between c1 c2, e_check_integer, e_power b (nat_abs_lt hb hb2) w (by omega), ix0, ix1, ix2, c3, e_digits b hb hb2 w hw2, tupleD, Nat.lt_irrefl, Nat.reduceLT, Nat.not_lt_zero]
theorem e_make (v : Int) (env : En) : mkA F_Word_init 0 [.int v, .int b, .int (w : Int)] env = .ok (Wd b w (v % b ^ w)) env := by
  simp only [DL.bnd, DL.ret, DL.lft, mVar, mCons, mNil, mCallA, callA, callAF, callB, mCallAF, mCallB, mBin, mUn, mB, mTru, truD, mNot, mAnd, mOr, mBv, mIf, mCb, mChain, mTup, mLst, sSeq, sNx, sIf, sRet, sRetF, sDrop, sSet, sSetF, sto_np, npAt, np_sh, np_ow, np_no, cm_sh, cm_no, DL.nox, fnM, DL.run,
  frz, full_lst, full_ins, nmN, DL.own, mdf, Sl.put, Sl.mut, Option.bind, cmpD, ltD, leD, gtD, geD, addD, subD, negD, modD, mMakF, mkA, sFldS, putD, fldD, mBinO, mOpO, mCmpO, mEqO, mUnO, mLenO, mSubO, mIxO, mPrp, cand_int, cand_tup, cand_lst, cand_scr, cand_str, cand_bl, cand_non, cand_ins, look0, okY_ii, okY_int, sameC_ii, mCmpG, mEqG, okE_n, okE_01, okE_int, okE_bl, okE_str, okE_non, look1, look01, look10, mTruO, mBlO, sParX, xS, xO, xNil, stoX_cons, stoX_nil, It.sl, zip2, zip3, blD, lenD, eqD, neD, Option.map_some, eqB_int,
  List.map, List.length_cons, List.length_nil, List.getElem?_cons_zero, List.getElem?_cons_succ, List.set_cons_zero, List.set_cons_succ, List.append, List.cons_append, List.nil_append, List.replicate, List.take, Nat.reduceAdd, Nat.reduceSub, Bool.not_true, Bool.not_false, decide_true, decide_false, beq_self_eq_true, bne_self_eq_false, Bool.false_eq_true, reduceIte, ↓reduceIte, e_init hb hb2 hw hw2]
end
end LW

set_option Elab.async false
set_option linter.all false
set_option maxRecDepth 100000
set_option maxHeartbeats 400000
namespace LW
open PySem L2 DL
theorem p0 (a b : D) : ixD (.lst [a, b]) (.int 0) = some a := rfl
theorem p1 (a b : D) : ixD (.lst [a, b]) (.int 1) = some b := rfl
theorem n0 : ixN 2 0 = some 0 := rfl
theorem n1 : ixN 2 1 = some 1 := rfl
def tq (q : Int) : Int := (q * 48271 + 12345) % 2147483647
def tkV (p q n : Int) : Int := if 0 < p then p % n else tq q * tq q % 2147483629 / 64 % n
def tkP (p q n : Int) : Int := if 0 < p then p / n else p
def tkQ (p q n : Int) : Int := if 0 < p then q else tq q
abbrev Pl (p q : Int) : D := .lst [.int p, .int q]
theorem tkV_lo {p q n : Int} (h : 0 < n) : 0 ≤ tkV p q n := by
  unfold tkV
  split <;> exact Int.emod_nonneg _ (by omega)
theorem tkV_hi {p q n : Int} (h : 0 < n) : tkV p q n < n := by
  unfold tkV
  split <;> exact Int.emod_lt_of_pos _ h
theorem tq_b (q : Int) : 0 ≤ tq q ∧ tq q < 2147483647 := ⟨Int.emod_nonneg _ (by decide), Int.emod_lt_of_pos _ (by decide)⟩
theorem e_take (p q n : Int) (h : 0 < n) (hl : n.natAbs.log2 < 9000) : F_law_take [.pn (Pl p q), .sh (.int n)] = .ok (.rt (.int (tkV p q n))) [.pn (Pl (tkP p q n) (tkQ p q n)), .sh (.int n)] := by
  have m1 : mulOk2 q 48271 = true := by simp [mulOk2]
  have m2 : mulOk2 (tq q) (tq q) = true := by
    have := tq_b q
    simp [mulOk2]
    omega
  have c64 : (0 : Int) < 64 ∧ Nat.log2 (Int.natAbs 64) < 9000 := by decide
  have ca : (0 : Int) < 2147483647 := by decide
  have cb : (0 : Int) < 2147483629 := by decide
  by_cases hp : 0 < p
  · refine fn_rt rfl (e := [.pn (Pl (p / n) q), .sh (.int n), .sh (.int (p % n))]) ?_ (by simp only [tkP, tkQ, if_pos hp]; rfl)
    simp only [tkV, if_pos hp]
    simp only [DL.bnd, DL.ret, DL.lft, mVar, mCons, mNil, mCallA, callA, callAF, callB, mCallAF, mCallB, mBin, mUn, mB, mTru, truD, mNot, mAnd, mOr, mBv, mIf, mCb, mChain, mTup, mLst, sSeq, sNx, sIf, sRet, sRetF, sDrop, sSet, sSetF, sto_np, npAt, np_sh, np_ow, np_no, cm_sh, cm_no, DL.nox, fnM, DL.run,
  frz, full_lst, full_ins, nmN, DL.own, mdf, Sl.put, Sl.mut, Option.bind, cmpD, ltD, leD, gtD, geD, addD, subD, negD, modD, mMakF, mkA, sFldS, putD, fldD, mBinO, mOpO, mCmpO, mEqO, mUnO, mLenO, mSubO, mIxO, mPrp, cand_int, cand_tup, cand_lst, cand_scr, cand_str, cand_bl, cand_non, cand_ins, look0, okY_ii, okY_int, sameC_ii, mCmpG, mEqG, okE_n, okE_01, okE_int, okE_bl, okE_str, okE_non, look1, look01, look10, mTruO, mBlO, sParX, xS, xO, xNil, stoX_cons, stoX_nil, It.sl, zip2, zip3, blD, lenD, eqD, neD, Option.map_some, eqB_int,
  List.map, List.length_cons, List.length_nil, List.getElem?_cons_zero, List.getElem?_cons_succ, List.set_cons_zero, List.set_cons_succ, List.append, List.cons_append, List.nil_append, List.replicate, List.take, Nat.reduceAdd, Nat.reduceSub, Bool.not_true, Bool.not_false, decide_true, decide_false, beq_self_eq_true, bne_self_eq_false, Bool.false_eq_true, reduceIte, ↓reduceIte, m_law_take, mIxS, peek, Sl.val, p0, p1, hp, h, hl, sPut, n0, n1, divD, and_self, reduceCtorEq]
  · refine fn_rt rfl (e := [.pn (Pl p (tq q)), .sh (.int n), .no]) ?_ (by simp only [tkP, tkQ, if_neg hp]; rfl)
    simp only [tkV, if_neg hp]
    have e : (q * 48271 + 12345) % 2147483647 = tq q := rfl
    simp only [DL.bnd, DL.ret, DL.lft, mVar, mCons, mNil, mCallA, callA, callAF, callB, mCallAF, mCallB, mBin, mUn, mB, mTru, truD, mNot, mAnd, mOr, mBv, mIf, mCb, mChain, mTup, mLst, sSeq, sNx, sIf, sRet, sRetF, sDrop, sSet, sSetF, sto_np, npAt, np_sh, np_ow, np_no, cm_sh, cm_no, DL.nox, fnM, DL.run,
  frz, full_lst, full_ins, nmN, DL.own, mdf, Sl.put, Sl.mut, Option.bind, cmpD, ltD, leD, gtD, geD, addD, subD, negD, modD, mMakF, mkA, sFldS, putD, fldD, mBinO, mOpO, mCmpO, mEqO, mUnO, mLenO, mSubO, mIxO, mPrp, cand_int, cand_tup, cand_lst, cand_scr, cand_str, cand_bl, cand_non, cand_ins, look0, okY_ii, okY_int, sameC_ii, mCmpG, mEqG, okE_n, okE_01, okE_int, okE_bl, okE_str, okE_non, look1, look01, look10, mTruO, mBlO, sParX, xS, xO, xNil, stoX_cons, stoX_nil, It.sl, zip2, zip3, blD, lenD, eqD, neD, Option.map_some, eqB_int,
  List.map, List.length_cons, List.length_nil, List.getElem?_cons_zero, List.getElem?_cons_succ, List.set_cons_zero, List.set_cons_succ, List.append, List.cons_append, List.nil_append, List.replicate, List.take, Nat.reduceAdd, Nat.reduceSub, Bool.not_true, Bool.not_false, decide_true, decide_false, beq_self_eq_true, bne_self_eq_false, Bool.false_eq_true, reduceIte, ↓reduceIte, m_law_take, mIxS, peek, Sl.val, p0, p1, hp, h, hl, sPut, n0, n1, divD, mulD, m1, ca, cb, e, m2, c64, and_self, reduceCtorEq]
theorem ixs (ns : List Int) (k : Nat) (h : k < ns.length) : ixD (.scr ns) (.int (k : Int)) = some (.int ns[k]) := by
  have : ixN ns.length (k : Int) = some k := by
    unfold ixN
    rw [if_pos (by omega), if_pos (by omega)]
    simp
  simp [ixD, atI, this, h]
def plM (c : Int) (k : Nat) : Int := (c % 2147483629 + 7919 * (k : Int) * (k : Int) + 31 * (k : Int) + 17) * 48271 % 2147483647
theorem pool_tail (L : List (Nat × Fm)) (scr : D) (k : Nat) (hk : k < 1000) (c : Int) (x3 : Sl) (h3 : np x3 = true) : ∃ p q x, (0 ≤ c → 0 ≤ p) ∧ (sSeq (sSet 3 (mBin modD (mBin mulD (mBinO L addD (mBinO L addD (mBinO L addD (mBin modD (mVar 2) (DL.ret (.int 2147483629))) (mBin mulD (mBin mulD (DL.ret (.int 7919)) (mVar 1)) (mVar 1))) (mBin mulD (DL.ret (.int 31)) (mVar 1))) (DL.ret (.int 17))) (DL.ret (.int 48271))) (DL.ret (.int 2147483647))))
  (sRetF (mLst (mCons (mBin mulD (mVar 2) (mCb intD (mCons (mBin geD (mVar 2) pw_10_18) mNil))) (mCons (mBin modD (mBin mulD (mVar 3) (mVar 3)) (DL.ret (.int 2147483629))) mNil))))) [.sh scr, .sh (.int (k : Int)), .sh (.int c), x3] = .ok (.rto (Pl p q)) [.sh scr, .sh (.int (k : Int)), .sh (.int c), x] := by
  refine ⟨c * (if decide ((10 : Int) ^ 18 ≤ c) = true then 1 else 0), plM c k * plM c k % 2147483629, .sh (.int (plM c k)), fun h => ?_, ?_⟩
  · split <;> omega
  have m1 : mulOk2 7919 (k : Int) = true := by simp [mulOk2]
  have m2 : mulOk2 (7919 * (k : Int)) (k : Int) = true := by simp [mulOk2]; omega
  have m3 : mulOk2 31 (k : Int) = true := by simp [mulOk2]
  have m4 : ∀ x : Int, mulOk2 x 48271 = true := fun x => by simp [mulOk2]
  have m5 : ∀ x : Bool, mulOk2 c (if x = true then 1 else 0) = true := fun x => by cases x <;> simp [mulOk2]
  have m6 : mulOk2 (plM c k) (plM c k) = true := by
    have h1 : 0 ≤ plM c k := Int.emod_nonneg _ (by decide)
    have h2 : plM c k < 2147483647 := Int.emod_lt_of_pos _ (by decide)
    simp [mulOk2]
    omega
  have c1 : (0 : Int) < 2147483629 := by decide
  have c2 : (0 : Int) < 2147483647 := by decide
  have e : (c % 2147483629 + 7919 * (k : Int) * (k : Int) + 31 * (k : Int) + 17) * 48271 % 2147483647 = plM c k := rfl
  have pw : ∀ env, pw_10_18 env = .ok (.int ((10 : Int) ^ 18)) env := fun _ => rfl
  have sm : small 2 = true := rfl
  simp only [DL.bnd, DL.ret, DL.lft, mVar, mCons, mNil, mCallA, callA, callAF, callB, mCallAF, mCallB, mBin, mUn, mB, mTru, truD, mNot, mAnd, mOr, mBv, mIf, mCb, mChain, mTup, mLst, sSeq, sNx, sIf, sRet, sRetF, sDrop, sSet, sSetF, sto_np, npAt, np_sh, np_ow, np_no, cm_sh, cm_no, DL.nox, fnM, DL.run,
  frz, full_lst, full_ins, nmN, DL.own, mdf, Sl.put, Sl.mut, Option.bind, cmpD, ltD, leD, gtD, geD, addD, subD, negD, modD, mMakF, mkA, sFldS, putD, fldD, mBinO, mOpO, mCmpO, mEqO, mUnO, mLenO, mSubO, mIxO, mPrp, cand_int, cand_tup, cand_lst, cand_scr, cand_str, cand_bl, cand_non, cand_ins, look0, okY_ii, okY_int, sameC_ii, mCmpG, mEqG, okE_n, okE_01, okE_int, okE_bl, okE_str, okE_non, look1, look01, look10, mTruO, mBlO, sParX, xS, xO, xNil, stoX_cons, stoX_nil, It.sl, zip2, zip3, blD, lenD, eqD, neD, Option.map_some, eqB_int,
  List.map, List.length_cons, List.length_nil, List.getElem?_cons_zero, List.getElem?_cons_succ, List.set_cons_zero, List.set_cons_succ, List.append, List.cons_append, List.nil_append, List.replicate, List.take, Nat.reduceAdd, Nat.reduceSub, Bool.not_true, Bool.not_false, decide_true, decide_false, beq_self_eq_true, bne_self_eq_false, Bool.false_eq_true, reduceIte, ↓reduceIte, c1, c2, mulD, m1, m2, m3, m4, e, h3, pw, intD, m5, m6, sm]
theorem e_pool (ns : List Int) (k : Nat) (hk : k < 1000) : ∃ p q, 0 ≤ p ∧ F_law_pool [.sh (.scr ns), .sh (.int (k : Int))] = .ok (.rto (Pl p q)) [.sh (.scr ns), .sh (.int (k : Int))] := by
  by_cases h : (k : Int) < (ns.length : Int)
  · have hk2 : k < ns.length := by omega
    obtain ⟨p, q, x, hp, e⟩ := pool_tail [(0, F_Word_add)] (.scr ns) k hk (if ns[k] < 0 then -ns[k] else ns[k]) .no rfl
    refine ⟨p, q, hp (by split <;> omega), fn_rto rfl (e := [.sh (.scr ns), .sh (.int (k : Int)), .sh (.int (if ns[k] < 0 then -ns[k] else ns[k])), x]) ?_ rfl⟩
    unfold m_law_pool
    rw [seq_nx (e1 := [.sh (.scr ns), .sh (.int (k : Int)), .sh (.int 0), .no]), seq_nx (e1 := [.sh (.scr ns), .sh (.int (k : Int)), .sh (.int (if ns[k] < 0 then -ns[k] else ns[k])), .no]), e]
    · simp only [DL.bnd, DL.ret, DL.lft, mVar, mCons, mNil, mCallA, callA, callAF, callB, mCallAF, mCallB, mBin, mUn, mB, mTru, truD, mNot, mAnd, mOr, mBv, mIf, mCb, mChain, mTup, mLst, sSeq, sNx, sIf, sRet, sRetF, sDrop, sSet, sSetF, sto_np, npAt, np_sh, np_ow, np_no, cm_sh, cm_no, DL.nox, fnM, DL.run,
  frz, full_lst, full_ins, nmN, DL.own, mdf, Sl.put, Sl.mut, Option.bind, cmpD, ltD, leD, gtD, geD, addD, subD, negD, modD, mMakF, mkA, sFldS, putD, fldD, mBinO, mOpO, mCmpO, mEqO, mUnO, mLenO, mSubO, mIxO, mPrp, cand_int, cand_tup, cand_lst, cand_scr, cand_str, cand_bl, cand_non, cand_ins, look0, okY_ii, okY_int, sameC_ii, mCmpG, mEqG, okE_n, okE_01, okE_int, okE_bl, okE_str, okE_non, look1, look01, look10, mTruO, mBlO, sParX, xS, xO, xNil, stoX_cons, stoX_nil, It.sl, zip2, zip3, blD, lenD, eqD, neD, Option.map_some, eqB_int,
  List.map, List.length_cons, List.length_nil, List.getElem?_cons_zero, List.getElem?_cons_succ, List.set_cons_zero, List.set_cons_succ, List.append, List.cons_append, List.nil_append, List.replicate, List.take, Nat.reduceAdd, Nat.reduceSub, Bool.not_true, Bool.not_false, decide_true, decide_false, beq_self_eq_true, bne_self_eq_false, Bool.false_eq_true, reduceIte, ↓reduceIte, h, ixs ns k hk2, absD]
    · simp only [DL.bnd, DL.ret, DL.lft, mVar, mCons, mNil, mCallA, callA, callAF, callB, mCallAF, mCallB, mBin, mUn, mB, mTru, truD, mNot, mAnd, mOr, mBv, mIf, mCb, mChain, mTup, mLst, sSeq, sNx, sIf, sRet, sRetF, sDrop, sSet, sSetF, sto_np, npAt, np_sh, np_ow, np_no, cm_sh, cm_no, DL.nox, fnM, DL.run,
  frz, full_lst, full_ins, nmN, DL.own, mdf, Sl.put, Sl.mut, Option.bind, cmpD, ltD, leD, gtD, geD, addD, subD, negD, modD, mMakF, mkA, sFldS, putD, fldD, mBinO, mOpO, mCmpO, mEqO, mUnO, mLenO, mSubO, mIxO, mPrp, cand_int, cand_tup, cand_lst, cand_scr, cand_str, cand_bl, cand_non, cand_ins, look0, okY_ii, okY_int, sameC_ii, mCmpG, mEqG, okE_n, okE_01, okE_int, okE_bl, okE_str, okE_non, look1, look01, look10, mTruO, mBlO, sParX, xS, xO, xNil, stoX_cons, stoX_nil, It.sl, zip2, zip3, blD, lenD, eqD, neD, Option.map_some, eqB_int,
  List.map, List.length_cons, List.length_nil, List.getElem?_cons_zero, List.getElem?_cons_succ, List.set_cons_zero, List.set_cons_succ, List.append, List.cons_append, List.nil_append, List.replicate, List.take, Nat.reduceAdd, Nat.reduceSub, Bool.not_true, Bool.not_false, decide_true, decide_false, beq_self_eq_true, bne_self_eq_false, Bool.false_eq_true, reduceIte, ↓reduceIte]
  · obtain ⟨p, q, x, hp, e⟩ := pool_tail [(0, F_Word_add)] (.scr ns) k hk 0 .no rfl
    refine ⟨p, q, hp (by omega), fn_rto rfl (e := [.sh (.scr ns), .sh (.int (k : Int)), .sh (.int 0), x]) ?_ rfl⟩
    unfold m_law_pool
    rw [seq_nx (e1 := [.sh (.scr ns), .sh (.int (k : Int)), .sh (.int 0), .no]), seq_nx (e1 := [.sh (.scr ns), .sh (.int (k : Int)), .sh (.int 0), .no]), e]
    · simp only [DL.bnd, DL.ret, DL.lft, mVar, mCons, mNil, mCallA, callA, callAF, callB, mCallAF, mCallB, mBin, mUn, mB, mTru, truD, mNot, mAnd, mOr, mBv, mIf, mCb, mChain, mTup, mLst, sSeq, sNx, sIf, sRet, sRetF, sDrop, sSet, sSetF, sto_np, npAt, np_sh, np_ow, np_no, cm_sh, cm_no, DL.nox, fnM, DL.run,
  frz, full_lst, full_ins, nmN, DL.own, mdf, Sl.put, Sl.mut, Option.bind, cmpD, ltD, leD, gtD, geD, addD, subD, negD, modD, mMakF, mkA, sFldS, putD, fldD, mBinO, mOpO, mCmpO, mEqO, mUnO, mLenO, mSubO, mIxO, mPrp, cand_int, cand_tup, cand_lst, cand_scr, cand_str, cand_bl, cand_non, cand_ins, look0, okY_ii, okY_int, sameC_ii, mCmpG, mEqG, okE_n, okE_01, okE_int, okE_bl, okE_str, okE_non, look1, look01, look10, mTruO, mBlO, sParX, xS, xO, xNil, stoX_cons, stoX_nil, It.sl, zip2, zip3, blD, lenD, eqD, neD, Option.map_some, eqB_int,
  List.map, List.length_cons, List.length_nil, List.getElem?_cons_zero, List.getElem?_cons_succ, List.set_cons_zero, List.set_cons_succ, List.append, List.cons_append, List.nil_append, List.replicate, List.take, Nat.reduceAdd, Nat.reduceSub, Bool.not_true, Bool.not_false, decide_true, decide_false, beq_self_eq_true, bne_self_eq_false, Bool.false_eq_true, reduceIte, ↓reduceIte, h]
    · simp only [DL.bnd, DL.ret, DL.lft, mVar, mCons, mNil, mCallA, callA, callAF, callB, mCallAF, mCallB, mBin, mUn, mB, mTru, truD, mNot, mAnd, mOr, mBv, mIf, mCb, mChain, mTup, mLst, sSeq, sNx, sIf, sRet, sRetF, sDrop, sSet, sSetF, sto_np, npAt, np_sh, np_ow, np_no, cm_sh, cm_no, DL.nox, fnM, DL.run,
  frz, full_lst, full_ins, nmN, DL.own, mdf, Sl.put, Sl.mut, Option.bind, cmpD, ltD, leD, gtD, geD, addD, subD, negD, modD, mMakF, mkA, sFldS, putD, fldD, mBinO, mOpO, mCmpO, mEqO, mUnO, mLenO, mSubO, mIxO, mPrp, cand_int, cand_tup, cand_lst, cand_scr, cand_str, cand_bl, cand_non, cand_ins, look0, okY_ii, okY_int, sameC_ii, mCmpG, mEqG, okE_n, okE_01, okE_int, okE_bl, okE_str, okE_non, look1, look01, look10, mTruO, mBlO, sParX, xS, xO, xNil, stoX_cons, stoX_nil, It.sl, zip2, zip3, blD, lenD, eqD, neD, Option.map_some, eqB_int,
  List.map, List.length_cons, List.length_nil, List.getElem?_cons_zero, List.getElem?_cons_succ, List.set_cons_zero, List.set_cons_succ, List.append, List.cons_append, List.nil_append, List.replicate, List.take, Nat.reduceAdd, Nat.reduceSub, Bool.not_true, Bool.not_false, decide_true, decide_false, beq_self_eq_true, bne_self_eq_false, Bool.false_eq_true, reduceIte, ↓reduceIte]
end LW

set_option Elab.async false
set_option linter.all false
set_option maxRecDepth 100000
set_option maxHeartbeats 1000000
namespace LW
open PySem L2 DL
/-! a comprehension over things told apart by what they are made of -/
theorem lc_map {α : Type} {v : Nat} {m : M D} {env : En} {gi go : α → D} (hv : env[v]? = some .no) : ∀ (os : List α) (acc : List D), (∀ o ∈ os, m (env.set v (.sh (gi o))) = .ok (go o) (env.set v (.sh (gi o)))) → lcLoop (tgName v) (DL.ret true) m [v] (os.map gi) acc env = .ok (acc ++ os.map go) env
  | [], acc, _ => by simp [lcLoop, DL.ret]
  | d :: ds, acc, h => by
    have hlt : v < env.length := (List.getElem?_eq_some_iff.mp hv).1
    have h1 : tgName v (gi d) env = some (env.set v (.sh (gi d))) := by
      simp [tgName, stE, hv]
    have h2 := h d List.mem_cons_self
    have h3 : calmE (env.set v (.sh (gi d))) [v] = true := by
      simp [calmE, List.getElem?_set_self hlt, calmS]
    have h4 : wpE (env.set v (.sh (gi d))) [v] = env := by
      simp only [wpE, List.set_set]
      rw [List.getElem?_eq_getElem hlt] at hv
      rw [← Option.some.inj hv, List.set_getElem_self]
    have ih := lc_map (m := m) (gi := gi) (go := go) hv ds (acc ++ [go d]) fun d' hd => h d' (List.mem_cons_of_mem _ hd)
    simp only [List.map_cons, lcLoop, h1, DL.bnd, DL.ret, if_true, h2, h3, h4, ih, List.append_assoc, List.singleton_append]
theorem mLc_map {α : Type} {v : Nat} {mi : M (List D)} {m : M D} {env : En} {gi go : α → D} {os : List α} {y : Sl} (hmi : mi env = .ok (os.map gi) env) (hv : env[v]? = some y) (hc : cm y = true) (hs : small os.length = true) (hm : ∀ o ∈ os, m (env.set v (.sh (gi o))) = .ok (go o) (env.set v (.sh (gi o)))) :
    mLc mi (tgName v) (DL.ret true) m [v] env = .ok (.lst (os.map go)) env := by
  have hlt : v < env.length := (List.getElem?_eq_some_iff.mp hv).1
  have c1 : calmE env [v] = true := by
    simp only [calmE, List.all_cons, List.all_nil, Bool.and_true, hv, calmS_cm, hc]
  have h := lc_map (v := v) (m := m) (env := env.set v .no) (gi := gi) (go := go) (List.getElem?_set_self hlt) os [] (by simpa using hm)
  have h4 : rsE (env.set v .no) env [v] = env := by
    simp only [rsE, List.set_set]
    have : env.getD v .no = env[v] := by simp [List.getD, List.getElem?_eq_getElem hlt]
    rw [this, List.set_getElem_self]
  simp only [mLc, DL.bnd, hmi, c1, List.length_map, hs, and_self, if_true, DL.nox, wpE, h, h4, List.nil_append]
/-! odd values, told -/
def Tl (t : Str) (d : D) : Prop := ∃ r, reprE [d] = some (.str r) ∧ rp1 d = some (.str r) ∧ eqB (.lst [.str t, .str r, .bl true]) (.lst [.str t, .str r, .bl true]) = some true
theorem tl_mk {t : Str} {d : D} (r : Str) (h1 : reprE [d] = some (.str r)) (h2 : rp1 d = some (.str r)) (h3 : eqB (.lst [.str t, .str r, .bl true]) (.lst [.str t, .str r, .bl true]) = some true) : Tl t d := ⟨r, h1, h2, h3⟩
theorem sm1 : small 1 = true := rfl
theorem sm2 : small 2 = true := rfl
theorem sm3 : small 3 = true := rfl
theorem w01 : eqB (.int 0) (.int 0) = some true := by kernel_rfl
theorem okE0 (ds : List D) : okE [0] (.ins 0 ds) = true := rfl
theorem isN (e : En) : True := trivial
/-- what the law's own def tells -/
theorem c_num {x1 x2 x3 d : D} {r : Str} {E : En} {f : Int} (hf : f = 0) (h : F_Word_init [.pn (.ins 0 []), .sh x1, .sh x2, .sh x3] = .ex 0 d E) (rp : rp1 d = some (.str r)) :
    F_law_caught [.sh (.int f), .sh x1, .sh x2, .sh x3] = .ok (.rt (.lst [.str "number", .str r, .bl true])) [.sh (.int f), .sh x1, .sh x2, .sh x3] := by
  subst hf
  refine fn_rt rfl (e := [.sh (.int 0), .sh x1, .sh x2, .sh x3, .no]) ?_ rfl
  simp only [DL.bnd, DL.ret, DL.lft, mVar, mCons, mNil, mCallA, callA, callAF, callB, mCallAF, mCallB, mBin, mUn, mB, mTru, truD, mNot, mAnd, mOr, mBv, mIf, mCb, mChain, mTup, mLst, sSeq, sNx, sIf, sRet, sRetF, sDrop, sSet, sSetF, sto_np, npAt, np_sh, np_ow, np_no, cm_sh, cm_no, DL.nox, fnM, DL.run,
  frz, full_lst, full_ins, nmN, DL.own, mdf, Sl.put, Sl.mut, Option.bind, cmpD, ltD, leD, gtD, geD, addD, subD, negD, modD, mMakF, mkA, sFldS, putD, fldD, mBinO, mOpO, mCmpO, mEqO, mUnO, mLenO, mSubO, mIxO, mPrp, cand_int, cand_tup, cand_lst, cand_scr, cand_str, cand_bl, cand_non, cand_ins, look0, okY_ii, okY_int, sameC_ii, mCmpG, mEqG, okE_n, okE_01, okE_int, okE_bl, okE_str, okE_non, look1, look01, look10, mTruO, mBlO, sParX, xS, xO, xNil, stoX_cons, stoX_nil, It.sl, zip2, zip3, blD, lenD, eqD, neD, Option.map_some, eqB_int,
  List.map, List.length_cons, List.length_nil, List.getElem?_cons_zero, List.getElem?_cons_succ, List.set_cons_zero, List.set_cons_succ, List.append, List.cons_append, List.nil_append, List.replicate, List.take, Nat.reduceAdd, Nat.reduceSub, Bool.not_true, Bool.not_false, decide_true, decide_false, beq_self_eq_true, bne_self_eq_false, Bool.false_eq_true, reduceIte, ↓reduceIte, m_law_caught, sTryL, selH, isNo, endH, h, rp, sm3]
theorem c_of {x1 x2 x3 d : D} {r : Str} {E : En} (h : F_Word_of [.sh (.cls 0), .sh x1, .sh x2] = .ex 0 d E) (rp : rp1 d = some (.str r)) :
    F_law_caught [.sh (.int 1), .sh x1, .sh x2, .sh x3] = .ok (.rt (.lst [.str "number", .str r, .bl true])) [.sh (.int 1), .sh x1, .sh x2, .sh x3] := by
  refine fn_rt rfl (e := [.sh (.int 1), .sh x1, .sh x2, .sh x3, .no]) ?_ rfl
  have z : decide ((1 : Int) = 0) = false := rfl
  simp only [DL.bnd, DL.ret, DL.lft, mVar, mCons, mNil, mCallA, callA, callAF, callB, mCallAF, mCallB, mBin, mUn, mB, mTru, truD, mNot, mAnd, mOr, mBv, mIf, mCb, mChain, mTup, mLst, sSeq, sNx, sIf, sRet, sRetF, sDrop, sSet, sSetF, sto_np, npAt, np_sh, np_ow, np_no, cm_sh, cm_no, DL.nox, fnM, DL.run,
  frz, full_lst, full_ins, nmN, DL.own, mdf, Sl.put, Sl.mut, Option.bind, cmpD, ltD, leD, gtD, geD, addD, subD, negD, modD, mMakF, mkA, sFldS, putD, fldD, mBinO, mOpO, mCmpO, mEqO, mUnO, mLenO, mSubO, mIxO, mPrp, cand_int, cand_tup, cand_lst, cand_scr, cand_str, cand_bl, cand_non, cand_ins, look0, okY_ii, okY_int, sameC_ii, mCmpG, mEqG, okE_n, okE_01, okE_int, okE_bl, okE_str, okE_non, look1, look01, look10, mTruO, mBlO, sParX, xS, xO, xNil, stoX_cons, stoX_nil, It.sl, zip2, zip3, blD, lenD, eqD, neD, Option.map_some, eqB_int,
  List.map, List.length_cons, List.length_nil, List.getElem?_cons_zero, List.getElem?_cons_succ, List.set_cons_zero, List.set_cons_succ, List.append, List.cons_append, List.nil_append, List.replicate, List.take, Nat.reduceAdd, Nat.reduceSub, Bool.not_true, Bool.not_false, decide_true, decide_false, beq_self_eq_true, bne_self_eq_false, Bool.false_eq_true, reduceIte, ↓reduceIte, m_law_caught, sTryL, selH, isNo, endH, mCme, z, h, rp, sm3]
theorem c_ofW {x1 x2 x3 d : D} {r : Str} {E : En} (h : F_Word_of [.sh (.cls 0), .sh x1, .sh x2] = .ex 1 d E) (rp : rp1 d = some (.str r)) :
    F_law_caught [.sh (.int 1), .sh x1, .sh x2, .sh x3] = .ok (.rt (.lst [.str "word", .str r, .bl true])) [.sh (.int 1), .sh x1, .sh x2, .sh x3] := by
  refine fn_rt rfl (e := [.sh (.int 1), .sh x1, .sh x2, .sh x3, .no]) ?_ rfl
  have z : decide ((1 : Int) = 0) = false := rfl
  have y : (1 = 0) = False := by simp
  simp only [DL.bnd, DL.ret, DL.lft, mVar, mCons, mNil, mCallA, callA, callAF, callB, mCallAF, mCallB, mBin, mUn, mB, mTru, truD, mNot, mAnd, mOr, mBv, mIf, mCb, mChain, mTup, mLst, sSeq, sNx, sIf, sRet, sRetF, sDrop, sSet, sSetF, sto_np, npAt, np_sh, np_ow, np_no, cm_sh, cm_no, DL.nox, fnM, DL.run,
  frz, full_lst, full_ins, nmN, DL.own, mdf, Sl.put, Sl.mut, Option.bind, cmpD, ltD, leD, gtD, geD, addD, subD, negD, modD, mMakF, mkA, sFldS, putD, fldD, mBinO, mOpO, mCmpO, mEqO, mUnO, mLenO, mSubO, mIxO, mPrp, cand_int, cand_tup, cand_lst, cand_scr, cand_str, cand_bl, cand_non, cand_ins, look0, okY_ii, okY_int, sameC_ii, mCmpG, mEqG, okE_n, okE_01, okE_int, okE_bl, okE_str, okE_non, look1, look01, look10, mTruO, mBlO, sParX, xS, xO, xNil, stoX_cons, stoX_nil, It.sl, zip2, zip3, blD, lenD, eqD, neD, Option.map_some, eqB_int,
  List.map, List.length_cons, List.length_nil, List.getElem?_cons_zero, List.getElem?_cons_succ, List.set_cons_zero, List.set_cons_succ, List.append, List.cons_append, List.nil_append, List.replicate, List.take, Nat.reduceAdd, Nat.reduceSub, Bool.not_true, Bool.not_false, decide_true, decide_false, beq_self_eq_true, bne_self_eq_false, Bool.false_eq_true, reduceIte, ↓reduceIte, m_law_caught, sTryL, selH, isNo, endH, mCme, z, y, h, rp, sm3]
theorem c_ix {xs : List D} {x2 x3 d : D} {r : Str} {E : En} (h : F_Word_getitem [.sh (.ins 0 xs), .sh x2] = .ex 0 d E) (rp : rp1 d = some (.str r)) :
    F_law_caught [.sh (.int 2), .sh (.ins 0 xs), .sh x2, .sh x3] = .ok (.rt (.lst [.str "number", .str r, .bl true])) [.sh (.int 2), .sh (.ins 0 xs), .sh x2, .sh x3] := by
  refine fn_rt rfl (e := [.sh (.int 2), .sh (.ins 0 xs), .sh x2, .sh x3, .no]) ?_ rfl
  have z : decide ((2 : Int) = 0) = false := rfl
  have y : decide ((2 : Int) = 1) = false := rfl
  simp only [DL.bnd, DL.ret, DL.lft, mVar, mCons, mNil, mCallA, callA, callAF, callB, mCallAF, mCallB, mBin, mUn, mB, mTru, truD, mNot, mAnd, mOr, mBv, mIf, mCb, mChain, mTup, mLst, sSeq, sNx, sIf, sRet, sRetF, sDrop, sSet, sSetF, sto_np, npAt, np_sh, np_ow, np_no, cm_sh, cm_no, DL.nox, fnM, DL.run,
  frz, full_lst, full_ins, nmN, DL.own, mdf, Sl.put, Sl.mut, Option.bind, cmpD, ltD, leD, gtD, geD, addD, subD, negD, modD, mMakF, mkA, sFldS, putD, fldD, mBinO, mOpO, mCmpO, mEqO, mUnO, mLenO, mSubO, mIxO, mPrp, cand_int, cand_tup, cand_lst, cand_scr, cand_str, cand_bl, cand_non, cand_ins, look0, okY_ii, okY_int, sameC_ii, mCmpG, mEqG, okE_n, okE_01, okE_int, okE_bl, okE_str, okE_non, look1, look01, look10, mTruO, mBlO, sParX, xS, xO, xNil, stoX_cons, stoX_nil, It.sl, zip2, zip3, blD, lenD, eqD, neD, Option.map_some, eqB_int,
  List.map, List.length_cons, List.length_nil, List.getElem?_cons_zero, List.getElem?_cons_succ, List.set_cons_zero, List.set_cons_succ, List.append, List.cons_append, List.nil_append, List.replicate, List.take, Nat.reduceAdd, Nat.reduceSub, Bool.not_true, Bool.not_false, decide_true, decide_false, beq_self_eq_true, bne_self_eq_false, Bool.false_eq_true, reduceIte, ↓reduceIte, m_law_caught, sTryL, selH, isNo, endH, z, y, h, rp, sm3]
theorem c_add {xs ys : List D} {x3 : D} {E : En} (h : F_Word_add [.sh (.ins 0 xs), .sh (.ins 0 ys)] = .ex 1 (.ins 0 ys) E) (q : F_Word_eq [.sh (.ins 0 ys), .sh (.ins 0 ys)] = .ok (.rt (.bl true)) [.sh (.ins 0 ys), .sh (.ins 0 ys)]) :
    F_law_caught [.sh (.int 3), .sh (.ins 0 xs), .sh (.ins 0 ys), .sh x3] = .ok (.rt (.lst [.str "word", .bl true, .bl true])) [.sh (.int 3), .sh (.ins 0 xs), .sh (.ins 0 ys), .sh x3] := by
  refine fn_rt rfl (e := [.sh (.int 3), .sh (.ins 0 xs), .sh (.ins 0 ys), .sh x3, .no]) ?_ rfl
  have z : decide ((3 : Int) = 0) = false := rfl
  have y : decide ((3 : Int) = 1) = false := rfl
  have x : decide ((3 : Int) = 2) = false := rfl
  have w : decide ((3 : Int) = 3) = true := rfl
  have v : (1 = 0) = False := by simp
  simp only [DL.bnd, DL.ret, DL.lft, mVar, mCons, mNil, mCallA, callA, callAF, callB, mCallAF, mCallB, mBin, mUn, mB, mTru, truD, mNot, mAnd, mOr, mBv, mIf, mCb, mChain, mTup, mLst, sSeq, sNx, sIf, sRet, sRetF, sDrop, sSet, sSetF, sto_np, npAt, np_sh, np_ow, np_no, cm_sh, cm_no, DL.nox, fnM, DL.run,
  frz, full_lst, full_ins, nmN, DL.own, mdf, Sl.put, Sl.mut, Option.bind, cmpD, ltD, leD, gtD, geD, addD, subD, negD, modD, mMakF, mkA, sFldS, putD, fldD, mBinO, mOpO, mCmpO, mEqO, mUnO, mLenO, mSubO, mIxO, mPrp, cand_int, cand_tup, cand_lst, cand_scr, cand_str, cand_bl, cand_non, cand_ins, look0, okY_ii, okY_int, sameC_ii, mCmpG, mEqG, okE_n, okE_01, okE_int, okE_bl, okE_str, okE_non, look1, look01, look10, mTruO, mBlO, sParX, xS, xO, xNil, stoX_cons, stoX_nil, It.sl, zip2, zip3, blD, lenD, eqD, neD, Option.map_some, eqB_int,
  List.map, List.length_cons, List.length_nil, List.getElem?_cons_zero, List.getElem?_cons_succ, List.set_cons_zero, List.set_cons_succ, List.append, List.cons_append, List.nil_append, List.replicate, List.take, Nat.reduceAdd, Nat.reduceSub, Bool.not_true, Bool.not_false, decide_true, decide_false, beq_self_eq_true, bne_self_eq_false, Bool.false_eq_true, reduceIte, ↓reduceIte, m_law_caught, sTryL, selH, isNo, endH, z, y, x, w, v, h, ownEq, onlyB, q, okE0, and_self, sm3]
theorem c_sub {xs ys : List D} {x3 : D} {E : En} (h : F_Word_sub [.sh (.ins 0 xs), .sh (.ins 0 ys)] = .ex 1 (.ins 0 ys) E) (q : F_Word_eq [.sh (.ins 0 ys), .sh (.ins 0 ys)] = .ok (.rt (.bl true)) [.sh (.ins 0 ys), .sh (.ins 0 ys)]) :
    F_law_caught [.sh (.int 4), .sh (.ins 0 xs), .sh (.ins 0 ys), .sh x3] = .ok (.rt (.lst [.str "word", .bl true, .bl true])) [.sh (.int 4), .sh (.ins 0 xs), .sh (.ins 0 ys), .sh x3] := by
  refine fn_rt rfl (e := [.sh (.int 4), .sh (.ins 0 xs), .sh (.ins 0 ys), .sh x3, .no]) ?_ rfl
  have z : decide ((4 : Int) = 0) = false := rfl
  have y : decide ((4 : Int) = 1) = false := rfl
  have x : decide ((4 : Int) = 2) = false := rfl
  have w : decide ((4 : Int) = 3) = false := rfl
  have v : (1 = 0) = False := by simp
  simp only [DL.bnd, DL.ret, DL.lft, mVar, mCons, mNil, mCallA, callA, callAF, callB, mCallAF, mCallB, mBin, mUn, mB, mTru, truD, mNot, mAnd, mOr, mBv, mIf, mCb, mChain, mTup, mLst, sSeq, sNx, sIf, sRet, sRetF, sDrop, sSet, sSetF, sto_np, npAt, np_sh, np_ow, np_no, cm_sh, cm_no, DL.nox, fnM, DL.run,
  frz, full_lst, full_ins, nmN, DL.own, mdf, Sl.put, Sl.mut, Option.bind, cmpD, ltD, leD, gtD, geD, addD, subD, negD, modD, mMakF, mkA, sFldS, putD, fldD, mBinO, mOpO, mCmpO, mEqO, mUnO, mLenO, mSubO, mIxO, mPrp, cand_int, cand_tup, cand_lst, cand_scr, cand_str, cand_bl, cand_non, cand_ins, look0, okY_ii, okY_int, sameC_ii, mCmpG, mEqG, okE_n, okE_01, okE_int, okE_bl, okE_str, okE_non, look1, look01, look10, mTruO, mBlO, sParX, xS, xO, xNil, stoX_cons, stoX_nil, It.sl, zip2, zip3, blD, lenD, eqD, neD, Option.map_some, eqB_int,
  List.map, List.length_cons, List.length_nil, List.getElem?_cons_zero, List.getElem?_cons_succ, List.set_cons_zero, List.set_cons_succ, List.append, List.cons_append, List.nil_append, List.replicate, List.take, Nat.reduceAdd, Nat.reduceSub, Bool.not_true, Bool.not_false, decide_true, decide_false, beq_self_eq_true, bne_self_eq_false, Bool.false_eq_true, reduceIte, ↓reduceIte, m_law_caught, sTryL, selH, isNo, endH, z, y, x, w, v, h, ownEq, onlyB, q, okE0, and_self, sm3]
/-- such a loop -/
theorem odds {b : S} {env : D → En} {t : Tg} (ht : ∀ d d2, t d (env d2) = some (env d)) : ∀ (ds : List D) (d0 : D), (∀ d ∈ ds, b (env d) = .ok .nx (env d)) → ∃ d1, sLoop t b ds (env d0) = .ok .nx (env d1)
  | [], d0, _ => ⟨d0, by simp [sLoop, sNx, DL.ret]⟩
  | d :: ds, d0, h => by
    obtain ⟨d1, e⟩ := odds ht ds d fun x hx => h x (List.mem_cons_of_mem _ hx)
    exact ⟨d1, by rw [loop_nx (ht d d0) (h d List.mem_cons_self), e]⟩
end LW

set_option Elab.async false
set_option linter.all false
set_option maxRecDepth 100000
set_option maxHeartbeats 2000000
namespace LW
open PySem L2 DL
theorem tl_number_big : Tl "number" (.int ((10 : Int) ^ 20)) := tl_mk "100000000000000000000" (by kernel_rfl) (by kernel_rfl) (by kernel_rfl)
theorem tl_number_dic : Tl "number" (.dic [] []) := tl_mk "{}" (by kernel_rfl) (by kernel_rfl) (by kernel_rfl)
theorem tl_number_fls : Tl "number" (.bl false) := tl_mk "False" (by kernel_rfl) (by kernel_rfl) (by kernel_rfl)
theorem tl_number_i0 : Tl "number" (.int 0) := tl_mk "0" (by kernel_rfl) (by kernel_rfl) (by kernel_rfl)
theorem tl_number_i41 : Tl "number" (.int 41) := tl_mk "41" (by kernel_rfl) (by kernel_rfl) (by kernel_rfl)
theorem tl_number_l0 : Tl "number" (.lst [.int 0]) := tl_mk "[0]" (by kernel_rfl) (by kernel_rfl) (by kernel_rfl)
theorem tl_number_l5 : Tl "number" (.lst [.int 5]) := tl_mk "[5]" (by kernel_rfl) (by kernel_rfl) (by kernel_rfl)
theorem tl_number_l8 : Tl "number" (.lst [.int 8]) := tl_mk "[8]" (by kernel_rfl) (by kernel_rfl) (by kernel_rfl)
theorem tl_number_m1 : Tl "number" (.int (-1)) := tl_mk "-1" (by kernel_rfl) (by kernel_rfl) (by kernel_rfl)
theorem tl_number_non : Tl "number" (.non) := tl_mk "None" (by kernel_rfl) (by kernel_rfl) (by kernel_rfl)
theorem tl_number_s0 : Tl "number" (.str "0") := tl_mk "'0'" (by kernel_rfl) (by kernel_rfl) (by kernel_rfl)
theorem tl_number_s5 : Tl "number" (.str "5") := tl_mk "'5'" (by kernel_rfl) (by kernel_rfl) (by kernel_rfl)
theorem tl_number_s8 : Tl "number" (.str "8") := tl_mk "'8'" (by kernel_rfl) (by kernel_rfl) (by kernel_rfl)
theorem tl_number_t0 : Tl "number" (.tup [.int 0]) := tl_mk "(0,)" (by kernel_rfl) (by kernel_rfl) (by kernel_rfl)
theorem tl_number_t5 : Tl "number" (.tup [.int 5]) := tl_mk "(5,)" (by kernel_rfl) (by kernel_rfl) (by kernel_rfl)
theorem tl_number_tru : Tl "number" (.bl true) := tl_mk "True" (by kernel_rfl) (by kernel_rfl) (by kernel_rfl)
theorem tl_word_non : Tl "word" (.non) := tl_mk "None" (by kernel_rfl) (by kernel_rfl) (by kernel_rfl)
theorem tl_word_i5 : Tl "word" (.int 5) := tl_mk "5" (by kernel_rfl) (by kernel_rfl) (by kernel_rfl)
theorem tl_word_s12 : Tl "word" (.str "12") := tl_mk "'12'" (by kernel_rfl) (by kernel_rfl) (by kernel_rfl)
theorem tl_word_le : Tl "word" (.lst []) := tl_mk "[]" (by kernel_rfl) (by kernel_rfl) (by kernel_rfl)
theorem tl_word_te : Tl "word" (.tup []) := tl_mk "()" (by kernel_rfl) (by kernel_rfl) (by kernel_rfl)
theorem tl_word_l0m : Tl "word" (.lst [.int 0, .int (-1)]) := tl_mk "[0, -1]" (by kernel_rfl) (by kernel_rfl) (by kernel_rfl)
theorem tl_word_l0t : Tl "word" (.lst [.int 0, .bl true]) := tl_mk "[0, True]" (by kernel_rfl) (by kernel_rfl) (by kernel_rfl)
theorem tl_word_ln : Tl "word" (.lst [.non]) := tl_mk "[None]" (by kernel_rfl) (by kernel_rfl) (by kernel_rfl)
theorem tl_word_z41 : Tl "word" (.lst (List.replicate 41 (.int 0))) := tl_mk "[0, 0, 0, 0, 0, 0, 0, 0, 0, 0, 0, 0, 0, 0, 0, 0, 0, 0, 0, 0, 0, 0, 0, 0, 0, 0, 0, 0, 0, 0, 0, 0, 0, 0, 0, 0, 0, 0, 0, 0, 0]" (by kernel_rfl) (by kernel_rfl) (by kernel_rfl)
theorem tl_word_d01 : Tl "word" (.dic [.inl 0] [.int 1]) := tl_mk "{0: 1}" (by kernel_rfl) (by kernel_rfl) (by kernel_rfl)
theorem tl_word_ll : Tl "word" (.lst [.lst [.int 0]]) := tl_mk "[[0]]" (by kernel_rfl) (by kernel_rfl) (by kernel_rfl)
theorem tl_int : ∀ i : Int, 1 ≤ i → i ≤ 40 → Tl "number" (.int i) := fun i h0 h1 => by
  have : i = 1 ∨ i = 2 ∨ i = 3 ∨ i = 4 ∨ i = 5 ∨ i = 6 ∨ i = 7 ∨ i = 8 ∨ i = 9 ∨ i = 10 ∨ i = 11 ∨ i = 12 ∨ i = 13 ∨ i = 14 ∨ i = 15 ∨ i = 16 ∨ i = 17 ∨ i = 18 ∨ i = 19 ∨ i = 20 ∨ i = 21 ∨ i = 22 ∨ i = 23 ∨ i = 24 ∨ i = 25 ∨ i = 26 ∨ i = 27 ∨ i = 28 ∨ i = 29 ∨ i = 30 ∨ i = 31 ∨ i = 32 ∨ i = 33 ∨ i = 34 ∨ i = 35 ∨ i = 36 ∨ i = 37 ∨ i = 38 ∨ i = 39 ∨ i = 40 := by omega
  rcases this with rfl | rfl | rfl | rfl | rfl | rfl | rfl | rfl | rfl | rfl | rfl | rfl | rfl | rfl | rfl | rfl | rfl | rfl | rfl | rfl | rfl | rfl | rfl | rfl | rfl | rfl | rfl | rfl | rfl | rfl | rfl | rfl | rfl | rfl | rfl | rfl | rfl | rfl | rfl | rfl
  · exact tl_mk "1" (by kernel_rfl) (by kernel_rfl) (by kernel_rfl)
  · exact tl_mk "2" (by kernel_rfl) (by kernel_rfl) (by kernel_rfl)
  · exact tl_mk "3" (by kernel_rfl) (by kernel_rfl) (by kernel_rfl)
  · exact tl_mk "4" (by kernel_rfl) (by kernel_rfl) (by kernel_rfl)
  · exact tl_mk "5" (by kernel_rfl) (by kernel_rfl) (by kernel_rfl)
  · exact tl_mk "6" (by kernel_rfl) (by kernel_rfl) (by kernel_rfl)
  · exact tl_mk "7" (by kernel_rfl) (by kernel_rfl) (by kernel_rfl)
  · exact tl_mk "8" (by kernel_rfl) (by kernel_rfl) (by kernel_rfl)
  · exact tl_mk "9" (by kernel_rfl) (by kernel_rfl) (by kernel_rfl)
  · exact tl_mk "10" (by kernel_rfl) (by kernel_rfl) (by kernel_rfl)
  · exact tl_mk "11" (by kernel_rfl) (by kernel_rfl) (by kernel_rfl)
  · exact tl_mk "12" (by kernel_rfl) (by kernel_rfl) (by kernel_rfl)
  · exact tl_mk "13" (by kernel_rfl) (by kernel_rfl) (by kernel_rfl)
  · exact tl_mk "14" (by kernel_rfl) (by kernel_rfl) (by kernel_rfl)
  · exact tl_mk "15" (by kernel_rfl) (by kernel_rfl) (by kernel_rfl)
  · exact tl_mk "16" (by kernel_rfl) (by kernel_rfl) (by kernel_rfl)
  · exact tl_mk "17" (by kernel_rfl) (by kernel_rfl) (by kernel_rfl)
  · exact tl_mk "18" (by kernel_rfl) (by kernel_rfl) (by kernel_rfl)
  · exact tl_mk "19" (by kernel_rfl) (by kernel_rfl) (by kernel_rfl)
  · exact tl_mk "20" (by kernel_rfl) (by kernel_rfl) (by kernel_rfl)
  · exact tl_mk "21" (by kernel_rfl) (by kernel_rfl) (by kernel_rfl)
  · exact tl_mk "22" (by kernel_rfl) (by kernel_rfl) (by kernel_rfl)
  · exact tl_mk "23" (by kernel_rfl) (by kernel_rfl) (by kernel_rfl)
  · exact tl_mk "24" (by kernel_rfl) (by kernel_rfl) (by kernel_rfl)
  · exact tl_mk "25" (by kernel_rfl) (by kernel_rfl) (by kernel_rfl)
  · exact tl_mk "26" (by kernel_rfl) (by kernel_rfl) (by kernel_rfl)
  · exact tl_mk "27" (by kernel_rfl) (by kernel_rfl) (by kernel_rfl)
  · exact tl_mk "28" (by kernel_rfl) (by kernel_rfl) (by kernel_rfl)
  · exact tl_mk "29" (by kernel_rfl) (by kernel_rfl) (by kernel_rfl)
  · exact tl_mk "30" (by kernel_rfl) (by kernel_rfl) (by kernel_rfl)
  · exact tl_mk "31" (by kernel_rfl) (by kernel_rfl) (by kernel_rfl)
  · exact tl_mk "32" (by kernel_rfl) (by kernel_rfl) (by kernel_rfl)
  · exact tl_mk "33" (by kernel_rfl) (by kernel_rfl) (by kernel_rfl)
  · exact tl_mk "34" (by kernel_rfl) (by kernel_rfl) (by kernel_rfl)
  · exact tl_mk "35" (by kernel_rfl) (by kernel_rfl) (by kernel_rfl)
  · exact tl_mk "36" (by kernel_rfl) (by kernel_rfl) (by kernel_rfl)
  · exact tl_mk "37" (by kernel_rfl) (by kernel_rfl) (by kernel_rfl)
  · exact tl_mk "38" (by kernel_rfl) (by kernel_rfl) (by kernel_rfl)
  · exact tl_mk "39" (by kernel_rfl) (by kernel_rfl) (by kernel_rfl)
  · exact tl_mk "40" (by kernel_rfl) (by kernel_rfl) (by kernel_rfl)
theorem tl_lst : ∀ i : Int, 2 ≤ i → i ≤ 36 → Tl "word" (.lst [.int i]) := fun i h0 h1 => by
  have : i = 2 ∨ i = 3 ∨ i = 4 ∨ i = 5 ∨ i = 6 ∨ i = 7 ∨ i = 8 ∨ i = 9 ∨ i = 10 ∨ i = 11 ∨ i = 12 ∨ i = 13 ∨ i = 14 ∨ i = 15 ∨ i = 16 ∨ i = 17 ∨ i = 18 ∨ i = 19 ∨ i = 20 ∨ i = 21 ∨ i = 22 ∨ i = 23 ∨ i = 24 ∨ i = 25 ∨ i = 26 ∨ i = 27 ∨ i = 28 ∨ i = 29 ∨ i = 30 ∨ i = 31 ∨ i = 32 ∨ i = 33 ∨ i = 34 ∨ i = 35 ∨ i = 36 := by omega
  rcases this with rfl | rfl | rfl | rfl | rfl | rfl | rfl | rfl | rfl | rfl | rfl | rfl | rfl | rfl | rfl | rfl | rfl | rfl | rfl | rfl | rfl | rfl | rfl | rfl | rfl | rfl | rfl | rfl | rfl | rfl | rfl | rfl | rfl | rfl | rfl
  · exact tl_mk "[2]" (by kernel_rfl) (by kernel_rfl) (by kernel_rfl)
  · exact tl_mk "[3]" (by kernel_rfl) (by kernel_rfl) (by kernel_rfl)
  · exact tl_mk "[4]" (by kernel_rfl) (by kernel_rfl) (by kernel_rfl)
  · exact tl_mk "[5]" (by kernel_rfl) (by kernel_rfl) (by kernel_rfl)
  · exact tl_mk "[6]" (by kernel_rfl) (by kernel_rfl) (by kernel_rfl)
  · exact tl_mk "[7]" (by kernel_rfl) (by kernel_rfl) (by kernel_rfl)
  · exact tl_mk "[8]" (by kernel_rfl) (by kernel_rfl) (by kernel_rfl)
  · exact tl_mk "[9]" (by kernel_rfl) (by kernel_rfl) (by kernel_rfl)
  · exact tl_mk "[10]" (by kernel_rfl) (by kernel_rfl) (by kernel_rfl)
  · exact tl_mk "[11]" (by kernel_rfl) (by kernel_rfl) (by kernel_rfl)
  · exact tl_mk "[12]" (by kernel_rfl) (by kernel_rfl) (by kernel_rfl)
  · exact tl_mk "[13]" (by kernel_rfl) (by kernel_rfl) (by kernel_rfl)
  · exact tl_mk "[14]" (by kernel_rfl) (by kernel_rfl) (by kernel_rfl)
  · exact tl_mk "[15]" (by kernel_rfl) (by kernel_rfl) (by kernel_rfl)
  · exact tl_mk "[16]" (by kernel_rfl) (by kernel_rfl) (by kernel_rfl)
  · exact tl_mk "[17]" (by kernel_rfl) (by kernel_rfl) (by kernel_rfl)
  · exact tl_mk "[18]" (by kernel_rfl) (by kernel_rfl) (by kernel_rfl)
  · exact tl_mk "[19]" (by kernel_rfl) (by kernel_rfl) (by kernel_rfl)
  · exact tl_mk "[20]" (by kernel_rfl) (by kernel_rfl) (by kernel_rfl)
  · exact tl_mk "[21]" (by kernel_rfl) (by kernel_rfl) (by kernel_rfl)
  · exact tl_mk "[22]" (by kernel_rfl) (by kernel_rfl) (by kernel_rfl)
  · exact tl_mk "[23]" (by kernel_rfl) (by kernel_rfl) (by kernel_rfl)
  · exact tl_mk "[24]" (by kernel_rfl) (by kernel_rfl) (by kernel_rfl)
  · exact tl_mk "[25]" (by kernel_rfl) (by kernel_rfl) (by kernel_rfl)
  · exact tl_mk "[26]" (by kernel_rfl) (by kernel_rfl) (by kernel_rfl)
  · exact tl_mk "[27]" (by kernel_rfl) (by kernel_rfl) (by kernel_rfl)
  · exact tl_mk "[28]" (by kernel_rfl) (by kernel_rfl) (by kernel_rfl)
  · exact tl_mk "[29]" (by kernel_rfl) (by kernel_rfl) (by kernel_rfl)
  · exact tl_mk "[30]" (by kernel_rfl) (by kernel_rfl) (by kernel_rfl)
  · exact tl_mk "[31]" (by kernel_rfl) (by kernel_rfl) (by kernel_rfl)
  · exact tl_mk "[32]" (by kernel_rfl) (by kernel_rfl) (by kernel_rfl)
  · exact tl_mk "[33]" (by kernel_rfl) (by kernel_rfl) (by kernel_rfl)
  · exact tl_mk "[34]" (by kernel_rfl) (by kernel_rfl) (by kernel_rfl)
  · exact tl_mk "[35]" (by kernel_rfl) (by kernel_rfl) (by kernel_rfl)
  · exact tl_mk "[36]" (by kernel_rfl) (by kernel_rfl) (by kernel_rfl)
/-! refused -/
def Rf (d : D) (lo hi : Int) : Prop := F_check_between [.sh d, .sh (.int lo), .sh (.int hi)] = .ex 0 d [.sh d, .sh (.int lo), .sh (.int hi)]
theorem rf_int {i lo hi : Int} (h : ¬ (lo ≤ i ∧ i ≤ hi)) : Rf (.int i) lo hi := by
  have e := e_is_between i lo hi
  rw [decide_eq_false h] at e
  unfold Rf
  simp only [DL.bnd, DL.ret, DL.lft, mVar, mCons, mNil, mCallA, callA, callAF, callB, mCallAF, mCallB, mBin, mUn, mB, mTru, truD, mNot, mAnd, mOr, mBv, mIf, mCb, mChain, mTup, mLst, sSeq, sNx, sIf, sRet, sRetF, sDrop, sSet, sSetF, sto_np, npAt, np_sh, np_ow, np_no, cm_sh, cm_no, DL.nox, fnM, DL.run,
  frz, full_lst, full_ins, nmN, DL.own, mdf, Sl.put, Sl.mut, Option.bind, cmpD, ltD, leD, gtD, geD, addD, subD, negD, modD, mMakF, mkA, sFldS, putD, fldD, mBinO, mOpO, mCmpO, mEqO, mUnO, mLenO, mSubO, mIxO, mPrp, cand_int, cand_tup, cand_lst, cand_scr, cand_str, cand_bl, cand_non, cand_ins, look0, okY_ii, okY_int, sameC_ii, mCmpG, mEqG, okE_n, okE_01, okE_int, okE_bl, okE_str, okE_non, look1, look01, look10, mTruO, mBlO, sParX, xS, xO, xNil, stoX_cons, stoX_nil, It.sl, zip2, zip3, blD, lenD, eqD, neD, Option.map_some, eqB_int,
  List.map, List.length_cons, List.length_nil, List.getElem?_cons_zero, List.getElem?_cons_succ, List.set_cons_zero, List.set_cons_succ, List.append, List.cons_append, List.nil_append, List.replicate, List.take, Nat.reduceAdd, Nat.reduceSub, Bool.not_true, Bool.not_false, decide_true, decide_false, beq_self_eq_true, bne_self_eq_false, Bool.false_eq_true, reduceIte, ↓reduceIte, F_check_between, m_check_between, sRaise, e]
section
variable {b : Int} {w : Nat} (hb : 2 ≤ b) (hb2 : b ≤ 36) (hw : 1 ≤ w) (hw2 : w ≤ 40)
include hb hb2
theorem ini_w {x d : D} (h : Rf d 1 40) : ∃ E, F_Word_init [.pn (.ins 0 []), .sh x, .sh (.int b), .sh d] = .ex 0 d E := by
  unfold Rf at h
  refine ⟨_, fx_ex rfl (e := [.pn (.ins 0 []), .sh x, .sh (.int b), .sh d]) ?_⟩
  simp only [DL.bnd, DL.ret, DL.lft, mVar, mCons, mNil, mCallA, callA, callAF, callB, mCallAF, mCallB, mBin, mUn, mB, mTru, truD, mNot, mAnd, mOr, mBv, mIf, mCb, mChain, mTup, mLst, sSeq, sNx, sIf, sRet, sRetF, sDrop, sSet, sSetF, sto_np, npAt, np_sh, np_ow, np_no, cm_sh, cm_no, DL.nox, fnM, DL.run,
  frz, full_lst, full_ins, nmN, DL.own, mdf, Sl.put, Sl.mut, Option.bind, cmpD, ltD, leD, gtD, geD, addD, subD, negD, modD, mMakF, mkA, sFldS, putD, fldD, mBinO, mOpO, mCmpO, mEqO, mUnO, mLenO, mSubO, mIxO, mPrp, cand_int, cand_tup, cand_lst, cand_scr, cand_str, cand_bl, cand_non, cand_ins, look0, okY_ii, okY_int, sameC_ii, mCmpG, mEqG, okE_n, okE_01, okE_int, okE_bl, okE_str, okE_non, look1, look01, look10, mTruO, mBlO, sParX, xS, xO, xNil, stoX_cons, stoX_nil, It.sl, zip2, zip3, blD, lenD, eqD, neD, Option.map_some, eqB_int,
  List.map, List.length_cons, List.length_nil, List.getElem?_cons_zero, List.getElem?_cons_succ, List.set_cons_zero, List.set_cons_succ, List.append, List.cons_append, List.nil_append, List.replicate, List.take, Nat.reduceAdd, Nat.reduceSub, Bool.not_true, Bool.not_false, decide_true, decide_false, beq_self_eq_true, bne_self_eq_false, Bool.false_eq_true, reduceIte, ↓reduceIte, m_Word_init, e_check_between hb hb2, h]
theorem of_not {d : D} (h : isiD (okOf [0]) [.ty "list", .ty "tuple"] d = some (.bl false)) : ∃ E, F_Word_of [.sh (.cls 0), .sh d, .sh (.int b)] = .ex 1 d E := by
  refine ⟨_, fx_ex rfl (e := [.sh (.cls 0), .sh d, .sh (.int b), .no]) ?_⟩
  simp only [DL.bnd, DL.ret, DL.lft, mVar, mCons, mNil, mCallA, callA, callAF, callB, mCallAF, mCallB, mBin, mUn, mB, mTru, truD, mNot, mAnd, mOr, mBv, mIf, mCb, mChain, mTup, mLst, sSeq, sNx, sIf, sRet, sRetF, sDrop, sSet, sSetF, sto_np, npAt, np_sh, np_ow, np_no, cm_sh, cm_no, DL.nox, fnM, DL.run,
  frz, full_lst, full_ins, nmN, DL.own, mdf, Sl.put, Sl.mut, Option.bind, cmpD, ltD, leD, gtD, geD, addD, subD, negD, modD, mMakF, mkA, sFldS, putD, fldD, mBinO, mOpO, mCmpO, mEqO, mUnO, mLenO, mSubO, mIxO, mPrp, cand_int, cand_tup, cand_lst, cand_scr, cand_str, cand_bl, cand_non, cand_ins, look0, okY_ii, okY_int, sameC_ii, mCmpG, mEqG, okE_n, okE_01, okE_int, okE_bl, okE_str, okE_non, look1, look01, look10, mTruO, mBlO, sParX, xS, xO, xNil, stoX_cons, stoX_nil, It.sl, zip2, zip3, blD, lenD, eqD, neD, Option.map_some, eqB_int,
  List.map, List.length_cons, List.length_nil, List.getElem?_cons_zero, List.getElem?_cons_succ, List.set_cons_zero, List.set_cons_succ, List.append, List.cons_append, List.nil_append, List.replicate, List.take, Nat.reduceAdd, Nat.reduceSub, Bool.not_true, Bool.not_false, decide_true, decide_false, beq_self_eq_true, bne_self_eq_false, Bool.false_eq_true, reduceIte, ↓reduceIte, m_Word_of, e_check_between hb hb2, h, sRaise]
theorem of_len {d : D} {n : Int} (h : isiD (okOf [0]) [.ty "list", .ty "tuple"] d = some (.bl true)) (hn : lenD [d] = some (.int n)) (h2 : ¬ (1 ≤ n ∧ n ≤ 40)) : ∃ E, F_Word_of [.sh (.cls 0), .sh d, .sh (.int b)] = .ex 1 d E := by
  refine ⟨_, fx_ex rfl (e := [.sh (.cls 0), .sh d, .sh (.int b), .no]) ?_⟩
  have hc : mChain leD leD (DL.ret (.int 1)) (mCb lenD (mCons (mVar 1) mNil)) (DL.ret (.int 40)) [.sh (.cls 0), .sh d, .sh (.int b), .no] = .ok (.bl false) [.sh (.cls 0), .sh d, .sh (.int b), .no] := by
    have e1 : mCb lenD (mCons (mVar 1) mNil) [.sh (.cls 0), .sh d, .sh (.int b), .no] = .ok (.int n) [.sh (.cls 0), .sh d, .sh (.int b), .no] := by
      simp only [mCb, mCons, mNil, mVar, DL.bnd, DL.ret, List.getElem?_cons_succ, List.getElem?_cons_zero, hn, DL.lft]
    by_cases c : 1 ≤ n
    · have c2 : ¬ n ≤ 40 := fun z => h2 ⟨c, z⟩
      simp only [mChain, DL.bnd, DL.ret, e1, leD, cmpD, DL.lft, c, c2, decide_true, decide_false, if_true]
    · simp only [mChain, DL.bnd, DL.ret, e1, leD, cmpD, DL.lft, c, decide_false, Bool.false_eq_true, if_false]
  unfold m_Word_of
  generalize mChain leD leD (DL.ret (.int 1)) (mCb lenD (mCons (mVar 1) mNil)) (DL.ret (.int 40)) = Q at hc ⊢
  simp only [DL.bnd, DL.ret, DL.lft, mVar, mCons, mNil, mCallA, callA, callAF, callB, mCallAF, mCallB, mBin, mUn, mB, mTru, truD, mNot, mAnd, mOr, mBv, mIf, mCb, mChain, mTup, mLst, sSeq, sNx, sIf, sRet, sRetF, sDrop, sSet, sSetF, sto_np, npAt, np_sh, np_ow, np_no, cm_sh, cm_no, DL.nox, fnM, DL.run,
  frz, full_lst, full_ins, nmN, DL.own, mdf, Sl.put, Sl.mut, Option.bind, cmpD, ltD, leD, gtD, geD, addD, subD, negD, modD, mMakF, mkA, sFldS, putD, fldD, mBinO, mOpO, mCmpO, mEqO, mUnO, mLenO, mSubO, mIxO, mPrp, cand_int, cand_tup, cand_lst, cand_scr, cand_str, cand_bl, cand_non, cand_ins, look0, okY_ii, okY_int, sameC_ii, mCmpG, mEqG, okE_n, okE_01, okE_int, okE_bl, okE_str, okE_non, look1, look01, look10, mTruO, mBlO, sParX, xS, xO, xNil, stoX_cons, stoX_nil, It.sl, zip2, zip3, blD, lenD, eqD, neD, Option.map_some, eqB_int,
  List.map, List.length_cons, List.length_nil, List.getElem?_cons_zero, List.getElem?_cons_succ, List.set_cons_zero, List.set_cons_succ, List.append, List.cons_append, List.nil_append, List.replicate, List.take, Nat.reduceAdd, Nat.reduceSub, Bool.not_true, Bool.not_false, decide_true, decide_false, beq_self_eq_true, bne_self_eq_false, Bool.false_eq_true, reduceIte, ↓reduceIte, e_check_between hb hb2, h, hc, sRaise]
theorem of_dig {ps : List (D × Bool)} (hl : 1 ≤ ps.length) (hl2 : ps.length ≤ 40) (hp : ∀ p ∈ ps, F_is_between [.sh p.1, .sh (.int 0), .sh (.int (b - 1))] = .ok (.rt (.bl p.2)) [.sh p.1, .sh (.int 0), .sh (.int (b - 1))]) (hf : (ps.map (·.2)).all id = false) :
    ∃ E, F_Word_of [.sh (.cls 0), .sh (.lst (ps.map (·.1))), .sh (.int b)] = .ex 1 (.lst (ps.map (·.1))) E := by
  generalize hX : ps.map (·.1) = X
  have hXl : X.length = ps.length := by rw [← hX, List.length_map]
  have hL : mLc (iItm (mVar 1)) (tgName 3) (DL.ret true) (mCallA F_is_between [] (mCons (mVar 3) (mCons (DL.ret (.int 0)) (mCons (mBin subD (mVar 2) (DL.ret (.int 1))) mNil)))) [3] [.sh (.cls 0), .sh (.lst X), .sh (.int b), .no] = .ok (.lst (ps.map fun p => .bl p.2)) [.sh (.cls 0), .sh (.lst X), .sh (.int b), .no] := by
    refine mLc_map (env := [.sh (.cls 0), .sh (.lst X), .sh (.int b), .no]) (os := ps) (gi := fun p : D × Bool => p.1) (go := fun p : D × Bool => .bl p.2) (y := .no) ?_ rfl rfl (decide_eq_true (by omega)) ?_
    · rw [hX]
      simp only [DL.bnd, DL.ret, DL.lft, mVar, mCons, mNil, mCallA, callA, callAF, callB, mCallAF, mCallB, mBin, mUn, mB, mTru, truD, mNot, mAnd, mOr, mBv, mIf, mCb, mChain, mTup, mLst, sSeq, sNx, sIf, sRet, sRetF, sDrop, sSet, sSetF, sto_np, npAt, np_sh, np_ow, np_no, cm_sh, cm_no, DL.nox, fnM, DL.run,
  frz, full_lst, full_ins, nmN, DL.own, mdf, Sl.put, Sl.mut, Option.bind, cmpD, ltD, leD, gtD, geD, addD, subD, negD, modD, mMakF, mkA, sFldS, putD, fldD, mBinO, mOpO, mCmpO, mEqO, mUnO, mLenO, mSubO, mIxO, mPrp, cand_int, cand_tup, cand_lst, cand_scr, cand_str, cand_bl, cand_non, cand_ins, look0, okY_ii, okY_int, sameC_ii, mCmpG, mEqG, okE_n, okE_01, okE_int, okE_bl, okE_str, okE_non, look1, look01, look10, mTruO, mBlO, sParX, xS, xO, xNil, stoX_cons, stoX_nil, It.sl, zip2, zip3, blD, lenD, eqD, neD, Option.map_some, eqB_int,
  List.map, List.length_cons, List.length_nil, List.getElem?_cons_zero, List.getElem?_cons_succ, List.set_cons_zero, List.set_cons_succ, List.append, List.cons_append, List.nil_append, List.replicate, List.take, Nat.reduceAdd, Nat.reduceSub, Bool.not_true, Bool.not_false, decide_true, decide_false, beq_self_eq_true, bne_self_eq_false, Bool.false_eq_true, reduceIte, ↓reduceIte, iItm, itemsD]
    · intro p h
      have := hp p h
      simp only [DL.bnd, DL.ret, DL.lft, mVar, mCons, mNil, mCallA, callA, callAF, callB, mCallAF, mCallB, mBin, mUn, mB, mTru, truD, mNot, mAnd, mOr, mBv, mIf, mCb, mChain, mTup, mLst, sSeq, sNx, sIf, sRet, sRetF, sDrop, sSet, sSetF, sto_np, npAt, np_sh, np_ow, np_no, cm_sh, cm_no, DL.nox, fnM, DL.run,
  frz, full_lst, full_ins, nmN, DL.own, mdf, Sl.put, Sl.mut, Option.bind, cmpD, ltD, leD, gtD, geD, addD, subD, negD, modD, mMakF, mkA, sFldS, putD, fldD, mBinO, mOpO, mCmpO, mEqO, mUnO, mLenO, mSubO, mIxO, mPrp, cand_int, cand_tup, cand_lst, cand_scr, cand_str, cand_bl, cand_non, cand_ins, look0, okY_ii, okY_int, sameC_ii, mCmpG, mEqG, okE_n, okE_01, okE_int, okE_bl, okE_str, okE_non, look1, look01, look10, mTruO, mBlO, sParX, xS, xO, xNil, stoX_cons, stoX_nil, It.sl, zip2, zip3, blD, lenD, eqD, neD, Option.map_some, eqB_int,
  List.map, List.length_cons, List.length_nil, List.getElem?_cons_zero, List.getElem?_cons_succ, List.set_cons_zero, List.set_cons_succ, List.append, List.cons_append, List.nil_append, List.replicate, List.take, Nat.reduceAdd, Nat.reduceSub, Bool.not_true, Bool.not_false, decide_true, decide_false, beq_self_eq_true, bne_self_eq_false, Bool.false_eq_true, reduceIte, ↓reduceIte, this]
  have hA : allD [.lst (ps.map fun p => .bl p.2)] = some (.bl false) := by
    have : (ps.map fun p => D.bl p.2) = (ps.map (·.2)).map D.bl := by rw [List.map_map]; rfl
    rw [this]
    show (asBls _).map _ = _
    rw [asBls_map, Option.map_some, hf]
  have i1 : isiD (okOf [0]) [.ty "list", .ty "tuple"] (.lst X) = some (.bl true) := rfl
  have c1 : (1 : Int) ≤ (X.length : Int) := by omega
  have c2 : (X.length : Int) ≤ 40 := by omega
  refine ⟨_, fx_ex rfl (e := [.sh (.cls 0), .sh (.lst X), .sh (.int b), .no]) ?_⟩
  show m_Word_of [.sh (.cls 0), .sh (.lst X), .sh (.int b), .no] = _
  unfold m_Word_of
  generalize mLc (iItm (mVar 1)) (tgName 3) (DL.ret true) (mCallA F_is_between [] (mCons (mVar 3) (mCons (DL.ret (.int 0)) (mCons (mBin subD (mVar 2) (DL.ret (.int 1))) mNil)))) [3] = Q at hL ⊢
  simp only [DL.bnd, DL.ret, DL.lft, mVar, mCons, mNil, mCallA, callA, callAF, callB, mCallAF, mCallB, mBin, mUn, mB, mTru, truD, mNot, mAnd, mOr, mBv, mIf, mCb, mChain, mTup, mLst, sSeq, sNx, sIf, sRet, sRetF, sDrop, sSet, sSetF, sto_np, npAt, np_sh, np_ow, np_no, cm_sh, cm_no, DL.nox, fnM, DL.run,
  frz, full_lst, full_ins, nmN, DL.own, mdf, Sl.put, Sl.mut, Option.bind, cmpD, ltD, leD, gtD, geD, addD, subD, negD, modD, mMakF, mkA, sFldS, putD, fldD, mBinO, mOpO, mCmpO, mEqO, mUnO, mLenO, mSubO, mIxO, mPrp, cand_int, cand_tup, cand_lst, cand_scr, cand_str, cand_bl, cand_non, cand_ins, look0, okY_ii, okY_int, sameC_ii, mCmpG, mEqG, okE_n, okE_01, okE_int, okE_bl, okE_str, okE_non, look1, look01, look10, mTruO, mBlO, sParX, xS, xO, xNil, stoX_cons, stoX_nil, It.sl, zip2, zip3, blD, lenD, eqD, neD, Option.map_some, eqB_int,
  List.map, List.length_cons, List.length_nil, List.getElem?_cons_zero, List.getElem?_cons_succ, List.set_cons_zero, List.set_cons_succ, List.append, List.cons_append, List.nil_append, List.replicate, List.take, Nat.reduceAdd, Nat.reduceSub, Bool.not_true, Bool.not_false, decide_true, decide_false, beq_self_eq_true, bne_self_eq_false, Bool.false_eq_true, reduceIte, ↓reduceIte, e_check_between hb hb2, i1, c1, c2, mChain, hL, hA, sRaise]
omit hb hb2 in
theorem gi_ex {x : Int} {d : D} (h : Rf d 0 ((w : Int) - 1)) : ∃ E, F_Word_getitem [.sh (Wd b w x), .sh d] = .ex 0 d E := by
  unfold Rf at h
  refine ⟨_, fx_ex rfl (e := [.sh (Wd b w x), .sh d]) ?_⟩
  simp only [DL.bnd, DL.ret, DL.lft, mVar, mCons, mNil, mCallA, callA, callAF, callB, mCallAF, mCallB, mBin, mUn, mB, mTru, truD, mNot, mAnd, mOr, mBv, mIf, mCb, mChain, mTup, mLst, sSeq, sNx, sIf, sRet, sRetF, sDrop, sSet, sSetF, sto_np, npAt, np_sh, np_ow, np_no, cm_sh, cm_no, DL.nox, fnM, DL.run,
  frz, full_lst, full_ins, nmN, DL.own, mdf, Sl.put, Sl.mut, Option.bind, cmpD, ltD, leD, gtD, geD, addD, subD, negD, modD, mMakF, mkA, sFldS, putD, fldD, mBinO, mOpO, mCmpO, mEqO, mUnO, mLenO, mSubO, mIxO, mPrp, cand_int, cand_tup, cand_lst, cand_scr, cand_str, cand_bl, cand_non, cand_ins, look0, okY_ii, okY_int, sameC_ii, mCmpG, mEqG, okE_n, okE_01, okE_int, okE_bl, okE_str, okE_non, look1, look01, look10, mTruO, mBlO, sParX, xS, xO, xNil, stoX_cons, stoX_nil, It.sl, zip2, zip3, blD, lenD, eqD, neD, Option.map_some, eqB_int,
  List.map, List.length_cons, List.length_nil, List.getElem?_cons_zero, List.getElem?_cons_succ, List.set_cons_zero, List.set_cons_succ, List.append, List.cons_append, List.nil_append, List.replicate, List.take, Nat.reduceAdd, Nat.reduceSub, Bool.not_true, Bool.not_false, decide_true, decide_false, beq_self_eq_true, bne_self_eq_false, Bool.false_eq_true, reduceIte, ↓reduceIte, m_Word_getitem, ix2, dg_len, h]
include hw hw2
theorem ini_v {x d : D} (h : F_check_integer [.sh d] = .ex 0 d [.sh d]) : ∃ E, F_Word_init [.pn (.ins 0 []), .sh d, .sh (.int b), .sh (.int (w : Int))] = .ex 0 d E := by
  have c1 : (1 : Int) ≤ w := by omega
  have c2 : (w : Int) ≤ 40 := by omega
  refine ⟨_, fx_ex rfl (e := [.pn (.ins 0 []), .sh d, .sh (.int b), .sh (.int (w : Int))]) ?_⟩
  simp only [DL.bnd, DL.ret, DL.lft, mVar, mCons, mNil, mCallA, callA, callAF, callB, mCallAF, mCallB, mBin, mUn, mB, mTru, truD, mNot, mAnd, mOr, mBv, mIf, mCb, mChain, mTup, mLst, sSeq, sNx, sIf, sRet, sRetF, sDrop, sSet, sSetF, sto_np, npAt, np_sh, np_ow, np_no, cm_sh, cm_no, DL.nox, fnM, DL.run,
  frz, full_lst, full_ins, nmN, DL.own, mdf, Sl.put, Sl.mut, Option.bind, cmpD, ltD, leD, gtD, geD, addD, subD, negD, modD, mMakF, mkA, sFldS, putD, fldD, mBinO, mOpO, mCmpO, mEqO, mUnO, mLenO, mSubO, mIxO, mPrp, cand_int, cand_tup, cand_lst, cand_scr, cand_str, cand_bl, cand_non, cand_ins, look0, okY_ii, okY_int, sameC_ii, mCmpG, mEqG, okE_n, okE_01, okE_int, okE_bl, okE_str, okE_non, look1, look01, look10, mTruO, mBlO, sParX, xS, xO, xNil, stoX_cons, stoX_nil, It.sl, zip2, zip3, blD, lenD, eqD, neD, Option.map_some, eqB_int,
  List.map, List.length_cons, List.length_nil, List.getElem?_cons_zero, List.getElem?_cons_succ, List.set_cons_zero, List.set_cons_succ, List.append, List.cons_append, List.nil_append, List.replicate, List.take, Nat.reduceAdd, Nat.reduceSub, Bool.not_true, Bool.not_false, decide_true, decide_false, beq_self_eq_true, bne_self_eq_false, Bool.false_eq_true, reduceIte, ↓reduceIte, m_Word_init, e_check_between hb hb2, e_check_between c1 c2, h]
end
end LW

set_option Elab.async false
set_option linter.all false
set_option maxRecDepth 100000
set_option maxHeartbeats 2000000
namespace LW
open PySem L2 DL
theorem if_and1 {c1 c2 : M Bool} {X : S} {env : En} (h1 : c1 env = .ok false env) : sIf (mAnd c1 c2) X sNx env = .ok .nx env := by
  simp only [sIf, mAnd, DL.bnd, h1, Bool.false_eq_true, if_false, sNx, DL.ret]
theorem if_and2 {c1 c2 : M Bool} {X : S} {env : En} (h1 : c1 env = .ok true env) (h2 : c2 env = .ok false env) : sIf (mAnd c1 c2) X sNx env = .ok .nx env := by
  simp only [sIf, mAnd, DL.bnd, h1, if_true, h2, Bool.false_eq_true, if_false, sNx, DL.ret]
theorem bneT : (true != true) = false := rfl
theorem pp1 {α : Type} {P : α → Prop} {x : α} (h : P x) : ∀ p ∈ [x], P p := fun p hp => by
  rcases List.mem_cons.mp hp with rfl | h2
  · exact h
  · cases h2
theorem pp2 {α : Type} {P : α → Prop} {x y : α} (h : P x) (k : P y) : ∀ p ∈ [x, y], P p := fun p hp => by
  rcases List.mem_cons.mp hp with rfl | h2
  · exact h
  · exact pp1 k p h2
theorem big8 {w : Nat} (hw2 : w ≤ 40) : ¬ ((0 : Int) ≤ (10 : Int) ^ 20 ∧ (10 : Int) ^ 20 ≤ (w : Int) - 1) := fun h => absurd (Int.le_trans h.2 (by omega : (w : Int) - 1 ≤ 40)) (by decide +kernel)
def Al (P : D → Prop) : List D → Prop
  | [] => True
  | d :: ds => P d ∧ Al P ds
theorem Al.mem {P : D → Prop} : ∀ {ds : List D}, Al P ds → ∀ d ∈ ds, P d
  | [], _, d, h => by cases h
  | x :: xs, h, d, hd => by
    rcases List.mem_cons.mp hd with e | e
    · exact e ▸ h.1
    · exact Al.mem h.2 d e
section
variable {b : Int} {w : Nat} (hb : 2 ≤ b) (hb2 : b ≤ 36) (hw : 1 ≤ w) (hw2 : w ≤ 40) (ns : List Int) (k p q : Int) (x6 x7 x8 : Sl) (d : D)
include hb hb2
theorem b_f (h : Rf d 1 40) (tl : Tl "number" d) : m_law_f_1 [.sh (.scr ns), .sh (.int k), .ow (Pl p q), .sh (.int b), .sh (.int (w : Int)), .sh d, x6, x7, x8] = .ok .nx [.sh (.scr ns), .sh (.int k), .ow (Pl p q), .sh (.int b), .sh (.int (w : Int)), .sh d, x6, x7, x8] := by
  obtain ⟨r, r1, r2, r3⟩ := tl
  obtain ⟨E, h0⟩ := ini_w hb hb2 (x := .non) h
  have h2 := c_num (f := 0) rfl h0 r2
  simp only [DL.bnd, DL.ret, DL.lft, mVar, mCons, mNil, mCallA, callA, callAF, callB, mCallAF, mCallB, mBin, mUn, mB, mTru, truD, mNot, mAnd, mOr, mBv, mIf, mCb, mChain, mTup, mLst, sSeq, sNx, sIf, sRet, sRetF, sDrop, sSet, sSetF, sto_np, npAt, np_sh, np_ow, np_no, cm_sh, cm_no, DL.nox, fnM, DL.run,
  frz, full_lst, full_ins, nmN, DL.own, mdf, Sl.put, Sl.mut, Option.bind, cmpD, ltD, leD, gtD, geD, addD, subD, negD, modD, mMakF, mkA, sFldS, putD, fldD, mBinO, mOpO, mCmpO, mEqO, mUnO, mLenO, mSubO, mIxO, mPrp, cand_int, cand_tup, cand_lst, cand_scr, cand_str, cand_bl, cand_non, cand_ins, look0, okY_ii, okY_int, sameC_ii, mCmpG, mEqG, okE_n, okE_01, okE_int, okE_bl, okE_str, okE_non, look1, look01, look10, mTruO, mBlO, sParX, xS, xO, xNil, stoX_cons, stoX_nil, It.sl, zip2, zip3, blD, lenD, eqD, neD, Option.map_some, eqB_int,
  List.map, List.length_cons, List.length_nil, List.getElem?_cons_zero, List.getElem?_cons_succ, List.set_cons_zero, List.set_cons_succ, List.append, List.cons_append, List.nil_append, List.replicate, List.take, Nat.reduceAdd, Nat.reduceSub, Bool.not_true, Bool.not_false, decide_true, decide_false, beq_self_eq_true, bne_self_eq_false, Bool.false_eq_true, reduceIte, ↓reduceIte, m_law_f_1, h2, r1, r3, bneT, sm3]
theorem b_d (h : ∃ E, F_Word_of [.sh (.cls 0), .sh d, .sh (.int b)] = .ex 1 d E) (tl : Tl "word" d) : m_law_d_1 [.sh (.scr ns), .sh (.int k), .ow (Pl p q), .sh (.int b), .sh (.int (w : Int)), .sh d, x6, x7, x8] = .ok .nx [.sh (.scr ns), .sh (.int k), .ow (Pl p q), .sh (.int b), .sh (.int (w : Int)), .sh d, x6, x7, x8] := by
  obtain ⟨r, r1, r2, r3⟩ := tl
  obtain ⟨E, h0⟩ := h
  have h2 := c_ofW (x3 := .non) h0 r2
  simp only [DL.bnd, DL.ret, DL.lft, mVar, mCons, mNil, mCallA, callA, callAF, callB, mCallAF, mCallB, mBin, mUn, mB, mTru, truD, mNot, mAnd, mOr, mBv, mIf, mCb, mChain, mTup, mLst, sSeq, sNx, sIf, sRet, sRetF, sDrop, sSet, sSetF, sto_np, npAt, np_sh, np_ow, np_no, cm_sh, cm_no, DL.nox, fnM, DL.run,
  frz, full_lst, full_ins, nmN, DL.own, mdf, Sl.put, Sl.mut, Option.bind, cmpD, ltD, leD, gtD, geD, addD, subD, negD, modD, mMakF, mkA, sFldS, putD, fldD, mBinO, mOpO, mCmpO, mEqO, mUnO, mLenO, mSubO, mIxO, mPrp, cand_int, cand_tup, cand_lst, cand_scr, cand_str, cand_bl, cand_non, cand_ins, look0, okY_ii, okY_int, sameC_ii, mCmpG, mEqG, okE_n, okE_01, okE_int, okE_bl, okE_str, okE_non, look1, look01, look10, mTruO, mBlO, sParX, xS, xO, xNil, stoX_cons, stoX_nil, It.sl, zip2, zip3, blD, lenD, eqD, neD, Option.map_some, eqB_int,
  List.map, List.length_cons, List.length_nil, List.getElem?_cons_zero, List.getElem?_cons_succ, List.set_cons_zero, List.set_cons_succ, List.append, List.cons_append, List.nil_append, List.replicate, List.take, Nat.reduceAdd, Nat.reduceSub, Bool.not_true, Bool.not_false, decide_true, decide_false, beq_self_eq_true, bne_self_eq_false, Bool.false_eq_true, reduceIte, ↓reduceIte, m_law_d_1, h2, r1, r3, bneT, sm3]
omit hb hb2 in
theorem b_c {a : Int} (h : Rf d 0 ((w : Int) - 1)) (tl : Tl "number" d) : m_law_c_1 [.sh (.scr ns), .sh (.int k), .ow (Pl p q), .sh (.int b), .sh (.int (w : Int)), .sh d, .sh (Wd b w a), x7, x8] = .ok .nx [.sh (.scr ns), .sh (.int k), .ow (Pl p q), .sh (.int b), .sh (.int (w : Int)), .sh d, .sh (Wd b w a), x7, x8] := by
  obtain ⟨r, r1, r2, r3⟩ := tl
  obtain ⟨E, h0⟩ := gi_ex (b := b) (w := w) (x := a) h
  have h2 := c_ix (x3 := .non) h0 r2
  simp only [DL.bnd, DL.ret, DL.lft, mVar, mCons, mNil, mCallA, callA, callAF, callB, mCallAF, mCallB, mBin, mUn, mB, mTru, truD, mNot, mAnd, mOr, mBv, mIf, mCb, mChain, mTup, mLst, sSeq, sNx, sIf, sRet, sRetF, sDrop, sSet, sSetF, sto_np, npAt, np_sh, np_ow, np_no, cm_sh, cm_no, DL.nox, fnM, DL.run,
  frz, full_lst, full_ins, nmN, DL.own, mdf, Sl.put, Sl.mut, Option.bind, cmpD, ltD, leD, gtD, geD, addD, subD, negD, modD, mMakF, mkA, sFldS, putD, fldD, mBinO, mOpO, mCmpO, mEqO, mUnO, mLenO, mSubO, mIxO, mPrp, cand_int, cand_tup, cand_lst, cand_scr, cand_str, cand_bl, cand_non, cand_ins, look0, okY_ii, okY_int, sameC_ii, mCmpG, mEqG, okE_n, okE_01, okE_int, okE_bl, okE_str, okE_non, look1, look01, look10, mTruO, mBlO, sParX, xS, xO, xNil, stoX_cons, stoX_nil, It.sl, zip2, zip3, blD, lenD, eqD, neD, Option.map_some, eqB_int,
  List.map, List.length_cons, List.length_nil, List.getElem?_cons_zero, List.getElem?_cons_succ, List.set_cons_zero, List.set_cons_succ, List.append, List.cons_append, List.nil_append, List.replicate, List.take, Nat.reduceAdd, Nat.reduceSub, Bool.not_true, Bool.not_false, decide_true, decide_false, beq_self_eq_true, bne_self_eq_false, Bool.false_eq_true, reduceIte, ↓reduceIte, m_law_c_1, h2, r1, r3, bneT, sm3]
include hw hw2
theorem b_e (h : F_check_integer [.sh d] = .ex 0 d [.sh d]) (tl : Tl "number" d) : m_law_e_1 [.sh (.scr ns), .sh (.int k), .ow (Pl p q), .sh (.int b), .sh (.int (w : Int)), .sh d, x6, x7, x8] = .ok .nx [.sh (.scr ns), .sh (.int k), .ow (Pl p q), .sh (.int b), .sh (.int (w : Int)), .sh d, x6, x7, x8] := by
  obtain ⟨r, r1, r2, r3⟩ := tl
  obtain ⟨E, h0⟩ := ini_v hb hb2 hw hw2 (x := .non) h
  have h2 := c_num (f := 0) rfl h0 r2
  simp only [DL.bnd, DL.ret, DL.lft, mVar, mCons, mNil, mCallA, callA, callAF, callB, mCallAF, mCallB, mBin, mUn, mB, mTru, truD, mNot, mAnd, mOr, mBv, mIf, mCb, mChain, mTup, mLst, sSeq, sNx, sIf, sRet, sRetF, sDrop, sSet, sSetF, sto_np, npAt, np_sh, np_ow, np_no, cm_sh, cm_no, DL.nox, fnM, DL.run,
  frz, full_lst, full_ins, nmN, DL.own, mdf, Sl.put, Sl.mut, Option.bind, cmpD, ltD, leD, gtD, geD, addD, subD, negD, modD, mMakF, mkA, sFldS, putD, fldD, mBinO, mOpO, mCmpO, mEqO, mUnO, mLenO, mSubO, mIxO, mPrp, cand_int, cand_tup, cand_lst, cand_scr, cand_str, cand_bl, cand_non, cand_ins, look0, okY_ii, okY_int, sameC_ii, mCmpG, mEqG, okE_n, okE_01, okE_int, okE_bl, okE_str, okE_non, look1, look01, look10, mTruO, mBlO, sParX, xS, xO, xNil, stoX_cons, stoX_nil, It.sl, zip2, zip3, blD, lenD, eqD, neD, Option.map_some, eqB_int,
  List.map, List.length_cons, List.length_nil, List.getElem?_cons_zero, List.getElem?_cons_succ, List.set_cons_zero, List.set_cons_succ, List.append, List.cons_append, List.nil_append, List.replicate, List.take, Nat.reduceAdd, Nat.reduceSub, Bool.not_true, Bool.not_false, decide_true, decide_false, beq_self_eq_true, bne_self_eq_false, Bool.false_eq_true, reduceIte, ↓reduceIte, m_law_e_1, h2, r1, r3, bneT, sm3]
omit hb hb2 hw hw2 in
theorem l3 : m_law_3 [.sh (.scr ns), .sh (.int k), .ow (Pl p q), .sh (.int b), .sh (.int (w : Int)), .no, x6, x7, x8] = .ok .nx [.sh (.scr ns), .sh (.int k), .ow (Pl p q), .sh (.int b), .sh (.int (w : Int)), .sh (.tup [.int 10]), x6, x7, x8] := by
  kernel_rfl
omit hb hb2 hw hw2 in
theorem l3s : m_law_3 [.sh (.scr ns), .sh (.int k), .ow (Pl p q), .sh (.int b), .sh (.int (w : Int)), .sh d, x6, x7, x8] = .ok .nx [.sh (.scr ns), .sh (.int k), .ow (Pl p q), .sh (.int b), .sh (.int (w : Int)), .sh (.tup [.int 10]), x6, x7, x8] := by
  kernel_rfl
theorem l4 : ∃ d1, m_law_4 [.sh (.scr ns), .sh (.int k), .ow (Pl p q), .sh (.int b), .sh (.int (w : Int)), .sh d, x6, x7, x8] = .ok .nx [.sh (.scr ns), .sh (.int k), .ow (Pl p q), .sh (.int b), .sh (.int (w : Int)), .sh d1, x6, x7, x8] := by
  have al : Al (fun d => Rf d 1 40 ∧ Tl "number" d) [.non, .bl true, .str "8", .int 0, .int 41, .int (-1), .int ((10 : Int) ^ 20), .lst [.int 8], .dic [] []] := ⟨⟨(by unfold Rf; kernel_rfl), tl_number_non⟩, ⟨(by unfold Rf; kernel_rfl), tl_number_tru⟩, ⟨(by unfold Rf; kernel_rfl), tl_number_s8⟩, ⟨rf_int (by omega), tl_number_i0⟩, ⟨rf_int (by omega), tl_number_i41⟩, ⟨rf_int (by omega), tl_number_m1⟩, ⟨rf_int (fun h => absurd h.2 (by decide +kernel)), tl_number_big⟩, ⟨(by unfold Rf; kernel_rfl), tl_number_l8⟩, ⟨(by unfold Rf; kernel_rfl), tl_number_dic⟩, trivial⟩
  obtain ⟨d1, e⟩ := odds (b := m_law_f_1) (t := tgName 5) (env := fun d => [.sh (.scr ns), .sh (.int k), .ow (Pl p q), .sh (.int b), .sh (.int (w : Int)), .sh d, x6, x7, x8]) (fun _ _ => rfl) [.non, .bl true, .str "8", .int 0, .int 41, .int (-1), .int ((10 : Int) ^ 20), .lst [.int 8], .dic [] []] d fun d hd => by
    obtain ⟨h1, h2⟩ := al.mem d hd
    exact b_f hb hb2 ns k p q x6 x7 x8 d h1 h2
  refine ⟨d1, ?_⟩
  unfold m_law_4
  exact for_ok (ds := [.non, .bl true, .str "8", .int 0, .int 41, .int (-1), .int ((10 : Int) ^ 20), .lst [.int 8], .dic [] []]) (by kernel_rfl) e
theorem l5 : ∃ d1, m_law_5 [.sh (.scr ns), .sh (.int k), .ow (Pl p q), .sh (.int b), .sh (.int (w : Int)), .sh d, x6, x7, x8] = .ok .nx [.sh (.scr ns), .sh (.int k), .ow (Pl p q), .sh (.int b), .sh (.int (w : Int)), .sh d1, x6, x7, x8] := by
  have al : Al (fun d => F_check_integer [.sh d] = .ex 0 d [.sh d] ∧ Tl "number" d) [.non, .bl false, .str "5", .lst [.int 5], .tup [.int 5], .dic [] []] := ⟨⟨by kernel_rfl, tl_number_non⟩, ⟨by kernel_rfl, tl_number_fls⟩, ⟨by kernel_rfl, tl_number_s5⟩, ⟨by kernel_rfl, tl_number_l5⟩, ⟨by kernel_rfl, tl_number_t5⟩, ⟨by kernel_rfl, tl_number_dic⟩, trivial⟩
  obtain ⟨d1, e⟩ := odds (b := m_law_e_1) (t := tgName 5) (env := fun d => [.sh (.scr ns), .sh (.int k), .ow (Pl p q), .sh (.int b), .sh (.int (w : Int)), .sh d, x6, x7, x8]) (fun _ _ => rfl) [.non, .bl false, .str "5", .lst [.int 5], .tup [.int 5], .dic [] []] d fun d hd => by
    obtain ⟨h1, h2⟩ := al.mem d hd
    exact b_e hb hb2 hw hw2 ns k p q x6 x7 x8 d h1 h2
  refine ⟨d1, ?_⟩
  unfold m_law_5
  exact for_ok (ds := [.non, .bl false, .str "5", .lst [.int 5], .tup [.int 5], .dic [] []]) (by kernel_rfl) e
theorem l6 : ∃ d1, m_law_6 [.sh (.scr ns), .sh (.int k), .ow (Pl p q), .sh (.int b), .sh (.int (w : Int)), .sh d, x6, x7, x8] = .ok .nx [.sh (.scr ns), .sh (.int k), .ow (Pl p q), .sh (.int b), .sh (.int (w : Int)), .sh d1, x6, x7, x8] := by
  have al : Al (fun d => (∃ E, F_Word_of [.sh (.cls 0), .sh d, .sh (.int b)] = .ex 1 d E) ∧ Tl "word" d) [.non, .int 5, .str "12", .lst [], .tup [], .lst [.int b], .lst [.int 0, .int (-1)], .lst [.int 0, .bl true], .lst [.non], .lst (List.replicate 41 (.int 0)), .dic [.inl 0] [.int 1], .lst [.lst [.int 0]]] := ⟨⟨of_not hb hb2 rfl, tl_word_non⟩, ⟨of_not hb hb2 rfl, tl_word_i5⟩, ⟨of_not hb hb2 rfl, tl_word_s12⟩, ⟨of_len hb hb2 rfl rfl (n := 0) (by omega), tl_word_le⟩, ⟨of_len hb hb2 rfl rfl (n := 0) (by omega), tl_word_te⟩, ⟨of_dig hb hb2 (ps := [(.int b, false)]) (by simp) (by simp) (pp1 (by have e := e_is_between b 0 (b - 1); rw [decide_eq_false (by omega)] at e; exact e)) rfl, tl_lst b hb hb2⟩, ⟨of_dig hb hb2 (ps := [(.int 0, true), (.int (-1), false)]) (by simp) (by simp) (pp2 (by have e := e_is_between 0 0 (b - 1); rw [decide_eq_true (by omega)] at e; exact e) (by have e := e_is_between (-1) 0 (b - 1); rw [decide_eq_false (by omega)] at e; exact e)) rfl, tl_word_l0m⟩, ⟨of_dig hb hb2 (ps := [(.int 0, true), (.bl true, false)]) (by simp) (by simp) (pp2 (by have e := e_is_between 0 0 (b - 1); rw [decide_eq_true (by omega)] at e; exact e) (by kernel_rfl)) rfl, tl_word_l0t⟩, ⟨of_dig hb hb2 (ps := [(.non, false)]) (by simp) (by simp) (pp1 (by kernel_rfl)) rfl, tl_word_ln⟩, ⟨of_len hb hb2 rfl (by kernel_rfl) (n := 41) (by omega), tl_word_z41⟩, ⟨of_not hb hb2 rfl, tl_word_d01⟩, ⟨of_dig hb hb2 (ps := [(.lst [.int 0], false)]) (by simp) (by simp) (pp1 (by kernel_rfl)) rfl, tl_word_ll⟩, trivial⟩
  obtain ⟨d1, e⟩ := odds (b := m_law_d_1) (t := tgName 5) (env := fun d => [.sh (.scr ns), .sh (.int k), .ow (Pl p q), .sh (.int b), .sh (.int (w : Int)), .sh d, x6, x7, x8]) (fun _ _ => rfl) [.non, .int 5, .str "12", .lst [], .tup [], .lst [.int b], .lst [.int 0, .int (-1)], .lst [.int 0, .bl true], .lst [.non], .lst (List.replicate 41 (.int 0)), .dic [.inl 0] [.int 1], .lst [.lst [.int 0]]] d fun d hd => by
    obtain ⟨h1, h2⟩ := al.mem d hd
    exact b_d hb hb2 ns k p q x6 x7 x8 d h1 h2
  refine ⟨d1, ?_⟩
  unfold m_law_6
  exact for_ok (ds := [.non, .int 5, .str "12", .lst [], .tup [], .lst [.int b], .lst [.int 0, .int (-1)], .lst [.int 0, .bl true], .lst [.non], .lst (List.replicate 41 (.int 0)), .dic [.inl 0] [.int 1], .lst [.lst [.int 0]]]) (by kernel_rfl) e
theorem l8 (a : Int) : ∃ d1, m_law_8 [.sh (.scr ns), .sh (.int k), .ow (Pl p q), .sh (.int b), .sh (.int (w : Int)), .sh d, .sh (Wd b w a), x7, x8] = .ok .nx [.sh (.scr ns), .sh (.int k), .ow (Pl p q), .sh (.int b), .sh (.int (w : Int)), .sh d1, .sh (Wd b w a), x7, x8] := by
  have al : Al (fun d => Rf d 0 ((w : Int) - 1) ∧ Tl "number" d) [.non, .bl true, .str "0", .int (-1), .int (w : Int), .int ((10 : Int) ^ 20), .lst [.int 0], .tup [.int 0]] := ⟨⟨(by unfold Rf; kernel_rfl), tl_number_non⟩, ⟨(by unfold Rf; kernel_rfl), tl_number_tru⟩, ⟨(by unfold Rf; kernel_rfl), tl_number_s0⟩, ⟨rf_int (by omega), tl_number_m1⟩, ⟨rf_int (by omega), tl_int (w : Int) (by omega) (by omega)⟩, ⟨rf_int (big8 hw2), tl_number_big⟩, ⟨(by unfold Rf; kernel_rfl), tl_number_l0⟩, ⟨(by unfold Rf; kernel_rfl), tl_number_t0⟩, trivial⟩
  obtain ⟨d1, e⟩ := odds (b := m_law_c_1) (t := tgName 5) (env := fun d => [.sh (.scr ns), .sh (.int k), .ow (Pl p q), .sh (.int b), .sh (.int (w : Int)), .sh d, .sh (Wd b w a), x7, x8]) (fun _ _ => rfl) [.non, .bl true, .str "0", .int (-1), .int (w : Int), .int ((10 : Int) ^ 20), .lst [.int 0], .tup [.int 0]] d fun d hd => by
    obtain ⟨h1, h2⟩ := al.mem d hd
    exact b_c ns k p q x7 x8 d (a := a) h1 h2
  refine ⟨d1, ?_⟩
  unfold m_law_8
  exact for_ok (ds := [.non, .bl true, .str "0", .int (-1), .int (w : Int), .int ((10 : Int) ^ 20), .lst [.int 0], .tup [.int 0]]) (by kernel_rfl) e
end
end LW

set_option Elab.async false
set_option linter.all false
set_option maxRecDepth 100000
set_option maxHeartbeats 2000000
namespace LW
open PySem L2 DL
theorem wd_refl (c : Int) (v : Nat) (y : Int) : F_Word_eq [.sh (Wd c v y), .sh (Wd c v y)] = .ok (.rt (.bl true)) [.sh (Wd c v y), .sh (Wd c v y)] := by
  refine fn_rt rfl (e := [.sh (Wd c v y), .sh (Wd c v y)]) ?_ rfl
  have h : eqB (.tup (dg c v y)) (.tup (dg c v y)) = some true := by
    have e : dg c v y = ((List.range v).map (dig c y)).map .int := by
      unfold dg
      rw [List.map_map]
      rfl
    rw [e, eqB_tup, decide_eq_true rfl]
  have i0 : isiD (okOf [0]) [.cl 0] (Wd c v y) = some (.bl true) := rfl
  simp only [DL.bnd, DL.ret, DL.lft, mVar, mCons, mNil, mCallA, callA, callAF, callB, mCallAF, mCallB, mBin, mUn, mB, mTru, truD, mNot, mAnd, mOr, mBv, mIf, mCb, mChain, mTup, mLst, sSeq, sNx, sIf, sRet, sRetF, sDrop, sSet, sSetF, sto_np, npAt, np_sh, np_ow, np_no, cm_sh, cm_no, DL.nox, fnM, DL.run,
  frz, full_lst, full_ins, nmN, DL.own, mdf, Sl.put, Sl.mut, Option.bind, cmpD, ltD, leD, gtD, geD, addD, subD, negD, modD, mMakF, mkA, sFldS, putD, fldD, mBinO, mOpO, mCmpO, mEqO, mUnO, mLenO, mSubO, mIxO, mPrp, cand_int, cand_tup, cand_lst, cand_scr, cand_str, cand_bl, cand_non, cand_ins, look0, okY_ii, okY_int, sameC_ii, mCmpG, mEqG, okE_n, okE_01, okE_int, okE_bl, okE_str, okE_non, look1, look01, look10, mTruO, mBlO, sParX, xS, xO, xNil, stoX_cons, stoX_nil, It.sl, zip2, zip3, blD, lenD, eqD, neD, Option.map_some, eqB_int,
  List.map, List.length_cons, List.length_nil, List.getElem?_cons_zero, List.getElem?_cons_succ, List.set_cons_zero, List.set_cons_succ, List.append, List.cons_append, List.nil_append, List.replicate, List.take, Nat.reduceAdd, Nat.reduceSub, Bool.not_true, Bool.not_false, decide_true, decide_false, beq_self_eq_true, bne_self_eq_false, Bool.false_eq_true, reduceIte, ↓reduceIte, m_Word_eq, i0, ix0, ix2, h]
section
variable {b : Int} {w : Nat} {a c : Int} {v : Nat} {y : Int} (hne : c ≠ b ∨ v ≠ w)
include hne
theorem add_ex : ∃ E, F_Word_add [.sh (Wd b w a), .sh (Wd c v y)] = .ex 1 (Wd c v y) E := by
  refine ⟨_, fx_ex rfl (e := [.sh (Wd b w a), .sh (Wd c v y)]) ?_⟩
  by_cases h : b = c
  · subst h
    have h2 : decide ((w : Int) = (v : Int)) = false := decide_eq_false (by omega)
    simp only [DL.bnd, DL.ret, DL.lft, mVar, mCons, mNil, mCallA, callA, callAF, callB, mCallAF, mCallB, mBin, mUn, mB, mTru, truD, mNot, mAnd, mOr, mBv, mIf, mCb, mChain, mTup, mLst, sSeq, sNx, sIf, sRet, sRetF, sDrop, sSet, sSetF, sto_np, npAt, np_sh, np_ow, np_no, cm_sh, cm_no, DL.nox, fnM, DL.run,
  frz, full_lst, full_ins, nmN, DL.own, mdf, Sl.put, Sl.mut, Option.bind, cmpD, ltD, leD, gtD, geD, addD, subD, negD, modD, mMakF, mkA, sFldS, putD, fldD, mBinO, mOpO, mCmpO, mEqO, mUnO, mLenO, mSubO, mIxO, mPrp, cand_int, cand_tup, cand_lst, cand_scr, cand_str, cand_bl, cand_non, cand_ins, look0, okY_ii, okY_int, sameC_ii, mCmpG, mEqG, okE_n, okE_01, okE_int, okE_bl, okE_str, okE_non, look1, look01, look10, mTruO, mBlO, sParX, xS, xO, xNil, stoX_cons, stoX_nil, It.sl, zip2, zip3, blD, lenD, eqD, neD, Option.map_some, eqB_int,
  List.map, List.length_cons, List.length_nil, List.getElem?_cons_zero, List.getElem?_cons_succ, List.set_cons_zero, List.set_cons_succ, List.append, List.cons_append, List.nil_append, List.replicate, List.take, Nat.reduceAdd, Nat.reduceSub, Bool.not_true, Bool.not_false, decide_true, decide_false, beq_self_eq_true, bne_self_eq_false, Bool.false_eq_true, reduceIte, ↓reduceIte, m_Word_add, ix0, ix2, dg_len, h2, sRaise]
  · simp only [DL.bnd, DL.ret, DL.lft, mVar, mCons, mNil, mCallA, callA, callAF, callB, mCallAF, mCallB, mBin, mUn, mB, mTru, truD, mNot, mAnd, mOr, mBv, mIf, mCb, mChain, mTup, mLst, sSeq, sNx, sIf, sRet, sRetF, sDrop, sSet, sSetF, sto_np, npAt, np_sh, np_ow, np_no, cm_sh, cm_no, DL.nox, fnM, DL.run,
  frz, full_lst, full_ins, nmN, DL.own, mdf, Sl.put, Sl.mut, Option.bind, cmpD, ltD, leD, gtD, geD, addD, subD, negD, modD, mMakF, mkA, sFldS, putD, fldD, mBinO, mOpO, mCmpO, mEqO, mUnO, mLenO, mSubO, mIxO, mPrp, cand_int, cand_tup, cand_lst, cand_scr, cand_str, cand_bl, cand_non, cand_ins, look0, okY_ii, okY_int, sameC_ii, mCmpG, mEqG, okE_n, okE_01, okE_int, okE_bl, okE_str, okE_non, look1, look01, look10, mTruO, mBlO, sParX, xS, xO, xNil, stoX_cons, stoX_nil, It.sl, zip2, zip3, blD, lenD, eqD, neD, Option.map_some, eqB_int,
  List.map, List.length_cons, List.length_nil, List.getElem?_cons_zero, List.getElem?_cons_succ, List.set_cons_zero, List.set_cons_succ, List.append, List.cons_append, List.nil_append, List.replicate, List.take, Nat.reduceAdd, Nat.reduceSub, Bool.not_true, Bool.not_false, decide_true, decide_false, beq_self_eq_true, bne_self_eq_false, Bool.false_eq_true, reduceIte, ↓reduceIte, m_Word_add, ix0, ix2, dg_len, h, sRaise]
theorem sub_ex : ∃ E, F_Word_sub [.sh (Wd b w a), .sh (Wd c v y)] = .ex 1 (Wd c v y) E := by
  refine ⟨_, fx_ex rfl (e := [.sh (Wd b w a), .sh (Wd c v y)]) ?_⟩
  by_cases h : b = c
  · subst h
    have h2 : decide ((w : Int) = (v : Int)) = false := decide_eq_false (by omega)
    simp only [DL.bnd, DL.ret, DL.lft, mVar, mCons, mNil, mCallA, callA, callAF, callB, mCallAF, mCallB, mBin, mUn, mB, mTru, truD, mNot, mAnd, mOr, mBv, mIf, mCb, mChain, mTup, mLst, sSeq, sNx, sIf, sRet, sRetF, sDrop, sSet, sSetF, sto_np, npAt, np_sh, np_ow, np_no, cm_sh, cm_no, DL.nox, fnM, DL.run,
  frz, full_lst, full_ins, nmN, DL.own, mdf, Sl.put, Sl.mut, Option.bind, cmpD, ltD, leD, gtD, geD, addD, subD, negD, modD, mMakF, mkA, sFldS, putD, fldD, mBinO, mOpO, mCmpO, mEqO, mUnO, mLenO, mSubO, mIxO, mPrp, cand_int, cand_tup, cand_lst, cand_scr, cand_str, cand_bl, cand_non, cand_ins, look0, okY_ii, okY_int, sameC_ii, mCmpG, mEqG, okE_n, okE_01, okE_int, okE_bl, okE_str, okE_non, look1, look01, look10, mTruO, mBlO, sParX, xS, xO, xNil, stoX_cons, stoX_nil, It.sl, zip2, zip3, blD, lenD, eqD, neD, Option.map_some, eqB_int,
  List.map, List.length_cons, List.length_nil, List.getElem?_cons_zero, List.getElem?_cons_succ, List.set_cons_zero, List.set_cons_succ, List.append, List.cons_append, List.nil_append, List.replicate, List.take, Nat.reduceAdd, Nat.reduceSub, Bool.not_true, Bool.not_false, decide_true, decide_false, beq_self_eq_true, bne_self_eq_false, Bool.false_eq_true, reduceIte, ↓reduceIte, m_Word_sub, ix0, ix2, dg_len, h2, sRaise]
  · simp only [DL.bnd, DL.ret, DL.lft, mVar, mCons, mNil, mCallA, callA, callAF, callB, mCallAF, mCallB, mBin, mUn, mB, mTru, truD, mNot, mAnd, mOr, mBv, mIf, mCb, mChain, mTup, mLst, sSeq, sNx, sIf, sRet, sRetF, sDrop, sSet, sSetF, sto_np, npAt, np_sh, np_ow, np_no, cm_sh, cm_no, DL.nox, fnM, DL.run,
  frz, full_lst, full_ins, nmN, DL.own, mdf, Sl.put, Sl.mut, Option.bind, cmpD, ltD, leD, gtD, geD, addD, subD, negD, modD, mMakF, mkA, sFldS, putD, fldD, mBinO, mOpO, mCmpO, mEqO, mUnO, mLenO, mSubO, mIxO, mPrp, cand_int, cand_tup, cand_lst, cand_scr, cand_str, cand_bl, cand_non, cand_ins, look0, okY_ii, okY_int, sameC_ii, mCmpG, mEqG, okE_n, okE_01, okE_int, okE_bl, okE_str, okE_non, look1, look01, look10, mTruO, mBlO, sParX, xS, xO, xNil, stoX_cons, stoX_nil, It.sl, zip2, zip3, blD, lenD, eqD, neD, Option.map_some, eqB_int,
  List.map, List.length_cons, List.length_nil, List.getElem?_cons_zero, List.getElem?_cons_succ, List.set_cons_zero, List.set_cons_succ, List.append, List.cons_append, List.nil_append, List.replicate, List.take, Nat.reduceAdd, Nat.reduceSub, Bool.not_true, Bool.not_false, decide_true, decide_false, beq_self_eq_true, bne_self_eq_false, Bool.false_eq_true, reduceIte, ↓reduceIte, m_Word_sub, ix0, ix2, dg_len, h, sRaise]
theorem both_ex (f : Int) (hf : f = 3 ∨ f = 4) : F_law_caught [.sh (.int f), .sh (Wd b w a), .sh (Wd c v y), .sh .non] = .ok (.rt (.lst [.str "word", .bl true, .bl true])) [.sh (.int f), .sh (Wd b w a), .sh (Wd c v y), .sh .non] := by
  rcases hf with rfl | rfl
  · obtain ⟨E, h⟩ := add_ex (a := a) (y := y) hne
    exact c_add h (wd_refl c v y)
  · obtain ⟨E, h⟩ := sub_ex (a := a) (y := y) hne
    exact c_sub h (wd_refl c v y)
omit hne in
theorem q_wtt : eqB (.lst [.str "word", .bl true, .bl true]) (.lst [.str "word", .bl true, .bl true]) = some true := by kernel_rfl
theorem b9 (ns : List Int) (k p q : Int) (x5 : Sl) (f : Int) (hf : f = 3 ∨ f = 4) : sSeq m_law_b_1 m_law_b_2 [.sh (.scr ns), .sh (.int k), .ow (Pl p q), .sh (.int b), .sh (.int (w : Int)), x5, .sh (Wd b w a), .sh (Wd c v y), .sh (.int f)] = .ok .nx [.sh (.scr ns), .sh (.int k), .ow (Pl p q), .sh (.int b), .sh (.int (w : Int)), x5, .sh (Wd b w a), .sh (Wd c v y), .sh (.int f)] := by
  have hb := both_ex (a := a) (y := y) hne f hf
  have qq := q_wtt
  have e1 : m_law_b_1 [.sh (.scr ns), .sh (.int k), .ow (Pl p q), .sh (.int b), .sh (.int (w : Int)), x5, .sh (Wd b w a), .sh (Wd c v y), .sh (.int f)] = .ok .nx [.sh (.scr ns), .sh (.int k), .ow (Pl p q), .sh (.int b), .sh (.int (w : Int)), x5, .sh (Wd b w a), .sh (Wd c v y), .sh (.int f)] := by
    unfold m_law_b_1
    by_cases h : c = b
    · refine if_and1 ?_
      simp only [DL.bnd, DL.ret, DL.lft, mVar, mCons, mNil, mCallA, callA, callAF, callB, mCallAF, mCallB, mBin, mUn, mB, mTru, truD, mNot, mAnd, mOr, mBv, mIf, mCb, mChain, mTup, mLst, sSeq, sNx, sIf, sRet, sRetF, sDrop, sSet, sSetF, sto_np, npAt, np_sh, np_ow, np_no, cm_sh, cm_no, DL.nox, fnM, DL.run,
  frz, full_lst, full_ins, nmN, DL.own, mdf, Sl.put, Sl.mut, Option.bind, cmpD, ltD, leD, gtD, geD, addD, subD, negD, modD, mMakF, mkA, sFldS, putD, fldD, mBinO, mOpO, mCmpO, mEqO, mUnO, mLenO, mSubO, mIxO, mPrp, cand_int, cand_tup, cand_lst, cand_scr, cand_str, cand_bl, cand_non, cand_ins, look0, okY_ii, okY_int, sameC_ii, mCmpG, mEqG, okE_n, okE_01, okE_int, okE_bl, okE_str, okE_non, look1, look01, look10, mTruO, mBlO, sParX, xS, xO, xNil, stoX_cons, stoX_nil, It.sl, zip2, zip3, blD, lenD, eqD, neD, Option.map_some, eqB_int,
  List.map, List.length_cons, List.length_nil, List.getElem?_cons_zero, List.getElem?_cons_succ, List.set_cons_zero, List.set_cons_succ, List.append, List.cons_append, List.nil_append, List.replicate, List.take, Nat.reduceAdd, Nat.reduceSub, Bool.not_true, Bool.not_false, decide_true, decide_false, beq_self_eq_true, bne_self_eq_false, Bool.false_eq_true, reduceIte, ↓reduceIte, m_Word_base, F_Word_base, ix0, h]
    · refine if_and2 ?_ ?_
      · simp only [DL.bnd, DL.ret, DL.lft, mVar, mCons, mNil, mCallA, callA, callAF, callB, mCallAF, mCallB, mBin, mUn, mB, mTru, truD, mNot, mAnd, mOr, mBv, mIf, mCb, mChain, mTup, mLst, sSeq, sNx, sIf, sRet, sRetF, sDrop, sSet, sSetF, sto_np, npAt, np_sh, np_ow, np_no, cm_sh, cm_no, DL.nox, fnM, DL.run,
  frz, full_lst, full_ins, nmN, DL.own, mdf, Sl.put, Sl.mut, Option.bind, cmpD, ltD, leD, gtD, geD, addD, subD, negD, modD, mMakF, mkA, sFldS, putD, fldD, mBinO, mOpO, mCmpO, mEqO, mUnO, mLenO, mSubO, mIxO, mPrp, cand_int, cand_tup, cand_lst, cand_scr, cand_str, cand_bl, cand_non, cand_ins, look0, okY_ii, okY_int, sameC_ii, mCmpG, mEqG, okE_n, okE_01, okE_int, okE_bl, okE_str, okE_non, look1, look01, look10, mTruO, mBlO, sParX, xS, xO, xNil, stoX_cons, stoX_nil, It.sl, zip2, zip3, blD, lenD, eqD, neD, Option.map_some, eqB_int,
  List.map, List.length_cons, List.length_nil, List.getElem?_cons_zero, List.getElem?_cons_succ, List.set_cons_zero, List.set_cons_succ, List.append, List.cons_append, List.nil_append, List.replicate, List.take, Nat.reduceAdd, Nat.reduceSub, Bool.not_true, Bool.not_false, decide_true, decide_false, beq_self_eq_true, bne_self_eq_false, Bool.false_eq_true, reduceIte, ↓reduceIte, m_Word_base, F_Word_base, ix0, h]
      · simp only [DL.bnd, DL.ret, DL.lft, mVar, mCons, mNil, mCallA, callA, callAF, callB, mCallAF, mCallB, mBin, mUn, mB, mTru, truD, mNot, mAnd, mOr, mBv, mIf, mCb, mChain, mTup, mLst, sSeq, sNx, sIf, sRet, sRetF, sDrop, sSet, sSetF, sto_np, npAt, np_sh, np_ow, np_no, cm_sh, cm_no, DL.nox, fnM, DL.run,
  frz, full_lst, full_ins, nmN, DL.own, mdf, Sl.put, Sl.mut, Option.bind, cmpD, ltD, leD, gtD, geD, addD, subD, negD, modD, mMakF, mkA, sFldS, putD, fldD, mBinO, mOpO, mCmpO, mEqO, mUnO, mLenO, mSubO, mIxO, mPrp, cand_int, cand_tup, cand_lst, cand_scr, cand_str, cand_bl, cand_non, cand_ins, look0, okY_ii, okY_int, sameC_ii, mCmpG, mEqG, okE_n, okE_01, okE_int, okE_bl, okE_str, okE_non, look1, look01, look10, mTruO, mBlO, sParX, xS, xO, xNil, stoX_cons, stoX_nil, It.sl, zip2, zip3, blD, lenD, eqD, neD, Option.map_some, eqB_int,
  List.map, List.length_cons, List.length_nil, List.getElem?_cons_zero, List.getElem?_cons_succ, List.set_cons_zero, List.set_cons_succ, List.append, List.cons_append, List.nil_append, List.replicate, List.take, Nat.reduceAdd, Nat.reduceSub, Bool.not_true, Bool.not_false, decide_true, decide_false, beq_self_eq_true, bne_self_eq_false, Bool.false_eq_true, reduceIte, ↓reduceIte, hb, qq, sm3]
  rw [seq_nx e1]
  unfold m_law_b_2
  by_cases h : (v : Int) = (w : Int)
  · refine if_and1 ?_
    simp only [DL.bnd, DL.ret, DL.lft, mVar, mCons, mNil, mCallA, callA, callAF, callB, mCallAF, mCallB, mBin, mUn, mB, mTru, truD, mNot, mAnd, mOr, mBv, mIf, mCb, mChain, mTup, mLst, sSeq, sNx, sIf, sRet, sRetF, sDrop, sSet, sSetF, sto_np, npAt, np_sh, np_ow, np_no, cm_sh, cm_no, DL.nox, fnM, DL.run,
  frz, full_lst, full_ins, nmN, DL.own, mdf, Sl.put, Sl.mut, Option.bind, cmpD, ltD, leD, gtD, geD, addD, subD, negD, modD, mMakF, mkA, sFldS, putD, fldD, mBinO, mOpO, mCmpO, mEqO, mUnO, mLenO, mSubO, mIxO, mPrp, cand_int, cand_tup, cand_lst, cand_scr, cand_str, cand_bl, cand_non, cand_ins, look0, okY_ii, okY_int, sameC_ii, mCmpG, mEqG, okE_n, okE_01, okE_int, okE_bl, okE_str, okE_non, look1, look01, look10, mTruO, mBlO, sParX, xS, xO, xNil, stoX_cons, stoX_nil, It.sl, zip2, zip3, blD, lenD, eqD, neD, Option.map_some, eqB_int,
  List.map, List.length_cons, List.length_nil, List.getElem?_cons_zero, List.getElem?_cons_succ, List.set_cons_zero, List.set_cons_succ, List.append, List.cons_append, List.nil_append, List.replicate, List.take, Nat.reduceAdd, Nat.reduceSub, Bool.not_true, Bool.not_false, decide_true, decide_false, beq_self_eq_true, bne_self_eq_false, Bool.false_eq_true, reduceIte, ↓reduceIte, m_Word_width, F_Word_width, ix2, dg_len, h]
  · refine if_and2 ?_ ?_
    · simp only [DL.bnd, DL.ret, DL.lft, mVar, mCons, mNil, mCallA, callA, callAF, callB, mCallAF, mCallB, mBin, mUn, mB, mTru, truD, mNot, mAnd, mOr, mBv, mIf, mCb, mChain, mTup, mLst, sSeq, sNx, sIf, sRet, sRetF, sDrop, sSet, sSetF, sto_np, npAt, np_sh, np_ow, np_no, cm_sh, cm_no, DL.nox, fnM, DL.run,
  frz, full_lst, full_ins, nmN, DL.own, mdf, Sl.put, Sl.mut, Option.bind, cmpD, ltD, leD, gtD, geD, addD, subD, negD, modD, mMakF, mkA, sFldS, putD, fldD, mBinO, mOpO, mCmpO, mEqO, mUnO, mLenO, mSubO, mIxO, mPrp, cand_int, cand_tup, cand_lst, cand_scr, cand_str, cand_bl, cand_non, cand_ins, look0, okY_ii, okY_int, sameC_ii, mCmpG, mEqG, okE_n, okE_01, okE_int, okE_bl, okE_str, okE_non, look1, look01, look10, mTruO, mBlO, sParX, xS, xO, xNil, stoX_cons, stoX_nil, It.sl, zip2, zip3, blD, lenD, eqD, neD, Option.map_some, eqB_int,
  List.map, List.length_cons, List.length_nil, List.getElem?_cons_zero, List.getElem?_cons_succ, List.set_cons_zero, List.set_cons_succ, List.append, List.cons_append, List.nil_append, List.replicate, List.take, Nat.reduceAdd, Nat.reduceSub, Bool.not_true, Bool.not_false, decide_true, decide_false, beq_self_eq_true, bne_self_eq_false, Bool.false_eq_true, reduceIte, ↓reduceIte, m_Word_width, F_Word_width, ix2, dg_len, h]
    · simp only [DL.bnd, DL.ret, DL.lft, mVar, mCons, mNil, mCallA, callA, callAF, callB, mCallAF, mCallB, mBin, mUn, mB, mTru, truD, mNot, mAnd, mOr, mBv, mIf, mCb, mChain, mTup, mLst, sSeq, sNx, sIf, sRet, sRetF, sDrop, sSet, sSetF, sto_np, npAt, np_sh, np_ow, np_no, cm_sh, cm_no, DL.nox, fnM, DL.run,
  frz, full_lst, full_ins, nmN, DL.own, mdf, Sl.put, Sl.mut, Option.bind, cmpD, ltD, leD, gtD, geD, addD, subD, negD, modD, mMakF, mkA, sFldS, putD, fldD, mBinO, mOpO, mCmpO, mEqO, mUnO, mLenO, mSubO, mIxO, mPrp, cand_int, cand_tup, cand_lst, cand_scr, cand_str, cand_bl, cand_non, cand_ins, look0, okY_ii, okY_int, sameC_ii, mCmpG, mEqG, okE_n, okE_01, okE_int, okE_bl, okE_str, okE_non, look1, look01, look10, mTruO, mBlO, sParX, xS, xO, xNil, stoX_cons, stoX_nil, It.sl, zip2, zip3, blD, lenD, eqD, neD, Option.map_some, eqB_int,
  List.map, List.length_cons, List.length_nil, List.getElem?_cons_zero, List.getElem?_cons_succ, List.set_cons_zero, List.set_cons_succ, List.append, List.cons_append, List.nil_append, List.replicate, List.take, Nat.reduceAdd, Nat.reduceSub, Bool.not_true, Bool.not_false, decide_true, decide_false, beq_self_eq_true, bne_self_eq_false, Bool.false_eq_true, reduceIte, ↓reduceIte, hb, qq, sm3]
theorem a9 (ns : List Int) (k p q : Int) (x5 x8 : Sl) (h8 : np x8 = true) : m_law_a_1 [.sh (.scr ns), .sh (.int k), .ow (Pl p q), .sh (.int b), .sh (.int (w : Int)), x5, .sh (Wd b w a), .sh (Wd c v y), x8] = .ok .nx [.sh (.scr ns), .sh (.int k), .ow (Pl p q), .sh (.int b), .sh (.int (w : Int)), x5, .sh (Wd b w a), .sh (Wd c v y), .sh (.int 4)] := by
  have e1 := b9 (a := a) (y := y) hne ns k p q x5 3 (.inl rfl)
  have e2 := b9 (a := a) (y := y) hne ns k p q x5 4 (.inr rfl)
  unfold m_law_a_1
  refine for_ok (ds := [.int 3, .int 4]) (e1 := [.sh (.scr ns), .sh (.int k), .ow (Pl p q), .sh (.int b), .sh (.int (w : Int)), x5, .sh (Wd b w a), .sh (Wd c v y), x8]) (by simp only [DL.bnd, DL.ret, DL.lft, mVar, mCons, mNil, mCallA, callA, callAF, callB, mCallAF, mCallB, mBin, mUn, mB, mTru, truD, mNot, mAnd, mOr, mBv, mIf, mCb, mChain, mTup, mLst, sSeq, sNx, sIf, sRet, sRetF, sDrop, sSet, sSetF, sto_np, npAt, np_sh, np_ow, np_no, cm_sh, cm_no, DL.nox, fnM, DL.run,
  frz, full_lst, full_ins, nmN, DL.own, mdf, Sl.put, Sl.mut, Option.bind, cmpD, ltD, leD, gtD, geD, addD, subD, negD, modD, mMakF, mkA, sFldS, putD, fldD, mBinO, mOpO, mCmpO, mEqO, mUnO, mLenO, mSubO, mIxO, mPrp, cand_int, cand_tup, cand_lst, cand_scr, cand_str, cand_bl, cand_non, cand_ins, look0, okY_ii, okY_int, sameC_ii, mCmpG, mEqG, okE_n, okE_01, okE_int, okE_bl, okE_str, okE_non, look1, look01, look10, mTruO, mBlO, sParX, xS, xO, xNil, stoX_cons, stoX_nil, It.sl, zip2, zip3, blD, lenD, eqD, neD, Option.map_some, eqB_int,
  List.map, List.length_cons, List.length_nil, List.getElem?_cons_zero, List.getElem?_cons_succ, List.set_cons_zero, List.set_cons_succ, List.append, List.cons_append, List.nil_append, List.replicate, List.take, Nat.reduceAdd, Nat.reduceSub, Bool.not_true, Bool.not_false, decide_true, decide_false, beq_self_eq_true, bne_self_eq_false, Bool.false_eq_true, reduceIte, ↓reduceIte, iItm, itemsD, sm2]) ?_
  rw [loop_nx (e1 := [.sh (.scr ns), .sh (.int k), .ow (Pl p q), .sh (.int b), .sh (.int (w : Int)), x5, .sh (Wd b w a), .sh (Wd c v y), .sh (.int 3)]) (e2 := [.sh (.scr ns), .sh (.int k), .ow (Pl p q), .sh (.int b), .sh (.int (w : Int)), x5, .sh (Wd b w a), .sh (Wd c v y), .sh (.int 3)]), loop_nx (e1 := [.sh (.scr ns), .sh (.int k), .ow (Pl p q), .sh (.int b), .sh (.int (w : Int)), x5, .sh (Wd b w a), .sh (Wd c v y), .sh (.int 4)]) (e2 := [.sh (.scr ns), .sh (.int k), .ow (Pl p q), .sh (.int b), .sh (.int (w : Int)), x5, .sh (Wd b w a), .sh (Wd c v y), .sh (.int 4)])]
  · simp [sLoop, sNx, DL.ret]
  · simp only [DL.bnd, DL.ret, DL.lft, mVar, mCons, mNil, mCallA, callA, callAF, callB, mCallAF, mCallB, mBin, mUn, mB, mTru, truD, mNot, mAnd, mOr, mBv, mIf, mCb, mChain, mTup, mLst, sSeq, sNx, sIf, sRet, sRetF, sDrop, sSet, sSetF, sto_np, npAt, np_sh, np_ow, np_no, cm_sh, cm_no, DL.nox, fnM, DL.run,
  frz, full_lst, full_ins, nmN, DL.own, mdf, Sl.put, Sl.mut, Option.bind, cmpD, ltD, leD, gtD, geD, addD, subD, negD, modD, mMakF, mkA, sFldS, putD, fldD, mBinO, mOpO, mCmpO, mEqO, mUnO, mLenO, mSubO, mIxO, mPrp, cand_int, cand_tup, cand_lst, cand_scr, cand_str, cand_bl, cand_non, cand_ins, look0, okY_ii, okY_int, sameC_ii, mCmpG, mEqG, okE_n, okE_01, okE_int, okE_bl, okE_str, okE_non, look1, look01, look10, mTruO, mBlO, sParX, xS, xO, xNil, stoX_cons, stoX_nil, It.sl, zip2, zip3, blD, lenD, eqD, neD, Option.map_some, eqB_int,
  List.map, List.length_cons, List.length_nil, List.getElem?_cons_zero, List.getElem?_cons_succ, List.set_cons_zero, List.set_cons_succ, List.append, List.cons_append, List.nil_append, List.replicate, List.take, Nat.reduceAdd, Nat.reduceSub, Bool.not_true, Bool.not_false, decide_true, decide_false, beq_self_eq_true, bne_self_eq_false, Bool.false_eq_true, reduceIte, ↓reduceIte, tgName, stE_np]
  · exact e2
  · simp only [DL.bnd, DL.ret, DL.lft, mVar, mCons, mNil, mCallA, callA, callAF, callB, mCallAF, mCallB, mBin, mUn, mB, mTru, truD, mNot, mAnd, mOr, mBv, mIf, mCb, mChain, mTup, mLst, sSeq, sNx, sIf, sRet, sRetF, sDrop, sSet, sSetF, sto_np, npAt, np_sh, np_ow, np_no, cm_sh, cm_no, DL.nox, fnM, DL.run,
  frz, full_lst, full_ins, nmN, DL.own, mdf, Sl.put, Sl.mut, Option.bind, cmpD, ltD, leD, gtD, geD, addD, subD, negD, modD, mMakF, mkA, sFldS, putD, fldD, mBinO, mOpO, mCmpO, mEqO, mUnO, mLenO, mSubO, mIxO, mPrp, cand_int, cand_tup, cand_lst, cand_scr, cand_str, cand_bl, cand_non, cand_ins, look0, okY_ii, okY_int, sameC_ii, mCmpG, mEqG, okE_n, okE_01, okE_int, okE_bl, okE_str, okE_non, look1, look01, look10, mTruO, mBlO, sParX, xS, xO, xNil, stoX_cons, stoX_nil, It.sl, zip2, zip3, blD, lenD, eqD, neD, Option.map_some, eqB_int,
  List.map, List.length_cons, List.length_nil, List.getElem?_cons_zero, List.getElem?_cons_succ, List.set_cons_zero, List.set_cons_succ, List.append, List.cons_append, List.nil_append, List.replicate, List.take, Nat.reduceAdd, Nat.reduceSub, Bool.not_true, Bool.not_false, decide_true, decide_false, beq_self_eq_true, bne_self_eq_false, Bool.false_eq_true, reduceIte, ↓reduceIte, tgName, stE_np, h8]
  · exact e1
end
section
variable (ns : List Int) (k : Nat) (x2 x3 x4 x5 x6 x7 x8 : Sl)
theorem tk (p q n : Int) (h : 0 < n) (hl : n.natAbs.log2 < 9000) : ∃ v p' q', 0 ≤ v ∧ v < n ∧ F_law_take [.pn (Pl p q), .sh (.int n)] = .ok (.rt (.int v)) [.pn (Pl p' q'), .sh (.int n)] :=
  ⟨_, _, _, tkV_lo h, tkV_hi h, e_take p q n h hl⟩
theorem l1 (hk : k < 1000) (h2 : np x2 = true) : ∃ p q, m_law_1 [.sh (.scr ns), .sh (.int ((k : Nat) : Int)), x2, x3, x4, x5, x6, x7, x8] = .ok .nx [.sh (.scr ns), .sh (.int ((k : Nat) : Int)), .ow (Pl p q), x3, x4, x5, x6, x7, x8] := by
  obtain ⟨p, q, _, e⟩ := e_pool ns k hk
  refine ⟨p, q, ?_⟩
  simp only [DL.bnd, DL.ret, DL.lft, mVar, mCons, mNil, mCallA, callA, callAF, callB, mCallAF, mCallB, mBin, mUn, mB, mTru, truD, mNot, mAnd, mOr, mBv, mIf, mCb, mChain, mTup, mLst, sSeq, sNx, sIf, sRet, sRetF, sDrop, sSet, sSetF, sto_np, npAt, np_sh, np_ow, np_no, cm_sh, cm_no, DL.nox, fnM, DL.run,
  frz, full_lst, full_ins, nmN, DL.own, mdf, Sl.put, Sl.mut, Option.bind, cmpD, ltD, leD, gtD, geD, addD, subD, negD, modD, mMakF, mkA, sFldS, putD, fldD, mBinO, mOpO, mCmpO, mEqO, mUnO, mLenO, mSubO, mIxO, mPrp, cand_int, cand_tup, cand_lst, cand_scr, cand_str, cand_bl, cand_non, cand_ins, look0, okY_ii, okY_int, sameC_ii, mCmpG, mEqG, okE_n, okE_01, okE_int, okE_bl, okE_str, okE_non, look1, look01, look10, mTruO, mBlO, sParX, xS, xO, xNil, stoX_cons, stoX_nil, It.sl, zip2, zip3, blD, lenD, eqD, neD, Option.map_some, eqB_int,
  List.map, List.length_cons, List.length_nil, List.getElem?_cons_zero, List.getElem?_cons_succ, List.set_cons_zero, List.set_cons_succ, List.append, List.cons_append, List.nil_append, List.replicate, List.take, Nat.reduceAdd, Nat.reduceSub, Bool.not_true, Bool.not_false, decide_true, decide_false, beq_self_eq_true, bne_self_eq_false, Bool.false_eq_true, reduceIte, ↓reduceIte, m_law_1, e, h2]
theorem l2 (p q : Int) (h3 : np x3 = true) (h4 : np x4 = true) : ∃ (b : Int) (w : Nat) (p' q' : Int), 2 ≤ b ∧ b ≤ 36 ∧ 1 ≤ w ∧ w ≤ 40 ∧ m_law_2 [.sh (.scr ns), .sh (.int ((k : Nat) : Int)), .ow (Pl p q), x3, x4, x5, x6, x7, x8] = .ok .nx [.sh (.scr ns), .sh (.int ((k : Nat) : Int)), .ow (Pl p' q'), .sh (.int b), .sh (.int (w : Int)), x5, x6, x7, x8] := by
  obtain ⟨V1, P1, Q1, a1, a2, e1⟩ := tk p q 35 (by decide) (by decide)
  obtain ⟨V2, P2, Q2, b1, b2, e2⟩ := tk P1 Q1 40 (by decide) (by decide)
  have hw : (((1 + V2).toNat : Nat) : Int) = 1 + V2 := Int.toNat_of_nonneg (by omega)
  refine ⟨2 + V1, (1 + V2).toNat, P2, Q2, by omega, by omega, by omega, by omega, ?_⟩
  rw [hw]
  simp only [DL.bnd, DL.ret, DL.lft, mVar, mCons, mNil, mCallA, callA, callAF, callB, mCallAF, mCallB, mBin, mUn, mB, mTru, truD, mNot, mAnd, mOr, mBv, mIf, mCb, mChain, mTup, mLst, sSeq, sNx, sIf, sRet, sRetF, sDrop, sSet, sSetF, sto_np, npAt, np_sh, np_ow, np_no, cm_sh, cm_no, DL.nox, fnM, DL.run,
  frz, full_lst, full_ins, nmN, DL.own, mdf, Sl.put, Sl.mut, Option.bind, cmpD, ltD, leD, gtD, geD, addD, subD, negD, modD, mMakF, mkA, sFldS, putD, fldD, mBinO, mOpO, mCmpO, mEqO, mUnO, mLenO, mSubO, mIxO, mPrp, cand_int, cand_tup, cand_lst, cand_scr, cand_str, cand_bl, cand_non, cand_ins, look0, okY_ii, okY_int, sameC_ii, mCmpG, mEqG, okE_n, okE_01, okE_int, okE_bl, okE_str, okE_non, look1, look01, look10, mTruO, mBlO, sParX, xS, xO, xNil, stoX_cons, stoX_nil, It.sl, zip2, zip3, blD, lenD, eqD, neD, Option.map_some, eqB_int,
  List.map, List.length_cons, List.length_nil, List.getElem?_cons_zero, List.getElem?_cons_succ, List.set_cons_zero, List.set_cons_succ, List.append, List.cons_append, List.nil_append, List.replicate, List.take, Nat.reduceAdd, Nat.reduceSub, Bool.not_true, Bool.not_false, decide_true, decide_false, beq_self_eq_true, bne_self_eq_false, Bool.false_eq_true, reduceIte, ↓reduceIte, m_law_2, sPar2, sStos, e1, e2, h3, h4]
theorem l7 (p q : Int) {b : Int} {w : Nat} (hb : 2 ≤ b) (hb2 : b ≤ 36) (hw : 1 ≤ w) (hw2 : w ≤ 40) (h6 : np x6 = true) : ∃ (a p' q' : Int), m_law_7 [.sh (.scr ns), .sh (.int ((k : Nat) : Int)), .ow (Pl p q), .sh (.int b), .sh (.int (w : Int)), x5, x6, x7, x8] = .ok .nx [.sh (.scr ns), .sh (.int ((k : Nat) : Int)), .ow (Pl p' q'), .sh (.int b), .sh (.int (w : Int)), x5, .sh (Wd b w a), x7, x8] := by
  have pw : ∀ env, pw_10_9 env = .ok (.int ((10 : Int) ^ 9)) env := fun _ => rfl
  obtain ⟨v, P1, Q1, _, _, e1⟩ := tk p q (10 ^ 9) (by decide) (by decide)
  refine ⟨v % b ^ w, P1, Q1, ?_⟩
  simp only [DL.bnd, DL.ret, DL.lft, mVar, mCons, mNil, mCallA, callA, callAF, callB, mCallAF, mCallB, mBin, mUn, mB, mTru, truD, mNot, mAnd, mOr, mBv, mIf, mCb, mChain, mTup, mLst, sSeq, sNx, sIf, sRet, sRetF, sDrop, sSet, sSetF, sto_np, npAt, np_sh, np_ow, np_no, cm_sh, cm_no, DL.nox, fnM, DL.run,
  frz, full_lst, full_ins, nmN, DL.own, mdf, Sl.put, Sl.mut, Option.bind, cmpD, ltD, leD, gtD, geD, addD, subD, negD, modD, mMakF, mkA, sFldS, putD, fldD, mBinO, mOpO, mCmpO, mEqO, mUnO, mLenO, mSubO, mIxO, mPrp, cand_int, cand_tup, cand_lst, cand_scr, cand_str, cand_bl, cand_non, cand_ins, look0, okY_ii, okY_int, sameC_ii, mCmpG, mEqG, okE_n, okE_01, okE_int, okE_bl, okE_str, okE_non, look1, look01, look10, mTruO, mBlO, sParX, xS, xO, xNil, stoX_cons, stoX_nil, It.sl, zip2, zip3, blD, lenD, eqD, neD, Option.map_some, eqB_int,
  List.map, List.length_cons, List.length_nil, List.getElem?_cons_zero, List.getElem?_cons_succ, List.set_cons_zero, List.set_cons_succ, List.append, List.cons_append, List.nil_append, List.replicate, List.take, Nat.reduceAdd, Nat.reduceSub, Bool.not_true, Bool.not_false, decide_true, decide_false, beq_self_eq_true, bne_self_eq_false, Bool.false_eq_true, reduceIte, ↓reduceIte, m_law_7, pw, e1, e_init hb hb2 hw hw2, h6]
theorem l9 (p q : Int) {b a : Int} {w : Nat} (hb : 2 ≤ b) (hb2 : b ≤ 36) (hw : 1 ≤ w) (hw2 : w ≤ 40) (h7 : np x7 = true) (h8 : np x8 = true) : ∃ d, m_law_9 [.sh (.scr ns), .sh (.int ((k : Nat) : Int)), .ow (Pl p q), .sh (.int b), .sh (.int (w : Int)), x5, .sh (Wd b w a), x7, x8] = .ok .nx [.sh (.scr ns), .sh (.int ((k : Nat) : Int)), .ow (Pl p q), .sh (.int b), .sh (.int (w : Int)), x5, .sh (Wd b w a), .sh d, .sh (.int 4)] := by
  have v0 : ((w % 40 + 1 : Nat) : Int) = (w : Int) % 40 + 1 := by omega
  have e1 := e_init hb hb2 (w := w % 40 + 1) (by omega) (by omega) 1
  rw [v0] at e1
  have hne1 : (b : Int) ≠ b ∨ w % 40 + 1 ≠ w := .inr (by omega)
  obtain ⟨c, hc, c0, c1, hcn⟩ : ∃ c : Int, (if b = 4 then (5 : Int) else 4) = c ∧ 2 ≤ c ∧ c ≤ 36 ∧ c ≠ b := by
    by_cases h : b = 4
    · exact ⟨5, by rw [if_pos h], by decide, by decide, by omega⟩
    · exact ⟨4, by rw [if_neg h], by decide, by decide, by omega⟩
  have e2 := e_init c0 c1 hw hw2 1
  have f1 := a9 (a := a) (y := 1 % b ^ (w % 40 + 1)) hne1 ns (k : Int) p q x5 x8 h8
  have f2 := a9 (a := a) (y := 1 % c ^ w) (.inl hcn : c ≠ b ∨ w ≠ w) ns (k : Int) p q x5 (.sh (.int 4)) rfl
  refine ⟨Wd c w (1 % c ^ w), ?_⟩
  unfold m_law_9
  refine for_ok (ds := [Wd b (w % 40 + 1) (1 % b ^ (w % 40 + 1)), Wd c w (1 % c ^ w)]) (e1 := [.sh (.scr ns), .sh (.int ((k : Nat) : Int)), .ow (Pl p q), .sh (.int b), .sh (.int (w : Int)), x5, .sh (Wd b w a), x7, x8]) ?_ ?_
  · have m40 : (0 : Int) < 40 := by decide
    by_cases h : b = 4
    · rw [if_pos h] at hc
      subst hc
      subst h
      have h4 : decide ((4 : Int) = 4) = true := rfl
      simp only [DL.bnd, DL.ret, DL.lft, mVar, mCons, mNil, mCallA, callA, callAF, callB, mCallAF, mCallB, mBin, mUn, mB, mTru, truD, mNot, mAnd, mOr, mBv, mIf, mCb, mChain, mTup, mLst, sSeq, sNx, sIf, sRet, sRetF, sDrop, sSet, sSetF, sto_np, npAt, np_sh, np_ow, np_no, cm_sh, cm_no, DL.nox, fnM, DL.run,
  frz, full_lst, full_ins, nmN, DL.own, mdf, Sl.put, Sl.mut, Option.bind, cmpD, ltD, leD, gtD, geD, addD, subD, negD, modD, mMakF, mkA, sFldS, putD, fldD, mBinO, mOpO, mCmpO, mEqO, mUnO, mLenO, mSubO, mIxO, mPrp, cand_int, cand_tup, cand_lst, cand_scr, cand_str, cand_bl, cand_non, cand_ins, look0, okY_ii, okY_int, sameC_ii, mCmpG, mEqG, okE_n, okE_01, okE_int, okE_bl, okE_str, okE_non, look1, look01, look10, mTruO, mBlO, sParX, xS, xO, xNil, stoX_cons, stoX_nil, It.sl, zip2, zip3, blD, lenD, eqD, neD, Option.map_some, eqB_int,
  List.map, List.length_cons, List.length_nil, List.getElem?_cons_zero, List.getElem?_cons_succ, List.set_cons_zero, List.set_cons_succ, List.append, List.cons_append, List.nil_append, List.replicate, List.take, Nat.reduceAdd, Nat.reduceSub, Bool.not_true, Bool.not_false, decide_true, decide_false, beq_self_eq_true, bne_self_eq_false, Bool.false_eq_true, reduceIte, ↓reduceIte, iItm, itemsD, m40, e1, h4, e2, sm2]
    · rw [if_neg h] at hc
      subst hc
      simp only [DL.bnd, DL.ret, DL.lft, mVar, mCons, mNil, mCallA, callA, callAF, callB, mCallAF, mCallB, mBin, mUn, mB, mTru, truD, mNot, mAnd, mOr, mBv, mIf, mCb, mChain, mTup, mLst, sSeq, sNx, sIf, sRet, sRetF, sDrop, sSet, sSetF, sto_np, npAt, np_sh, np_ow, np_no, cm_sh, cm_no, DL.nox, fnM, DL.run,
  frz, full_lst, full_ins, nmN, DL.own, mdf, Sl.put, Sl.mut, Option.bind, cmpD, ltD, leD, gtD, geD, addD, subD, negD, modD, mMakF, mkA, sFldS, putD, fldD, mBinO, mOpO, mCmpO, mEqO, mUnO, mLenO, mSubO, mIxO, mPrp, cand_int, cand_tup, cand_lst, cand_scr, cand_str, cand_bl, cand_non, cand_ins, look0, okY_ii, okY_int, sameC_ii, mCmpG, mEqG, okE_n, okE_01, okE_int, okE_bl, okE_str, okE_non, look1, look01, look10, mTruO, mBlO, sParX, xS, xO, xNil, stoX_cons, stoX_nil, It.sl, zip2, zip3, blD, lenD, eqD, neD, Option.map_some, eqB_int,
  List.map, List.length_cons, List.length_nil, List.getElem?_cons_zero, List.getElem?_cons_succ, List.set_cons_zero, List.set_cons_succ, List.append, List.cons_append, List.nil_append, List.replicate, List.take, Nat.reduceAdd, Nat.reduceSub, Bool.not_true, Bool.not_false, decide_true, decide_false, beq_self_eq_true, bne_self_eq_false, Bool.false_eq_true, reduceIte, ↓reduceIte, iItm, itemsD, m40, e1, h, e2, sm2]
  · rw [loop_nx (e1 := [.sh (.scr ns), .sh (.int ((k : Nat) : Int)), .ow (Pl p q), .sh (.int b), .sh (.int (w : Int)), x5, .sh (Wd b w a), .sh (Wd b (w % 40 + 1) (1 % b ^ (w % 40 + 1))), x8]) (e2 := [.sh (.scr ns), .sh (.int ((k : Nat) : Int)), .ow (Pl p q), .sh (.int b), .sh (.int (w : Int)), x5, .sh (Wd b w a), .sh (Wd b (w % 40 + 1) (1 % b ^ (w % 40 + 1))), .sh (.int 4)]), loop_nx (e1 := [.sh (.scr ns), .sh (.int ((k : Nat) : Int)), .ow (Pl p q), .sh (.int b), .sh (.int (w : Int)), x5, .sh (Wd b w a), .sh (Wd c w (1 % c ^ w)), .sh (.int 4)]) (e2 := [.sh (.scr ns), .sh (.int ((k : Nat) : Int)), .ow (Pl p q), .sh (.int b), .sh (.int (w : Int)), x5, .sh (Wd b w a), .sh (Wd c w (1 % c ^ w)), .sh (.int 4)])]
    · simp [sLoop, sNx, DL.ret]
    · simp only [DL.bnd, DL.ret, DL.lft, mVar, mCons, mNil, mCallA, callA, callAF, callB, mCallAF, mCallB, mBin, mUn, mB, mTru, truD, mNot, mAnd, mOr, mBv, mIf, mCb, mChain, mTup, mLst, sSeq, sNx, sIf, sRet, sRetF, sDrop, sSet, sSetF, sto_np, npAt, np_sh, np_ow, np_no, cm_sh, cm_no, DL.nox, fnM, DL.run,
  frz, full_lst, full_ins, nmN, DL.own, mdf, Sl.put, Sl.mut, Option.bind, cmpD, ltD, leD, gtD, geD, addD, subD, negD, modD, mMakF, mkA, sFldS, putD, fldD, mBinO, mOpO, mCmpO, mEqO, mUnO, mLenO, mSubO, mIxO, mPrp, cand_int, cand_tup, cand_lst, cand_scr, cand_str, cand_bl, cand_non, cand_ins, look0, okY_ii, okY_int, sameC_ii, mCmpG, mEqG, okE_n, okE_01, okE_int, okE_bl, okE_str, okE_non, look1, look01, look10, mTruO, mBlO, sParX, xS, xO, xNil, stoX_cons, stoX_nil, It.sl, zip2, zip3, blD, lenD, eqD, neD, Option.map_some, eqB_int,
  List.map, List.length_cons, List.length_nil, List.getElem?_cons_zero, List.getElem?_cons_succ, List.set_cons_zero, List.set_cons_succ, List.append, List.cons_append, List.nil_append, List.replicate, List.take, Nat.reduceAdd, Nat.reduceSub, Bool.not_true, Bool.not_false, decide_true, decide_false, beq_self_eq_true, bne_self_eq_false, Bool.false_eq_true, reduceIte, ↓reduceIte, tgName, stE_np]
    · exact f2
    · simp only [DL.bnd, DL.ret, DL.lft, mVar, mCons, mNil, mCallA, callA, callAF, callB, mCallAF, mCallB, mBin, mUn, mB, mTru, truD, mNot, mAnd, mOr, mBv, mIf, mCb, mChain, mTup, mLst, sSeq, sNx, sIf, sRet, sRetF, sDrop, sSet, sSetF, sto_np, npAt, np_sh, np_ow, np_no, cm_sh, cm_no, DL.nox, fnM, DL.run,
  frz, full_lst, full_ins, nmN, DL.own, mdf, Sl.put, Sl.mut, Option.bind, cmpD, ltD, leD, gtD, geD, addD, subD, negD, modD, mMakF, mkA, sFldS, putD, fldD, mBinO, mOpO, mCmpO, mEqO, mUnO, mLenO, mSubO, mIxO, mPrp, cand_int, cand_tup, cand_lst, cand_scr, cand_str, cand_bl, cand_non, cand_ins, look0, okY_ii, okY_int, sameC_ii, mCmpG, mEqG, okE_n, okE_01, okE_int, okE_bl, okE_str, okE_non, look1, look01, look10, mTruO, mBlO, sParX, xS, xO, xNil, stoX_cons, stoX_nil, It.sl, zip2, zip3, blD, lenD, eqD, neD, Option.map_some, eqB_int,
  List.map, List.length_cons, List.length_nil, List.getElem?_cons_zero, List.getElem?_cons_succ, List.set_cons_zero, List.set_cons_succ, List.append, List.cons_append, List.nil_append, List.replicate, List.take, Nat.reduceAdd, Nat.reduceSub, Bool.not_true, Bool.not_false, decide_true, decide_false, beq_self_eq_true, bne_self_eq_false, Bool.false_eq_true, reduceIte, ↓reduceIte, tgName, stE_np, h7]
    · exact f1
end
end LW

set_option Elab.async false
set_option linter.all false
set_option maxRecDepth 100000
set_option maxHeartbeats 2000000
namespace LW
open PySem L2 DL
abbrev bodyL : S := sSeq m_law_1 (sSeq m_law_2 (sSeq m_law_3 (sSeq m_law_4 (sSeq m_law_5 (sSeq m_law_6 (sSeq m_law_7 (sSeq m_law_8 m_law_9)))))))
def Sh (x : Sl) : Prop := x = .no ∨ ∃ d, x = .sh d
theorem Sh.np {x : Sl} (h : Sh x) : np x = true := by
  rcases h with rfl | ⟨d, rfl⟩ <;> rfl
def Mid (ns : List Int) (e : En) : Prop := ∃ x1 x2 x3 x4 x5 x6 x7 x8, e = [.sh (.scr ns), x1, x2, x3, x4, x5, x6, x7, x8] ∧ np x1 = true ∧ np x2 = true ∧ Sh x3 ∧ np x4 = true ∧ Sh x5 ∧ np x6 = true ∧ np x7 = true ∧ np x8 = true
theorem turn (ns : List Int) (k : Nat) (hk : k < 1000) {e : En} (h : Mid ns e) : ∃ e1 e2, tgName 1 (.int (k : Int)) e = some e1 ∧ bodyL e1 = .ok .nx e2 ∧ Mid ns e2 := by
  obtain ⟨x1, x2, x3, x4, x5, x6, x7, x8, rfl, h1, h2, h3, h4, h5, h6, h7, h8⟩ := h
  obtain ⟨p1, q1, s1⟩ := l1 ns k x2 x3 x4 x5 x6 x7 x8 hk h2
  obtain ⟨b, w, p2, q2, b0, b1, w0, w1, s2⟩ := l2 ns k x3 x4 x5 x6 x7 x8 p1 q1 h3.np h4
  have s3 : m_law_3 [.sh (.scr ns), .sh (.int ((k : Nat) : Int)), .ow (Pl p2 q2), .sh (.int b), .sh (.int (w : Int)), x5, x6, x7, x8] = .ok .nx [.sh (.scr ns), .sh (.int ((k : Nat) : Int)), .ow (Pl p2 q2), .sh (.int b), .sh (.int (w : Int)), .sh (.tup [.int 10]), x6, x7, x8] := by
    rcases h5 with rfl | ⟨d, rfl⟩
    · exact l3 ns (k : Int) p2 q2 x6 x7 x8
    · exact l3s ns (k : Int) p2 q2 x6 x7 x8 d
  obtain ⟨d4, s4⟩ := l4 b0 b1 w0 w1 ns (k : Int) p2 q2 x6 x7 x8 (.tup [.int 10])
  obtain ⟨d5, s5⟩ := l5 b0 b1 w0 w1 ns (k : Int) p2 q2 x6 x7 x8 d4
  obtain ⟨d6, s6⟩ := l6 b0 b1 w0 w1 ns (k : Int) p2 q2 x6 x7 x8 d5
  obtain ⟨a, p3, q3, s7⟩ := l7 ns k (.sh d6) x6 x7 x8 p2 q2 b0 b1 w0 w1 h6
  obtain ⟨d8, s8⟩ := l8 b0 b1 w0 w1 ns (k : Int) p3 q3 x7 x8 d6 a
  obtain ⟨d9, s9⟩ := l9 ns k (.sh d8) x7 x8 p3 q3 (a := a) b0 b1 w0 w1 h7 h8
  refine ⟨[.sh (.scr ns), .sh (.int ((k : Nat) : Int)), x2, x3, x4, x5, x6, x7, x8], [.sh (.scr ns), .sh (.int ((k : Nat) : Int)), .ow (Pl p3 q3), .sh (.int b), .sh (.int (w : Int)), .sh d8, .sh (Wd b w a), .sh d9, .sh (.int 4)], ?_, ?_, ?_⟩
  · simp only [DL.bnd, DL.ret, DL.lft, mVar, mCons, mNil, mCallA, callA, callAF, callB, mCallAF, mCallB, mBin, mUn, mB, mTru, truD, mNot, mAnd, mOr, mBv, mIf, mCb, mChain, mTup, mLst, sSeq, sNx, sIf, sRet, sRetF, sDrop, sSet, sSetF, sto_np, npAt, np_sh, np_ow, np_no, cm_sh, cm_no, DL.nox, fnM, DL.run,
  frz, full_lst, full_ins, nmN, DL.own, mdf, Sl.put, Sl.mut, Option.bind, cmpD, ltD, leD, gtD, geD, addD, subD, negD, modD, mMakF, mkA, sFldS, putD, fldD, mBinO, mOpO, mCmpO, mEqO, mUnO, mLenO, mSubO, mIxO, mPrp, cand_int, cand_tup, cand_lst, cand_scr, cand_str, cand_bl, cand_non, cand_ins, look0, okY_ii, okY_int, sameC_ii, mCmpG, mEqG, okE_n, okE_01, okE_int, okE_bl, okE_str, okE_non, look1, look01, look10, mTruO, mBlO, sParX, xS, xO, xNil, stoX_cons, stoX_nil, It.sl, zip2, zip3, blD, lenD, eqD, neD, Option.map_some, eqB_int,
  List.map, List.length_cons, List.length_nil, List.getElem?_cons_zero, List.getElem?_cons_succ, List.set_cons_zero, List.set_cons_succ, List.append, List.cons_append, List.nil_append, List.replicate, List.take, Nat.reduceAdd, Nat.reduceSub, Bool.not_true, Bool.not_false, decide_true, decide_false, beq_self_eq_true, bne_self_eq_false, Bool.false_eq_true, reduceIte, ↓reduceIte, tgName, stE_np, h1]
  · unfold bodyL
    rw [seq_nx s1, seq_nx s2, seq_nx s3, seq_nx s4, seq_nx s5, seq_nx s6, seq_nx s7, seq_nx s8]
    exact s9
  · exact ⟨_, _, _, _, _, _, _, _, rfl, rfl, rfl, .inr ⟨_, rfl⟩, rfl, .inr ⟨_, rfl⟩, rfl, rfl, rfl⟩
theorem turns (ns : List Int) : ∀ (ks : List Nat) (e : En), (∀ k ∈ ks, k < 1000) → Mid ns e → ∃ e2, sLoop (tgName 1) bodyL (ks.map fun i => .int ((i : Nat) : Int)) e = .ok .nx e2 ∧ Mid ns e2
  | [], e, _, h => ⟨e, by simp [sLoop, sNx, DL.ret], h⟩
  | k :: ks, e, hk, h => by
    obtain ⟨e1, e2, h1, h2, h3⟩ := turn ns k (hk k List.mem_cons_self) h
    obtain ⟨e3, h4, h5⟩ := turns ns ks e2 (fun k' z => hk k' (List.mem_cons_of_mem _ z)) h3
    exact ⟨e3, by rw [List.map_cons, loop_nx h1 h2, h4], h5⟩
theorem lastN (ns : List Int) (x1 x2 x4 x5 x6 x7 x8 : Sl) : (sSeq (sIf (mB (mCmpG [0] [(0, F_Word_eq)] true neD (frz (mLc (iItm (mLst (mCons (DL.ret (.int 2)) (mCons (DL.ret (.int 36)) mNil)))) (tgName 3) (DL.ret true) (mCallA F_law_caught [] (mCons (DL.ret (.int 0)) (mCons (DL.ret (.int 0)) (mCons (mVar 3) (mCons (DL.ret (.int 1)) mNil))))) [3])) (mBin mulD (mLst (mCons (mLst (mCons (DL.ret (.str "made")) mNil)) mNil)) (DL.ret (.int 2))))) (sRet (DL.ret (.bl false))) sNx)
  (sRet (DL.bnd (mB (mCmpG [0] [(0, F_Word_eq)] false eqD (mCallA F_law_caught [] (mCons (DL.ret (.int 0)) (mCons (mBin mulD pw_10_60 pw_10_30) (mCons (DL.ret (.int 36)) (mCons (DL.ret (.int 40)) mNil))))) (mLst (mCons (DL.ret (.str "made")) mNil)))) fun x => if x = true then mCmpG [0] [(0, F_Word_eq)] false eqD (mCallA F_law_caught [] (mCons (DL.ret (.int 1)) (mCons (mBin mulD (mLst (mCons (DL.ret (.int 35)) mNil)) (DL.ret (.int 40))) (mCons (DL.ret (.int 36)) (mCons (DL.ret .non) mNil))))) (mLst (mCons (DL.ret (.str "made")) mNil)) else DL.ret (.bl false)))) [.sh (.scr ns), x1, x2, .no, x4, x5, x6, x7, x8] = .ok (.rt (.bl true)) [.sh (.scr ns), x1, x2, .no, x4, x5, x6, x7, x8] := by
  kernel_rfl
theorem lastS (ns : List Int) (x1 x2 x4 x5 x6 x7 x8 : Sl) (d : D) : (sSeq (sIf (mB (mCmpG [0] [(0, F_Word_eq)] true neD (frz (mLc (iItm (mLst (mCons (DL.ret (.int 2)) (mCons (DL.ret (.int 36)) mNil)))) (tgName 3) (DL.ret true) (mCallA F_law_caught [] (mCons (DL.ret (.int 0)) (mCons (DL.ret (.int 0)) (mCons (mVar 3) (mCons (DL.ret (.int 1)) mNil))))) [3])) (mBin mulD (mLst (mCons (mLst (mCons (DL.ret (.str "made")) mNil)) mNil)) (DL.ret (.int 2))))) (sRet (DL.ret (.bl false))) sNx)
  (sRet (DL.bnd (mB (mCmpG [0] [(0, F_Word_eq)] false eqD (mCallA F_law_caught [] (mCons (DL.ret (.int 0)) (mCons (mBin mulD pw_10_60 pw_10_30) (mCons (DL.ret (.int 36)) (mCons (DL.ret (.int 40)) mNil))))) (mLst (mCons (DL.ret (.str "made")) mNil)))) fun x => if x = true then mCmpG [0] [(0, F_Word_eq)] false eqD (mCallA F_law_caught [] (mCons (DL.ret (.int 1)) (mCons (mBin mulD (mLst (mCons (DL.ret (.int 35)) mNil)) (DL.ret (.int 40))) (mCons (DL.ret (.int 36)) (mCons (DL.ret .non) mNil))))) (mLst (mCons (DL.ret (.str "made")) mNil)) else DL.ret (.bl false)))) [.sh (.scr ns), x1, x2, .sh d, x4, x5, x6, x7, x8] = .ok (.rt (.bl true)) [.sh (.scr ns), x1, x2, .sh d, x4, x5, x6, x7, x8] := by
  kernel_rfl
theorem law_true (ns : List Int) : ∃ e, F_law [.sh (.scr ns)] = .ok (.rt (.bl true)) e := by
  obtain ⟨N, hN, hN2⟩ : ∃ N : Nat, N < 1000 ∧ (if (if (ns.length : Int) < 8 then (ns.length : Int) else 8) > 1 then (if (ns.length : Int) < 8 then (ns.length : Int) else 8) else 1) = (N : Int) := by
    by_cases h : (ns.length : Int) < 8
    · by_cases h2 : (ns.length : Int) > 1
      · exact ⟨ns.length, by omega, by rw [if_pos h, if_pos h2]⟩
      · exact ⟨1, by omega, by rw [if_pos h, if_neg h2]; rfl⟩
    · exact ⟨8, by omega, by rw [if_neg h]; rfl⟩
  obtain ⟨e, h1, h2⟩ := turns ns (List.range N) (.sh (.scr ns) :: List.replicate 8 .no) (fun k hk => by have := List.mem_range.mp hk; omega) ⟨_, _, _, _, _, _, _, _, rfl, rfl, rfl, .inl rfl, rfl, .inl rfl, rfl, rfl, rfl⟩
  obtain ⟨x1, x2, x3, x4, x5, x6, x7, x8, rfl, _, _, h3, _⟩ := h2
  have hr := rng_nat N (by omega) (mCons (mCb max2D (mCons (DL.ret (.int 1)) (mCons (mCb min2D (mCons (DL.ret (.int 8)) (mCons (DL.bnd (mCons (mVar 0) mNil) (mLenO [(0, F_Word_len)] lenD)) mNil))) mNil))) mNil) (.sh (.scr ns) :: List.replicate 8 .no) (.sh (.scr ns) :: List.replicate 8 .no) (by simp only [DL.bnd, DL.ret, DL.lft, mVar, mCons, mNil, mCallA, callA, callAF, callB, mCallAF, mCallB, mBin, mUn, mB, mTru, truD, mNot, mAnd, mOr, mBv, mIf, mCb, mChain, mTup, mLst, sSeq, sNx, sIf, sRet, sRetF, sDrop, sSet, sSetF, sto_np, npAt, np_sh, np_ow, np_no, cm_sh, cm_no, DL.nox, fnM, DL.run,
  frz, full_lst, full_ins, nmN, DL.own, mdf, Sl.put, Sl.mut, Option.bind, cmpD, ltD, leD, gtD, geD, addD, subD, negD, modD, mMakF, mkA, sFldS, putD, fldD, mBinO, mOpO, mCmpO, mEqO, mUnO, mLenO, mSubO, mIxO, mPrp, cand_int, cand_tup, cand_lst, cand_scr, cand_str, cand_bl, cand_non, cand_ins, look0, okY_ii, okY_int, sameC_ii, mCmpG, mEqG, okE_n, okE_01, okE_int, okE_bl, okE_str, okE_non, look1, look01, look10, mTruO, mBlO, sParX, xS, xO, xNil, stoX_cons, stoX_nil, It.sl, zip2, zip3, blD, lenD, eqD, neD, Option.map_some, eqB_int,
  List.map, List.length_cons, List.length_nil, List.getElem?_cons_zero, List.getElem?_cons_succ, List.set_cons_zero, List.set_cons_succ, List.append, List.cons_append, List.nil_append, List.replicate, List.take, Nat.reduceAdd, Nat.reduceSub, Bool.not_true, Bool.not_false, decide_true, decide_false, beq_self_eq_true, bne_self_eq_false, Bool.false_eq_true, reduceIte, ↓reduceIte, max2D, min2D, hN2])
  rcases h3 with rfl | ⟨d, rfl⟩
  · exact ⟨[.sh (.scr ns)], fn_rt rfl ((seq_nx (for_ok hr h1)).trans (lastN ns x1 x2 x4 x5 x6 x7 x8)) rfl⟩
  · exact ⟨[.sh (.scr ns)], fn_rt rfl ((seq_nx (for_ok hr h1)).trans (lastS ns x1 x2 x4 x5 x6 x7 x8 d)) rfl⟩
end LW

set_option Elab.async false
set_option linter.all false
set_option maxRecDepth 100000
set_option maxHeartbeats 1000000
namespace LW
open PySem L2 PyProof.Rows DL
abbrev cs : List Nat := [0]
abbrev st_InvalidNumber : Stmt := (clsBody (PySem.Challenge.pw_carryrounds_k02_errors_of_words.main.body.getD 2 (.Pass ⟨0, 0, 0, 0⟩))).getD 0 (.Pass ⟨0, 0, 0, 0⟩)
def dx_InvalidNumber : Dx := ⟨fun K => He.ma K (He.ga K "InvalidNumber") "__init__", "__init__", "InvalidNumber.__init__", defArgs st_InvalidNumber, defBody st_InvalidNumber, defScope st_InvalidNumber, fun _ => []⟩
theorem sc_InvalidNumber : FnScope ["self", "value"] ["self", "value"] (defScope st_InvalidNumber) := ⟨rfl, rfl, rfl, by decide +kernel, rfl, by decide +kernel, by decide +kernel⟩
abbrev st_InvalidWord : Stmt := (clsBody (PySem.Challenge.pw_carryrounds_k02_errors_of_words.main.body.getD 3 (.Pass ⟨0, 0, 0, 0⟩))).getD 0 (.Pass ⟨0, 0, 0, 0⟩)
def dx_InvalidWord : Dx := ⟨fun K => He.ma K (He.ga K "InvalidWord") "__init__", "__init__", "InvalidWord.__init__", defArgs st_InvalidWord, defBody st_InvalidWord, defScope st_InvalidWord, fun _ => []⟩
theorem sc_InvalidWord : FnScope ["self", "value"] ["self", "value"] (defScope st_InvalidWord) := ⟨rfl, rfl, rfl, by decide +kernel, rfl, by decide +kernel, by decide +kernel⟩
abbrev st_is_integer : Stmt := (PySem.Challenge.pw_carryrounds_k02_errors_of_words.main.body.getD 7 (.Pass ⟨0, 0, 0, 0⟩))
def dx_is_integer : Dx := ⟨fun K => He.ga K "is_integer", "is_integer", "is_integer", defArgs st_is_integer, defBody st_is_integer, defScope st_is_integer, fun K => []⟩
theorem sc_is_integer : FnScope ["value"] ["value"] (defScope st_is_integer) := ⟨rfl, rfl, rfl, by decide +kernel, rfl, by decide +kernel, by decide +kernel⟩
abbrev st_is_between : Stmt := (PySem.Challenge.pw_carryrounds_k02_errors_of_words.main.body.getD 8 (.Pass ⟨0, 0, 0, 0⟩))
def dx_is_between : Dx := ⟨fun K => He.ga K "is_between", "is_between", "is_between", defArgs st_is_between, defBody st_is_between, defScope st_is_between, fun K => []⟩
theorem sc_is_between : FnScope ["value", "low", "high"] ["value", "low", "high"] (defScope st_is_between) := ⟨rfl, rfl, rfl, by decide +kernel, rfl, by decide +kernel, by decide +kernel⟩
abbrev st_check_between : Stmt := (PySem.Challenge.pw_carryrounds_k02_errors_of_words.main.body.getD 9 (.Pass ⟨0, 0, 0, 0⟩))
def dx_check_between : Dx := ⟨fun K => He.ga K "check_between", "check_between", "check_between", defArgs st_check_between, defBody st_check_between, defScope st_check_between, fun K => []⟩
theorem sc_check_between : FnScope ["value", "low", "high"] ["value", "low", "high"] (defScope st_check_between) := ⟨rfl, rfl, rfl, by decide +kernel, rfl, by decide +kernel, by decide +kernel⟩
abbrev st_check_integer : Stmt := (PySem.Challenge.pw_carryrounds_k02_errors_of_words.main.body.getD 10 (.Pass ⟨0, 0, 0, 0⟩))
def dx_check_integer : Dx := ⟨fun K => He.ga K "check_integer", "check_integer", "check_integer", defArgs st_check_integer, defBody st_check_integer, defScope st_check_integer, fun K => []⟩
theorem sc_check_integer : FnScope ["value"] ["value"] (defScope st_check_integer) := ⟨rfl, rfl, rfl, by decide +kernel, rfl, by decide +kernel, by decide +kernel⟩
abbrev st_power : Stmt := (PySem.Challenge.pw_carryrounds_k02_errors_of_words.main.body.getD 11 (.Pass ⟨0, 0, 0, 0⟩))
def dx_power : Dx := ⟨fun K => He.ga K "power", "power", "power", defArgs st_power, defBody st_power, defScope st_power, fun K => []⟩
theorem sc_power : FnScope ["base", "exponent", "result", "turn"] ["base", "exponent"] (defScope st_power) := ⟨rfl, rfl, rfl, by decide +kernel, rfl, by decide +kernel, by decide +kernel⟩
abbrev st_digits_of : Stmt := (PySem.Challenge.pw_carryrounds_k02_errors_of_words.main.body.getD 12 (.Pass ⟨0, 0, 0, 0⟩))
def dx_digits_of : Dx := ⟨fun K => He.ga K "digits_of", "digits_of", "digits_of", defArgs st_digits_of, defBody st_digits_of, defScope st_digits_of, fun K => []⟩
theorem sc_digits_of : FnScope ["number", "base", "width", "place"] ["number", "base", "width"] (defScope st_digits_of) := ⟨rfl, rfl, rfl, by decide +kernel, rfl, by decide +kernel, by decide +kernel⟩
abbrev st_number_of : Stmt := (PySem.Challenge.pw_carryrounds_k02_errors_of_words.main.body.getD 13 (.Pass ⟨0, 0, 0, 0⟩))
def dx_number_of : Dx := ⟨fun K => He.ga K "number_of", "number_of", "number_of", defArgs st_number_of, defBody st_number_of, defScope st_number_of, fun K => []⟩
theorem sc_number_of : FnScope ["digits", "base", "result", "digit"] ["digits", "base"] (defScope st_number_of) := ⟨rfl, rfl, rfl, by decide +kernel, rfl, by decide +kernel, by decide +kernel⟩
abbrev st_Word_init : Stmt := (clsBody (PySem.Challenge.pw_carryrounds_k02_errors_of_words.main.body.getD 14 (.Pass ⟨0, 0, 0, 0⟩))).getD 0 (.Pass ⟨0, 0, 0, 0⟩)
def dx_Word_init : Dx := ⟨fun K => He.ma K (He.ga K "Word") "__init__", "__init__", "Word.__init__", defArgs st_Word_init, defBody st_Word_init, defScope st_Word_init, fun K => [.int 10, .int 8]⟩
theorem sc_Word_init : FnScope ["self", "value", "base", "width"] ["self", "value", "base", "width"] (defScope st_Word_init) := ⟨rfl, rfl, rfl, by decide +kernel, rfl, by decide +kernel, by decide +kernel⟩
abbrev st_Word_of : Stmt := (clsBody (PySem.Challenge.pw_carryrounds_k02_errors_of_words.main.body.getD 14 (.Pass ⟨0, 0, 0, 0⟩))).getD 1 (.Pass ⟨0, 0, 0, 0⟩)
def dx_Word_of : Dx := ⟨fun K => cmG K "Word" "of", "of", "Word.of", defArgs st_Word_of, defBody st_Word_of, defScope st_Word_of, fun K => [.int 10]⟩
theorem sc_Word_of : FnScope ["cls", "digits", "base", "digit"] ["cls", "digits", "base"] (defScope st_Word_of) := ⟨rfl, rfl, rfl, by decide +kernel, rfl, by decide +kernel, by decide +kernel⟩
abbrev st_Word_number : Stmt := (clsBody (PySem.Challenge.pw_carryrounds_k02_errors_of_words.main.body.getD 14 (.Pass ⟨0, 0, 0, 0⟩))).getD 2 (.Pass ⟨0, 0, 0, 0⟩)
def dx_Word_number : Dx := ⟨fun K => prG K "Word" "number", "number", "Word.number", defArgs st_Word_number, defBody st_Word_number, defScope st_Word_number, fun K => []⟩
theorem sc_Word_number : FnScope ["self"] ["self"] (defScope st_Word_number) := ⟨rfl, rfl, rfl, by decide +kernel, rfl, by decide +kernel, by decide +kernel⟩
abbrev st_Word_base : Stmt := (clsBody (PySem.Challenge.pw_carryrounds_k02_errors_of_words.main.body.getD 14 (.Pass ⟨0, 0, 0, 0⟩))).getD 3 (.Pass ⟨0, 0, 0, 0⟩)
def dx_Word_base : Dx := ⟨fun K => prG K "Word" "base", "base", "Word.base", defArgs st_Word_base, defBody st_Word_base, defScope st_Word_base, fun K => []⟩
theorem sc_Word_base : FnScope ["self"] ["self"] (defScope st_Word_base) := ⟨rfl, rfl, rfl, by decide +kernel, rfl, by decide +kernel, by decide +kernel⟩
abbrev st_Word_width : Stmt := (clsBody (PySem.Challenge.pw_carryrounds_k02_errors_of_words.main.body.getD 14 (.Pass ⟨0, 0, 0, 0⟩))).getD 4 (.Pass ⟨0, 0, 0, 0⟩)
def dx_Word_width : Dx := ⟨fun K => prG K "Word" "width", "width", "Word.width", defArgs st_Word_width, defBody st_Word_width, defScope st_Word_width, fun K => []⟩
theorem sc_Word_width : FnScope ["self"] ["self"] (defScope st_Word_width) := ⟨rfl, rfl, rfl, by decide +kernel, rfl, by decide +kernel, by decide +kernel⟩
abbrev st_Word_digits : Stmt := (clsBody (PySem.Challenge.pw_carryrounds_k02_errors_of_words.main.body.getD 14 (.Pass ⟨0, 0, 0, 0⟩))).getD 5 (.Pass ⟨0, 0, 0, 0⟩)
def dx_Word_digits : Dx := ⟨fun K => prG K "Word" "digits", "digits", "Word.digits", defArgs st_Word_digits, defBody st_Word_digits, defScope st_Word_digits, fun K => []⟩
theorem sc_Word_digits : FnScope ["self"] ["self"] (defScope st_Word_digits) := ⟨rfl, rfl, rfl, by decide +kernel, rfl, by decide +kernel, by decide +kernel⟩
abbrev st_Word_len : Stmt := (clsBody (PySem.Challenge.pw_carryrounds_k02_errors_of_words.main.body.getD 14 (.Pass ⟨0, 0, 0, 0⟩))).getD 6 (.Pass ⟨0, 0, 0, 0⟩)
def dx_Word_len : Dx := ⟨fun K => He.ma K (He.ga K "Word") "__len__", "__len__", "Word.__len__", defArgs st_Word_len, defBody st_Word_len, defScope st_Word_len, fun K => []⟩
theorem sc_Word_len : FnScope ["self"] ["self"] (defScope st_Word_len) := ⟨rfl, rfl, rfl, by decide +kernel, rfl, by decide +kernel, by decide +kernel⟩
abbrev st_Word_eq : Stmt := (clsBody (PySem.Challenge.pw_carryrounds_k02_errors_of_words.main.body.getD 14 (.Pass ⟨0, 0, 0, 0⟩))).getD 7 (.Pass ⟨0, 0, 0, 0⟩)
def dx_Word_eq : Dx := ⟨fun K => He.ma K (He.ga K "Word") "__eq__", "__eq__", "Word.__eq__", defArgs st_Word_eq, defBody st_Word_eq, defScope st_Word_eq, fun K => []⟩
theorem sc_Word_eq : FnScope ["self", "other"] ["self", "other"] (defScope st_Word_eq) := ⟨rfl, rfl, rfl, by decide +kernel, rfl, by decide +kernel, by decide +kernel⟩
abbrev st_Word_bool : Stmt := (clsBody (PySem.Challenge.pw_carryrounds_k02_errors_of_words.main.body.getD 14 (.Pass ⟨0, 0, 0, 0⟩))).getD 8 (.Pass ⟨0, 0, 0, 0⟩)
def dx_Word_bool : Dx := ⟨fun K => He.ma K (He.ga K "Word") "__bool__", "__bool__", "Word.__bool__", defArgs st_Word_bool, defBody st_Word_bool, defScope st_Word_bool, fun K => []⟩
theorem sc_Word_bool : FnScope ["self"] ["self"] (defScope st_Word_bool) := ⟨rfl, rfl, rfl, by decide +kernel, rfl, by decide +kernel, by decide +kernel⟩
abbrev st_Word_getitem : Stmt := (clsBody (PySem.Challenge.pw_carryrounds_k02_errors_of_words.main.body.getD 14 (.Pass ⟨0, 0, 0, 0⟩))).getD 9 (.Pass ⟨0, 0, 0, 0⟩)
def dx_Word_getitem : Dx := ⟨fun K => He.ma K (He.ga K "Word") "__getitem__", "__getitem__", "Word.__getitem__", defArgs st_Word_getitem, defBody st_Word_getitem, defScope st_Word_getitem, fun K => []⟩
theorem sc_Word_getitem : FnScope ["self", "place"] ["self", "place"] (defScope st_Word_getitem) := ⟨rfl, rfl, rfl, by decide +kernel, rfl, by decide +kernel, by decide +kernel⟩
abbrev st_Word_iter : Stmt := (clsBody (PySem.Challenge.pw_carryrounds_k02_errors_of_words.main.body.getD 14 (.Pass ⟨0, 0, 0, 0⟩))).getD 10 (.Pass ⟨0, 0, 0, 0⟩)
def dx_Word_iter : Dx := ⟨fun K => He.ma K (He.ga K "Word") "__iter__", "__iter__", "Word.__iter__", defArgs st_Word_iter, defBody st_Word_iter, defScope st_Word_iter, fun K => []⟩
theorem sc_Word_iter : FnScope ["self"] ["self"] (defScope st_Word_iter) := ⟨rfl, rfl, rfl, by decide +kernel, rfl, by decide +kernel, by decide +kernel⟩
abbrev st_Word_add : Stmt := (clsBody (PySem.Challenge.pw_carryrounds_k02_errors_of_words.main.body.getD 14 (.Pass ⟨0, 0, 0, 0⟩))).getD 11 (.Pass ⟨0, 0, 0, 0⟩)
def dx_Word_add : Dx := ⟨fun K => He.ma K (He.ga K "Word") "__add__", "__add__", "Word.__add__", defArgs st_Word_add, defBody st_Word_add, defScope st_Word_add, fun K => []⟩
theorem sc_Word_add : FnScope ["self", "other"] ["self", "other"] (defScope st_Word_add) := ⟨rfl, rfl, rfl, by decide +kernel, rfl, by decide +kernel, by decide +kernel⟩
abbrev st_Word_sub : Stmt := (clsBody (PySem.Challenge.pw_carryrounds_k02_errors_of_words.main.body.getD 14 (.Pass ⟨0, 0, 0, 0⟩))).getD 12 (.Pass ⟨0, 0, 0, 0⟩)
def dx_Word_sub : Dx := ⟨fun K => He.ma K (He.ga K "Word") "__sub__", "__sub__", "Word.__sub__", defArgs st_Word_sub, defBody st_Word_sub, defScope st_Word_sub, fun K => []⟩
theorem sc_Word_sub : FnScope ["self", "other"] ["self", "other"] (defScope st_Word_sub) := ⟨rfl, rfl, rfl, by decide +kernel, rfl, by decide +kernel, by decide +kernel⟩
abbrev st_Word_neg : Stmt := (clsBody (PySem.Challenge.pw_carryrounds_k02_errors_of_words.main.body.getD 14 (.Pass ⟨0, 0, 0, 0⟩))).getD 13 (.Pass ⟨0, 0, 0, 0⟩)
def dx_Word_neg : Dx := ⟨fun K => He.ma K (He.ga K "Word") "__neg__", "__neg__", "Word.__neg__", defArgs st_Word_neg, defBody st_Word_neg, defScope st_Word_neg, fun K => []⟩
theorem sc_Word_neg : FnScope ["self"] ["self"] (defScope st_Word_neg) := ⟨rfl, rfl, rfl, by decide +kernel, rfl, by decide +kernel, by decide +kernel⟩
abbrev st_Word_invert : Stmt := (clsBody (PySem.Challenge.pw_carryrounds_k02_errors_of_words.main.body.getD 14 (.Pass ⟨0, 0, 0, 0⟩))).getD 14 (.Pass ⟨0, 0, 0, 0⟩)
def dx_Word_invert : Dx := ⟨fun K => He.ma K (He.ga K "Word") "__invert__", "__invert__", "Word.__invert__", defArgs st_Word_invert, defBody st_Word_invert, defScope st_Word_invert, fun K => []⟩
theorem sc_Word_invert : FnScope ["self"] ["self"] (defScope st_Word_invert) := ⟨rfl, rfl, rfl, by decide +kernel, rfl, by decide +kernel, by decide +kernel⟩
abbrev st_Word_lshift : Stmt := (clsBody (PySem.Challenge.pw_carryrounds_k02_errors_of_words.main.body.getD 14 (.Pass ⟨0, 0, 0, 0⟩))).getD 15 (.Pass ⟨0, 0, 0, 0⟩)
def dx_Word_lshift : Dx := ⟨fun K => He.ma K (He.ga K "Word") "__lshift__", "__lshift__", "Word.__lshift__", defArgs st_Word_lshift, defBody st_Word_lshift, defScope st_Word_lshift, fun K => []⟩
theorem sc_Word_lshift : FnScope ["self", "other", "places"] ["self", "other"] (defScope st_Word_lshift) := ⟨rfl, rfl, rfl, by decide +kernel, rfl, by decide +kernel, by decide +kernel⟩
abbrev st_Word_rshift : Stmt := (clsBody (PySem.Challenge.pw_carryrounds_k02_errors_of_words.main.body.getD 14 (.Pass ⟨0, 0, 0, 0⟩))).getD 16 (.Pass ⟨0, 0, 0, 0⟩)
def dx_Word_rshift : Dx := ⟨fun K => He.ma K (He.ga K "Word") "__rshift__", "__rshift__", "Word.__rshift__", defArgs st_Word_rshift, defBody st_Word_rshift, defScope st_Word_rshift, fun K => []⟩
theorem sc_Word_rshift : FnScope ["self", "other", "places"] ["self", "other"] (defScope st_Word_rshift) := ⟨rfl, rfl, rfl, by decide +kernel, rfl, by decide +kernel, by decide +kernel⟩
abbrev st_law_pool : Stmt := (PySem.Challenge.pw_carryrounds_k02_errors_of_words.main.body.getD 16 (.Pass ⟨0, 0, 0, 0⟩))
def dx_law_pool : Dx := ⟨fun K => He.ga K "_law_pool", "_law_pool", "_law_pool", defArgs st_law_pool, defBody st_law_pool, defScope st_law_pool, fun K => []⟩
theorem sc_law_pool : FnScope ["_law_script", "_law_k", "_law_cell", "_law_mixed"] ["_law_script", "_law_k"] (defScope st_law_pool) := ⟨rfl, rfl, rfl, by decide +kernel, rfl, by decide +kernel, by decide +kernel⟩
abbrev st_law_take : Stmt := (PySem.Challenge.pw_carryrounds_k02_errors_of_words.main.body.getD 17 (.Pass ⟨0, 0, 0, 0⟩))
def dx_law_take : Dx := ⟨fun K => He.ga K "_law_take", "_law_take", "_law_take", defArgs st_law_take, defBody st_law_take, defScope st_law_take, fun K => []⟩
theorem sc_law_take : FnScope ["_law_pool_here", "_law_many", "_law_found"] ["_law_pool_here", "_law_many"] (defScope st_law_take) := ⟨rfl, rfl, rfl, by decide +kernel, rfl, by decide +kernel, by decide +kernel⟩
abbrev st_law_caught : Stmt := (PySem.Challenge.pw_carryrounds_k02_errors_of_words.main.body.getD 18 (.Pass ⟨0, 0, 0, 0⟩))
def dx_law_caught : Dx := ⟨fun K => He.ga K "_law_caught", "_law_caught", "_law_caught", defArgs st_law_caught, defBody st_law_caught, defScope st_law_caught, fun K => []⟩
theorem sc_law_caught : FnScope ["_law_way", "_law_one", "_law_two", "_law_three", "e"] ["_law_way", "_law_one", "_law_two", "_law_three"] (defScope st_law_caught) := ⟨rfl, rfl, rfl, by decide +kernel, rfl, by decide +kernel, by decide +kernel⟩
abbrev st_law : Stmt := (PySem.Challenge.pw_carryrounds_k02_errors_of_words.main.body.getD 19 (.Pass ⟨0, 0, 0, 0⟩))
def dx_law : Dx := ⟨fun K => He.ga K "law", "law", "law", defArgs st_law, defBody st_law, defScope st_law, fun K => []⟩
theorem sc_law : FnScope ["_law_script", "_law_k", "_law_pool_here", "_law_base", "_law_width", "_law_odd", "_law_word", "_law_other", "_law_way"] ["_law_script"] (defScope st_law) := ⟨rfl, rfl, rfl, by decide +kernel, rfl, by decide +kernel, by decide +kernel⟩
def fx : List Fx := [.isf [0],
  .fa (.free "bool"),
  .fa (.free "isinstance"),
  .fa (.free "int"),
  .fa (.free "range"),
  .fld [0],
  .fa (.free "tuple"),
  .fa (.int "MOST_WIDTH" 40),
  .fa (.int "MOST_BASE" 36),
  .fa (.free "len"),
  .fa (.free "all"),
  .fa (.free "list"),
  .fa (.glo "Word"),
  .opn "Word",
  .sub [0],
  .opb "Word" .Sub,
  .fa (.free "min"),
  .opb "Word" .Add,
  .fa (.free "abs"),
  .fa (.glo "CarryError"),
  .fa (.free "repr"),
  .exn "InvalidWord" "InvalidNumber",
  .fa (.free "max"),
  .fa (.glo "is_integer"),
  .fa (.glo "is_between"),
  .fa (.glo "check_between"),
  .fa (.glo "check_integer"),
  .fa (.glo "power"),
  .fa (.glo "digits_of"),
  .fa (.glo "number_of"),
  .fa (.glo "_law_pool"),
  .fa (.glo "_law_take"),
  .fa (.glo "_law_caught"),
  .fa (.glo "law"),
  .exo "InvalidNumber" "CarryError" "value",
  .fa (.glo "InvalidNumber"),
  .exo "InvalidWord" "CarryError" "value",
  .fa (.glo "InvalidWord"),
  .fa (.mkr "Word"),
  .cme "Word" "of",
  .prp "Word" "number",
  .fa (.cls "Word"),
  .prp "Word" "base",
  .prp "Word" "width",
  .prp "Word" "digits",
  .opr "Word" "__len__",
  .opr "Word" "__eq__",
  .opr "Word" "__bool__",
  .opr "Word" "__getitem__",
  .opr "Word" "__iter__",
  .opr "Word" "__add__",
  .opr "Word" "__sub__",
  .opr "Word" "__neg__",
  .opr "Word" "__invert__",
  .opr "Word" "__lshift__",
  .opr "Word" "__rshift__"]
def fn : List Dx := [dx_InvalidNumber, dx_InvalidWord, dx_is_integer, dx_is_between, dx_check_between, dx_check_integer, dx_power, dx_digits_of, dx_number_of, dx_Word_init, dx_Word_of, dx_Word_number, dx_Word_base, dx_Word_width, dx_Word_digits, dx_Word_len, dx_Word_eq, dx_Word_bool, dx_Word_getitem, dx_Word_iter, dx_Word_add, dx_Word_sub, dx_Word_neg, dx_Word_invert, dx_Word_lshift, dx_Word_rshift, dx_law_pool, dx_law_take, dx_law_caught, dx_law]
section
variable {P : Program} {w : World} {K : PySem.W.Frag} {mg : Str → Option Value} {base : Heap}
theorem xb_InvalidNumber (b0 : Bas fx fn K mg) : ExB P w K mg base (gOf K cs) "InvalidNumber" 0 (He.ga K "CarryError") := by
  obtain ⟨fd, F⟩ := b0.c.def_ 0 (d := dx_InvalidNumber) rfl
  have T := exo_of (b0.exo 34)
  exact ⟨⟨_, fd, T, ok_exo (m := "invalid number") F sc_InvalidNumber (fun cdv A outer s H E => pss_cons (ps_expr (pe_binit rfl (b0.glo 19) T.rd T.vi (pa_cons (pe_var (i := 0) rfl (by first | exact Or.inl rfl | exact Or.inr (Or.inl rfl) | exact Or.inr (Or.inr rfl)) (by decide) (by decide)) (pa_cons pe_str pa_nil)))) (pss_one (ps_ost (pe_var (i := 0) rfl (by first | exact Or.inl rfl | exact Or.inr (Or.inl rfl) | exact Or.inr (Or.inr rfl)) (by decide) (by decide)) (pe_var (i := 1) rfl (by first | exact Or.inl rfl | exact Or.inr (Or.inl rfl) | exact Or.inr (Or.inr rfl)) (by decide) (by decide))))), F.bindsN (ps := ["self", "value"]) fun _ _ _ _ _ _ us hl => match us, hl with | [_, _], _ => rfl⟩, b0.glo 35⟩
theorem xb_InvalidWord (b0 : Bas fx fn K mg) : ExB P w K mg base (gOf K cs) "InvalidWord" 1 (He.ga K "CarryError") := by
  obtain ⟨fd, F⟩ := b0.c.def_ 1 (d := dx_InvalidWord) rfl
  have T := exo_of (b0.exo 36)
  exact ⟨⟨_, fd, T, ok_exo (m := "invalid word") F sc_InvalidWord (fun cdv A outer s H E => pss_cons (ps_expr (pe_binit rfl (b0.glo 19) T.rd T.vi (pa_cons (pe_var (i := 0) rfl (by first | exact Or.inl rfl | exact Or.inr (Or.inl rfl) | exact Or.inr (Or.inr rfl)) (by decide) (by decide)) (pa_cons pe_str pa_nil)))) (pss_one (ps_ost (pe_var (i := 0) rfl (by first | exact Or.inl rfl | exact Or.inr (Or.inl rfl) | exact Or.inr (Or.inr rfl)) (by decide) (by decide)) (pe_var (i := 1) rfl (by first | exact Or.inl rfl | exact Or.inr (Or.inl rfl) | exact Or.inr (Or.inr rfl)) (by decide) (by decide))))), F.bindsN (ps := ["self", "value"]) fun _ _ _ _ _ _ us hl => match us, hl with | [_, _], _ => rfl⟩, b0.glo 37⟩
theorem w_is_integer (b0 : Bas fx fn K mg) {f : Addr} (cdv : Value) (A : Around) (outer : List Env) (s : Shared) (H : Hp) (E : XK) (hr : Room 0 (A.deeper (envOfC "is_integer" (defScope st_is_integer) s.heap.objs.size f cdv))) : PSsM  (cxOf (L2.CX P w) P w K mg base ["value"] "is_integer" (defScope st_is_integer) f cdv A outer s H E).nox (gOf K cs) WF (defBody st_is_integer) m_is_integer :=
  have nd := sc_is_integer.nd
  ss_one (s_ret (m_and (m_isi (b0.isf 0) (m_var 0) (ce_ty (b0.free 3) rfl) (b0.free 2)) (m_one (m_not (m_isi (b0.isf 0) (m_var 0) (ce_ty (b0.free 1) rfl) (b0.free 2))))))
theorem ok_is_integer (b0 : Bas fx fn K mg) : ∃ fd, FnOk P w K mg base (L2.CX P w) 1 (He.ga K "is_integer") fd ["value"] (spM K (gOf K cs) 1 F_is_integer) ∧ FunD K "is_integer" "is_integer" (defArgs st_is_integer) (defBody st_is_integer) (defScope st_is_integer) (dx_is_integer.dfl K) [] (He.ga K "is_integer") fd := by
  obtain ⟨fd, F⟩ := b0.c.def_ 2 (d := dx_is_integer) rfl
  exact ⟨fd, df_N F sc_is_integer fun cdv A outer s H E hr => w_is_integer b0 cdv A outer s H E hr, F⟩
theorem d_is_integer (b0 : Bas fx fn K mg) : Def0 P w K mg base (gOf K cs) "is_integer" 1 F_is_integer 1 [] := by
  obtain ⟨fd, ok, F⟩ := ok_is_integer (P := P) (w := w) (base := base) b0
  exact mkDef0 ok (b0.glo 23) F.kp (F.bindsN (ps := ["value"]) fun _ _ _ _ _ _ us hl => match us, hl with | [_], _ => rfl) fnM_ar
theorem w_is_between (b0 : Bas fx fn K mg) {f : Addr} (cdv : Value) (A : Around) (outer : List Env) (s : Shared) (H : Hp) (E : XK) (hr : Room 1 (A.deeper (envOfC "is_between" (defScope st_is_between) s.heap.objs.size f cdv))) : PSsM  (cxOf (L2.CX P w) P w K mg base ["value", "low", "high"] "is_between" (defScope st_is_between) f cdv A outer s H E).nox (gOf K cs) WF (defBody st_is_between) m_is_between :=
  have nd := sc_is_between.nd
  ss_one (s_ret (m_and (m_call (d_is_integer b0) hr pas0 (a_cons (m_var 0) a_nil)) (m_one (m_chain op_le op_le (m_var 1) (m_var 0) (m_var 2)))))
theorem ok_is_between (b0 : Bas fx fn K mg) : ∃ fd, FnOk P w K mg base (L2.CX P w) 2 (He.ga K "is_between") fd ["value", "low", "high"] (spM K (gOf K cs) 3 F_is_between) ∧ FunD K "is_between" "is_between" (defArgs st_is_between) (defBody st_is_between) (defScope st_is_between) (dx_is_between.dfl K) [] (He.ga K "is_between") fd := by
  obtain ⟨fd, F⟩ := b0.c.def_ 3 (d := dx_is_between) rfl
  exact ⟨fd, df_N F sc_is_between fun cdv A outer s H E hr => w_is_between b0 cdv A outer s H E hr, F⟩
theorem d_is_between (b0 : Bas fx fn K mg) : Def0 P w K mg base (gOf K cs) "is_between" 3 F_is_between 2 [] := by
  obtain ⟨fd, ok, F⟩ := ok_is_between (P := P) (w := w) (base := base) b0
  exact mkDef0 ok (b0.glo 24) F.kp (F.bindsN (ps := ["value", "low", "high"]) fun _ _ _ _ _ _ us hl => match us, hl with | [_, _, _], _ => rfl) fnM_ar
theorem w_check_between (b0 : Bas fx fn K mg) {f : Addr} (cdv : Value) (A : Around) (outer : List Env) (s : Shared) (H : Hp) (E : XK) (hr : Room 2 (A.deeper (envOfC "check_between" (defScope st_check_between) s.heap.objs.size f cdv))) : PSsM  (cxOf (L2.CX P w) P w K mg base ["value", "low", "high"] "check_between" (defScope st_check_between) f cdv A outer s H E) (gOf K cs) (WX_of E) (defBody st_check_between) m_check_between :=
  have nd := sc_check_between.nd
  have tk : Takes (cxOf (L2.CX P w) P w K mg base ["value", "low", "high"] "check_between" (defScope st_check_between) f cdv A outer s H E) (WX_of E) := takes_of rfl rfl rfl rfl
  ss_one (s_if (t_not (t_tru (m_call (d_is_between b0) hr (pasX tk) (a_cons (m_var 0) (a_cons (m_var 1) (a_cons (m_var 2) a_nil)))))) (ss_one (s_raise (xb_InvalidNumber b0) hr tk (m_var 0))) ss_nil)
theorem ok_check_between (b0 : Bas fx fn K mg) : ∃ fd, FnOk P w K mg base (L2.CX P w) 3 (He.ga K "check_between") fd ["value", "low", "high"] (spM K (gOf K cs) 3 F_check_between) ∧ FunD K "check_between" "check_between" (defArgs st_check_between) (defBody st_check_between) (defScope st_check_between) (dx_check_between.dfl K) [] (He.ga K "check_between") fd := by
  obtain ⟨fd, F⟩ := b0.c.def_ 4 (d := dx_check_between) rfl
  exact ⟨fd, df_X F sc_check_between fun cdv A outer s H E hr => w_check_between b0 cdv A outer s H E hr, F⟩
theorem d_check_between (b0 : Bas fx fn K mg) : Def0 P w K mg base (gOf K cs) "check_between" 3 F_check_between 3 [] := by
  obtain ⟨fd, ok, F⟩ := ok_check_between (P := P) (w := w) (base := base) b0
  exact mkDef0 ok (b0.glo 25) F.kp (F.bindsN (ps := ["value", "low", "high"]) fun _ _ _ _ _ _ us hl => match us, hl with | [_, _, _], _ => rfl) fnM_ar
theorem w_check_integer (b0 : Bas fx fn K mg) {f : Addr} (cdv : Value) (A : Around) (outer : List Env) (s : Shared) (H : Hp) (E : XK) (hr : Room 2 (A.deeper (envOfC "check_integer" (defScope st_check_integer) s.heap.objs.size f cdv))) : PSsM  (cxOf (L2.CX P w) P w K mg base ["value"] "check_integer" (defScope st_check_integer) f cdv A outer s H E) (gOf K cs) (WX_of E) (defBody st_check_integer) m_check_integer :=
  have nd := sc_check_integer.nd
  have tk : Takes (cxOf (L2.CX P w) P w K mg base ["value"] "check_integer" (defScope st_check_integer) f cdv A outer s H E) (WX_of E) := takes_of rfl rfl rfl rfl
  ss_one (s_if (t_not (t_tru (m_call (d_is_integer b0) hr (pasX tk) (a_cons (m_var 0) a_nil)))) (ss_one (s_raise (xb_InvalidNumber b0) hr tk (m_var 0))) ss_nil)
theorem ok_check_integer (b0 : Bas fx fn K mg) : ∃ fd, FnOk P w K mg base (L2.CX P w) 3 (He.ga K "check_integer") fd ["value"] (spM K (gOf K cs) 1 F_check_integer) ∧ FunD K "check_integer" "check_integer" (defArgs st_check_integer) (defBody st_check_integer) (defScope st_check_integer) (dx_check_integer.dfl K) [] (He.ga K "check_integer") fd := by
  obtain ⟨fd, F⟩ := b0.c.def_ 5 (d := dx_check_integer) rfl
  exact ⟨fd, df_X F sc_check_integer fun cdv A outer s H E hr => w_check_integer b0 cdv A outer s H E hr, F⟩
theorem d_check_integer (b0 : Bas fx fn K mg) : Def0 P w K mg base (gOf K cs) "check_integer" 1 F_check_integer 3 [] := by
  obtain ⟨fd, ok, F⟩ := ok_check_integer (P := P) (w := w) (base := base) b0
  exact mkDef0 ok (b0.glo 26) F.kp (F.bindsN (ps := ["value"]) fun _ _ _ _ _ _ us hl => match us, hl with | [_], _ => rfl) fnM_ar
theorem w_power (b0 : Bas fx fn K mg) {f : Addr} (cdv : Value) (A : Around) (outer : List Env) (s : Shared) (H : Hp) (E : XK) (hr : Room 0 (A.deeper (envOfC "power" (defScope st_power) s.heap.objs.size f cdv))) : PSsM  (cxOf (L2.CX P w) P w K mg base ["base", "exponent", "result", "turn"] "power" (defScope st_power) f cdv A outer s H E).nox (gOf K cs) WF (defBody st_power) m_power :=
  have nd := sc_power.nd
  ss_cons (s_set (i := 2) m_int nd)
  (ss_cons (s_for po0 (i_rng1 (a_cons (m_var 1) a_nil) (b0.free 4)) (g_name 3 nd) (ss_one (s_set (i := 2) (m_mul (m_var 2) (m_var 0)) nd)))
  (ss_one (s_ret (m_var 2))))
theorem ok_power (b0 : Bas fx fn K mg) : ∃ fd, FnOk P w K mg base (L2.CX P w) 1 (He.ga K "power") fd ["base", "exponent"] (spM K (gOf K cs) 2 F_power) ∧ FunD K "power" "power" (defArgs st_power) (defBody st_power) (defScope st_power) (dx_power.dfl K) [] (He.ga K "power") fd := by
  obtain ⟨fd, F⟩ := b0.c.def_ 6 (d := dx_power) rfl
  exact ⟨fd, df_N F sc_power fun cdv A outer s H E hr => w_power b0 cdv A outer s H E hr, F⟩
theorem d_power (b0 : Bas fx fn K mg) : Def0 P w K mg base (gOf K cs) "power" 2 F_power 1 [] := by
  obtain ⟨fd, ok, F⟩ := ok_power (P := P) (w := w) (base := base) b0
  exact mkDef0 ok (b0.glo 27) F.kp (F.bindsN (ps := ["base", "exponent"]) fun _ _ _ _ _ _ us hl => match us, hl with | [_, _], _ => rfl) fnM_ar
theorem w_digits_of (b0 : Bas fx fn K mg) {f : Addr} (cdv : Value) (A : Around) (outer : List Env) (s : Shared) (H : Hp) (E : XK) (hr : Room 1 (A.deeper (envOfC "digits_of" (defScope st_digits_of) s.heap.objs.size f cdv))) : PSsM  (cxOf (L2.CX P w) P w K mg base ["number", "base", "width", "place"] "digits_of" (defScope st_digits_of) f cdv A outer s H E).nox (gOf K cs) WF (defBody st_digits_of) m_digits_of :=
  have nd := sc_digits_of.nd
  ss_one (s_ret (PEF.sh (f_lc (own := [("place", 3)]) (i_rng1 (a_cons (m_var 2) a_nil) (b0.free 4)) (blkOk_by (by rfl)) nd (fun _ => g_name 3 nd) (fun _ => ts_nil) (fun _ => m_mod (m_div (m_var 0) (m_call (d_power b0) hr pas0 (a_cons (m_var 1) (a_cons (m_var 3) a_nil)))) (m_var 1)))))
theorem ok_digits_of (b0 : Bas fx fn K mg) : ∃ fd, FnOk P w K mg base (L2.CX P w) 2 (He.ga K "digits_of") fd ["number", "base", "width"] (spM K (gOf K cs) 3 F_digits_of) ∧ FunD K "digits_of" "digits_of" (defArgs st_digits_of) (defBody st_digits_of) (defScope st_digits_of) (dx_digits_of.dfl K) [] (He.ga K "digits_of") fd := by
  obtain ⟨fd, F⟩ := b0.c.def_ 7 (d := dx_digits_of) rfl
  exact ⟨fd, df_N F sc_digits_of fun cdv A outer s H E hr => w_digits_of b0 cdv A outer s H E hr, F⟩
theorem d_digits_of (b0 : Bas fx fn K mg) : Def0 P w K mg base (gOf K cs) "digits_of" 3 F_digits_of 2 [] := by
  obtain ⟨fd, ok, F⟩ := ok_digits_of (P := P) (w := w) (base := base) b0
  exact mkDef0 ok (b0.glo 28) F.kp (F.bindsN (ps := ["number", "base", "width"]) fun _ _ _ _ _ _ us hl => match us, hl with | [_, _, _], _ => rfl) fnM_ar
theorem w_number_of (b0 : Bas fx fn K mg) {f : Addr} (cdv : Value) (A : Around) (outer : List Env) (s : Shared) (H : Hp) (E : XK) (hr : Room 0 (A.deeper (envOfC "number_of" (defScope st_number_of) s.heap.objs.size f cdv))) : PSsM  (cxOf (L2.CX P w) P w K mg base ["digits", "base", "result", "digit"] "number_of" (defScope st_number_of) f cdv A outer s H E).nox (gOf K cs) WF (defBody st_number_of) m_number_of :=
  have nd := sc_number_of.nd
  ss_cons (s_set (i := 2) m_int nd)
  (ss_cons (s_for po0 (i_seq (m_revA (m_var 0))) (g_name 3 nd) (ss_one (s_set (i := 2) (m_add (m_mul (m_var 2) (m_var 1)) (m_var 3)) nd)))
  (ss_one (s_ret (m_var 2))))
theorem ok_number_of (b0 : Bas fx fn K mg) : ∃ fd, FnOk P w K mg base (L2.CX P w) 1 (He.ga K "number_of") fd ["digits", "base"] (spM K (gOf K cs) 2 F_number_of) ∧ FunD K "number_of" "number_of" (defArgs st_number_of) (defBody st_number_of) (defScope st_number_of) (dx_number_of.dfl K) [] (He.ga K "number_of") fd := by
  obtain ⟨fd, F⟩ := b0.c.def_ 8 (d := dx_number_of) rfl
  exact ⟨fd, df_N F sc_number_of fun cdv A outer s H E hr => w_number_of b0 cdv A outer s H E hr, F⟩
theorem d_number_of (b0 : Bas fx fn K mg) : Def0 P w K mg base (gOf K cs) "number_of" 2 F_number_of 1 [] := by
  obtain ⟨fd, ok, F⟩ := ok_number_of (P := P) (w := w) (base := base) b0
  exact mkDef0 ok (b0.glo 29) F.kp (F.bindsN (ps := ["digits", "base"]) fun _ _ _ _ _ _ us hl => match us, hl with | [_, _], _ => rfl) fnM_ar
theorem w_Word_init (b0 : Bas fx fn K mg) {f : Addr} (cdv : Value) (A : Around) (outer : List Env) (s : Shared) (H : Hp) (E : XK) (hr : Room 3 (A.deeper (envOfC "Word.__init__" (defScope st_Word_init) s.heap.objs.size f cdv))) : PSsM  (cxOf (L2.CX P w) P w K mg base ["self", "value", "base", "width"] "Word.__init__" (defScope st_Word_init) f cdv A outer s H E) (gOf K cs) (WX_of E) (defBody st_Word_init) m_Word_init :=
  have nd := sc_Word_init.nd
  have tk : Takes (cxOf (L2.CX P w) P w K mg base ["self", "value", "base", "width"] "Word.__init__" (defScope st_Word_init) f cdv A outer s H E) (WX_of E) := takes_of rfl rfl rfl rfl
  ss_cons (s_expr (m_call (d_check_between b0) hr (pasX tk) (a_cons (m_var 2) (a_cons m_int (a_cons (m_gint rfl (b0.int 8)) a_nil)))))
  (ss_cons (s_expr (m_call (d_check_between b0) hr (pasX tk) (a_cons (m_var 3) (a_cons m_int (a_cons (m_gint rfl (b0.int 7)) a_nil)))))
  (ss_cons (s_expr (m_call (d_check_integer b0) hr (pasX tk) (a_cons (m_var 1) a_nil)))
  (ss_cons (s_fld 0 (b0.fld 5) (m_var 2))
  (ss_cons (s_fld 0 (b0.fld 5) (m_mod (m_var 1) (m_call (d_power b0) hr (pasX tk) (a_cons (m_var 2) (a_cons (m_var 3) a_nil)))))
  (ss_one (s_fld 0 (b0.fld 5) (m_ct call_tuple_of rc_tuple (b0.free 6) rfl (a_cons (m_call (d_digits_of b0) hr (pasX tk) (a_cons (m_fldS 0 (b0.fld 5)) (a_cons (m_var 2) (a_cons (m_var 3) a_nil)))) a_nil))))))))
theorem ok_Word_init (b0 : Bas fx fn K mg) : ∃ fd, FnOk P w K mg base (L2.CX P w) 4 (He.ma K (He.ga K "Word") "__init__") fd ["self", "value", "base", "width"] (spM K (gOf K cs) 4 F_Word_init) ∧ FunD K "__init__" "Word.__init__" (defArgs st_Word_init) (defBody st_Word_init) (defScope st_Word_init) (dx_Word_init.dfl K) [] (He.ma K (He.ga K "Word") "__init__") fd := by
  obtain ⟨fd, F⟩ := b0.c.def_ 9 (d := dx_Word_init) rfl
  exact ⟨fd, df_X F sc_Word_init fun cdv A outer s H E hr => w_Word_init b0 cdv A outer s H E hr, F⟩
theorem k_Word_init (b0 : Bas fx fn K mg) : Mak P w K mg base (gOf K cs) "Word" 0 4 F_Word_init 4 [] := by
  obtain ⟨fd, ok, F⟩ := ok_Word_init (P := P) (w := w) (base := base) b0
  exact mkMak ok (b0.mkr 38) (b0.glo 12) (by obtain ⟨ds, v, b⟩ := (F.binds1 (ps := ["self", "value", "base", "width"]) 4 2 (List.cons_ne_nil _ _) rfl fun _ _ _ _ _ _ _ us its h1 h2 => match us, h1, its, h2 with | [_, _, _, _], _, [_, _], _ => ⟨_, rfl, rfl⟩); cases v; exact b) rfl fnM_ar
theorem w_Word_of (b0 : Bas fx fn K mg) {f : Addr} (cdv : Value) (A : Around) (outer : List Env) (s : Shared) (H : Hp) (E : XK) (hr : Room 5 (A.deeper (envOfC "Word.of" (defScope st_Word_of) s.heap.objs.size f cdv))) : PSsM  (cxOf (L2.CX P w) P w K mg base ["cls", "digits", "base", "digit"] "Word.of" (defScope st_Word_of) f cdv A outer s H E) (gOf K cs) (WX_of E) (defBody st_Word_of) m_Word_of :=
  have nd := sc_Word_of.nd
  have tk : Takes (cxOf (L2.CX P w) P w K mg base ["cls", "digits", "base", "digit"] "Word.of" (defScope st_Word_of) f cdv A outer s H E) (WX_of E) := takes_of rfl rfl rfl rfl
  ss_cons (s_expr (m_call (d_check_between b0) hr (pasX tk) (a_cons (m_var 2) (a_cons m_int (a_cons (m_gint rfl (b0.int 8)) a_nil)))))
  (ss_cons (s_if (PWM.t (w_or (t_not (t_tru (m_isiT (b0.isf 0) (m_var 1) (ces_cons (ce_ty (b0.free 11) rfl) (ces_cons (ce_ty (b0.free 6) rfl) ces_nil)) (b0.free 2)))) (w_or1 (t_not (t_chain op_le op_le m_int (m_cb call_len rc_len (b0.free 9) rfl (a_cons (m_var 1) a_nil)) (m_gint rfl (b0.int 7))))))) (ss_one (s_raise (xb_InvalidWord b0) hr tk (m_var 1))) ss_nil)
  (ss_cons (s_if (t_not (t_tru (m_cb (cr_all rfl) rc_all (b0.free 10) rfl (a_cons (PEF.sh (f_lc (own := [("digit", 3)]) (i_seq (m_var 1)) (blkOk_by (by rfl)) nd (fun _ => g_name 3 nd) (fun _ => ts_nil) (fun _ => m_call (d_is_between b0) hr pas0 (a_cons (m_var 3) (a_cons m_int (a_cons (m_sub (m_var 2) m_int) a_nil)))))) a_nil)))) (ss_one (s_raise (xb_InvalidWord b0) hr tk (m_var 1))) ss_nil)
  (ss_one (s_ret (PEF.sh (f_cls 0 (k_Word_init b0) hr (pasX tk) (a_cons (m_call (d_number_of b0) hr (pasX tk) (a_cons (m_var 1) (a_cons (m_var 2) a_nil))) (a_cons (m_var 2) (a_cons (m_cb call_len rc_len (b0.free 9) rfl (a_cons (m_var 1) a_nil)) a_nil)))))))))
theorem ok_Word_of (b0 : Bas fx fn K mg) : ∃ fd, FnOk P w K mg base (L2.CX P w) 6 (cmG K "Word" "of") fd ["cls", "digits", "base"] (spM K (gOf K cs) 3 F_Word_of) ∧ FunD K "of" "Word.of" (defArgs st_Word_of) (defBody st_Word_of) (defScope st_Word_of) (dx_Word_of.dfl K) [] (cmG K "Word" "of") fd := by
  obtain ⟨fd, F⟩ := b0.c.def_ 10 (d := dx_Word_of) rfl
  exact ⟨fd, df_X F sc_Word_of fun cdv A outer s H E hr => w_Word_of b0 cdv A outer s H E hr, F⟩
theorem c_Word_of (b0 : Bas fx fn K mg) : Cme P w K mg base (gOf K cs) "Word" 0 "of" F_Word_of 6 [] := by
  obtain ⟨fd, ok, F⟩ := ok_Word_of (P := P) (w := w) (base := base) b0
  exact mkCme ok (b0.cme 39) (by obtain ⟨ds, v, b⟩ := (F.binds1 (ps := ["cls", "digits", "base"]) 3 1 (List.cons_ne_nil _ _) rfl fun _ _ _ _ _ _ _ us its h1 h2 => match us, h1, its, h2 with | [_, _, _], _, [_], _ => ⟨_, rfl, rfl⟩); cases v; exact b) (b0.glo 12) fnM_ar
theorem w_Word_number (b0 : Bas fx fn K mg) {f : Addr} (cdv : Value) (A : Around) (outer : List Env) (s : Shared) (H : Hp) (E : XK) (hr : Room 0 (A.deeper (envOfC "Word.number" (defScope st_Word_number) s.heap.objs.size f cdv))) : PSsM  (cxOf (L2.CX P w) P w K mg base ["self"] "Word.number" (defScope st_Word_number) f cdv A outer s H E).nox (gOf K cs) WF (defBody st_Word_number) m_Word_number :=
  have nd := sc_Word_number.nd
  ss_one (s_ret (m_fld (b0.fld 5) (m_var 0)))
theorem ok_Word_number (b0 : Bas fx fn K mg) : ∃ fd, FnOk P w K mg base (L2.CX P w) 1 (prG K "Word" "number") fd ["self"] (spM K (gOf K cs) 1 F_Word_number) ∧ FunD K "number" "Word.number" (defArgs st_Word_number) (defBody st_Word_number) (defScope st_Word_number) (dx_Word_number.dfl K) [] (prG K "Word" "number") fd := by
  obtain ⟨fd, F⟩ := b0.c.def_ 11 (d := dx_Word_number) rfl
  exact ⟨fd, df_N F sc_Word_number fun cdv A outer s H E hr => w_Word_number b0 cdv A outer s H E hr, F⟩
theorem p_Word_number (b0 : Bas fx fn K mg) : Prp P w K mg base (gOf K cs) 0 "number" F_Word_number 1 := by
  obtain ⟨fd, ok, F⟩ := ok_Word_number (P := P) (w := w) (base := base) b0
  exact mkPrp ok (b0.prp 40) (F.bindsN (ps := ["self"]) fun _ _ _ _ _ _ us hl => match us, hl with | [_], _ => rfl) (b0.cls 41) fnM_ar
theorem w_Word_base (b0 : Bas fx fn K mg) {f : Addr} (cdv : Value) (A : Around) (outer : List Env) (s : Shared) (H : Hp) (E : XK) (hr : Room 0 (A.deeper (envOfC "Word.base" (defScope st_Word_base) s.heap.objs.size f cdv))) : PSsM  (cxOf (L2.CX P w) P w K mg base ["self"] "Word.base" (defScope st_Word_base) f cdv A outer s H E).nox (gOf K cs) WF (defBody st_Word_base) m_Word_base :=
  have nd := sc_Word_base.nd
  ss_one (s_ret (m_fld (b0.fld 5) (m_var 0)))
theorem ok_Word_base (b0 : Bas fx fn K mg) : ∃ fd, FnOk P w K mg base (L2.CX P w) 1 (prG K "Word" "base") fd ["self"] (spM K (gOf K cs) 1 F_Word_base) ∧ FunD K "base" "Word.base" (defArgs st_Word_base) (defBody st_Word_base) (defScope st_Word_base) (dx_Word_base.dfl K) [] (prG K "Word" "base") fd := by
  obtain ⟨fd, F⟩ := b0.c.def_ 12 (d := dx_Word_base) rfl
  exact ⟨fd, df_N F sc_Word_base fun cdv A outer s H E hr => w_Word_base b0 cdv A outer s H E hr, F⟩
theorem p_Word_base (b0 : Bas fx fn K mg) : Prp P w K mg base (gOf K cs) 0 "base" F_Word_base 1 := by
  obtain ⟨fd, ok, F⟩ := ok_Word_base (P := P) (w := w) (base := base) b0
  exact mkPrp ok (b0.prp 42) (F.bindsN (ps := ["self"]) fun _ _ _ _ _ _ us hl => match us, hl with | [_], _ => rfl) (b0.cls 41) fnM_ar
theorem w_Word_width (b0 : Bas fx fn K mg) {f : Addr} (cdv : Value) (A : Around) (outer : List Env) (s : Shared) (H : Hp) (E : XK) (hr : Room 0 (A.deeper (envOfC "Word.width" (defScope st_Word_width) s.heap.objs.size f cdv))) : PSsM  (cxOf (L2.CX P w) P w K mg base ["self"] "Word.width" (defScope st_Word_width) f cdv A outer s H E).nox (gOf K cs) WF (defBody st_Word_width) m_Word_width :=
  have nd := sc_Word_width.nd
  ss_one (s_ret (m_cb call_len rc_len (b0.free 9) rfl (a_cons (m_fld (b0.fld 5) (m_var 0)) a_nil)))
theorem ok_Word_width (b0 : Bas fx fn K mg) : ∃ fd, FnOk P w K mg base (L2.CX P w) 1 (prG K "Word" "width") fd ["self"] (spM K (gOf K cs) 1 F_Word_width) ∧ FunD K "width" "Word.width" (defArgs st_Word_width) (defBody st_Word_width) (defScope st_Word_width) (dx_Word_width.dfl K) [] (prG K "Word" "width") fd := by
  obtain ⟨fd, F⟩ := b0.c.def_ 13 (d := dx_Word_width) rfl
  exact ⟨fd, df_N F sc_Word_width fun cdv A outer s H E hr => w_Word_width b0 cdv A outer s H E hr, F⟩
theorem p_Word_width (b0 : Bas fx fn K mg) : Prp P w K mg base (gOf K cs) 0 "width" F_Word_width 1 := by
  obtain ⟨fd, ok, F⟩ := ok_Word_width (P := P) (w := w) (base := base) b0
  exact mkPrp ok (b0.prp 43) (F.bindsN (ps := ["self"]) fun _ _ _ _ _ _ us hl => match us, hl with | [_], _ => rfl) (b0.cls 41) fnM_ar
theorem w_Word_digits (b0 : Bas fx fn K mg) {f : Addr} (cdv : Value) (A : Around) (outer : List Env) (s : Shared) (H : Hp) (E : XK) (hr : Room 0 (A.deeper (envOfC "Word.digits" (defScope st_Word_digits) s.heap.objs.size f cdv))) : PSsM  (cxOf (L2.CX P w) P w K mg base ["self"] "Word.digits" (defScope st_Word_digits) f cdv A outer s H E).nox (gOf K cs) WF (defBody st_Word_digits) m_Word_digits :=
  have nd := sc_Word_digits.nd
  ss_one (s_ret (m_fld (b0.fld 5) (m_var 0)))
theorem ok_Word_digits (b0 : Bas fx fn K mg) : ∃ fd, FnOk P w K mg base (L2.CX P w) 1 (prG K "Word" "digits") fd ["self"] (spM K (gOf K cs) 1 F_Word_digits) ∧ FunD K "digits" "Word.digits" (defArgs st_Word_digits) (defBody st_Word_digits) (defScope st_Word_digits) (dx_Word_digits.dfl K) [] (prG K "Word" "digits") fd := by
  obtain ⟨fd, F⟩ := b0.c.def_ 14 (d := dx_Word_digits) rfl
  exact ⟨fd, df_N F sc_Word_digits fun cdv A outer s H E hr => w_Word_digits b0 cdv A outer s H E hr, F⟩
theorem p_Word_digits (b0 : Bas fx fn K mg) : Prp P w K mg base (gOf K cs) 0 "digits" F_Word_digits 1 := by
  obtain ⟨fd, ok, F⟩ := ok_Word_digits (P := P) (w := w) (base := base) b0
  exact mkPrp ok (b0.prp 44) (F.bindsN (ps := ["self"]) fun _ _ _ _ _ _ us hl => match us, hl with | [_], _ => rfl) (b0.cls 41) fnM_ar
theorem w_Word_len (b0 : Bas fx fn K mg) {f : Addr} (cdv : Value) (A : Around) (outer : List Env) (s : Shared) (H : Hp) (E : XK) (hr : Room 0 (A.deeper (envOfC "Word.__len__" (defScope st_Word_len) s.heap.objs.size f cdv))) : PSsM  (cxOf (L2.CX P w) P w K mg base ["self"] "Word.__len__" (defScope st_Word_len) f cdv A outer s H E).nox (gOf K cs) WF (defBody st_Word_len) m_Word_len :=
  have nd := sc_Word_len.nd
  ss_one (s_ret (m_cb call_len rc_len (b0.free 9) rfl (a_cons (m_fld (b0.fld 5) (m_var 0)) a_nil)))
theorem ok_Word_len (b0 : Bas fx fn K mg) : ∃ fd, FnOk P w K mg base (L2.CX P w) 1 (He.ma K (He.ga K "Word") "__len__") fd ["self"] (spM K (gOf K cs) 1 F_Word_len) ∧ FunD K "__len__" "Word.__len__" (defArgs st_Word_len) (defBody st_Word_len) (defScope st_Word_len) (dx_Word_len.dfl K) [] (He.ma K (He.ga K "Word") "__len__") fd := by
  obtain ⟨fd, F⟩ := b0.c.def_ 15 (d := dx_Word_len) rfl
  exact ⟨fd, df_N F sc_Word_len fun cdv A outer s H E hr => w_Word_len b0 cdv A outer s H E hr, F⟩
theorem o_Word_len (b0 : Bas fx fn K mg) : Opr P w K mg base (gOf K cs) 0 "__len__" 1 F_Word_len 1 := by
  obtain ⟨fd, ok, F⟩ := ok_Word_len (P := P) (w := w) (base := base) b0
  exact mkOpr ok (b0.opr 45) (F.bindsN (ps := ["self"]) fun _ _ _ _ _ _ us hl => match us, hl with | [_], _ => rfl) fnM_ar
theorem w_Word_eq (b0 : Bas fx fn K mg) {f : Addr} (cdv : Value) (A : Around) (outer : List Env) (s : Shared) (H : Hp) (E : XK) (hr : Room 0 (A.deeper (envOfC "Word.__eq__" (defScope st_Word_eq) s.heap.objs.size f cdv))) : PSsM  (cxOf (L2.CX P w) P w K mg base ["self", "other"] "Word.__eq__" (defScope st_Word_eq) f cdv A outer s H E).nox (gOf K cs) WF (defBody st_Word_eq) m_Word_eq :=
  have nd := sc_Word_eq.nd
  ss_one (s_ret (m_and (m_isi (b0.isf 0) (m_var 1) (ce_cl (b0.glo 12)) (b0.free 2)) (m_and (m_eq hr (m_fld (b0.fld 5) (m_var 0)) (m_fld (b0.fld 5) (m_var 1))) (m_one (m_eq hr (m_fld (b0.fld 5) (m_var 0)) (m_fld (b0.fld 5) (m_var 1)))))))
theorem ok_Word_eq (b0 : Bas fx fn K mg) : ∃ fd, FnOk P w K mg base (L2.CX P w) 1 (He.ma K (He.ga K "Word") "__eq__") fd ["self", "other"] (spM K (gOf K cs) 2 F_Word_eq) ∧ FunD K "__eq__" "Word.__eq__" (defArgs st_Word_eq) (defBody st_Word_eq) (defScope st_Word_eq) (dx_Word_eq.dfl K) [] (He.ma K (He.ga K "Word") "__eq__") fd := by
  obtain ⟨fd, F⟩ := b0.c.def_ 16 (d := dx_Word_eq) rfl
  exact ⟨fd, df_N F sc_Word_eq fun cdv A outer s H E hr => w_Word_eq b0 cdv A outer s H E hr, F⟩
theorem wc_Word_eq (b0 : Bas fx fn K mg) {f : Addr} (cdv : Value) (A : Around) (outer : List Env) (s : Shared) (H : Hp) (E : XK) (p : Addr × Obj) (hr : L2H.RoomH 0 (A.deeper (envOfC "Word.__eq__" (defScope st_Word_eq) s.heap.objs.size f cdv))) : PSsM (L2H.cxH (L2.CX P w) P w K mg base ["self", "other"] "Word.__eq__" (defScope st_Word_eq) f cdv A outer s H E p).nox (gOf K cs) WF (defBody st_Word_eq) m_Word_eq :=
  have nd := sc_Word_eq.nd
  ss_one (s_ret (m_and (m_isi (b0.isf 0) (m_var 1) (ce_cl (b0.glo 12)) (b0.free 2)) (m_and (m_eqC hr (m_fld (b0.fld 5) (m_var 0)) (m_fld (b0.fld 5) (m_var 1))) (m_one (m_eqC hr (m_fld (b0.fld 5) (m_var 0)) (m_fld (b0.fld 5) (m_var 1)))))))
theorem hc_Word_eq (b0 : Bas fx fn K mg) : OprC P w K mg base (gOf K cs) 0 "__eq__" 2 F_Word_eq 1 := by
  obtain ⟨fd, F⟩ := b0.c.def_ 16 (d := dx_Word_eq) rfl
  exact ⟨⟨_, fd, _, df_C F sc_Word_eq fun cdv A outer s H E p hr => wc_Word_eq b0 cdv A outer s H E p hr, (F.bindsN (ps := ["self", "other"]) fun _ _ _ _ _ _ us hl => match us, hl with | [_, _], _ => rfl), (b0.opr 46).1, (b0.opr 46).2.1⟩, fnM_ar⟩
theorem o_Word_eq (b0 : Bas fx fn K mg) : Opr P w K mg base (gOf K cs) 0 "__eq__" 2 F_Word_eq 1 := by
  obtain ⟨fd, ok, F⟩ := ok_Word_eq (P := P) (w := w) (base := base) b0
  exact mkOpr ok (b0.opr 46) (F.bindsN (ps := ["self", "other"]) fun _ _ _ _ _ _ us hl => match us, hl with | [_, _], _ => rfl) fnM_ar
theorem w_Word_bool (b0 : Bas fx fn K mg) {f : Addr} (cdv : Value) (A : Around) (outer : List Env) (s : Shared) (H : Hp) (E : XK) (hr : Room 2 (A.deeper (envOfC "Word.__bool__" (defScope st_Word_bool) s.heap.objs.size f cdv))) : PSsM  (cxOf (L2.CX P w) P w K mg base ["self"] "Word.__bool__" (defScope st_Word_bool) f cdv A outer s H E).nox (gOf K cs) WF (defBody st_Word_bool) m_Word_bool :=
  have nd := sc_Word_bool.nd
  ss_one (s_ret (m_ct call_bool1 rc_bool (b0.free 1) rfl (a_cons (m_neG (b0.sub 14) (.cons (o_Word_eq b0) .nil) (.cons rfl .nil) (.cons (b0.opn 13) .nil) hr pas0 (m_fld (b0.fld 5) (m_var 0)) m_int) a_nil)))
theorem ok_Word_bool (b0 : Bas fx fn K mg) : ∃ fd, FnOk P w K mg base (L2.CX P w) 3 (He.ma K (He.ga K "Word") "__bool__") fd ["self"] (spM K (gOf K cs) 1 F_Word_bool) ∧ FunD K "__bool__" "Word.__bool__" (defArgs st_Word_bool) (defBody st_Word_bool) (defScope st_Word_bool) (dx_Word_bool.dfl K) [] (He.ma K (He.ga K "Word") "__bool__") fd := by
  obtain ⟨fd, F⟩ := b0.c.def_ 17 (d := dx_Word_bool) rfl
  exact ⟨fd, df_N F sc_Word_bool fun cdv A outer s H E hr => w_Word_bool b0 cdv A outer s H E hr, F⟩
theorem o_Word_bool (b0 : Bas fx fn K mg) : Opr P w K mg base (gOf K cs) 0 "__bool__" 1 F_Word_bool 3 := by
  obtain ⟨fd, ok, F⟩ := ok_Word_bool (P := P) (w := w) (base := base) b0
  exact mkOpr ok (b0.opr 47) (F.bindsN (ps := ["self"]) fun _ _ _ _ _ _ us hl => match us, hl with | [_], _ => rfl) fnM_ar
theorem w_Word_getitem (b0 : Bas fx fn K mg) {f : Addr} (cdv : Value) (A : Around) (outer : List Env) (s : Shared) (H : Hp) (E : XK) (hr : Room 3 (A.deeper (envOfC "Word.__getitem__" (defScope st_Word_getitem) s.heap.objs.size f cdv))) : PSsM  (cxOf (L2.CX P w) P w K mg base ["self", "place"] "Word.__getitem__" (defScope st_Word_getitem) f cdv A outer s H E) (gOf K cs) (WX_of E) (defBody st_Word_getitem) m_Word_getitem :=
  have nd := sc_Word_getitem.nd
  have tk : Takes (cxOf (L2.CX P w) P w K mg base ["self", "place"] "Word.__getitem__" (defScope st_Word_getitem) f cdv A outer s H E) (WX_of E) := takes_of rfl rfl rfl rfl
  ss_cons (s_expr (m_call (d_check_between b0) hr (pasX tk) (a_cons (m_var 1) (a_cons m_int (a_cons (m_sub (m_lenO (.cons (o_Word_len b0) .nil) hr (pasX tk) (b0.free 9) (a_cons (m_fld (b0.fld 5) (m_var 0)) a_nil)) m_int) a_nil)))))
  (ss_one (s_ret (m_ix (m_fld (b0.fld 5) (m_var 0)) (m_var 1))))
theorem ok_Word_getitem (b0 : Bas fx fn K mg) : ∃ fd, FnOk P w K mg base (L2.CX P w) 4 (He.ma K (He.ga K "Word") "__getitem__") fd ["self", "place"] (spM K (gOf K cs) 2 F_Word_getitem) ∧ FunD K "__getitem__" "Word.__getitem__" (defArgs st_Word_getitem) (defBody st_Word_getitem) (defScope st_Word_getitem) (dx_Word_getitem.dfl K) [] (He.ma K (He.ga K "Word") "__getitem__") fd := by
  obtain ⟨fd, F⟩ := b0.c.def_ 18 (d := dx_Word_getitem) rfl
  exact ⟨fd, df_X F sc_Word_getitem fun cdv A outer s H E hr => w_Word_getitem b0 cdv A outer s H E hr, F⟩
theorem o_Word_getitem (b0 : Bas fx fn K mg) : Opr P w K mg base (gOf K cs) 0 "__getitem__" 2 F_Word_getitem 4 := by
  obtain ⟨fd, ok, F⟩ := ok_Word_getitem (P := P) (w := w) (base := base) b0
  exact mkOpr ok (b0.opr 48) (F.bindsN (ps := ["self", "place"]) fun _ _ _ _ _ _ us hl => match us, hl with | [_, _], _ => rfl) fnM_ar
theorem w_Word_iter (b0 : Bas fx fn K mg) {f : Addr} (cdv : Value) (A : Around) (outer : List Env) (s : Shared) (H : Hp) (E : XK) (hr : Room 0 (A.deeper (envOfC "Word.__iter__" (defScope st_Word_iter) s.heap.objs.size f cdv))) : PSsM  (cxOf (L2.CX P w) P w K mg base ["self"] "Word.__iter__" (defScope st_Word_iter) f cdv A outer s H E).nox (gOf K cs) WF (defBody st_Word_iter) m_Word_iter :=
  have nd := sc_Word_iter.nd
  ss_one s_never
theorem ok_Word_iter (b0 : Bas fx fn K mg) : ∃ fd, FnOk P w K mg base (L2.CX P w) 1 (He.ma K (He.ga K "Word") "__iter__") fd ["self"] (spM K (gOf K cs) 1 F_Word_iter) ∧ FunD K "__iter__" "Word.__iter__" (defArgs st_Word_iter) (defBody st_Word_iter) (defScope st_Word_iter) (dx_Word_iter.dfl K) [] (He.ma K (He.ga K "Word") "__iter__") fd := by
  obtain ⟨fd, F⟩ := b0.c.def_ 19 (d := dx_Word_iter) rfl
  exact ⟨fd, df_N F sc_Word_iter fun cdv A outer s H E hr => w_Word_iter b0 cdv A outer s H E hr, F⟩
theorem o_Word_iter (b0 : Bas fx fn K mg) : Opr P w K mg base (gOf K cs) 0 "__iter__" 1 F_Word_iter 1 := by
  obtain ⟨fd, ok, F⟩ := ok_Word_iter (P := P) (w := w) (base := base) b0
  exact mkOpr ok (b0.opr 49) (F.bindsN (ps := ["self"]) fun _ _ _ _ _ _ us hl => match us, hl with | [_], _ => rfl) fnM_ar
theorem w_Word_add (b0 : Bas fx fn K mg) {f : Addr} (cdv : Value) (A : Around) (outer : List Env) (s : Shared) (H : Hp) (E : XK) (hr : Room 5 (A.deeper (envOfC "Word.__add__" (defScope st_Word_add) s.heap.objs.size f cdv))) : PSsM  (cxOf (L2.CX P w) P w K mg base ["self", "other"] "Word.__add__" (defScope st_Word_add) f cdv A outer s H E) (gOf K cs) (WX_of E) (defBody st_Word_add) m_Word_add :=
  have nd := sc_Word_add.nd
  have tk : Takes (cxOf (L2.CX P w) P w K mg base ["self", "other"] "Word.__add__" (defScope st_Word_add) f cdv A outer s H E) (WX_of E) := takes_of rfl rfl rfl rfl
  ss_cons (s_if (PWM.t (w_or (t_neG (b0.sub 14) (.cons (o_Word_eq b0) .nil) (.cons rfl .nil) (.cons (b0.opn 13) .nil) hr (pasX tk) (m_fld (b0.fld 5) (m_var 0)) (m_fld (b0.fld 5) (m_var 1))) (w_or1 (t_neG (b0.sub 14) (.cons (o_Word_eq b0) .nil) (.cons rfl .nil) (.cons (b0.opn 13) .nil) hr (pasX tk) (m_lenO (.cons (o_Word_len b0) .nil) hr (pasX tk) (b0.free 9) (a_cons (m_fld (b0.fld 5) (m_var 0)) a_nil)) (m_lenO (.cons (o_Word_len b0) .nil) hr (pasX tk) (b0.free 9) (a_cons (m_fld (b0.fld 5) (m_var 1)) a_nil)))))) (ss_one (s_raise (xb_InvalidWord b0) hr tk (m_var 1))) ss_nil)
  (ss_one (s_ret (PEF.sh (f_make (k_Word_init b0) hr (pasX tk) (a_cons (m_add (m_fld (b0.fld 5) (m_var 0)) (m_fld (b0.fld 5) (m_var 1))) (a_cons (m_fld (b0.fld 5) (m_var 0)) (a_cons (m_lenO (.cons (o_Word_len b0) .nil) hr (pasX tk) (b0.free 9) (a_cons (m_fld (b0.fld 5) (m_var 0)) a_nil)) a_nil)))))))
theorem ok_Word_add (b0 : Bas fx fn K mg) : ∃ fd, FnOk P w K mg base (L2.CX P w) 6 (He.ma K (He.ga K "Word") "__add__") fd ["self", "other"] (spM K (gOf K cs) 2 F_Word_add) ∧ FunD K "__add__" "Word.__add__" (defArgs st_Word_add) (defBody st_Word_add) (defScope st_Word_add) (dx_Word_add.dfl K) [] (He.ma K (He.ga K "Word") "__add__") fd := by
  obtain ⟨fd, F⟩ := b0.c.def_ 20 (d := dx_Word_add) rfl
  exact ⟨fd, df_X F sc_Word_add fun cdv A outer s H E hr => w_Word_add b0 cdv A outer s H E hr, F⟩
theorem o_Word_add (b0 : Bas fx fn K mg) : Opr P w K mg base (gOf K cs) 0 "__add__" 2 F_Word_add 6 := by
  obtain ⟨fd, ok, F⟩ := ok_Word_add (P := P) (w := w) (base := base) b0
  exact mkOpr ok (b0.opr 50) (F.bindsN (ps := ["self", "other"]) fun _ _ _ _ _ _ us hl => match us, hl with | [_, _], _ => rfl) fnM_ar
theorem w_Word_sub (b0 : Bas fx fn K mg) {f : Addr} (cdv : Value) (A : Around) (outer : List Env) (s : Shared) (H : Hp) (E : XK) (hr : Room 5 (A.deeper (envOfC "Word.__sub__" (defScope st_Word_sub) s.heap.objs.size f cdv))) : PSsM  (cxOf (L2.CX P w) P w K mg base ["self", "other"] "Word.__sub__" (defScope st_Word_sub) f cdv A outer s H E) (gOf K cs) (WX_of E) (defBody st_Word_sub) m_Word_sub :=
  have nd := sc_Word_sub.nd
  have tk : Takes (cxOf (L2.CX P w) P w K mg base ["self", "other"] "Word.__sub__" (defScope st_Word_sub) f cdv A outer s H E) (WX_of E) := takes_of rfl rfl rfl rfl
  ss_cons (s_if (PWM.t (w_or (t_neG (b0.sub 14) (.cons (o_Word_eq b0) .nil) (.cons rfl .nil) (.cons (b0.opn 13) .nil) hr (pasX tk) (m_fld (b0.fld 5) (m_var 0)) (m_fld (b0.fld 5) (m_var 1))) (w_or1 (t_neG (b0.sub 14) (.cons (o_Word_eq b0) .nil) (.cons rfl .nil) (.cons (b0.opn 13) .nil) hr (pasX tk) (m_lenO (.cons (o_Word_len b0) .nil) hr (pasX tk) (b0.free 9) (a_cons (m_fld (b0.fld 5) (m_var 0)) a_nil)) (m_lenO (.cons (o_Word_len b0) .nil) hr (pasX tk) (b0.free 9) (a_cons (m_fld (b0.fld 5) (m_var 1)) a_nil)))))) (ss_one (s_raise (xb_InvalidWord b0) hr tk (m_var 1))) ss_nil)
  (ss_one (s_ret (PEF.sh (f_make (k_Word_init b0) hr (pasX tk) (a_cons (m_sub (m_fld (b0.fld 5) (m_var 0)) (m_fld (b0.fld 5) (m_var 1))) (a_cons (m_fld (b0.fld 5) (m_var 0)) (a_cons (m_lenO (.cons (o_Word_len b0) .nil) hr (pasX tk) (b0.free 9) (a_cons (m_fld (b0.fld 5) (m_var 0)) a_nil)) a_nil)))))))
theorem ok_Word_sub (b0 : Bas fx fn K mg) : ∃ fd, FnOk P w K mg base (L2.CX P w) 6 (He.ma K (He.ga K "Word") "__sub__") fd ["self", "other"] (spM K (gOf K cs) 2 F_Word_sub) ∧ FunD K "__sub__" "Word.__sub__" (defArgs st_Word_sub) (defBody st_Word_sub) (defScope st_Word_sub) (dx_Word_sub.dfl K) [] (He.ma K (He.ga K "Word") "__sub__") fd := by
  obtain ⟨fd, F⟩ := b0.c.def_ 21 (d := dx_Word_sub) rfl
  exact ⟨fd, df_X F sc_Word_sub fun cdv A outer s H E hr => w_Word_sub b0 cdv A outer s H E hr, F⟩
theorem o_Word_sub (b0 : Bas fx fn K mg) : Opr P w K mg base (gOf K cs) 0 "__sub__" 2 F_Word_sub 6 := by
  obtain ⟨fd, ok, F⟩ := ok_Word_sub (P := P) (w := w) (base := base) b0
  exact mkOpr ok (b0.opr 51) (F.bindsN (ps := ["self", "other"]) fun _ _ _ _ _ _ us hl => match us, hl with | [_, _], _ => rfl) fnM_ar
theorem w_Word_neg (b0 : Bas fx fn K mg) {f : Addr} (cdv : Value) (A : Around) (outer : List Env) (s : Shared) (H : Hp) (E : XK) (hr : Room 5 (A.deeper (envOfC "Word.__neg__" (defScope st_Word_neg) s.heap.objs.size f cdv))) : PSsM  (cxOf (L2.CX P w) P w K mg base ["self"] "Word.__neg__" (defScope st_Word_neg) f cdv A outer s H E) (gOf K cs) (WX_of E) (defBody st_Word_neg) m_Word_neg :=
  have nd := sc_Word_neg.nd
  have tk : Takes (cxOf (L2.CX P w) P w K mg base ["self"] "Word.__neg__" (defScope st_Word_neg) f cdv A outer s H E) (WX_of E) := takes_of rfl rfl rfl rfl
  ss_one (s_ret (PEF.sh (f_make (k_Word_init b0) hr (pasX tk) (a_cons (m_neg (m_fld (b0.fld 5) (m_var 0))) (a_cons (m_fld (b0.fld 5) (m_var 0)) (a_cons (m_lenO (.cons (o_Word_len b0) .nil) hr (pasX tk) (b0.free 9) (a_cons (m_fld (b0.fld 5) (m_var 0)) a_nil)) a_nil))))))
theorem ok_Word_neg (b0 : Bas fx fn K mg) : ∃ fd, FnOk P w K mg base (L2.CX P w) 6 (He.ma K (He.ga K "Word") "__neg__") fd ["self"] (spM K (gOf K cs) 1 F_Word_neg) ∧ FunD K "__neg__" "Word.__neg__" (defArgs st_Word_neg) (defBody st_Word_neg) (defScope st_Word_neg) (dx_Word_neg.dfl K) [] (He.ma K (He.ga K "Word") "__neg__") fd := by
  obtain ⟨fd, F⟩ := b0.c.def_ 22 (d := dx_Word_neg) rfl
  exact ⟨fd, df_X F sc_Word_neg fun cdv A outer s H E hr => w_Word_neg b0 cdv A outer s H E hr, F⟩
theorem o_Word_neg (b0 : Bas fx fn K mg) : Opr P w K mg base (gOf K cs) 0 "__neg__" 1 F_Word_neg 6 := by
  obtain ⟨fd, ok, F⟩ := ok_Word_neg (P := P) (w := w) (base := base) b0
  exact mkOpr ok (b0.opr 52) (F.bindsN (ps := ["self"]) fun _ _ _ _ _ _ us hl => match us, hl with | [_], _ => rfl) fnM_ar
theorem w_Word_invert (b0 : Bas fx fn K mg) {f : Addr} (cdv : Value) (A : Around) (outer : List Env) (s : Shared) (H : Hp) (E : XK) (hr : Room 6 (A.deeper (envOfC "Word.__invert__" (defScope st_Word_invert) s.heap.objs.size f cdv))) : PSsM  (cxOf (L2.CX P w) P w K mg base ["self"] "Word.__invert__" (defScope st_Word_invert) f cdv A outer s H E) (gOf K cs) (WX_of E) (defBody st_Word_invert) m_Word_invert :=
  have nd := sc_Word_invert.nd
  have tk : Takes (cxOf (L2.CX P w) P w K mg base ["self"] "Word.__invert__" (defScope st_Word_invert) f cdv A outer s H E) (WX_of E) := takes_of rfl rfl rfl rfl
  ss_one (s_ret (PEF.sh (f_make (k_Word_init b0) hr (pasX tk) (a_cons (m_subO (.cons (o_Word_sub b0) .nil) (.cons (b0.opb 15) .nil) hr (pasX tk) (m_negO (.cons (o_Word_neg b0) .nil) hr (pasX tk) m_int) (m_fld (b0.fld 5) (m_var 0))) (a_cons (m_fld (b0.fld 5) (m_var 0)) (a_cons (m_lenO (.cons (o_Word_len b0) .nil) hr (pasX tk) (b0.free 9) (a_cons (m_fld (b0.fld 5) (m_var 0)) a_nil)) a_nil))))))
theorem ok_Word_invert (b0 : Bas fx fn K mg) : ∃ fd, FnOk P w K mg base (L2.CX P w) 7 (He.ma K (He.ga K "Word") "__invert__") fd ["self"] (spM K (gOf K cs) 1 F_Word_invert) ∧ FunD K "__invert__" "Word.__invert__" (defArgs st_Word_invert) (defBody st_Word_invert) (defScope st_Word_invert) (dx_Word_invert.dfl K) [] (He.ma K (He.ga K "Word") "__invert__") fd := by
  obtain ⟨fd, F⟩ := b0.c.def_ 23 (d := dx_Word_invert) rfl
  exact ⟨fd, df_X F sc_Word_invert fun cdv A outer s H E hr => w_Word_invert b0 cdv A outer s H E hr, F⟩
theorem o_Word_invert (b0 : Bas fx fn K mg) : Opr P w K mg base (gOf K cs) 0 "__invert__" 1 F_Word_invert 7 := by
  obtain ⟨fd, ok, F⟩ := ok_Word_invert (P := P) (w := w) (base := base) b0
  exact mkOpr ok (b0.opr 53) (F.bindsN (ps := ["self"]) fun _ _ _ _ _ _ us hl => match us, hl with | [_], _ => rfl) fnM_ar
theorem w_Word_lshift (b0 : Bas fx fn K mg) {f : Addr} (cdv : Value) (A : Around) (outer : List Env) (s : Shared) (H : Hp) (E : XK) (hr : Room 5 (A.deeper (envOfC "Word.__lshift__" (defScope st_Word_lshift) s.heap.objs.size f cdv))) : PSsM  (cxOf (L2.CX P w) P w K mg base ["self", "other", "places"] "Word.__lshift__" (defScope st_Word_lshift) f cdv A outer s H E) (gOf K cs) (WX_of E) (defBody st_Word_lshift) m_Word_lshift :=
  have nd := sc_Word_lshift.nd
  have tk : Takes (cxOf (L2.CX P w) P w K mg base ["self", "other", "places"] "Word.__lshift__" (defScope st_Word_lshift) f cdv A outer s H E) (WX_of E) := takes_of rfl rfl rfl rfl
  ss_cons (s_set (i := 2) (m_cb (call_min2 rfl) rc_min2 (b0.free 16) rfl (a_cons (m_var 1) (a_cons (m_lenO (.cons (o_Word_len b0) .nil) hr (pasX tk) (b0.free 9) (a_cons (m_fld (b0.fld 5) (m_var 0)) a_nil)) a_nil))) nd)
  (ss_one (s_ret (PEF.sh (f_make (k_Word_init b0) hr (pasX tk) (a_cons (m_mul (m_fld (b0.fld 5) (m_var 0)) (m_call (d_power b0) hr (pasX tk) (a_cons (m_fld (b0.fld 5) (m_var 0)) (a_cons (m_var 2) a_nil)))) (a_cons (m_fld (b0.fld 5) (m_var 0)) (a_cons (m_lenO (.cons (o_Word_len b0) .nil) hr (pasX tk) (b0.free 9) (a_cons (m_fld (b0.fld 5) (m_var 0)) a_nil)) a_nil)))))))
theorem ok_Word_lshift (b0 : Bas fx fn K mg) : ∃ fd, FnOk P w K mg base (L2.CX P w) 6 (He.ma K (He.ga K "Word") "__lshift__") fd ["self", "other"] (spM K (gOf K cs) 2 F_Word_lshift) ∧ FunD K "__lshift__" "Word.__lshift__" (defArgs st_Word_lshift) (defBody st_Word_lshift) (defScope st_Word_lshift) (dx_Word_lshift.dfl K) [] (He.ma K (He.ga K "Word") "__lshift__") fd := by
  obtain ⟨fd, F⟩ := b0.c.def_ 24 (d := dx_Word_lshift) rfl
  exact ⟨fd, df_X F sc_Word_lshift fun cdv A outer s H E hr => w_Word_lshift b0 cdv A outer s H E hr, F⟩
theorem o_Word_lshift (b0 : Bas fx fn K mg) : Opr P w K mg base (gOf K cs) 0 "__lshift__" 2 F_Word_lshift 6 := by
  obtain ⟨fd, ok, F⟩ := ok_Word_lshift (P := P) (w := w) (base := base) b0
  exact mkOpr ok (b0.opr 54) (F.bindsN (ps := ["self", "other"]) fun _ _ _ _ _ _ us hl => match us, hl with | [_, _], _ => rfl) fnM_ar
theorem w_Word_rshift (b0 : Bas fx fn K mg) {f : Addr} (cdv : Value) (A : Around) (outer : List Env) (s : Shared) (H : Hp) (E : XK) (hr : Room 5 (A.deeper (envOfC "Word.__rshift__" (defScope st_Word_rshift) s.heap.objs.size f cdv))) : PSsM  (cxOf (L2.CX P w) P w K mg base ["self", "other", "places"] "Word.__rshift__" (defScope st_Word_rshift) f cdv A outer s H E) (gOf K cs) (WX_of E) (defBody st_Word_rshift) m_Word_rshift :=
  have nd := sc_Word_rshift.nd
  have tk : Takes (cxOf (L2.CX P w) P w K mg base ["self", "other", "places"] "Word.__rshift__" (defScope st_Word_rshift) f cdv A outer s H E) (WX_of E) := takes_of rfl rfl rfl rfl
  ss_cons (s_set (i := 2) (m_cb (call_min2 rfl) rc_min2 (b0.free 16) rfl (a_cons (m_var 1) (a_cons (m_lenO (.cons (o_Word_len b0) .nil) hr (pasX tk) (b0.free 9) (a_cons (m_fld (b0.fld 5) (m_var 0)) a_nil)) a_nil))) nd)
  (ss_one (s_ret (PEF.sh (f_make (k_Word_init b0) hr (pasX tk) (a_cons (m_div (m_fld (b0.fld 5) (m_var 0)) (m_call (d_power b0) hr (pasX tk) (a_cons (m_fld (b0.fld 5) (m_var 0)) (a_cons (m_var 2) a_nil)))) (a_cons (m_fld (b0.fld 5) (m_var 0)) (a_cons (m_lenO (.cons (o_Word_len b0) .nil) hr (pasX tk) (b0.free 9) (a_cons (m_fld (b0.fld 5) (m_var 0)) a_nil)) a_nil)))))))
theorem ok_Word_rshift (b0 : Bas fx fn K mg) : ∃ fd, FnOk P w K mg base (L2.CX P w) 6 (He.ma K (He.ga K "Word") "__rshift__") fd ["self", "other"] (spM K (gOf K cs) 2 F_Word_rshift) ∧ FunD K "__rshift__" "Word.__rshift__" (defArgs st_Word_rshift) (defBody st_Word_rshift) (defScope st_Word_rshift) (dx_Word_rshift.dfl K) [] (He.ma K (He.ga K "Word") "__rshift__") fd := by
  obtain ⟨fd, F⟩ := b0.c.def_ 25 (d := dx_Word_rshift) rfl
  exact ⟨fd, df_X F sc_Word_rshift fun cdv A outer s H E hr => w_Word_rshift b0 cdv A outer s H E hr, F⟩
theorem o_Word_rshift (b0 : Bas fx fn K mg) : Opr P w K mg base (gOf K cs) 0 "__rshift__" 2 F_Word_rshift 6 := by
  obtain ⟨fd, ok, F⟩ := ok_Word_rshift (P := P) (w := w) (base := base) b0
  exact mkOpr ok (b0.opr 55) (F.bindsN (ps := ["self", "other"]) fun _ _ _ _ _ _ us hl => match us, hl with | [_, _], _ => rfl) fnM_ar
theorem w_law_pool (b0 : Bas fx fn K mg) {f : Addr} (cdv : Value) (A : Around) (outer : List Env) (s : Shared) (H : Hp) (E : XK) (hr : Room 6 (A.deeper (envOfC "_law_pool" (defScope st_law_pool) s.heap.objs.size f cdv))) : PSsM  (cxOf (L2.CX P w) P w K mg base ["_law_script", "_law_k", "_law_cell", "_law_mixed"] "_law_pool" (defScope st_law_pool) f cdv A outer s H E).nox (gOf K cs) WF (defBody st_law_pool) m_law_pool :=
  have nd := sc_law_pool.nd
  ss_cons (s_set (i := 2) m_int nd)
  (ss_cons (s_if (t_lt (m_var 1) (m_lenO (.cons (o_Word_len b0) .nil) hr pas0 (b0.free 9) (a_cons (m_var 0) a_nil))) (ss_one (s_set (i := 2) (m_cb call_abs rc_abs (b0.free 18) rfl (a_cons (m_ixO (.cons (o_Word_getitem b0) .nil) hr pas0 (m_var 0) (m_var 1)) a_nil)) nd)) ss_nil)
  (ss_cons (s_set (i := 3) (m_mod (m_mul (m_addO (.cons (o_Word_add b0) .nil) (.cons (b0.opb 17) .nil) hr pas0 (m_addO (.cons (o_Word_add b0) .nil) (.cons (b0.opb 17) .nil) hr pas0 (m_addO (.cons (o_Word_add b0) .nil) (.cons (b0.opb 17) .nil) hr pas0 (m_mod (m_var 2) m_int) (m_mul (m_mul m_int (m_var 1)) (m_var 1))) (m_mul m_int (m_var 1))) m_int) m_int) m_int) nd)
  (ss_one (s_retF (f_lst (a_cons (m_mul (m_var 2) (m_ct call_int1 rc_int (b0.free 3) rfl (a_cons (m_ge (m_var 2) (m_pow m_int m_int)) a_nil))) (a_cons (m_mod (m_mul (m_var 3) (m_var 3)) m_int) a_nil)))))))
theorem ok_law_pool (b0 : Bas fx fn K mg) : ∃ fd, FnOk P w K mg base (L2.CX P w) 7 (He.ga K "_law_pool") fd ["_law_script", "_law_k"] (spM K (gOf K cs) 2 F_law_pool) ∧ FunD K "_law_pool" "_law_pool" (defArgs st_law_pool) (defBody st_law_pool) (defScope st_law_pool) (dx_law_pool.dfl K) [] (He.ga K "_law_pool") fd := by
  obtain ⟨fd, F⟩ := b0.c.def_ 26 (d := dx_law_pool) rfl
  exact ⟨fd, df_N F sc_law_pool fun cdv A outer s H E hr => w_law_pool b0 cdv A outer s H E hr, F⟩
theorem d_law_pool (b0 : Bas fx fn K mg) : Def0 P w K mg base (gOf K cs) "_law_pool" 2 F_law_pool 7 [] := by
  obtain ⟨fd, ok, F⟩ := ok_law_pool (P := P) (w := w) (base := base) b0
  exact mkDef0 ok (b0.glo 30) F.kp (F.bindsN (ps := ["_law_script", "_law_k"]) fun _ _ _ _ _ _ us hl => match us, hl with | [_, _], _ => rfl) fnM_ar
theorem w_law_take (b0 : Bas fx fn K mg) {f : Addr} (cdv : Value) (A : Around) (outer : List Env) (s : Shared) (H : Hp) (E : XK) (hr : Room 6 (A.deeper (envOfC "_law_take" (defScope st_law_take) s.heap.objs.size f cdv))) : PSsM  (cxOf (L2.CX P w) P w K mg base ["_law_pool_here", "_law_many", "_law_found"] "_law_take" (defScope st_law_take) f cdv A outer s H E).nox (gOf K cs) WF (defBody st_law_take) m_law_take :=
  have nd := sc_law_take.nd
  ss_cons (s_if (t_gt (m_ixS 0 m_int) m_int) (ss_cons (s_set (i := 2) (m_mod (m_ixS 0 m_int) (m_var 1)) nd)
  (ss_cons (s_put 0 (m_div (m_ixS 0 m_int) (m_var 1)) m_int)
  (ss_one (s_ret (m_var 2))))) ss_nil)
  (ss_cons (s_put 0 (m_mod (m_addO (.cons (o_Word_add b0) .nil) (.cons (b0.opb 17) .nil) hr pas0 (m_mul (m_ixS 0 m_int) m_int) m_int) m_int) m_int)
  (ss_one (s_ret (m_mod (m_div (m_mod (m_mul (m_ixS 0 m_int) (m_ixS 0 m_int)) m_int) m_int) (m_var 1)))))
theorem ok_law_take (b0 : Bas fx fn K mg) : ∃ fd, FnOk P w K mg base (L2.CX P w) 7 (He.ga K "_law_take") fd ["_law_pool_here", "_law_many"] (spM K (gOf K cs) 2 F_law_take) ∧ FunD K "_law_take" "_law_take" (defArgs st_law_take) (defBody st_law_take) (defScope st_law_take) (dx_law_take.dfl K) [] (He.ga K "_law_take") fd := by
  obtain ⟨fd, F⟩ := b0.c.def_ 27 (d := dx_law_take) rfl
  exact ⟨fd, df_N F sc_law_take fun cdv A outer s H E hr => w_law_take b0 cdv A outer s H E hr, F⟩
theorem d_law_take (b0 : Bas fx fn K mg) : Def0 P w K mg base (gOf K cs) "_law_take" 2 F_law_take 7 [] := by
  obtain ⟨fd, ok, F⟩ := ok_law_take (P := P) (w := w) (base := base) b0
  exact mkDef0 ok (b0.glo 31) F.kp (F.bindsN (ps := ["_law_pool_here", "_law_many"]) fun _ _ _ _ _ _ us hl => match us, hl with | [_, _], _ => rfl) fnM_ar
theorem w_law_caught (b0 : Bas fx fn K mg) {f : Addr} (cdv : Value) (A : Around) (outer : List Env) (s : Shared) (H : Hp) (E : XK) (hr : Room 6 (A.deeper (envOfC "_law_caught" (defScope st_law_caught) s.heap.objs.size f cdv))) (ng : NoG A) : PSsM  (cxOf (L2.CX P w) P w K mg base ["_law_way", "_law_one", "_law_two", "_law_three", "e"] "_law_caught" (defScope st_law_caught) f cdv A outer s H E).nox (gOf K cs) WF (defBody st_law_caught) m_law_caught :=
  have nd := sc_law_caught.nd
  ss_cons (s_tryL tk0 nd rfl rfl (fun W pn xe tk => ss_one (s_if (t_eq hr (m_var 0) m_int) (ss_one (s_expr (PEF.sh (f_makeS (k_Word_init b0) hr tk (a_cons (m_var 1) (a_cons (m_var 2) (a_cons (m_var 3) a_nil))))))) (ss_one (s_if (t_eq hr (m_var 0) m_int) (ss_one (s_expr (m_cmeS (c_Word_of b0) hr tk (a_cons (m_var 1) (a_cons (m_var 2) a_nil))))) (ss_one (s_if (t_eq hr (m_var 0) m_int) (ss_one (s_ret (m_lst (a_cons m_str (a_cons (m_ixSX (.cons (o_Word_getitem b0) .nil) hr tk (m_var 1) (m_var 2)) a_nil))))) (ss_one (s_if (t_eq hr (m_var 0) m_int) (ss_one (s_ret (m_lst (a_cons m_str (a_cons (m_prp (.cons (p_Word_number b0) .nil) (m_addS (.cons (o_Word_add b0) .nil) (.cons (b0.opb 17) .nil) hr tk (m_var 1) (m_var 2)) hr) a_nil))))) (ss_one (s_ret (m_lst (a_cons m_str (a_cons (m_prp (.cons (p_Word_number b0) .nil) (m_subS (.cons (o_Word_sub b0) .nil) (.cons (b0.opb 15) .nil) hr tk (m_var 1) (m_var 2)) hr) a_nil))))))))))))) (.cons (xb_InvalidNumber b0) (ns_ret (n_lst (na_cons (n_of (fun a oe pn => m_str)) (na_cons (n_repr (by exact ng) hr (b0.free 20) rfl (n_val (xb_InvalidNumber b0) rfl (by first | exact Or.inl rfl | exact Or.inr (Or.inl rfl) | exact Or.inr (Or.inr rfl)) (by decide) (by decide) rfl) rfl rfl) (na_cons (n_isi (xb_InvalidNumber b0) (fun C fI dd a oe pn T hz hf => pe_is1 T hz hf rfl (by first | exact Or.inl rfl | exact Or.inr (Or.inl rfl) | exact Or.inr (Or.inr rfl)) (by decide) (by decide) (b0.free 2) rfl (b0.glo 19) rfl (by decide) rfl rfl rfl)) na_nil))))) ⟨b0.exn 21, trivial⟩ rfl rfl rfl (by decide) (.cons (xb_InvalidWord b0) (ns_ret (n_lst (na_cons (n_of (fun a oe pn => m_str)) (na_cons (n_if (ts_eq hr (fun a oe pn => m_var 0) (fun a oe pn => m_int)) (n_repr (by exact ng) hr (b0.free 20) rfl (n_val (xb_InvalidWord b0) rfl (by first | exact Or.inl rfl | exact Or.inr (Or.inl rfl) | exact Or.inr (Or.inr rfl)) (by decide) (by decide) rfl) rfl rfl) (n_eqO (b0.sub 14) rfl (hc_Word_eq b0) hr (by decide) (n_val (xb_InvalidWord b0) rfl (by first | exact Or.inl rfl | exact Or.inr (Or.inl rfl) | exact Or.inr (Or.inr rfl)) (by decide) (by decide) rfl) (n_of (fun a oe pn => m_var 2)))) (na_cons (n_isi (xb_InvalidWord b0) (fun C fI dd a oe pn T hz hf => pe_is1 T hz hf rfl (by first | exact Or.inl rfl | exact Or.inr (Or.inl rfl) | exact Or.inr (Or.inr rfl)) (by decide) (by decide) (b0.free 2) rfl (b0.glo 19) rfl (by decide) rfl rfl rfl)) na_nil))))) trivial rfl rfl rfl (by decide) .nil)))
  (ss_one (s_ret (m_lst (a_cons m_str a_nil))))
theorem ok_law_caught (b0 : Bas fx fn K mg) : ∃ fd, FnG P w K mg base (L2.CX P w) 7 (He.ga K "_law_caught") fd ["_law_way", "_law_one", "_law_two", "_law_three"] (spM K (gOf K cs) 4 F_law_caught) ∧ FunD K "_law_caught" "_law_caught" (defArgs st_law_caught) (defBody st_law_caught) (defScope st_law_caught) (dx_law_caught.dfl K) [] (He.ga K "_law_caught") fd := by
  obtain ⟨fd, F⟩ := b0.c.def_ 28 (d := dx_law_caught) rfl
  exact ⟨fd, df_NG F sc_law_caught fun cdv A outer s H E ng hr => w_law_caught b0 cdv A outer s H E hr ng, F⟩
theorem d_law_caught (b0 : Bas fx fn K mg) : DefG P w K mg base (gOf K cs) "_law_caught" 4 F_law_caught 7 [] := by
  obtain ⟨fd, ok, F⟩ := ok_law_caught (P := P) (w := w) (base := base) b0
  exact mkDefG ok (b0.glo 32) F.kp (F.bindsN (ps := ["_law_way", "_law_one", "_law_two", "_law_three"]) fun _ _ _ _ _ _ us hl => match us, hl with | [_, _, _, _], _ => rfl) fnM_ar
theorem w_law (b0 : Bas fx fn K mg) {f : Addr} (cdv : Value) (A : Around) (outer : List Env) (s : Shared) (H : Hp) (E : XK) (hr : Room 7 (A.deeper (envOfC "law" (defScope st_law) s.heap.objs.size f cdv))) (ng : NoG A) : PSsM  (cxOf (L2.CX P w) P w K mg base ["_law_script", "_law_k", "_law_pool_here", "_law_base", "_law_width", "_law_odd", "_law_word", "_law_other", "_law_way"] "law" (defScope st_law) f cdv A outer s H E).nox (gOf K cs) WF (defBody st_law) m_law :=
  have nd := sc_law.nd
  ss_cons (s_for po0 (i_rng1 (a_cons (m_cb (call_max2 rfl) rc_max2 (b0.free 22) rfl (a_cons m_int (a_cons (m_cb (call_min2 rfl) rc_min2 (b0.free 16) rfl (a_cons m_int (a_cons (m_lenO (.cons (o_Word_len b0) .nil) hr pas0 (b0.free 9) (a_cons (m_var 0) a_nil)) a_nil))) a_nil))) a_nil) (b0.free 4)) (g_name 1 nd) (ss_cons (s_setF (i := 2) (f_call (d_law_pool b0) hr pas0 (a_cons (m_var 0) (a_cons (m_var 1) a_nil))) nd)
  (ss_cons (s_par2 3 4 (a_cons (m_addO (.cons (o_Word_add b0) .nil) (.cons (b0.opb 17) .nil) hr pas0 m_int (m_callL 2 (d_law_take b0) hr pas0 (a_cons m_int a_nil))) (a_cons (m_addO (.cons (o_Word_add b0) .nil) (.cons (b0.opb 17) .nil) hr pas0 m_int (m_callL 2 (d_law_take b0) hr pas0 (a_cons m_int a_nil))) a_nil)) nd)
  (ss_cons (s_for po0 (i_seq (m_lst (a_cons m_non (a_cons m_bl (a_cons m_str (a_cons m_int (a_cons m_int (a_cons m_int (a_cons (m_negO (.cons (o_Word_neg b0) .nil) hr pas0 m_int) (a_cons (m_pow m_int m_int) (a_cons (m_lst (a_cons m_int a_nil)) (a_cons (m_tup (a_cons m_int a_nil)) a_nil)))))))))))) (g_name 5 nd) (ss_cons (s_if (t_neG (b0.sub 14) (.cons (o_Word_eq b0) .nil) (.cons rfl .nil) (.cons (b0.opn 13) .nil) hr pas0 (m_callG (d_law_caught b0) (by exact ng) hr pas0 (a_cons m_int (a_cons m_non (a_cons (m_var 5) (a_cons m_non a_nil))))) (m_lst (a_cons m_str (a_cons (m_cb (call_repr_0 (by exact ng) hr) rc_reprE (b0.free 20) rfl (a_cons (m_var 5) a_nil)) (a_cons m_bl a_nil))))) (ss_one (s_ret m_bl)) ss_nil)
  (ss_one (s_if (t_neG (b0.sub 14) (.cons (o_Word_eq b0) .nil) (.cons rfl .nil) (.cons (b0.opn 13) .nil) hr pas0 (m_callG (d_law_caught b0) (by exact ng) hr pas0 (a_cons m_int (a_cons m_non (a_cons (m_var 5) (a_cons m_non a_nil))))) (m_lst (a_cons m_str (a_cons (m_cb (call_repr_0 (by exact ng) hr) rc_reprE (b0.free 20) rfl (a_cons (m_var 5) a_nil)) (a_cons m_bl a_nil))))) (ss_one (s_ret m_bl)) ss_nil))))
  (ss_cons (s_for po0 (i_seq (m_lst (a_cons m_non (a_cons m_bl (a_cons m_str (a_cons m_int (a_cons m_int (a_cons (m_negO (.cons (o_Word_neg b0) .nil) hr pas0 m_int) (a_cons (m_pow m_int m_int) (a_cons (m_lst (a_cons m_int a_nil)) (a_cons m_dic0 a_nil))))))))))) (g_name 5 nd) (ss_one (s_if (t_neG (b0.sub 14) (.cons (o_Word_eq b0) .nil) (.cons rfl .nil) (.cons (b0.opn 13) .nil) hr pas0 (m_callG (d_law_caught b0) (by exact ng) hr pas0 (a_cons m_int (a_cons m_non (a_cons (m_var 3) (a_cons (m_var 5) a_nil))))) (m_lst (a_cons m_str (a_cons (m_cb (call_repr_0 (by exact ng) hr) rc_reprE (b0.free 20) rfl (a_cons (m_var 5) a_nil)) (a_cons m_bl a_nil))))) (ss_one (s_ret m_bl)) ss_nil)))
  (ss_cons (s_for po0 (i_seq (m_lst (a_cons m_non (a_cons m_bl (a_cons m_str (a_cons (m_lst (a_cons m_int a_nil)) (a_cons (m_tup (a_cons m_int a_nil)) (a_cons m_dic0 a_nil)))))))) (g_name 5 nd) (ss_one (s_if (t_neG (b0.sub 14) (.cons (o_Word_eq b0) .nil) (.cons rfl .nil) (.cons (b0.opn 13) .nil) hr pas0 (m_callG (d_law_caught b0) (by exact ng) hr pas0 (a_cons m_int (a_cons (m_var 5) (a_cons (m_var 3) (a_cons (m_var 4) a_nil))))) (m_lst (a_cons m_str (a_cons (m_cb (call_repr_0 (by exact ng) hr) rc_reprE (b0.free 20) rfl (a_cons (m_var 5) a_nil)) (a_cons m_bl a_nil))))) (ss_one (s_ret m_bl)) ss_nil)))
  (ss_cons (s_for po0 (i_seq (m_lst (a_cons m_non (a_cons m_int (a_cons m_str (a_cons (m_lst a_nil) (a_cons (m_tup a_nil) (a_cons (m_lst (a_cons (m_var 3) a_nil)) (a_cons (m_lst (a_cons m_int (a_cons (m_negO (.cons (o_Word_neg b0) .nil) hr pas0 m_int) a_nil))) (a_cons (m_lst (a_cons m_int (a_cons m_bl a_nil))) (a_cons (m_lst (a_cons m_non a_nil)) (a_cons (m_mul (m_lst (a_cons m_int a_nil)) m_int) (a_cons (m_disp (pd_ii pd_nil)) (a_cons (m_lst (a_cons (m_lst (a_cons m_int a_nil)) a_nil)) a_nil)))))))))))))) (g_name 5 nd) (ss_one (s_if (t_neG (b0.sub 14) (.cons (o_Word_eq b0) .nil) (.cons rfl .nil) (.cons (b0.opn 13) .nil) hr pas0 (m_callG (d_law_caught b0) (by exact ng) hr pas0 (a_cons m_int (a_cons (m_var 5) (a_cons (m_var 3) (a_cons m_non a_nil))))) (m_lst (a_cons m_str (a_cons (m_cb (call_repr_0 (by exact ng) hr) rc_reprE (b0.free 20) rfl (a_cons (m_var 5) a_nil)) (a_cons m_bl a_nil))))) (ss_one (s_ret m_bl)) ss_nil)))
  (ss_cons (s_set (i := 6) (PEF.sh (f_make (k_Word_init b0) hr pas0 (a_cons (m_callL 2 (d_law_take b0) hr pas0 (a_cons (m_pow m_int m_int) a_nil)) (a_cons (m_var 3) (a_cons (m_var 4) a_nil))))) nd)
  (ss_cons (s_for po0 (i_seq (m_lst (a_cons m_non (a_cons m_bl (a_cons m_str (a_cons (m_negO (.cons (o_Word_neg b0) .nil) hr pas0 m_int) (a_cons (m_var 4) (a_cons (m_pow m_int m_int) (a_cons (m_lst (a_cons m_int a_nil)) (a_cons (m_tup (a_cons m_int a_nil)) a_nil)))))))))) (g_name 5 nd) (ss_one (s_if (t_neG (b0.sub 14) (.cons (o_Word_eq b0) .nil) (.cons rfl .nil) (.cons (b0.opn 13) .nil) hr pas0 (m_callG (d_law_caught b0) (by exact ng) hr pas0 (a_cons m_int (a_cons (m_var 6) (a_cons (m_var 5) (a_cons m_non a_nil))))) (m_lst (a_cons m_str (a_cons (m_cb (call_repr_0 (by exact ng) hr) rc_reprE (b0.free 20) rfl (a_cons (m_var 5) a_nil)) (a_cons m_bl a_nil))))) (ss_one (s_ret m_bl)) ss_nil)))
  (ss_one (s_for po0 (i_seq (m_lst (a_cons (PEF.sh (f_make (k_Word_init b0) hr pas0 (a_cons m_int (a_cons (m_var 3) (a_cons (m_addO (.cons (o_Word_add b0) .nil) (.cons (b0.opb 17) .nil) hr pas0 (m_mod (m_var 4) m_int) m_int) a_nil))))) (a_cons (PEF.sh (f_make (k_Word_init b0) hr pas0 (a_cons m_int (a_cons (m_ifx (t_eqG (b0.sub 14) (.cons (o_Word_eq b0) .nil) (.cons rfl .nil) hr pas0 (m_var 3) m_int) m_int m_int) (a_cons (m_var 4) a_nil))))) a_nil)))) (g_name 7 nd) (ss_one (s_for po0 (i_seq (m_lst (a_cons m_int (a_cons m_int a_nil)))) (g_name 8 nd) (ss_cons (s_if (PWM.t (w_and (t_neG (b0.sub 14) (.cons (o_Word_eq b0) .nil) (.cons rfl .nil) (.cons (b0.opn 13) .nil) hr pas0 (m_prp (.cons (p_Word_base b0) .nil) (m_var 7) hr) (m_var 3)) (w_and1 (t_neG (b0.sub 14) (.cons (o_Word_eq b0) .nil) (.cons rfl .nil) (.cons (b0.opn 13) .nil) hr pas0 (m_callG (d_law_caught b0) (by exact ng) hr pas0 (a_cons (m_var 8) (a_cons (m_var 6) (a_cons (m_var 7) (a_cons m_non a_nil))))) (m_lst (a_cons m_str (a_cons m_bl (a_cons m_bl a_nil)))))))) (ss_one (s_ret m_bl)) ss_nil)
  (ss_one (s_if (PWM.t (w_and (t_neG (b0.sub 14) (.cons (o_Word_eq b0) .nil) (.cons rfl .nil) (.cons (b0.opn 13) .nil) hr pas0 (m_prp (.cons (p_Word_width b0) .nil) (m_var 7) hr) (m_var 4)) (w_and1 (t_neG (b0.sub 14) (.cons (o_Word_eq b0) .nil) (.cons rfl .nil) (.cons (b0.opn 13) .nil) hr pas0 (m_callG (d_law_caught b0) (by exact ng) hr pas0 (a_cons (m_var 8) (a_cons (m_var 6) (a_cons (m_var 7) (a_cons m_non a_nil))))) (m_lst (a_cons m_str (a_cons m_bl (a_cons m_bl a_nil)))))))) (ss_one (s_ret m_bl)) ss_nil))))))))))))))))
  (ss_cons (s_if (t_neG (b0.sub 14) (.cons (o_Word_eq b0) .nil) (.cons rfl .nil) (.cons (b0.opn 13) .nil) hr pas0 (PEF.sh (f_lc (own := [("_law_base", 3)]) (i_seq (m_lst (a_cons m_int (a_cons m_int a_nil)))) (blkOk_by (by rfl)) nd (fun _ => g_name 3 nd) (fun _ => ts_nil) (fun _ => m_callG (d_law_caught b0) (by exact ng) hr pas0 (a_cons m_int (a_cons m_int (a_cons (m_var 3) (a_cons m_int a_nil))))))) (m_mul (m_lst (a_cons (m_lst (a_cons m_str a_nil)) a_nil)) m_int)) (ss_one (s_ret m_bl)) ss_nil)
  (ss_one (s_ret (m_and (m_eqG (b0.sub 14) (.cons (o_Word_eq b0) .nil) (.cons rfl .nil) hr pas0 (m_callG (d_law_caught b0) (by exact ng) hr pas0 (a_cons m_int (a_cons (m_mul (m_pow m_int m_int) (m_pow m_int m_int)) (a_cons m_int (a_cons m_int a_nil))))) (m_lst (a_cons m_str a_nil))) (m_one (m_eqG (b0.sub 14) (.cons (o_Word_eq b0) .nil) (.cons rfl .nil) hr pas0 (m_callG (d_law_caught b0) (by exact ng) hr pas0 (a_cons m_int (a_cons (m_mul (m_lst (a_cons m_int a_nil)) m_int) (a_cons m_int (a_cons m_non a_nil))))) (m_lst (a_cons m_str a_nil))))))))
theorem ok_law (b0 : Bas fx fn K mg) : ∃ fd, FnG P w K mg base (L2.CX P w) 8 (He.ga K "law") fd ["_law_script"] (spM K (gOf K cs) 1 F_law) ∧ FunD K "law" "law" (defArgs st_law) (defBody st_law) (defScope st_law) (dx_law.dfl K) [] (He.ga K "law") fd := by
  obtain ⟨fd, F⟩ := b0.c.def_ 29 (d := dx_law) rfl
  exact ⟨fd, df_NG F sc_law fun cdv A outer s H E ng hr => w_law b0 cdv A outer s H E hr ng, F⟩
theorem d_law (b0 : Bas fx fn K mg) : DefG P w K mg base (gOf K cs) "law" 1 F_law 8 [] := by
  obtain ⟨fd, ok, F⟩ := ok_law (P := P) (w := w) (base := base) b0
  exact mkDefG ok (b0.glo 33) F.kp (F.bindsN (ps := ["_law_script"]) fun _ _ _ _ _ _ us hl => match us, hl with | [_], _ => rfl) fnM_ar
end
end LW

set_option Elab.async false
set_option linter.all false
set_option maxRecDepth 100000
set_option maxHeartbeats 0
namespace LW
open PySem PySem.Spec PyProof.Rows L2 DL
abbrev R : PySem.W.OpenRow := PySem.W.OpenLaw.row PySem.Challenge.rw_carryrounds_k02_errors_of_words
abbrev hk : PySem.W.Hook := hookF 5 fx fn
def ob (s : PySem.W.SharedT) : Got := see 5 fx fn (HandSHeadRun.getT s)
theorem ob_eq (s : PySem.W.SharedT) : ob s = hk.obs s.abs := see_eq (HandSHeadRun.getT_eq s)
theorem run (w : World) : HandSHeadRun.RunEq R (PySem.W.view R.prog [19]) hk ob 9000 ((["CarryError", "InvalidNumber", "InvalidWord", "MOST_BASE", "MOST_WIDTH", "is_integer", "is_between", "check_between", "check_integer", "power", "digits_of", "number_of", "Word", "_law_pool", "_law_take", "_law_caught"] : List PySem.Str)) w := by
  intro os
  kernel_rfl
end LW

set_option Elab.async false
set_option linter.all false
set_option maxRecDepth 100000
set_option maxHeartbeats 400000
namespace DL
open PySem L2 PyProof.Rows
/-! ### the law's def, where nothing catches -/
theorem fn0 {P : Program} {w : World} {K : PySem.W.Frag} {mg : Str → Option Value} {base : Heap} {k : Nat} {f : Addr} {fd : FuncData} {ps : List Str} {sp : Sp} (F : FnOk P w K mg base (L2.CX P w) k f fd ps sp) :
    FnOk P w K mg base CX0 k f fd ps (fun vs H Q _ => sp vs H Q E0) :=
  ⟨fun vs H Q E h => F.len vs H Q E0 h, fun A outer s H args us vs Q E hr he hb hv hs => codeAny_mono (F.run A outer s H args us vs Q E0 hr he hb hv hs) fun r s' h => by
    cases r with
    | ok fl => cases fl <;> exact h
    | error e =>
      obtain ⟨_, _, _, _, _, _, _, _, _, _, _, _, z⟩ := h
      exact z.elim⟩
/-- the law's promise at the script -/
theorem sp_end {K : PySem.W.Frag} {g : G} {F : Fm} {ns : List Int} {H : Hp} {a : Addr} (hF : ∃ e, F [.sh (.scr ns)] = .ok (.rt (.bl true)) e) (hS : SqL K H a (ns.map V.int)) : spM K g 1 F [.ref a] H (fun v _ => v = .bl true) E0 := by
  obtain ⟨e, hF⟩ := hF
  refine ⟨H, [.sh (.scr ns)], sr_sh (ds := [.scr ns]) (Ex.refl H) (.cons (.scr hS) .nil), rfl, ?_⟩
  rw [hF]
  intro σ' Hf' H' st v r
  cases r
  rfl
end DL

set_option Elab.async false
set_option linter.all false
set_option maxRecDepth 100000
set_option maxHeartbeats 400000
namespace DL
open PySem L2 PySem.Spec PyProof.Rows
/-! ### the law's def, where no repr is under way -/
theorem fn0G {P : Program} {w : World} {K : PySem.W.Frag} {mg : Str → Option Value} {base : Heap} {k : Nat} {f : Addr} {fd : FuncData} {ps : List Str} {sp : Sp} (F : FnG P w K mg base (L2.CX P w) k f fd ps sp) :
    FnG P w K mg base CX0 k f fd ps (fun vs H Q _ => sp vs H Q E0) :=
  ⟨fun vs H Q E h => F.len vs H Q E0 h, fun A outer s H args us vs Q E hg hr he hb hv hs => codeAny_mono (F.run A outer s H args us vs Q E0 hg hr he hb hv hs) fun r s' h => by
    cases r with
    | ok fl => cases fl <;> exact h
    | error e =>
      obtain ⟨_, _, _, _, _, _, _, _, _, _, _, _, z⟩ := h
      exact z.elim⟩
/-- what is tracked at the end's start: the script alone, unless it is one of the module's own things -/
def hOf (K : PySem.W.Frag) (a : Addr) (o : Obj) (xs : List V) : Hp := fun b => if b = a ∧ K.lookup a = none then some (.frz o (.lst xs)) else none
theorem hOf_some {K : PySem.W.Frag} {a b : Addr} {o : Obj} {xs : List V} {u : HO} (h : hOf K a o xs b = some u) : b = a ∧ K.lookup a = none ∧ u = .frz o (.lst xs) := by
  unfold hOf at h
  split at h
  · rename_i c
    exact ⟨c.1, c.2, (Option.some.inj h).symm⟩
  · cases h
theorem law_callG {P : Program} {w : World} {K : PySem.W.Frag} {mg mb : Str → Option Value} {k : Nat} {fa a : Addr} {fd : FuncData} {x : Str} {sp : Sp} {s₁ : Shared} {vs : List Value} {ns : List Int}
    (KX : K.In s₁.heap) (hns : s₁.heap.Ns mainGlobals mg) (hb : s₁.heap.Ns builtinsNs mb) (hbb : ∀ x : Str, x ≠ "__name__" → mb x = bootBuiltins x) (hlim : s₁.heap.NoLimit) (hg : s₁.gens = #[])
    (ha : s₁.heap.get? a = some { cls := .type "list", data := .seq vs.toArray }) (hi : IntsAre vs ns) (hl : ns.length ≤ sizeLine) (hr : Room k callerA)
    (F : ∀ base : Heap, K.In base → base.Ns mainGlobals mg → FnG P w K mg base CX0 k fa fd [x] sp) (hbind : ∀ (s : Shared) (u : Value), BindsTo s fd ⟨[u], []⟩ [(x, u)])
    (hsp : ∀ H : Hp, SqL K H a (ns.map V.int) → sp [.ref a] H (fun v _ => v = .bl true) fun _ _ _ => False) :
    codeAny (model P w) callerA (.call (.ref fa) ⟨[.ref a], []⟩) (fun r s' => r = .ok (.ret (.bool true)) ∧ OldK s₁.heap s'.heap ∧ s'.os = s₁.os ∧ AllBare s'.gens) s₁ := by
  have rv := vals_ints hi
  have lenV := hi.length
  generalize hO : ({ cls := .type "list", data := .seq vs.toArray } : Obj) = o at ha
  have hS : SqL K (hOf K a o (ns.map V.int)) a (ns.map V.int) := by
    cases hk : K.lookup a with
    | none => exact .inl (.inr ⟨o, if_pos ⟨rfl, hk⟩⟩)
    | some o' =>
      have e := KX a o' hk
      rw [ha] at e
      cases e
      subst hO
      exact .inr ⟨_, vs.toArray, _, hk, rfl, rfl, rfl, by rw [List.size_toArray, lenV]; exact hl, by simpa using rv⟩
  have hok : HOk P w (hOf K a o (ns.map V.int)) s₁.heap := fun b u z => by
    obtain ⟨rfl, _, rfl⟩ := hOf_some z
    subst hO
    exact ⟨ha, by rw [List.length_map]; exact hl, vs, _, rv, ha⟩
  generalize hH : hOf K a o (ns.map V.int) = H at hS hok
  have hA : ∀ b u, H b = some u → b = a ∧ K.lookup a = none ∧ u = .frz o (.lst (ns.map V.int)) := fun b u z => hOf_some (by rw [hH]; exact z)
  have hid : ∀ {b : Addr} {q : Obj}, s₁.heap.get? b = some q → (b = a → K.lookup a ≠ none ∨ q ≠ o) → (hidT s₁.heap H).get? b = some q := fun {b q} e n => hidT_get e (by
    cases z : H b with
    | none => rfl
    | some u =>
      obtain ⟨rfl, z2, _⟩ := hA b u z
      rcases n rfl with n | n
      · exact absurd z2 n
      · rw [ha] at e; exact absurd (Option.some.inj e).symm n)
  have nsK : ∀ {b : Addr} {m : Str → Option Value}, s₁.heap.Ns b m → (hidT s₁.heap H).Ns b m := fun {b m} ⟨q, es, ep, e, d, r⟩ => ⟨q, es, ep, hid e (fun _ => .inr fun z => by subst z; subst hO; cases d), d, r⟩
  have hKb : K.In (hidT s₁.heap H) := fun b q e => hid (KX b q e) fun z => .inl (by subst z; rw [e]; exact fun h => nomatch h)
  have hM : Mod K mg (hidT s₁.heap H) := ⟨hKb, nsK hns, ⟨mb, nsK hb, hbb⟩, let ⟨mc, h1, h2⟩ := hlim; ⟨mc, nsK h1, h2⟩⟩
  have e0 : Env0 P w K mg (hidT s₁.heap H) callerA [] s₁ H := ⟨rfl, hM, fun b q e => of_hidT e, Nat.le_of_eq (hidT_size _ _), trivial, (fun b hb => nomatch hb), hok, .of_eq hg⟩
  refine codeAny_mono ((F _ hKb (nsK hns)).run callerA [] s₁ H ⟨[.ref a], []⟩ [.ref a] [.ref a] _ (fun _ _ _ => False) rfl hr e0 (hbind s₁ (.ref a)) (.cons rfl .nil) (hsp H hS)) fun r s' h => ?_
  cases r with
  | error e => exact False.elim h
  | ok fl =>
    cases fl with
    | ret u =>
      obtain ⟨v, H', os, bare, un, hok', r', q⟩ := h
      subst q
      cases (show u = Value.bool true from r')
      refine ⟨rfl, OldK.of_keep fun b q e => ?_, os, bare⟩
      cases z : H b with
      | none => exact un.keep b q e z (fun z => nomatch z) (fun z => nomatch z)
      | some u =>
        obtain ⟨rfl, _, rfl⟩ := hA b u z
        have e2 := (hok' b _ (un.frzs b o _ z)).1
        rw [ha] at e
        cases e
        exact e2
    | next => exact False.elim h
    | brk => exact False.elim h
    | cont => exact False.elim h
theorem walk_ofG {l : PySem.W.OpenLaw} {n k : Nat} {q : Program} {loose : List Str} {XP : (Str → Option Value) → Heap → Prop} {YP : World → Heap → Prop} {d : DefRec} {x : Str}
    (hn : l.most = some n) (hn2 : n ≤ sizeLine) (hdf : d.params.defaults = []) (hr : Room k callerA)
    (F : ∀ (w : World) (mg : Str → Option Value) (fa : Addr) (h : Heap), YP w h → h.Ns mainGlobals mg → mg d.name = some (.ref fa) →
      ∃ (K : PySem.W.Frag) (fd : FuncData) (sp : Sp), K.In h ∧ (∀ (s : Shared) (u : Value), BindsTo s fd ⟨[u], []⟩ [(x, u)]) ∧
        (∀ (H : Hp) (a : Addr) (ns : List Int), SqL K H a (ns.map V.int) → sp [.ref a] H (fun v _ => v = .bl true) fun _ _ _ => False) ∧
        ∀ base : Heap, K.In base → base.Ns mainGlobals mg → FnG l.prog w K mg base CX0 k fa fd [x] sp) :
    PySem.W.WalkO q loose XP YP l.row.toRowW d [] (fun f vs => PySem.call f vs) := by
  refine Att.attach_call hn hdf fun w s₀ s₁ mg mb fa o pm cd doc a vs ns G Y ho hd hcd hmg hobj hints hlen hg => ?_
  obtain ⟨K, fd, sp, KX, hb, hsp, hF⟩ := F w mg fa _ Y G.T.g hmg
  exact law_callG KX G.T.g G.T.b G.T.builtins G.T.nolimit hg hobj hints (Nat.le_trans hlen hn2) hr hF hb fun H hS => hsp H a ns hS
end DL

set_option Elab.async false
set_option linter.all false
set_option maxRecDepth 100000
set_option maxHeartbeats 0
namespace LW
open PySem PySem.Spec PyProof.Rows L2 DL
theorem facts {P : Program} {w : World} {K : PySem.W.Frag} {h : Heap} {mg : Str → Option Value} {f : Addr} (X : K.In h) (G : h.Ns mainGlobals mg) (hfa : mg ("law" : Str) = some (.ref f)) (c : Says fx fn K) :
    ∃ fd : FuncData, (∀ (s : Shared) (v : Value), BindsTo s fd ⟨[v], []⟩ [("_law_script", v)]) ∧ ∀ base : Heap, K.In base → base.Ns mainGlobals mg → FnG P w K mg base CX0 8 f fd ["_law_script"] (fun vs H Q _ => spM K (gOf K cs) 1 F_law vs H Q DL.E0) := by
  have b0 : Bas fx fn K mg := ⟨⟨h, X, G⟩, c⟩
  have e := hfa.symm.trans (b0.glo (x := "law") 33)
  cases e
  obtain ⟨fd, F⟩ := b0.c.def_ 29 (d := dx_law) rfl
  have b := FunD.bindsA (ps := ["_law_script"]) F fun _ _ _ _ _ _ us hl => match us, hl with | [_], _ => rfl
  refine ⟨fd, fun s v => b s [v] rfl, fun base _ _ => ?_⟩
  obtain ⟨fd2, ok, F2⟩ := ok_law (P := P) (w := w) (base := base) b0
  have e2 : fd2 = fd := by
    obtain ⟨oc, od, dV, kV, doc, pm, an, cdv, ct, osl, rfl, lk, _⟩ := F.ex
    obtain ⟨oc2, od2, dV2, kV2, doc2, pm2, an2, cdv2, ct2, osl2, rfl, lk2, _⟩ := F2.ex
    have q := lk.symm.trans lk2
    simp only [Option.some.injEq, Obj.mk.injEq, Data.func.injEq] at q
    exact q.2.2.1.symm
  rw [← e2]
  exact fn0G ok
end LW
open PySem PySem.W PySem.Calls PyProof.Rows
theorem PySem.Challenge.cw_carryrounds_k02_errors_of_words_holds : PySem.Challenge.rw_carryrounds_k02_errors_of_words.Holds := by
  w_on; o_law
  refine HandSHeadRun.head_any (r := OpenLaw.row PySem.Challenge.rw_carryrounds_k02_errors_of_words) (q := view (OpenLaw.row PySem.Challenge.rw_carryrounds_k02_errors_of_words).prog [19]) (H := LW.hk) (ob := LW.ob) (M := 9000) (loose := ((["CarryError", "InvalidNumber", "InvalidWord", "MOST_BASE", "MOST_WIDTH", "is_integer", "is_between", "check_between", "check_integer", "power", "digits_of", "number_of", "Word", "_law_pool", "_law_take", "_law_caught"] : List PySem.Str))) (d := HandSHeadRun.topDef (OpenLaw.row PySem.Challenge.rw_carryrounds_k02_errors_of_words).prog 19) (kwd := []) LW.ob_eq
    (by kernel_rfl) (fun s => by kernel_rfl) LW.run (by kernel_rfl) (by kernel_rfl) (by kernel_rfl) (by rfl) (by first | assumption | decide +kernel) (by decide +kernel) ⟨rfl, rfl, rfl, rfl, rfl, by decide +kernel⟩ ?hw ?hc
  case hw => w_witness2
  case hc =>
    refine DL.walk_ofG (l := PySem.Challenge.rw_carryrounds_k02_errors_of_words) (n := 63) (k := 8) (x := "_law_script") rfl (by decide) (by kernel_rfl) ⟨rfl, by decide, by decide⟩ ?F
    intro w mg fa h Y G hmg0
    obtain ⟨K, KX, c⟩ := Y
    have hmg : mg ("law" : PySem.Str) = some (.ref fa) := by
      have e : (HandSHeadRun.topDef (OpenLaw.row PySem.Challenge.rw_carryrounds_k02_errors_of_words).prog 19).name = ("law" : PySem.Str) := by kernel_rfl
      rw [← e]
      exact hmg0
    obtain ⟨fd, hb, hF⟩ := LW.facts (P := (PySem.Challenge.rw_carryrounds_k02_errors_of_words).prog) (w := w) KX G hmg c
    exact ⟨K, fd, fun vs H Q _ => DL.spM K (DL.gOf K LW.cs) 1 LW.F_law vs H Q DL.E0, KX, hb, fun H a ns hS => DL.sp_end (LW.law_true ns) hS, hF⟩
