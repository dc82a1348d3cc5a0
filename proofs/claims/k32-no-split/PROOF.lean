import PyProof.Rows.All
import Wide.All
import OpenK.AllK
import Wide.FinOn
import HandS.ForMost
import HandS.Walk
import HandS.Exc
import HandS.ExcOwn
import HandS.TryOnly
import HandS.WordsExc
import HandS.CallSlots
import HandS.IsInst
import HandS.More
import HandS.Conv
import HandS.ExcIs
import HandS.Small
import HandS.RaiseMore
import PySem.Challenge.RW_bandscribe_k32_no_split
set_option Elab.async false
set_option linter.all false
set_option maxRecDepth 100000
set_option maxHeartbeats 4000000
namespace Ps
open PySem L2

/-- pure data -/
inductive D where
  | non | bl (b : Bool) | int (i : Int) | str (x : Str)
  | lst (xs : List D) | tup (xs : List D)
  | scr (ns : List Int)
  | dk (kvs : List (Key × D)) | dt (kvs : List (List Key × D))
  | obj (c : Nat) (fs : List (Str × D))
  /-- a caught error of an own class -/
  | exo (c : Nat) (fs : List (Str × D))

/-- the attributes of the program's classes -/
def clsF : Nat → List Str
  | 0 => ["signs", "barred", "known", "ways"]
  | 1 => ["homes", "weights", "lines"]
  | 2 => ["weights", "splits", "kept", "last"]
  | 3 => ["strip", "choices", "width", "made", "stands", "moves", "first", "opening"]
  | 4 => ["strip", "width", "tail", "head", "room", "opened", "stands", "moves"]
  | 5 => ["strip", "pen", "glass"]
  | _ => []
def Nms (c : Nat) (fvs : List (Str × V)) : Prop := ∀ n v, fvs.lookup n = some v → n ∈ clsF c

/-- an error's object at a: its class, its dict -/
def ExV (cls : Value) (d : Option Addr) (a : Addr) : HO := .ext fun h => ∃ (oe : Obj) (vs : Array Value), h.get? a = some oe ∧ Zc cls d oe ∧ oe.data = .fields vs
section
variable (K : PySem.W.Frag) (ct : Nat → Addr) (F : Hp)
mutual
def Rep : D → V → Prop
  | .non, v => v = .non
  | .bl b, v => v = .bl b
  | .int i, v => v = .int i
  | .str x, v => v = .str x
  | .lst ds, v => ∃ a vs, v = .ref a ∧ F a = some (.lst vs) ∧ Reps ds vs
  | .tup ds, v => ∃ a vs, v = .ref a ∧ F a = some (.tup vs) ∧ Reps ds vs
  | .scr ns, v => ∃ a, v = .ref a ∧ SqL K F a (ns.map V.int)
  | .dk kvs, v => ∃ a vs, v = .ref a ∧ Rd F a (.dK vs) ∧ RepK kvs vs
  | .dt kvs, v => ∃ a vs, v = .ref a ∧ Rd F a (.dT vs) ∧ RepT kvs vs
  | .obj c fs, v => ∃ a dx fvs, v = .ref a ∧ F a = some (.ins (ct c) dx fvs) ∧ Nms c fvs ∧ RepF fs fvs
  | .exo c fs, v => ∃ a dx, v = .ref a ∧ F a = some (ExV (.ref (ct c)) dx a) ∧ ((fs = [] ∧ dx = none) ∨ fs ≠ [] ∧ ∃ d fvs, dx = some d ∧ F d = some (.xd fvs) ∧ RepF fs fvs)
def Reps : List D → List V → Prop
  | [], vs => vs = []
  | d :: ds, vs => ∃ v r, vs = v :: r ∧ Rep d v ∧ Reps ds r
def RepK : List (Key × D) → List (Key × V) → Prop
  | [], vs => vs = []
  | (k, d) :: ds, vs => ∃ v r, vs = (k, v) :: r ∧ Rep d v ∧ RepK ds r
def RepT : List (List Key × D) → List (List Key × V) → Prop
  | [], vs => vs = []
  | (k, d) :: ds, vs => ∃ v r, vs = (k, v) :: r ∧ Rep d v ∧ RepT ds r
def RepF : List (Str × D) → List (Str × V) → Prop
  | [], _ => True
  | (f, d) :: fs, fvs => (∃ v, fvs.lookup f = some v ∧ Rep d v) ∧ RepF fs fvs
end
end

/-- what reading leans on is kept -/
structure Le (F F' : Hp) : Prop where
  rd : ∀ a u, Rd F a u → Rd F' a u
  l : ∀ a vs, F a = some (.lst vs) → F' a = some (.lst vs)
  t : ∀ a vs, F a = some (.tup vs) → F' a = some (.tup vs)
  i : ∀ a C dx fs, F a = some (.ins C dx fs) → F' a = some (.ins C dx fs)
  x : ∀ a c d, F a = some (ExV c d a) → F' a = some (ExV c d a)
  y : ∀ a fs, F a = some (.xd fs) → F' a = some (.xd fs)
abbrev Ex (F F' : Hp) : Prop := ∀ a o, F a = some o → F' a = some o
theorem Ex.refl (F : Hp) : Ex F F := fun _ _ h => h
theorem Ex.trans {F F1 F2 : Hp} (a : Ex F F1) (b : Ex F1 F2) : Ex F F2 := fun x o h => b x o (a x o h)
theorem Ex.new {H : Hp} {p : Addr} {o : HO} (h : H p = none) : Ex H (upd H p o) := fun a u e => by
  rw [upd_ne (ne_of_none e h)]; exact e
theorem Ex.rd {F F' : Hp} (e : Ex F F') {a : Addr} {u : HO} (h : Rd F a u) : Rd F' a u := by
  rcases h with h | ⟨o, h⟩
  · exact .inl (e a _ h)
  · exact .inr ⟨o, e a _ h⟩
theorem Ex.le {F F' : Hp} (e : Ex F F') : Le F F' := ⟨fun _ _ h => Ex.rd e h, fun a _ h => e a _ h, fun a _ h => e a _ h, fun a _ _ _ h => e a _ h, fun a _ _ h => e a _ h, fun a _ h => e a _ h⟩
theorem Ex.free {F F' : Hp} (e : Ex F F') {a : Addr} (h : F' a = none) : F a = none := by
  cases q : F a with
  | none => rfl
  | some o => rw [e a o q] at h; cases h

section
variable {K : PySem.W.Frag} {ct : Nat → Addr} {F F' : Hp}
mutual
theorem Rep.mono (e : Le F F') : ∀ (d : D) (v : V), Rep K ct F d v → Rep K ct F' d v
  | .non, _, h => h
  | .bl _, _, h => h
  | .int _, _, h => h
  | .str _, _, h => h
  | .lst ds, v, h => by
    obtain ⟨a, vs, e1, e2, e3⟩ := h
    exact ⟨a, vs, e1, e.l _ _ e2, Reps.mono e ds vs e3⟩
  | .tup ds, v, h => by
    obtain ⟨a, vs, e1, e2, e3⟩ := h
    exact ⟨a, vs, e1, e.t _ _ e2, Reps.mono e ds vs e3⟩
  | .scr ns, v, h => by
    obtain ⟨a, e1, e2⟩ := h
    refine ⟨a, e1, ?_⟩
    rcases e2 with h | h
    · exact .inl (e.rd _ _ h)
    · exact .inr h
  | .dk kvs, v, h => by
    obtain ⟨a, vs, e1, e2, e3⟩ := h
    exact ⟨a, vs, e1, e.rd _ _ e2, RepK.mono e kvs vs e3⟩
  | .dt kvs, v, h => by
    obtain ⟨a, vs, e1, e2, e3⟩ := h
    exact ⟨a, vs, e1, e.rd _ _ e2, RepT.mono e kvs vs e3⟩
  | .obj c fs, v, h => by
    obtain ⟨a, dx, fvs, e1, e2, en, e3⟩ := h
    exact ⟨a, dx, fvs, e1, e.i _ _ _ _ e2, en, RepF.mono e fs fvs e3⟩
  | .exo c fs, v, h => by
    obtain ⟨a, dx, e1, e2, e3⟩ := h
    refine ⟨a, dx, e1, e.x _ _ _ e2, ?_⟩
    rcases e3 with e3 | ⟨hne, d, fvs, h1, h2, h3⟩
    · exact .inl e3
    · exact .inr ⟨hne, d, fvs, h1, e.y _ _ h2, RepF.mono e fs fvs h3⟩
theorem Reps.mono (e : Le F F') : ∀ (ds : List D) (vs : List V), Reps K ct F ds vs → Reps K ct F' ds vs
  | [], _, h => h
  | d :: ds, vs, h => by
    obtain ⟨v, r, e1, e2, e3⟩ := h
    exact ⟨v, r, e1, Rep.mono e d v e2, Reps.mono e ds r e3⟩
theorem RepK.mono (e : Le F F') : ∀ (ds : List (Key × D)) (vs : List (Key × V)), RepK K ct F ds vs → RepK K ct F' ds vs
  | [], _, h => h
  | (k, d) :: ds, vs, h => by
    obtain ⟨v, r, e1, e2, e3⟩ := h
    exact ⟨v, r, e1, Rep.mono e d v e2, RepK.mono e ds r e3⟩
theorem RepT.mono (e : Le F F') : ∀ (ds : List (List Key × D)) (vs : List (List Key × V)), RepT K ct F ds vs → RepT K ct F' ds vs
  | [], _, h => h
  | (k, d) :: ds, vs, h => by
    obtain ⟨v, r, e1, e2, e3⟩ := h
    exact ⟨v, r, e1, Rep.mono e d v e2, RepT.mono e ds r e3⟩
theorem RepF.mono (e : Le F F') : ∀ (fs : List (Str × D)) (fvs : List (Str × V)), RepF K ct F fs fvs → RepF K ct F' fs fvs
  | [], _, _ => True.intro
  | (f, d) :: fs, fvs, h => by
    obtain ⟨⟨v, e1, e2⟩, e3⟩ := h
    exact ⟨⟨v, e1, Rep.mono e d v e2⟩, RepF.mono e fs fvs e3⟩
end
theorem Reps.length : ∀ {ds : List D} {vs : List V}, Reps K ct F ds vs → vs.length = ds.length
  | [], _, h => by rw [show _ = [] from h]; rfl
  | d :: ds, vs, h => by
    obtain ⟨v, r, e1, e2, e3⟩ := h
    rw [e1, List.length_cons, List.length_cons, Reps.length e3]
theorem Reps.get : ∀ {ds : List D} {vs : List V} {i : Nat} {d : D}, Reps K ct F ds vs → ds[i]? = some d → ∃ v, vs[i]? = some v ∧ Rep K ct F d v
  | [], _, _, _, _, e => by simp at e
  | d :: ds, vs, 0, d', h, e => by
    obtain ⟨v, r, e1, e2, e3⟩ := h
    simp at e; subst e e1
    exact ⟨v, rfl, e2⟩
  | d :: ds, vs, i + 1, d', h, e => by
    obtain ⟨v, r, e1, e2, e3⟩ := h
    subst e1
    obtain ⟨v', h1, h2⟩ := Reps.get e3 (i := i) (d := d') (by simpa using e)
    exact ⟨v', by simpa using h1, h2⟩
theorem Reps.append : ∀ {ds es : List D} {vs us : List V}, Reps K ct F ds vs → Reps K ct F es us → Reps K ct F (ds ++ es) (vs ++ us)
  | [], _, _, _, h, q => by rw [show _ = [] from h]; exact q
  | d :: ds, es, vs, us, h, q => by
    obtain ⟨v, r, e1, e2, e3⟩ := h
    subst e1
    exact ⟨v, r ++ us, rfl, e2, Reps.append e3 q⟩
theorem Reps.one {d : D} {v : V} (h : Rep K ct F d v) : Reps K ct F [d] [v] := ⟨v, [], rfl, h, rfl⟩
theorem Reps.take : ∀ {ds : List D} {vs : List V} (n : Nat), Reps K ct F ds vs → Reps K ct F (ds.take n) (vs.take n)
  | _, _, 0, _ => rfl
  | [], _, n + 1, h => by rw [show _ = [] from h]; rfl
  | d :: ds, vs, n + 1, h => by
    obtain ⟨v, r, e1, e2, e3⟩ := h
    subst e1
    exact ⟨v, r.take n, rfl, e2, Reps.take n e3⟩
theorem Reps.drop : ∀ {ds : List D} {vs : List V} (n : Nat), Reps K ct F ds vs → Reps K ct F (ds.drop n) (vs.drop n)
  | _, _, 0, h => h
  | [], _, n + 1, h => by rw [show _ = [] from h]; rfl
  | d :: ds, vs, n + 1, h => by
    obtain ⟨v, r, e1, e2, e3⟩ := h
    subst e1
    exact Reps.drop n e3
theorem Reps.set {d : D} {v : V} (q : Rep K ct F d v) : ∀ {ds : List D} {vs : List V} (i : Nat), Reps K ct F ds vs → Reps K ct F (ds.set i d) (vs.set i v)
  | [], _, _, h => by rw [show _ = [] from h]; rfl
  | d' :: ds, vs, 0, h => by
    obtain ⟨v', r, e1, e2, e3⟩ := h
    subst e1
    exact ⟨v, r, rfl, q, e3⟩
  | d' :: ds, vs, i + 1, h => by
    obtain ⟨v', r, e1, e2, e3⟩ := h
    subst e1
    exact ⟨v', r.set i v, rfl, e2, Reps.set q i e3⟩
theorem Reps.ints : ∀ {ns : List Int}, Reps K ct F (ns.map D.int) (ns.map V.int)
  | [] => rfl
  | n :: ns => ⟨.int n, ns.map V.int, rfl, rfl, Reps.ints⟩
end

/-! ### slots -/
def noScr : D → Bool
  | .scr _ => false
  | _ => true
inductive Sl where
  | no | sh (d : D) | ow (d : D) | bo (d : D)
  /-- an instance that is being made: its attributes, and those whose things stand in other slots -/
  | oo (c : Nat) (fs : List (Str × D)) (gs : List (Str × Nat))
  /-- a thing of such an instance -/
  | gh (d : D)
def isOw : Sl → Bool
  | .ow _ => true
  | .gh _ => true
  | .oo _ _ _ => true
  | _ => false
abbrev En := List Sl

/-- the top cell at H, what is below in F -/
def RepB (K : PySem.W.Frag) (ct : Nat → Addr) (F H : Hp) : D → V → Prop
  | .lst ds, v => ∃ a vs, v = .ref a ∧ H a = some (.lst vs) ∧ Reps K ct F ds vs
  | .dk kvs, v => ∃ a vs, v = .ref a ∧ Rd H a (.dK vs) ∧ RepK K ct F kvs vs
  | .dt kvs, v => ∃ a vs, v = .ref a ∧ Rd H a (.dT vs) ∧ RepT K ct F kvs vs
  | .obj c fs, v => ∃ a dx fvs, v = .ref a ∧ H a = some (.ins (ct c) dx fvs) ∧ Nms c fvs ∧ RepF K ct F fs fvs
  | d, v => Rep K ct F d v
theorem Rep.b {K : PySem.W.Frag} {ct : Nat → Addr} {F H : Hp} (e : Ex F H) : ∀ {d : D} {v : V}, Rep K ct F d v → RepB K ct F H d v
  | .lst ds, v, h => by
    obtain ⟨a, vs, e1, e2, e3⟩ := h
    exact ⟨a, vs, e1, e _ _ e2, e3⟩
  | .dk ds, v, h => by
    obtain ⟨a, vs, e1, e2, e3⟩ := h
    exact ⟨a, vs, e1, Ex.rd e e2, e3⟩
  | .dt ds, v, h => by
    obtain ⟨a, vs, e1, e2, e3⟩ := h
    exact ⟨a, vs, e1, Ex.rd e e2, e3⟩
  | .obj c fs, v, h => by
    obtain ⟨a, dx, fvs, e1, e2, en, e3⟩ := h
    exact ⟨a, dx, fvs, e1, e _ _ e2, en, e3⟩
  | .non, _, h => h
  | .bl _, _, h => h
  | .int _, _, h => h
  | .str _, _, h => h
  | .tup _, _, h => h
  | .scr _, _, h => h
  | .exo _ _, _, h => h
/-- .. as read in the whole heap -/
theorem RepB.all {K : PySem.W.Frag} {ct : Nat → Addr} {F H : Hp} (e : Ex F H) : ∀ {d : D} {v : V}, RepB K ct F H d v → Rep K ct H d v
  | .lst ds, v, h => by
    obtain ⟨a, vs, e1, e2, e3⟩ := h
    exact ⟨a, vs, e1, e2, Reps.mono (Ex.le e) _ _ e3⟩
  | .dk ds, v, h => by
    obtain ⟨a, vs, e1, e2, e3⟩ := h
    exact ⟨a, vs, e1, e2, RepK.mono (Ex.le e) _ _ e3⟩
  | .dt ds, v, h => by
    obtain ⟨a, vs, e1, e2, e3⟩ := h
    exact ⟨a, vs, e1, e2, RepT.mono (Ex.le e) _ _ e3⟩
  | .obj c fs, v, h => by
    obtain ⟨a, dx, fvs, e1, e2, en, e3⟩ := h
    exact ⟨a, dx, fvs, e1, e2, en, RepF.mono (Ex.le e) _ _ e3⟩
  | .non, _, h => h
  | .bl _, _, h => h
  | .int _, _, h => h
  | .str _, _, h => h
  | .tup _, _, h => Rep.mono (Ex.le e) _ _ h
  | .scr _, _, h => Rep.mono (Ex.le e) _ _ h
  | .exo _ _, _, h => Rep.mono (Ex.le e) _ _ h
/-- owned: at a, not in F -/
def OwnAt (K : PySem.W.Frag) (ct : Nat → Addr) (F H : Hp) (a : Addr) : D → Prop
  | .lst ds => F a = none ∧ ∃ vs, H a = some (.lst vs) ∧ Reps K ct F ds vs
  | .dk kvs => F a = none ∧ ∃ vs, H a = some (.dK vs) ∧ RepK K ct F kvs vs
  | .dt kvs => F a = none ∧ ∃ vs, H a = some (.dT vs) ∧ RepT K ct F kvs vs
  | _ => False
theorem OwnAt.b {K : PySem.W.Frag} {ct : Nat → Addr} {F H : Hp} {a : Addr} : ∀ {d : D}, OwnAt K ct F H a d → RepB K ct F H d (.ref a)
  | .lst ds, h => by
    obtain ⟨_, vs, e2, e3⟩ := h
    exact ⟨a, vs, rfl, e2, e3⟩
  | .dk ds, h => by
    obtain ⟨_, vs, e2, e3⟩ := h
    exact ⟨a, vs, rfl, .inl e2, e3⟩
  | .dt ds, h => by
    obtain ⟨_, vs, e2, e3⟩ := h
    exact ⟨a, vs, rfl, .inl e2, e3⟩
  | .obj _ _, h => h.elim
  | .non, h => h.elim
  | .bl _, h => h.elim
  | .int _, h => h.elim
  | .str _, h => h.elim
  | .tup _, h => h.elim
  | .scr _, h => h.elim
  | .exo _ _, h => h.elim
theorem OwnAt.free {K : PySem.W.Frag} {ct : Nat → Addr} {F H : Hp} {a : Addr} : ∀ {d : D}, OwnAt K ct F H a d → F a = none
  | .lst ds, h => h.1
  | .dk ds, h => h.1
  | .dt ds, h => h.1
  | .obj _ _, h => h.elim
  | .non, h => h.elim
  | .bl _, h => h.elim
  | .int _, h => h.elim
  | .str _, h => h.elim
  | .tup _, h => h.elim
  | .scr _, h => h.elim
  | .exo _ _, h => h.elim
theorem OwnAt.there {K : PySem.W.Frag} {ct : Nat → Addr} {F H : Hp} {a : Addr} : ∀ {d : D}, OwnAt K ct F H a d → ∃ o, H a = some o
  | .lst ds, h => let ⟨_, _, e, _⟩ := h; ⟨_, e⟩
  | .dk ds, h => let ⟨_, _, e, _⟩ := h; ⟨_, e⟩
  | .dt ds, h => let ⟨_, _, e, _⟩ := h; ⟨_, e⟩
  | .obj _ _, h => h.elim
  | .non, h => h.elim
  | .bl _, h => h.elim
  | .int _, h => h.elim
  | .str _, h => h.elim
  | .tup _, h => h.elim
  | .scr _, h => h.elim
  | .exo _ _, h => h.elim
/-- its cell stands, F grows elsewhere -/
theorem OwnAt.mono {K : PySem.W.Frag} {ct : Nat → Addr} {F H F' H' : Hp} {a : Addr} (e : Ex F F') (hf : F' a = none) (hh : H' a = H a) : ∀ {d : D}, OwnAt K ct F H a d → OwnAt K ct F' H' a d
  | .lst ds, h => by
    obtain ⟨_, vs, e2, e3⟩ := h
    exact ⟨hf, vs, hh.trans e2, Reps.mono (Ex.le e) _ _ e3⟩
  | .dk ds, h => by
    obtain ⟨_, vs, e2, e3⟩ := h
    exact ⟨hf, vs, hh.trans e2, RepK.mono (Ex.le e) _ _ e3⟩
  | .dt ds, h => by
    obtain ⟨_, vs, e2, e3⟩ := h
    exact ⟨hf, vs, hh.trans e2, RepT.mono (Ex.le e) _ _ e3⟩
  | .obj _ _, h => h.elim
  | .non, h => h.elim
  | .bl _, h => h.elim
  | .int _, h => h.elim
  | .str _, h => h.elim
  | .tup _, h => h.elim
  | .scr _, h => h.elim
  | .exo _ _, h => h.elim
/-- owned things are let go into F -/
theorem OwnAt.freeze {K : PySem.W.Frag} {ct : Nat → Addr} {F H : Hp} {a : Addr} {o : HO} (ho : H a = some o) : ∀ {d : D}, OwnAt K ct F H a d → Rep K ct (upd F a o) d (.ref a)
  | .lst ds, h => by
    obtain ⟨e1, vs, e2, e3⟩ := h
    rw [ho] at e2; cases e2
    exact ⟨a, vs, rfl, upd_same, Reps.mono (Ex.le (Ex.new e1)) _ _ e3⟩
  | .dk ds, h => by
    obtain ⟨e1, vs, e2, e3⟩ := h
    rw [ho] at e2; cases e2
    exact ⟨a, vs, rfl, .inl upd_same, RepK.mono (Ex.le (Ex.new e1)) _ _ e3⟩
  | .dt ds, h => by
    obtain ⟨e1, vs, e2, e3⟩ := h
    rw [ho] at e2; cases e2
    exact ⟨a, vs, rfl, .inl upd_same, RepT.mono (Ex.le (Ex.new e1)) _ _ e3⟩
  | .obj _ _, h => h.elim
  | .non, h => h.elim
  | .bl _, h => h.elim
  | .int _, h => h.elim
  | .str _, h => h.elim
  | .tup _, h => h.elim
  | .scr _, h => h.elim
  | .exo _ _, h => h.elim

/-- slot i holds an owned thing at a -/
def Owns (env : En) (σ : L2.St) (a : Addr) : Prop := ∃ (i : Nat) (s : Sl), env[i]? = some s ∧ isOw s = true ∧ σ[i]? = some (some (V.ref a))
structure EnvOk (K : PySem.W.Frag) (ct : Nat → Addr) (F H : Hp) (env : En) (σ : L2.St) : Prop where
  ex : Ex F H
  len : env.length = σ.length
  sh : ∀ (i : Nat) (d : D), env[i]? = some (.sh d) → ∃ v, σ[i]? = some (some v) ∧ Rep K ct F d v
  ow : ∀ (i : Nat) (d : D), env[i]? = some (.ow d) → ∃ a, σ[i]? = some (some (.ref a)) ∧ OwnAt K ct F H a d
  bo : ∀ (i : Nat) (d : D), env[i]? = some (.bo d) → ∃ v, σ[i]? = some (some v) ∧ RepB K ct F H d v ∧ ∀ a, noScr d = true → v = .ref a → ¬ Owns env σ a
  oo : ∀ (i : Nat) (c : Nat) (fs : List (Str × D)) (gs : List (Str × Nat)), env[i]? = some (.oo c fs gs) → ∃ a dx fvs, σ[i]? = some (some (.ref a)) ∧ F a = none ∧ H a = some (.ins (ct c) dx fvs) ∧ Nms c fvs ∧ fvs.length ≤ fs.length + gs.length ∧ RepF K ct F fs fvs ∧
    ∀ n g, (n, g) ∈ gs → ∃ v d, fvs.lookup n = some v ∧ σ[g]? = some (some v) ∧ env[g]? = some (.gh d)
  gh : ∀ (i : Nat) (d : D), env[i]? = some (.gh d) → ∃ a, σ[i]? = some (some (.ref a)) ∧ OwnAt K ct F H a d
  ap : ∀ (i j : Nat) (s t : Sl) (a : Addr), env[i]? = some s → env[j]? = some t → isOw s = true → isOw t = true → σ[i]? = some (some (.ref a)) → σ[j]? = some (some (.ref a)) → i = j

/-- evaluation: things are added -/
structure Gr (F H F' H' : Hp) : Prop where
  f : Ex F F'
  h : Ex H H'
  e : Ex F' H'
  n : ∀ a o, F' a = some o → F a = some o ∨ H a = none
theorem Gr.refl {F H : Hp} (e : Ex F H) : Gr F H F H := ⟨Ex.refl _, Ex.refl _, e, fun _ _ h => .inl h⟩
theorem Gr.trans {F H F1 H1 F2 H2 : Hp} (a : Gr F H F1 H1) (b : Gr F1 H1 F2 H2) : Gr F H F2 H2 :=
  ⟨a.f.trans b.f, a.h.trans b.h, b.e, fun x o q => by
    rcases b.n x o q with q | q
    · exact a.n x o q
    · exact .inr (Ex.free a.h q)⟩
/-- a new object, shared at once -/
theorem Gr.new {F H : Hp} (e : Ex F H) {p : Addr} {o : HO} (hp : H p = none) : Gr F H (upd F p o) (upd H p o) :=
  ⟨Ex.new (Ex.free e hp), Ex.new hp, fun a u q => by
    by_cases ha : a = p
    · subst ha; rw [upd_same] at q ⊢; exact q
    · rw [upd_ne ha] at q ⊢; exact e a u q, fun a u q => by
    by_cases ha : a = p
    · subst ha; exact .inr hp
    · rw [upd_ne ha] at q; exact .inl q⟩
/-- a new object, not shared -/
theorem Gr.own {F H : Hp} (e : Ex F H) {p : Addr} {o : HO} (hp : H p = none) : Gr F H F (upd H p o) :=
  ⟨Ex.refl _, Ex.new hp, e.trans (Ex.new hp), fun _ _ q => .inl q⟩
theorem Gr.share {F H F' H' : Hp} (g : Gr F H F' H') (e0 : Ex F H) {p : Addr} {o : HO} (hp : H p = none) (ho : H' p = some o) : Gr F H (upd F' p o) H' :=
  ⟨fun a u q => by
    by_cases ha : a = p
    · subst ha
      rw [Ex.free e0 hp] at q; cases q
    · rw [upd_ne ha]; exact g.f a u q, g.h, fun a u q => by
    by_cases ha : a = p
    · subst ha; rw [upd_same] at q; cases q; exact ho
    · rw [upd_ne ha] at q; exact g.e a u q, fun a u q => by
    by_cases ha : a = p
    · subst ha; exact .inr hp
    · rw [upd_ne ha] at q; exact g.n a u q⟩
theorem RepB.mono2 {K : PySem.W.Frag} {ct : Nat → Addr} {F H F' H' : Hp} (gf : Ex F F') (gh : Ex H H') : ∀ {d : D} {v : V}, RepB K ct F H d v → RepB K ct F' H' d v
  | .lst ds, v, h => by
    obtain ⟨a, vs, e1, e2, e3⟩ := h
    exact ⟨a, vs, e1, gh _ _ e2, Reps.mono (Ex.le gf) _ _ e3⟩
  | .dk ds, v, h => by
    obtain ⟨a, vs, e1, e2, e3⟩ := h
    exact ⟨a, vs, e1, Ex.rd gh e2, RepK.mono (Ex.le gf) _ _ e3⟩
  | .dt ds, v, h => by
    obtain ⟨a, vs, e1, e2, e3⟩ := h
    exact ⟨a, vs, e1, Ex.rd gh e2, RepT.mono (Ex.le gf) _ _ e3⟩
  | .obj c fs, v, h => by
    obtain ⟨a, dx, fvs, e1, e2, en, e3⟩ := h
    exact ⟨a, dx, fvs, e1, gh _ _ e2, en, RepF.mono (Ex.le gf) _ _ e3⟩
  | .non, _, h => h
  | .bl _, _, h => h
  | .int _, _, h => h
  | .str _, _, h => h
  | .tup _, _, h => Rep.mono (Ex.le gf) _ _ h
  | .scr _, _, h => Rep.mono (Ex.le gf) _ _ h
  | .exo _ _, _, h => Rep.mono (Ex.le gf) _ _ h
theorem RepB.gr {K : PySem.W.Frag} {ct : Nat → Addr} {F H F' H' : Hp} (g : Gr F H F' H') {d : D} {v : V} (h : RepB K ct F H d v) : RepB K ct F' H' d v := RepB.mono2 g.f g.h h
theorem Gr.none {F H F' H' : Hp} (g : Gr F H F' H') {a : Addr} {o : HO} (h1 : F a = none) (h2 : H a = some o) : F' a = none := by
  cases q : F' a with
  | none => rfl
  | some u =>
    rcases g.n a u q with z | z
    · rw [h1] at z; cases z
    · rw [h2] at z; cases z
theorem EnvOk.gr {K : PySem.W.Frag} {ct : Nat → Addr} {F H F' H' : Hp} {env : En} {σ : L2.St} (E : EnvOk K ct F H env σ) (g : Gr F H F' H') : EnvOk K ct F' H' env σ where
  ex := g.e
  len := E.len
  sh := fun i d h => let ⟨v, e1, e2⟩ := E.sh i d h; ⟨v, e1, Rep.mono (Ex.le g.f) _ _ e2⟩
  ow := fun i d h => by
    obtain ⟨a, e1, e2⟩ := E.ow i d h
    obtain ⟨o, ho⟩ := e2.there
    exact ⟨a, e1, e2.mono g.f (g.none e2.free ho) ((g.h a o ho).trans ho.symm)⟩
  bo := fun i d h => by
    obtain ⟨v, e1, e2, e3⟩ := E.bo i d h
    exact ⟨v, e1, RepB.gr g e2, e3⟩
  oo := fun i c fs gs h => by
    obtain ⟨a, dx, fvs, e1, e2, e3, e4, e5, e6, e7⟩ := E.oo i c fs gs h
    exact ⟨a, dx, fvs, e1, g.none e2 e3, g.h _ _ e3, e4, e5, RepF.mono (Ex.le g.f) _ _ e6, e7⟩
  gh := fun i d h => by
    obtain ⟨a, e1, e2⟩ := E.gh i d h
    obtain ⟨o, ho⟩ := e2.there
    exact ⟨a, e1, e2.mono g.f (g.none e2.free ho) ((g.h a o ho).trans ho.symm)⟩
  ap := E.ap
end Ps

namespace Ps
open PySem L2

/-- what an expression comes to; class c's exception with fields; nothing told -/
inductive R where
  | ok (d : D) | er (c : Nat) (fs : List (Str × D)) | st
inductive RA where
  | ok (ds : List D) | er (c : Nat) (fs : List (Str × D)) | st
inductive O where
  | nx (e : En) | bk (e : En) | ct (e : En) | rt (d : D) | rn (d : D) | er (c : Nat) (fs : List (Str × D)) (e : En) | st
abbrev SE := En → R
abbrev SA := En → RA
abbrev SS := En → O

def ExcOk (K : PySem.W.Frag) (ct : Nat → Addr) (F : Hp) (dx : Option Addr) (fs : List (Str × D)) : Prop :=
  (fs = [] ∧ dx = none) ∨ fs ≠ [] ∧ ∃ d fvs, dx = some d ∧ F d = some (.xd fvs) ∧ RepF K ct F fs fvs
theorem ExcOk.mono {K : PySem.W.Frag} {ct : Nat → Addr} {F F' : Hp} {dx : Option Addr} {fs : List (Str × D)} (e : Ex F F') (h : ExcOk K ct F dx fs) : ExcOk K ct F' dx fs := by
  rcases h with h | ⟨hne, d, fvs, h1, h2, h3⟩
  · exact .inl h
  · exact .inr ⟨hne, d, fvs, h1, e _ _ h2, RepF.mono (Ex.le e) _ _ h3⟩

abbrev Md := Hp → Hp → Hp → D → V → Prop
section
variable (K : PySem.W.Frag) (ct : Nat → Addr) (W : WX)
def mR : Md := fun _ F' _ d v => Rep K ct F' d v
def mB : Md := fun _ F' H' d v => RepB K ct F' H' d v
def mN : Md := fun H F' H' d v => ∃ p, v = .ref p ∧ H p = none ∧ OwnAt K ct F' H' p d
def Fin (M : Md) (F H : Hp) (σ : L2.St) (r : R) (Q : VK) : Prop := match r with
  | .ok d => ∀ v F' H', Gr F H F' H' → M H F' H' d v → Q v H'
  | .er c fs => ∀ dx F' H', Gr F H F' H' → ExcOk K ct F' dx fs → W (.ref (ct c)) dx σ H'
  | .st => False
def tM (M : Md) (f : SE) : TE := fun σ H Q => ∃ env F, EnvOk K ct F H env σ ∧ Fin K ct W M F H σ (f env) Q
abbrev ER (f : SE) : TE := tM K ct W (mR K ct) f
abbrev EB (f : SE) : TE := tM K ct W (mB K ct) f
abbrev EN (f : SE) : TE := tM K ct W (mN K ct) f
/-- a test -/
def TT1 (f : SE) : TT := fun σ H Q => ∃ env F, EnvOk K ct F H env σ ∧ match f env with
  | .ok (.bl b) => ∀ F' H', Gr F H F' H' → Q b H'
  | .ok _ => False
  | .er c fs => ∀ dx F' H', Gr F H F' H' → ExcOk K ct F' dx fs → W (.ref (ct c)) dx σ H'
  | .st => False
def ArgsRep (F H : Hp) : List Bool → List D → List V → Prop
  | [], ds, vs => ds = [] ∧ vs = []
  | m :: ms, ds, vs => ∃ d ds' v vs', ds = d :: ds' ∧ vs = v :: vs' ∧ (if m then RepB K ct F H d v else Rep K ct F d v) ∧ ArgsRep F H ms ds' vs'
def tA (ms : List Bool) (f : SA) : TA := fun σ H Q => ∃ env F, EnvOk K ct F H env σ ∧ match f env with
  | .ok ds => ∀ vs F' H', Gr F H F' H' → ArgsRep K ct F' H' ms ds vs → Q vs H'
  | .er c fs => ∀ dx F' H', Gr F H F' H' → ExcOk K ct F' dx fs → W (.ref (ct c)) dx σ H'
  | .st => False
end

theorem _root_.L2.PE.imp {X : Cx} {e : Expr} {t t' : TE} (p : PE X e t) (h : ∀ σ H Q, t' σ H Q → t σ H Q) : PE X e t' := ⟨fun pins s σ H Q I q => p.run pins s σ H Q I (h σ H Q q)⟩
theorem _root_.L2.PT.imp {X : Cx} {e : Expr} {t t' : TT} (p : PT X e t) (h : ∀ σ H Q, t' σ H Q → t σ H Q) : PT X e t' := ⟨fun pins s σ H Q I q => p.run pins s σ H Q I (h σ H Q q)⟩
theorem _root_.L2.PW.imp {X : Cx} {e : Expr} {t t' : TT} (p : PW X e t) (h : ∀ σ H Q, t' σ H Q → t σ H Q) : PW X e t' := ⟨fun w pins s σ H Q I q => p.run w pins s σ H Q I (h σ H Q q)⟩
theorem _root_.L2.PA.imp {X : Cx} {e : List Expr} {t t' : TA} (p : PA X e t) (h : ∀ σ H Q, t' σ H Q → t σ H Q) : PA X e t' := ⟨fun pos pins s σ H Q I q => p.run pos pins s σ H Q I (h σ H Q q)⟩
theorem _root_.L2.PS.imp {X : Cx} {e : Stmt} {t t' : TS} (p : PS X e t) (h : ∀ D σ H, t' D σ H → t D σ H) : PS X e t' := ⟨fun pins s σ H D I q => p.run pins s σ H D I (h D σ H q)⟩
theorem _root_.L2.PSs.imp {X : Cx} {e : List Stmt} {t t' : TS} (p : PSs X e t) (h : ∀ D σ H, t' D σ H → t D σ H) : PSs X e t' := ⟨fun pins s σ H D I q => p.run pins s σ H D I (h D σ H q)⟩

section
variable {K : PySem.W.Frag} {ct : Nat → Addr} {W : WX} {M : Md} {F H F' H' : Hp} {σ : L2.St} {r : R} {Q : VK} {env : En}
/-- what follows, behind a growth -/
theorem fin_after (g : Gr F H F' H') (hM : ∀ F2 H2 d v, M H' F2 H2 d v → M H F2 H2 d v) (h : Fin K ct W M F H σ r Q) : Fin K ct W M F' H' σ r Q := by
  cases r with
  | ok d => exact fun v F2 H2 g2 m => h v F2 H2 (g.trans g2) (hM _ _ _ _ m)
  | er c fs => exact fun dx F2 H2 g2 x => h dx F2 H2 (g.trans g2) x
  | st => exact h
/-- one expression, then what is left -/
def bnd (r : R) (k : D → R) : R := match r with
  | .ok d => k d
  | .er c fs => .er c fs
  | .st => .st
def bndA (r : RA) (k : List D → R) : R := match r with
  | .ok d => k d
  | .er c fs => .er c fs
  | .st => .st
theorem fin_bind {M1 : Md} {f : SE} {k : D → R} (E : EnvOk K ct F H env σ) (h : Fin K ct W M F H σ (bnd (f env) k) Q) {t : TE} (ht : t = tM K ct W M1 f)
    {Q1 : VK} (hk : ∀ d v F1 H1, f env = .ok d → Gr F H F1 H1 → M1 H F1 H1 d v → EnvOk K ct F1 H1 env σ → Fin K ct W M F H σ (k d) Q → Q1 v H1) : t σ H Q1 := by
  subst ht
  refine ⟨env, F, E, ?_⟩
  cases e : f env with
  | ok d =>
    rw [e] at h
    exact fun v F1 H1 g m => hk d v F1 H1 e g m (E.gr g) h
  | er c fs =>
    rw [e] at h
    exact h
  | st =>
    rw [e] at h
    exact h
end

/-! ### expressions -/
section
variable {X : Cx} {ct : Nat → Addr} {W : WX} {a b e : Expr} {f g : SE} {pos : Pos}

def sLoc (i : Nat) : SE := fun env => match env[i]? with
  | some (.sh d) => .ok d
  | _ => .st
def sLocB (i : Nat) : SE := fun env => match env[i]? with
  | some (.sh d) => .ok d
  | some (.ow d) => .ok d
  | some (.bo d) => .ok d
  | some (.oo c fs _) => .ok (.obj c fs)
  | _ => .st
theorem e_loc (i : Nat) {x : Str} (hN : X.N[i]? = some x := by rfl) (hv : Vis X.env.scope x := by first | exact Or.inl rfl | exact Or.inr (Or.inl rfl) | exact Or.inr (Or.inr rfl)) (hd : (x == ("__debug__" : Str)) = false := by decide)
    (hcd : (x == ("__classdict__" : Str)) = false := by decide) : PE X (.Name x pos) (ER X.K ct W (sLoc i)) := by
  refine (pe_var hN hv hd hcd).imp fun σ H Q ⟨env, F, E, h⟩ => ?_
  unfold sLoc at h
  split at h
  · rename_i d q
    obtain ⟨v, e1, e2⟩ := E.sh i d q
    exact ⟨v, e1, h v F H (Gr.refl E.ex) e2⟩
  · exact h.elim
theorem e_locB (i : Nat) {x : Str} (hN : X.N[i]? = some x := by rfl) (hv : Vis X.env.scope x := by first | exact Or.inl rfl | exact Or.inr (Or.inl rfl) | exact Or.inr (Or.inr rfl)) (hd : (x == ("__debug__" : Str)) = false := by decide)
    (hcd : (x == ("__classdict__" : Str)) = false := by decide) : PE X (.Name x pos) (EB X.K ct W (sLocB i)) := by
  refine (pe_var hN hv hd hcd).imp fun σ H Q ⟨env, F, E, h⟩ => ?_
  unfold sLocB at h
  split at h
  · rename_i d q
    obtain ⟨v, e1, e2⟩ := E.sh i d q
    exact ⟨v, e1, h v F H (Gr.refl E.ex) (e2.b E.ex)⟩
  · rename_i d q
    obtain ⟨v, e1, e2⟩ := E.ow i d q
    exact ⟨_, e1, h _ F H (Gr.refl E.ex) e2.b⟩
  · rename_i d q
    obtain ⟨v, e1, e2, _⟩ := E.bo i d q
    exact ⟨v, e1, h v F H (Gr.refl E.ex) e2⟩
  · rename_i c fs gs q
    obtain ⟨a, dx, fvs, e1, e2, e3, e4, e5, e6, _⟩ := E.oo i c fs gs q
    exact ⟨_, e1, h _ F H (Gr.refl E.ex) ⟨a, dx, fvs, rfl, e3, e4, e6⟩⟩
  · exact h.elim
theorem e_b (h : PE X e (ER X.K ct W f)) : PE X e (EB X.K ct W f) := by
  refine PE.imp h fun σ H Q ⟨env, F, E, h⟩ => ⟨env, F, E, ?_⟩
  cases q : f env with
  | ok d =>
    rw [q] at h
    exact fun v F' H' g m => h v F' H' g (Rep.b g.e m)
  | er c fs => rw [q] at h; exact h
  | st => rw [q] at h; exact h
/-- a new thing is shared -/
theorem e_n (h : PE X e (EN X.K ct W f)) : PE X e (ER X.K ct W f) := by
  refine PE.imp h fun σ H Q ⟨env, F, E, h⟩ => ⟨env, F, E, ?_⟩
  cases q : f env with
  | ok d =>
    rw [q] at h
    refine fun v F' H' g ⟨p, e1, e2, e3⟩ => ?_
    obtain ⟨o, ho⟩ := e3.there
    subst e1
    exact h _ _ H' (g.share E.ex e2 ho) (e3.freeze ho)
  | er c fs => rw [q] at h; exact h
  | st => rw [q] at h; exact h
def sC (d : D) : SE := fun _ => .ok d
theorem e_int {i j} : PE X (.Constant (.int i) j pos) (ER X.K ct W (sC (.int i))) := pe_int.imp fun σ H Q ⟨env, F, E, h⟩ => h _ F H (Gr.refl E.ex) rfl
theorem e_bl {i j} : PE X (.Constant (.bool i) j pos) (ER X.K ct W (sC (.bl i))) := pe_bl.imp fun σ H Q ⟨env, F, E, h⟩ => h _ F H (Gr.refl E.ex) rfl
theorem e_non {j} : PE X (.Constant .none j pos) (ER X.K ct W (sC .non)) := pe_non.imp fun σ H Q ⟨env, F, E, h⟩ => h _ F H (Gr.refl E.ex) rfl
theorem e_str {x j} : PE X (.Constant (.str x) j pos) (ER X.K ct W (sC (.str x))) := pe_str.imp fun σ H Q ⟨env, F, E, h⟩ => h _ F H (Gr.refl E.ex) rfl
/-- a module's constant: a text, an int -/
def cV : D → Option V
  | .int i => some (.int i)
  | .str x => some (.str x)
  | .bl b => some (.bl b)
  | .non => some .non
  | _ => none
theorem e_glob {x : Str} {d : D} {v : V} {u : Value} (hg : Gl X x) (hm : X.mg x = some u) (r : RelV v u) (hd : cV d = some v) (hdb : (x == ("__debug__" : Str)) = false := by decide) : PE X (.Name x pos) (ER X.K ct W (sC d)) := by
  refine (pe_glob hg hm r hdb).imp fun σ H Q ⟨env, F, E, h⟩ => h _ F H (Gr.refl E.ex) ?_
  cases d <;> first | (cases hd; done) | (injection hd with hd; subst hd; rfl)

/-- two operands, by values -/
def Sp2 (K : PySem.W.Frag) (ct : Nat → Addr) (m1 m2 : Bool) (M : Md) (r : R2) (op : D → D → Option D) : Prop := ∀ F H x y d e z Q, Ex F H → (if m1 then RepB K ct F H d x else Rep K ct F d x) → (if m2 then RepB K ct F H e y else Rep K ct F e y) → op d e = some z →
  (∀ v F' H', Gr F H F' H' → M H F' H' z v → Q v H') → r x y H Q
def ofO : Option D → R
  | some d => .ok d
  | none => .st
def s2 (op : D → D → Option D) (f g : SE) : SE := fun env => bnd (f env) fun d => bnd (g env) fun e => ofO (op d e)
def mX (K : PySem.W.Frag) (ct : Nat → Addr) (m : Bool) : Md := if m then mB K ct else mR K ct
theorem mX_gr {K : PySem.W.Frag} {m : Bool} {H0 F H F' H' : Hp} {d : D} {v : V} (g : Gr F H F' H') (h : mX K ct m H0 F H d v) : if m then RepB K ct F' H' d v else Rep K ct F' d v := by
  cases m with
  | true => exact RepB.gr g h
  | false => exact Rep.mono (Ex.le g.f) _ _ h
theorem mX_if {K : PySem.W.Frag} {m : Bool} {H0 F H : Hp} {d : D} {v : V} (h : mX K ct m H0 F H d v) : if m then RepB K ct F H d v else Rep K ct F d v := by
  cases m with
  | true => exact h
  | false => exact h
/-- where what is new at the end is new at the start -/
def MdOk (M : Md) : Prop := ∀ (H H1 F2 H2 : Hp) d v, Ex H H1 → M H1 F2 H2 d v → M H F2 H2 d v
theorem mR_ok {K : PySem.W.Frag} : MdOk (mR K ct) := fun _ _ _ _ _ _ _ h => h
theorem mB_ok {K : PySem.W.Frag} : MdOk (mB K ct) := fun _ _ _ _ _ _ _ h => h
theorem mN_ok {K : PySem.W.Frag} : MdOk (mN K ct) := fun _ _ _ _ _ _ e ⟨p, h1, h2, h3⟩ => ⟨p, h1, Ex.free e h2, h3⟩
theorem t2 {K : PySem.W.Frag} {M : Md} (hM : MdOk M) {m1 m2 : Bool} {r : R2} {op : D → D → Option D} (hs : Sp2 K ct m1 m2 M r op) {σ : L2.St} {H : Hp} {Q : VK} (h : tM K ct W M (s2 op f g) σ H Q) :
    tOp r (tM K ct W (mX K ct m1) f) (tM K ct W (mX K ct m2) g) σ H Q := by
  obtain ⟨env, F, E, h⟩ := h
  refine fin_bind (Q1 := fun x H1 => tM K ct W (mX K ct m2) g σ H1 fun y H2 => r x y H2 Q) E h rfl fun d x F1 H1 e1 g1 r1 E1 h => ?_
  have h1 : Fin K ct W M F1 H1 σ (bnd (g env) fun e => ofO (op d e)) Q := fin_after g1 (fun _ _ _ _ m => hM _ _ _ _ _ _ g1.h m) h
  refine fin_bind E1 h1 rfl fun e y F2 H2 e2 g2 r2 E2 h => ?_
  cases q : op d e with
  | none => rw [q] at h; exact h.elim
  | some z =>
    rw [q] at h
    exact hs F2 H2 x y d e z Q E2.ex (mX_gr g2 r1) (mX_if r2) q fun v F' H' g3 m => h v F' H' (g2.trans g3) (hM _ _ _ _ _ _ g2.h m)
theorem e_op {op : Operator} {r : R2} {M : Md} {m1 m2 : Bool} {o2 : D → D → Option D} (ho : OpR X (binaryOp op) r) (hM : MdOk M) (hs : Sp2 X.K ct m1 m2 M r o2) (ha : PE X a (tM X.K ct W (mX X.K ct m1) f)) (hb : PE X b (tM X.K ct W (mX X.K ct m2) g)) :
    PE X (.BinOp a op b pos) (tM X.K ct W M (s2 o2 f g)) := (pe_op ho ha hb).imp fun _ _ _ h => t2 hM hs h
theorem e_cmp {op : CmpOp} {r : R2} {m1 m2 : Bool} {o2 : D → D → Option D} (ho : OpR X (compareOp op) r) (hs : Sp2 X.K ct m1 m2 (mR X.K ct) r o2) (ha : PE X a (tM X.K ct W (mX X.K ct m1) f)) (hb : PE X b (tM X.K ct W (mX X.K ct m2) g))
    (hm : behindInMarks op b = false := by first | exact nomark _ | rfl) : PE X (.Compare a [op] [b] pos) (ER X.K ct W (s2 o2 f g)) := (pe_cmpR ho ha hb hm).imp fun _ _ _ h => t2 mR_ok hs h
theorem tt_of {K : PySem.W.Frag} {t : TE} {f : SE} {σ : L2.St} {H : Hp} {Q : Bool → Hp → Prop} (ht : ∀ Q', tM K ct W (mR K ct) f σ H Q' → t σ H Q') (h : TT1 K ct W f σ H Q) : t σ H fun x H1 => ∃ c, x = .bl c ∧ Q c H1 := by
  obtain ⟨env, F, E, h⟩ := h
  refine ht _ ⟨env, F, E, ?_⟩
  split at h
  · rename_i b q
    rw [q]
    exact fun v F' H' g m => ⟨b, m, h F' H' g⟩
  · exact h.elim
  · rename_i c fs q
    rw [q]; exact h
  · exact h.elim
theorem t_cmp {op : CmpOp} {r : R2} {m1 m2 : Bool} {o2 : D → D → Option D} (ho : OpR X (compareOp op) r) (hs : Sp2 X.K ct m1 m2 (mR X.K ct) r o2) (ha : PE X a (tM X.K ct W (mX X.K ct m1) f)) (hb : PE X b (tM X.K ct W (mX X.K ct m2) g))
    (hm : behindInMarks op b = false := by first | exact nomark _ | rfl) : PT X (.Compare a [op] [b] pos) (TT1 X.K ct W (s2 o2 f g)) := (pt_cmpR ho ha hb hm).imp fun _ _ _ h => tt_of (fun _ q => t2 mR_ok hs q) h
theorem t_val (h : PE X e (ER X.K ct W f)) (he : ∀ whole, isTrue e X.env whole = (do let v ← whole; standAt e.pos; holding [v] (truthy v)) := by intro _; rfl) : PT X e (TT1 X.K ct W f) := (pt_val h he).imp fun _ _ _ h => tt_of (fun _ q => q) h
def sNot (f : SE) : SE := fun env => bnd (f env) fun d => match d with
  | .bl b => .ok (.bl (!b))
  | _ => .st
def sAnd (f g : SE) : SE := fun env => bnd (f env) fun d => match d with
  | .bl true => g env
  | .bl false => .ok (.bl false)
  | _ => .st
def sOr (f g : SE) : SE := fun env => bnd (f env) fun d => match d with
  | .bl true => .ok (.bl true)
  | .bl false => g env
  | _ => .st
def sIf (c f g : SE) : SE := fun env => bnd (c env) fun d => match d with
  | .bl true => f env
  | .bl false => g env
  | _ => .st
def FinT (K : PySem.W.Frag) (ct : Nat → Addr) (W : WX) (F H : Hp) (σ : L2.St) (r : R) (Q : Bool → Hp → Prop) : Prop := match r with
  | .ok (.bl b) => ∀ F' H', Gr F H F' H' → Q b H'
  | .ok _ => False
  | .er c fs => ∀ dx F' H', Gr F H F' H' → ExcOk K ct F' dx fs → W (.ref (ct c)) dx σ H'
  | .st => False
theorem TT1_eq {K : PySem.W.Frag} {f : SE} {σ : L2.St} {H : Hp} {Q : Bool → Hp → Prop} : TT1 K ct W f σ H Q = ∃ env F, EnvOk K ct F H env σ ∧ FinT K ct W F H σ (f env) Q := rfl
theorem finT_after {K : PySem.W.Frag} {F H F' H' : Hp} {σ : L2.St} {r : R} {Q : Bool → Hp → Prop} (g : Gr F H F' H') (h : FinT K ct W F H σ r Q) : FinT K ct W F' H' σ r Q := by
  cases r with
  | ok d => cases d <;> first | exact h.elim | exact fun F2 H2 g2 => h F2 H2 (g.trans g2)
  | er c fs => exact fun dx F2 H2 g2 x => h dx F2 H2 (g.trans g2) x
  | st => exact h
theorem tt_bind {K : PySem.W.Frag} {F H : Hp} {σ : L2.St} {env : En} {f : SE} {C : Prop} {Q1 : Bool → Hp → Prop} (E : EnvOk K ct F H env σ)
    (hb : ∀ b, f env = .ok (.bl b) → ∀ F1 H1, Gr F H F1 H1 → EnvOk K ct F1 H1 env σ → Q1 b H1)
    (he : ∀ c fs, f env = .er c fs → ∀ dx F' H', Gr F H F' H' → ExcOk K ct F' dx fs → W (.ref (ct c)) dx σ H')
    (hs : (∀ b, f env ≠ .ok (.bl b)) → (∀ c fs, f env ≠ .er c fs) → False) : TT1 K ct W f σ H Q1 := by
  refine ⟨env, F, E, ?_⟩
  cases e : f env with
  | ok d =>
    cases d with
    | bl b => exact fun F1 H1 g => hb b e F1 H1 g (E.gr g)
    | _ => exact hs (fun b q => by rw [e] at q; cases q) (fun c fs q => by rw [e] at q; cases q)
  | er c fs => exact he c fs e
  | st => exact hs (fun b q => by rw [e] at q; cases q) (fun c fs q => by rw [e] at q; cases q)
theorem t_not (h : PT X a (TT1 X.K ct W f)) : PT X (.UnaryOp .Not a pos) (TT1 X.K ct W (sNot f)) := by
  refine (pt_not h).imp fun σ H Q ⟨env, F, E, h⟩ => ?_
  refine tt_bind (C := True) E (fun b e F1 H1 g _ => ?_) (fun c fs e => ?_) (fun n1 n2 => ?_)
  · rw [show sNot f env = .ok (.bl (!b)) from by unfold sNot; rw [e]; rfl] at h
    exact h F1 H1 g
  · rw [show sNot f env = .er c fs from by unfold sNot; rw [e]; rfl] at h
    exact h
  · unfold sNot at h
    cases e : f env with
    | ok d => rw [e] at h; cases d <;> first | exact n1 _ e | exact h.elim
    | er c fs => exact n2 _ _ e
    | st => rw [e] at h; exact h.elim
theorem t_and1 (ha : PT X a (TT1 X.K ct W f)) : PW X (.BoolOp .And [a] pos) (TT1 X.K ct W f) := pw_and1 ha
theorem t_or1 (ha : PT X a (TT1 X.K ct W f)) : PW X (.BoolOp .Or [a] pos) (TT1 X.K ct W f) := pw_or1 ha
theorem t_and {rest : List Expr} (ha : PT X a (TT1 X.K ct W f)) (hb : PW X (.BoolOp .And (b :: rest) pos) (TT1 X.K ct W g)) : PW X (.BoolOp .And (a :: b :: rest) pos) (TT1 X.K ct W (sAnd f g)) := by
  refine (pw_and ha hb).imp fun σ H Q ⟨env, F, E, h⟩ => ?_
  refine tt_bind (C := True) E (fun b e F1 H1 g1 E1 => ?_) (fun c fs e => ?_) (fun n1 n2 => ?_)
  · have hh : FinT X.K ct W F H σ (sAnd f g env) Q := h
    unfold sAnd at hh
    rw [e] at hh
    cases b with
    | true =>
      show TT1 X.K ct W g σ H1 Q
      exact ⟨env, F1, E1, finT_after g1 hh⟩
    | false => exact hh F1 H1 g1
  · rw [show sAnd f g env = .er c fs from by unfold sAnd; rw [e]; rfl] at h
    exact h
  · unfold sAnd at h
    cases e : f env with
    | ok d => rw [e] at h; cases d <;> first | exact n1 _ e | exact h.elim
    | er c fs => exact n2 _ _ e
    | st => rw [e] at h; exact h.elim
theorem t_or {rest : List Expr} (ha : PT X a (TT1 X.K ct W f)) (hb : PW X (.BoolOp .Or (b :: rest) pos) (TT1 X.K ct W g)) : PW X (.BoolOp .Or (a :: b :: rest) pos) (TT1 X.K ct W (sOr f g)) := by
  refine (pw_or ha hb).imp fun σ H Q ⟨env, F, E, h⟩ => ?_
  refine tt_bind (C := True) E (fun b e F1 H1 g1 E1 => ?_) (fun c fs e => ?_) (fun n1 n2 => ?_)
  · have hh : FinT X.K ct W F H σ (sOr f g env) Q := h
    unfold sOr at hh
    rw [e] at hh
    cases b with
    | true => exact hh F1 H1 g1
    | false =>
      show TT1 X.K ct W g σ H1 Q
      exact ⟨env, F1, E1, finT_after g1 hh⟩
  · rw [show sOr f g env = .er c fs from by unfold sOr; rw [e]; rfl] at h
    exact h
  · unfold sOr at h
    cases e : f env with
    | ok d => rw [e] at h; cases d <;> first | exact n1 _ e | exact h.elim
    | er c fs => exact n2 _ _ e
    | st => rw [e] at h; exact h.elim
/-- the same as values -/
theorem e_one {op} (h : PE X a (ER X.K ct W f)) : PE X (.BoolOp op [a] pos) (ER X.K ct W f) := pe_one h
theorem e_not (h : PE X a (ER X.K ct W f)) : PE X (.UnaryOp .Not a pos) (ER X.K ct W (sNot f)) := by
  refine (pe_not h).imp fun σ H Q ⟨env, F, E, h⟩ => ?_
  refine fin_bind E h rfl fun d v F1 H1 e1 g1 r1 E1 h => ?_
  cases d <;> first | exact h.elim | skip
  exact ⟨_, r1, h _ F1 H1 g1 rfl⟩
theorem e_and {rest : List Expr} (ha : PE X a (ER X.K ct W f)) (hb : PE X (.BoolOp .And (b :: rest) pos) (ER X.K ct W g)) : PE X (.BoolOp .And (a :: b :: rest) pos) (ER X.K ct W (sAnd f g)) := by
  refine (pe_and ha hb).imp fun σ H Q ⟨env, F, E, h⟩ => ?_
  refine fin_bind E h rfl fun d v F1 H1 e1 g1 r1 E1 h => ?_
  cases d <;> first | exact h.elim | skip
  rename_i b
  refine ⟨_, r1, ?_⟩
  cases b with
  | true => exact ⟨env, F1, E1, fin_after g1 (fun _ _ _ _ m => m) h⟩
  | false => exact h _ F1 H1 g1 rfl
theorem e_or {rest : List Expr} (ha : PE X a (ER X.K ct W f)) (hb : PE X (.BoolOp .Or (b :: rest) pos) (ER X.K ct W g)) : PE X (.BoolOp .Or (a :: b :: rest) pos) (ER X.K ct W (sOr f g)) := by
  refine (pe_or ha hb).imp fun σ H Q ⟨env, F, E, h⟩ => ?_
  refine fin_bind E h rfl fun d v F1 H1 e1 g1 r1 E1 h => ?_
  cases d <;> first | exact h.elim | skip
  rename_i b
  refine ⟨_, r1, ?_⟩
  cases b with
  | true => exact h _ F1 H1 g1 rfl
  | false => exact ⟨env, F1, E1, fin_after g1 (fun _ _ _ _ m => m) h⟩

/-! ### arguments -/
def aNil : SA := fun _ => .ok []
def aCons (f : SE) (g : SA) : SA := fun env => match f env with
  | .ok d => (match g env with
    | .ok ds => .ok (d :: ds)
    | .er c fs => .er c fs
    | .st => .st)
  | .er c fs => .er c fs
  | .st => .st
theorem ArgsRep.gr {K : PySem.W.Frag} {F H F' H' : Hp} (g : Gr F H F' H') : ∀ {ms : List Bool} {ds : List D} {vs : List V}, ArgsRep K ct F H ms ds vs → ArgsRep K ct F' H' ms ds vs
  | [], _, _, h => h
  | m :: ms, _, _, ⟨d, ds', v, vs', e1, e2, h, r⟩ => ⟨d, ds', v, vs', e1, e2, by
      cases m with
      | true => exact RepB.gr g h
      | false => exact Rep.mono (Ex.le g.f) _ _ h, ArgsRep.gr g r⟩
theorem ArgsRep.length {K : PySem.W.Frag} {F H : Hp} : ∀ {ms : List Bool} {ds : List D} {vs : List V}, ArgsRep K ct F H ms ds vs → vs.length = ms.length
  | [], _, _, h => by rw [h.2]; rfl
  | m :: ms, _, _, ⟨d, ds', v, vs', e1, e2, h, r⟩ => by rw [e2, List.length_cons, List.length_cons, ArgsRep.length r]
theorem a_nil : PA X [] (tA X.K ct W [] aNil) := pa_nil.imp fun σ H Q ⟨env, F, E, h⟩ => h [] F H (Gr.refl E.ex) ⟨rfl, rfl⟩
theorem a_cons {m : Bool} {ms : List Bool} {es : List Expr} {fs : SA} (ha : PE X e (tM X.K ct W (mX X.K ct m) f)) (hr : PA X es (tA X.K ct W ms fs)) (hs : starEach (e :: es) X.env = (false, eval e X.env) :: starEach es X.env := by rfl) : PA X (e :: es) (tA X.K ct W (m :: ms) (aCons f fs)) := by
  refine (pa_cons ha hr hs).imp fun σ H Q ⟨env, F, E, h⟩ => ⟨env, F, E, ?_⟩
  unfold aCons at h
  cases e1 : f env with
  | ok d =>
    rw [e1] at h
    refine fun v F1 H1 g1 r1 => ⟨env, F1, E.gr g1, ?_⟩
    cases e2 : fs env with
    | ok ds =>
      rw [e2] at h
      exact fun vs F2 H2 g2 r2 => h (v :: vs) F2 H2 (g1.trans g2) ⟨d, ds, v, vs, rfl, rfl, mX_gr g2 r1, r2⟩
    | er c fs =>
      rw [e2] at h
      exact fun dx F2 H2 g2 x => h dx F2 H2 (g1.trans g2) x
    | st => rw [e2] at h; exact h.elim
  | er c fs => rw [e1] at h; exact h
  | st => rw [e1] at h; exact h.elim
theorem fin_bindA {K : PySem.W.Frag} {M : Md} {F H : Hp} {σ : L2.St} {Q : VK} {env : En} {ms : List Bool} {f : SA} {k : List D → R} (E : EnvOk K ct F H env σ) (h : Fin K ct W M F H σ (bndA (f env) k) Q)
    {Q1 : List V → Hp → Prop} (hk : ∀ ds vs F1 H1, Gr F H F1 H1 → ArgsRep K ct F1 H1 ms ds vs → EnvOk K ct F1 H1 env σ → Fin K ct W M F H σ (k ds) Q → Q1 vs H1) : tA K ct W ms f σ H Q1 := by
  refine ⟨env, F, E, ?_⟩
  cases e : f env with
  | ok d =>
    rw [e] at h
    exact fun vs F1 H1 g m => hk d vs F1 H1 g m (E.gr g) h
  | er c fs =>
    rw [e] at h
    exact h
  | st =>
    rw [e] at h
    exact h
end
end Ps

namespace Ps
open PySem L2

/-! ### operators on data -/
def dAdd : D → D → Option D
  | .int i, .int j => some (.int (i + j))
  | .str x, .str y => if x.length + y.length ≤ sizeLine then some (.str (x ++ y)) else none
  | _, _ => none
def dCat : D → D → Option D
  | .lst xs, .lst ys => if xs.length + ys.length ≤ sizeLine then some (.lst (xs ++ ys)) else none
  | _, _ => none
def dSub : D → D → Option D
  | .int i, .int j => some (.int (i - j))
  | _, _ => none
def dMul : D → D → Option D
  | .int i, .int j => if (-(2 ^ 64) < i ∧ i < 2 ^ 64) ∨ (-(2 ^ 64) < j ∧ j < 2 ^ 64) then some (.int (i * j)) else none
  | _, _ => none
def dFdiv : D → D → Option D
  | .int i, .int j => if 0 < j ∧ j < 1073741824 then some (.int (i / j)) else none
  | _, _ => none
def dMod : D → D → Option D
  | .int i, .int j => if 0 < j then some (.int (i % j)) else none
  | _, _ => none
def dPow : D → D → Option D
  | .int i, .int j => if 0 ≤ j ∧ j ≤ 1000000 ∧ i.natAbs < 2 ^ 64 then some (.int (i ^ j.toNat)) else none
  | _, _ => none
def dLt : D → D → Option D
  | .int i, .int j => some (.bl (decide (i < j)))
  | _, _ => none
def dLe : D → D → Option D
  | .int i, .int j => some (.bl (decide (i ≤ j)))
  | _, _ => none
def dGt : D → D → Option D
  | .int i, .int j => some (.bl (decide (j < i)))
  | _, _ => none
def dGe : D → D → Option D
  | .int i, .int j => some (.bl (decide (j ≤ i)))
  | _, _ => none
def isNonD : D → Bool
  | .non => true
  | _ => false
def dIs : D → D → Option D
  | d, .non => some (.bl (isNonD d))
  | _, _ => none
def dIsNot : D → D → Option D
  | d, .non => some (.bl (!isNonD d))
  | _, _ => none
mutual
def toP : D → Option PyData
  | .non => some .none
  | .bl b => some (.bool b)
  | .int i => some (.int i)
  | .str x => some (.str x)
  | .lst ds => (toPs ds).map .list
  | .tup ds => (toPs ds).map .tuple
  | .scr ns => some (.list (ns.map .int))
  | _ => none
def toPs : List D → Option (List PyData)
  | [] => some []
  | d :: ds => (toP d).bind fun p => (toPs ds).map fun ps => p :: ps
end
def dEq (d e : D) : Option D := (toP d).bind fun p => (toP e).bind fun q => if SeqAt.shaped p && SeqAt.shaped q then some (.bl (PyData.eqv p q)) else none
def dNe (d e : D) : Option D := (toP d).bind fun p => (toP e).bind fun q => if SeqAt.shaped p && SeqAt.shaped q then some (.bl (!PyData.eqv p q)) else none

section
variable {K : PySem.W.Frag} {ct : Nat → Addr} {F H : Hp}
theorem dpAll_ints : ∀ (ns : List Int), DpAll K H (ns.map V.int) (ns.map PyData.int)
  | [] => .nil
  | n :: ns => .cons (.int n) (dpAll_ints ns)
mutual
theorem Rep.dp : ∀ (d : D) (v : V) (p : PyData), Rep K ct F d v → toP d = some p → Dp K F v p
  | .non, v, p, h, e => by cases e; rw [show v = .non from h]; exact .non
  | .bl b, v, p, h, e => by cases e; rw [show v = .bl b from h]; exact .bl b
  | .int i, v, p, h, e => by cases e; rw [show v = .int i from h]; exact .int i
  | .str x, v, p, h, e => by cases e; rw [show v = .str x from h]; exact .str x
  | .lst ds, v, p, h, e => by
    obtain ⟨a, vs, e1, e2, e3⟩ := h
    obtain ⟨ps, q1, q2⟩ := Option.map_eq_some_iff.mp (show (toPs ds).map .list = some p from e)
    subst e1 q2
    exact .lst (.inl (.inl e2)) (Reps.dp ds vs ps e3 q1)
  | .tup ds, v, p, h, e => by
    obtain ⟨a, vs, e1, e2, e3⟩ := h
    obtain ⟨ps, q1, q2⟩ := Option.map_eq_some_iff.mp (show (toPs ds).map .tuple = some p from e)
    subst e1 q2
    exact .tup (.inl (.inl e2)) (Reps.dp ds vs ps e3 q1)
  | .scr ns, v, p, h, e => by
    obtain ⟨a, e1, e2⟩ := h
    cases e; subst e1
    exact .lst e2 (dpAll_ints ns)
  | .dk _, _, _, _, e => by cases e
  | .dt _, _, _, _, e => by cases e
  | .obj _ _, _, _, _, e => by cases e
  | .exo _ _, _, _, _, e => by cases e
theorem Reps.dp : ∀ (ds : List D) (vs : List V) (ps : List PyData), Reps K ct F ds vs → toPs ds = some ps → DpAll K F vs ps
  | [], vs, ps, h, e => by cases e; rw [show vs = [] from h]; exact .nil
  | d :: ds, vs, ps, h, e => by
    obtain ⟨v, r, e1, e2, e3⟩ := h
    obtain ⟨p, q1, q2⟩ := Option.bind_eq_some_iff.mp (show ((toP d).bind fun p => (toPs ds).map fun ps => p :: ps) = some ps from e)
    obtain ⟨ps', q3, q4⟩ := Option.map_eq_some_iff.mp q2
    subst e1 q4
    exact .cons (Rep.dp d v p e2 q1) (Reps.dp ds r ps' e3 q3)
end
end

section
variable {K : PySem.W.Frag} {ct : Nat → Addr}
/-- two ints, a flat answer -/
theorem sp_int {m1 m2 : Bool} {r : R2} {op : D → D → Option D} (ho : ∀ d e z, op d e = some z → ∃ i j w, d = .int i ∧ e = .int j ∧ cV z = some w ∧ ∀ (H : Hp) (Q : VK), Q w H → r (.int i) (.int j) H Q) : Sp2 K ct m1 m2 (mR K ct) r op := by
  intro F H x y d e z Q ex hx hy hz hQ
  obtain ⟨i, j, w, rfl, rfl, hw, hr⟩ := ho d e z hz
  have ex1 : x = .int i := by cases m1 <;> exact hx
  have ey1 : y = .int j := by cases m2 <;> exact hy
  subst ex1 ey1
  refine hr H Q (hQ w F H (Gr.refl ex) ?_)
  cases z <;> first | (cases hw; done) | (injection hw with hw; subst hw; rfl)
def rAdd1 : R2 := fun x y H Q => (rI0 (fun i j => .int (i + j)) x y H Q) ∨ (∃ i j, x = .str i ∧ y = .str j ∧ i.length + j.length ≤ sizeLine ∧ Q (.str (i ++ j)) H)
theorem op_add1 {X : Cx} : OpR X (binaryOp .Add) rAdd1 := op_add.or op_add_str
theorem sp_add {m1 m2 : Bool} : Sp2 K ct m1 m2 (mR K ct) rAdd1 dAdd := by
  intro F H x y d e z Q ex hx hy hz hQ
  cases d <;> cases e <;> first | (cases hz; done) | skip
  · rename_i i j
    have ex1 : x = .int i := by cases m1 <;> exact hx
    have ey1 : y = .int j := by cases m2 <;> exact hy
    subst ex1 ey1
    cases hz
    exact .inl ⟨i, j, rfl, rfl, hQ _ F H (Gr.refl ex) rfl⟩
  · rename_i i j
    have ex1 : x = .str i := by cases m1 <;> exact hx
    have ey1 : y = .str j := by cases m2 <;> exact hy
    subst ex1 ey1
    simp only [dAdd] at hz
    split at hz
    · rename_i hl
      cases hz
      exact .inr ⟨i, j, rfl, rfl, hl, hQ _ F H (Gr.refl ex) rfl⟩
    · cases hz
theorem mb_lst {m : Bool} {F H : Hp} {ds : List D} {x : V} (ex : Ex F H) (h : if m then RepB K ct F H (.lst ds) x else Rep K ct F (.lst ds) x) : ∃ a vs, x = .ref a ∧ H a = some (.lst vs) ∧ Reps K ct F ds vs := by
  cases m with
  | true => exact h
  | false => exact Rep.b ex (d := .lst ds) h
theorem sp_cat {m1 m2 : Bool} : Sp2 K ct m1 m2 (mN K ct) rCat dCat := by
  intro F H x y d e z Q ex hx hy hz hQ
  cases d <;> cases e <;> first | (cases hz; done) | skip
  rename_i ds es
  obtain ⟨a, vs, rfl, h1, r1⟩ := mb_lst ex hx
  obtain ⟨b, us, rfl, h2, r2⟩ := mb_lst ex hy
  simp only [dCat] at hz
  split at hz
  · rename_i hl
    cases hz
    refine ⟨a, b, vs, us, rfl, rfl, h1, h2, by rw [r1.length, r2.length]; exact hl, fun p hp => hQ _ F _ (Gr.own ex hp) ⟨p, rfl, hp, Ex.free ex hp, vs ++ us, upd_same, r1.append r2⟩⟩
  · cases hz
theorem sp_sub {m1 m2 : Bool} : Sp2 K ct m1 m2 (mR K ct) (rI0 fun i j => .int (i - j)) dSub := sp_int fun d e z h => by
  cases d <;> cases e <;> cases h
  exact ⟨_, _, _, rfl, rfl, rfl, fun H Q q => ⟨_, _, rfl, rfl, q⟩⟩
theorem sp_mul {m1 m2 : Bool} : Sp2 K ct m1 m2 (mR K ct) (rI CMul fun i j => .int (i * j)) dMul := sp_int fun d e z h => by
  cases d <;> cases e <;> first | (cases h; done) | skip
  simp only [dMul] at h
  split at h
  · rename_i hc
    cases h
    exact ⟨_, _, _, rfl, rfl, rfl, fun H Q q => ⟨_, _, rfl, rfl, hc, q⟩⟩
  · cases h
theorem sp_fdiv {m1 m2 : Bool} : Sp2 K ct m1 m2 (mR K ct) (rI CDiv fun i j => .int (i / j)) dFdiv := sp_int fun d e z h => by
  cases d <;> cases e <;> first | (cases h; done) | skip
  simp only [dFdiv] at h
  split at h
  · rename_i hc
    cases h
    exact ⟨_, _, _, rfl, rfl, rfl, fun H Q q => ⟨_, _, rfl, rfl, hc, q⟩⟩
  · cases h
theorem sp_mod {m1 m2 : Bool} : Sp2 K ct m1 m2 (mR K ct) (rI (fun _ j => 0 < j) fun i j => .int (i % j)) dMod := sp_int fun d e z h => by
  cases d <;> cases e <;> first | (cases h; done) | skip
  simp only [dMod] at h
  split at h
  · rename_i hc
    cases h
    exact ⟨_, _, _, rfl, rfl, rfl, fun H Q q => ⟨_, _, rfl, rfl, hc, q⟩⟩
  · cases h
theorem sp_pow {m1 m2 : Bool} : Sp2 K ct m1 m2 (mR K ct) (rI CPow fun i j => .int (i ^ j.toNat)) dPow := sp_int fun d e z h => by
  cases d <;> cases e <;> first | (cases h; done) | skip
  simp only [dPow] at h
  split at h
  · rename_i hc
    cases h
    exact ⟨_, _, _, rfl, rfl, rfl, fun H Q q => ⟨_, _, rfl, rfl, hc, q⟩⟩
  · cases h
theorem sp_lt {m1 m2 : Bool} : Sp2 K ct m1 m2 (mR K ct) (rI0 fun i j => .bl (decide (i < j))) dLt := sp_int fun d e z h => by
  cases d <;> cases e <;> cases h
  exact ⟨_, _, _, rfl, rfl, rfl, fun H Q q => ⟨_, _, rfl, rfl, q⟩⟩
theorem sp_le {m1 m2 : Bool} : Sp2 K ct m1 m2 (mR K ct) (rI0 fun i j => .bl (decide (i ≤ j))) dLe := sp_int fun d e z h => by
  cases d <;> cases e <;> cases h
  exact ⟨_, _, _, rfl, rfl, rfl, fun H Q q => ⟨_, _, rfl, rfl, q⟩⟩
theorem sp_gt {m1 m2 : Bool} : Sp2 K ct m1 m2 (mR K ct) (rI0 fun i j => .bl (decide (j < i))) dGt := sp_int fun d e z h => by
  cases d <;> cases e <;> cases h
  exact ⟨_, _, _, rfl, rfl, rfl, fun H Q q => ⟨_, _, rfl, rfl, q⟩⟩
theorem sp_ge {m1 m2 : Bool} : Sp2 K ct m1 m2 (mR K ct) (rI0 fun i j => .bl (decide (j ≤ i))) dGe := sp_int fun d e z h => by
  cases d <;> cases e <;> cases h
  exact ⟨_, _, _, rfl, rfl, rfl, fun H Q q => ⟨_, _, rfl, rfl, q⟩⟩
theorem rep_all {m : Bool} {F H : Hp} {d : D} {x : V} (ex : Ex F H) (h : if m then RepB K ct F H d x else Rep K ct F d x) : Rep K ct H d x := by
  cases m with
  | true => exact RepB.all ex h
  | false => exact Rep.mono (Ex.le ex) _ _ h
theorem sp_eq {m1 m2 : Bool} : Sp2 K ct m1 m2 (mR K ct) (rEqD K) dEq := by
  intro F H x y d e z Q ex hx hy hz hQ
  obtain ⟨p, q1, hz⟩ := Option.bind_eq_some_iff.mp hz
  obtain ⟨q, q2, hz⟩ := Option.bind_eq_some_iff.mp hz
  split at hz
  · rename_i hs
    obtain ⟨s1, s2⟩ := Bool.and_eq_true_iff.mp hs
    cases hz
    exact ⟨p, q, Rep.dp _ _ _ (rep_all ex hx) q1, Rep.dp _ _ _ (rep_all ex hy) q2, s1, s2, hQ _ F H (Gr.refl ex) rfl⟩
  · cases hz
theorem sp_ne {m1 m2 : Bool} : Sp2 K ct m1 m2 (mR K ct) (rNeD K) dNe := by
  intro F H x y d e z Q ex hx hy hz hQ
  obtain ⟨p, q1, hz⟩ := Option.bind_eq_some_iff.mp hz
  obtain ⟨q, q2, hz⟩ := Option.bind_eq_some_iff.mp hz
  split at hz
  · rename_i hs
    obtain ⟨s1, s2⟩ := Bool.and_eq_true_iff.mp hs
    cases hz
    exact ⟨p, q, Rep.dp _ _ _ (rep_all ex hx) q1, Rep.dp _ _ _ (rep_all ex hy) q2, s1, s2, hQ _ F H (Gr.refl ex) rfl⟩
  · cases hz
theorem isNon_of {m : Bool} {F H : Hp} {d : D} {x : V} (h : if m then RepB K ct F H d x else Rep K ct F d x) : decide (x = .non) = isNonD d := by
  cases d with
  | non => have e : x = .non := by cases m <;> exact h
           subst e; rfl
  | bl b => have e : x = .bl b := by cases m <;> exact h
            subst e; rfl
  | int i => have e : x = .int i := by cases m <;> exact h
             subst e; rfl
  | str i => have e : x = .str i := by cases m <;> exact h
             subst e; rfl
  | lst ds => obtain ⟨a, e⟩ : ∃ a, x = .ref a := by cases m <;> exact let ⟨a, _, e, _⟩ := h; ⟨a, e⟩
              subst e; rfl
  | tup ds => obtain ⟨a, e⟩ : ∃ a, x = .ref a := by cases m <;> exact let ⟨a, _, e, _⟩ := h; ⟨a, e⟩
              subst e; rfl
  | scr ds => obtain ⟨a, e⟩ : ∃ a, x = .ref a := by cases m <;> exact let ⟨a, e, _⟩ := h; ⟨a, e⟩
              subst e; rfl
  | dk ds => obtain ⟨a, e⟩ : ∃ a, x = .ref a := by cases m <;> exact let ⟨a, _, e, _⟩ := h; ⟨a, e⟩
             subst e; rfl
  | dt ds => obtain ⟨a, e⟩ : ∃ a, x = .ref a := by cases m <;> exact let ⟨a, _, e, _⟩ := h; ⟨a, e⟩
             subst e; rfl
  | obj c fs => obtain ⟨a, e⟩ : ∃ a, x = .ref a := by cases m <;> exact let ⟨a, _, _, e, _⟩ := h; ⟨a, e⟩
                subst e; rfl
  | exo c fs => obtain ⟨a, e⟩ : ∃ a, x = .ref a := by cases m <;> exact let ⟨a, _, e, _⟩ := h; ⟨a, e⟩
                subst e; rfl
theorem sp_is {m1 m2 : Bool} : Sp2 K ct m1 m2 (mR K ct) (fun x y H Q => y = .non ∧ Q (.bl (decide (x = .non))) H) dIs := by
  intro F H x y d e z Q ex hx hy hz hQ
  cases e <;> first | (cases d <;> cases hz; done) | skip
  have hz' : z = .bl (isNonD d) := by cases d <;> cases hz <;> rfl
  subst hz'
  refine ⟨by cases m2 <;> exact hy, ?_⟩
  rw [isNon_of hx]
  exact hQ _ F H (Gr.refl ex) rfl
theorem sp_isNot {m1 m2 : Bool} : Sp2 K ct m1 m2 (mR K ct) (fun x y H Q => y = .non ∧ Q (.bl (!decide (x = .non))) H) dIsNot := by
  intro F H x y d e z Q ex hx hy hz hQ
  cases e <;> first | (cases d <;> cases hz; done) | skip
  have hz' : z = .bl (!isNonD d) := by cases d <;> cases hz <;> rfl
  subst hz'
  refine ⟨by cases m2 <;> exact hy, ?_⟩
  rw [isNon_of hx]
  exact hQ _ F H (Gr.refl ex) rfl
end

/-! ### membership -/
def dFlat : D → Bool
  | .non => true | .bl _ => true | .int _ => true | .str _ => true | _ => false
def keyD : D → Option Key
  | .int i => some (.inl i)
  | .str x => some (.inr x)
  | _ => none
def keysD : List D → Option (List Key)
  | [] => some []
  | d :: ds => (keyD d).bind fun k => (keysD ds).map fun ks => k :: ks
def eqF : D → D → Bool
  | .non, .non => true
  | .bl a, .bl b => a == b
  | .int a, .int b => a == b
  | .str a, .str b => decide (a = b)
  | .bl a, .int b => (if a then 1 else 0) == b
  | .int a, .bl b => a == (if b then 1 else 0)
  | _, _ => false
def toV : D → V
  | .non => .non | .bl b => .bl b | .int i => .int i | .str x => .str x | _ => .non
def valD {κ : Type} [DecidableEq κ] (kvs : List (κ × D)) (k : κ) : Option D := (kvs.find? fun kv => decide (kv.1 = k)).map (·.2)
/-- x in y; text in text, flat thing in a list or tuple of flat ones, key in a dict -/
def inD (d e : D) : Option Bool := match e with
  | .str y => (match d with
    | .str x => some (!(Builtin.Str.occurrences y x 0 y.length 1).isEmpty)
    | _ => none)
  | .lst ds => if dFlat d && ds.all dFlat then some (inV (toV d) (ds.map toV)) else none
  | .tup ds => if dFlat d && ds.all dFlat then some (inV (toV d) (ds.map toV)) else none
  | .dk kvs => (keyD d).map fun k => (valD kvs k).isSome
  | .dt kvs => (match d with
    | .tup ds => (keysD ds).map fun k => (valD kvs k).isSome
    | _ => none)
  | _ => none
def dIn (d e : D) : Option D := (inD d e).map .bl
def dNotIn (d e : D) : Option D := (inD d e).map fun b => .bl (!b)
def rInD : R2 := fun x y H Q => ∃ a o, y = .ref a ∧ DGet H a x o ∧ Q (.bl o.isSome) H
def rNotInD : R2 := fun x y H Q => ∃ a o, y = .ref a ∧ DGet H a x o ∧ Q (.bl (!o.isSome)) H
theorem op_inD {X : Cx} (hu : X.A.units + 1 < cLine) : OpR X (compareOp .In) rInD := by
  intro pins s σ H x y v u Q I rx ry h
  obtain ⟨a, o, rfl, g, q⟩ := h
  obtain rfl : u = Value.ref a := ry
  exact d_in hu I g rx fun s' I' => ⟨.bl o.isSome, H, I', rfl, q⟩
theorem op_notInD {X : Cx} (hu : X.A.units + 1 < cLine) : OpR X (compareOp .NotIn) rNotInD := by
  intro pins s σ H x y v u Q I rx ry h
  obtain ⟨a, o, rfl, g, q⟩ := h
  obtain rfl : u = Value.ref a := ry
  exact d_notIn hu I g rx fun s' I' => ⟨.bl (!o.isSome), H, I', rfl, q⟩
abbrev rIn1 (K : PySem.W.Frag) : R2 := fun x y H Q => (∃ i j, x = .str i ∧ y = .str j ∧ Q (.bl (!(Builtin.Str.occurrences j i 0 j.length 1).isEmpty)) H) ∨ (rIn K false x y H Q ∨ rInD x y H Q)
abbrev rNotIn1 (K : PySem.W.Frag) : R2 := fun x y H Q => (∃ i j, x = .str i ∧ y = .str j ∧ Q (.bl (!(!(Builtin.Str.occurrences j i 0 j.length 1).isEmpty))) H) ∨ (rIn K true x y H Q ∨ rNotInD x y H Q)
theorem op_in1 {X : Cx} (hu : X.A.units + 1 < cLine) : OpR X (compareOp .In) (rIn1 X.K) := op_in_str.or (op_in_seq.or (op_inD hu))
theorem op_notIn1 {X : Cx} (hu : X.A.units + 1 < cLine) : OpR X (compareOp .NotIn) (rNotIn1 X.K) := op_notin_str.or (op_notIn_seq.or (op_notInD hu))

section
variable {K : PySem.W.Frag} {ct : Nat → Addr} {F H : Hp}
theorem rep_flat {d : D} {v : V} (h : Rep K ct F d v) (f : dFlat d = true) : v = toV d ∧ flatV v = true := by
  cases d <;> first | (cases f; done) | (rw [show v = _ from h]; exact ⟨rfl, rfl⟩)
theorem reps_flat : ∀ {ds : List D} {vs : List V}, Reps K ct F ds vs → ds.all dFlat = true → vs = ds.map toV ∧ vs.all flatV = true
  | [], vs, h, _ => by rw [show vs = [] from h]; exact ⟨rfl, rfl⟩
  | d :: ds, vs, h, f => by
    obtain ⟨v, r, e1, e2, e3⟩ := h
    obtain ⟨f1, f2⟩ := Bool.and_eq_true_iff.mp (by rw [List.all_cons] at f; exact f)
    obtain ⟨g1, g2⟩ := rep_flat e2 f1
    obtain ⟨g3, g4⟩ := reps_flat e3 f2
    subst e1
    exact ⟨by rw [List.map_cons, ← g1, ← g3], by rw [List.all_cons, g2, g4]; rfl⟩
theorem rep_key {d : D} {v : V} {k : Key} (h : Rep K ct F d v) (f : keyD d = some k) : v = kV k := by
  cases d <;> first | (cases f; done) | (cases f; exact h)
theorem reps_keys : ∀ {ds : List D} {vs : List V} {ks : List Key}, Reps K ct F ds vs → keysD ds = some ks → vs = ks.map kV
  | [], vs, ks, h, f => by cases f; exact h
  | d :: ds, vs, ks, h, f => by
    obtain ⟨v, r, e1, e2, e3⟩ := h
    obtain ⟨k, q1, q2⟩ := Option.bind_eq_some_iff.mp (show ((keyD d).bind fun k => (keysD ds).map fun ks => k :: ks) = some ks from f)
    obtain ⟨ks', q3, q4⟩ := Option.map_eq_some_iff.mp q2
    subst e1 q4
    rw [rep_key e2 q1, reps_keys e3 q3]; rfl
theorem repK_val : ∀ {kvs : List (Key × D)} {vs : List (Key × V)} (k : Key), RepK K ct F kvs vs → (valD kvs k = none ∧ valV vs k = none) ∨ ∃ d v, valD kvs k = some d ∧ valV vs k = some v ∧ Rep K ct F d v
  | [], vs, k, h => by rw [show vs = [] from h]; exact .inl ⟨rfl, rfl⟩
  | (k', d) :: kvs, vs, k, h => by
    obtain ⟨v, r, e1, e2, e3⟩ := h
    subst e1
    by_cases e : k' = k
    · subst e
      exact .inr ⟨d, v, by simp [valD, List.find?_cons], by rw [valV_pos rfl], e2⟩
    · have h1 : valD ((k', d) :: kvs) k = valD kvs k := by simp [valD, List.find?_cons, e]
      rw [h1, valV_neg (p := (k', v)) e]
      exact repK_val k e3
theorem repT_val : ∀ {kvs : List (List Key × D)} {vs : List (List Key × V)} (k : List Key), RepT K ct F kvs vs → (valD kvs k = none ∧ valV vs k = none) ∨ ∃ d v, valD kvs k = some d ∧ valV vs k = some v ∧ Rep K ct F d v
  | [], vs, k, h => by rw [show vs = [] from h]; exact .inl ⟨rfl, rfl⟩
  | (k', d) :: kvs, vs, k, h => by
    obtain ⟨v, r, e1, e2, e3⟩ := h
    subst e1
    by_cases e : k' = k
    · subst e
      exact .inr ⟨d, v, by simp [valD, List.find?_cons], by rw [valV_pos rfl], e2⟩
    · have h1 : valD ((k', d) :: kvs) k = valD kvs k := by simp [valD, List.find?_cons, e]
      rw [h1, valV_neg (p := (k', v)) e]
      exact repT_val k e3
theorem repK_some {kvs : List (Key × D)} {vs : List (Key × V)} (k : Key) (h : RepK K ct F kvs vs) : (valD kvs k).isSome = (valV vs k).isSome := by
  rcases repK_val k h with ⟨e1, e2⟩ | ⟨d, v, e1, e2, _⟩ <;> rw [e1, e2] <;> rfl
theorem repT_some {kvs : List (List Key × D)} {vs : List (List Key × V)} (k : List Key) (h : RepT K ct F kvs vs) : (valD kvs k).isSome = (valV vs k).isSome := by
  rcases repT_val k h with ⟨e1, e2⟩ | ⟨d, v, e1, e2, _⟩ <;> rw [e1, e2] <;> rfl
/-- the key d of the dict: what DGet tells -/
theorem dget_k {a : Addr} {vs : List (Key × V)} {x : V} {d : D} {k : Key} (e : Rd H a (.dK vs)) (hx : Rep K ct H d x) (hk : keyD d = some k) : DGet H a x (valV vs k) := .inl ⟨vs, k, e, rep_key hx hk, rfl⟩
theorem dget_t {a : Addr} {vs : List (List Key × V)} {x : V} {ds : List D} {k : List Key} (e : Rd H a (.dT vs)) (hx : Rep K ct H (.tup ds) x) (hk : keysD ds = some k) : DGet H a x (valV vs k) := by
  obtain ⟨b, us, rfl, h1, h2⟩ := hx
  rw [reps_keys h2 hk] at h1
  exact .inr ⟨vs, k, b, e, rfl, h1, rfl⟩
theorem sp_inG {m1 m2 : Bool} {op : D → D → Option D} {r : R2} {g : Bool → Bool} (hop : ∀ d e, op d e = (inD d e).map fun b => .bl (g b))
    (hr : ∀ x y H Q, ((∃ i j, x = .str i ∧ y = .str j ∧ Q (.bl (g (!(Builtin.Str.occurrences j i 0 j.length 1).isEmpty))) H) ∨ ((∃ p xs, y = .ref p ∧ (SqL K H p xs ∨ SqT K H p xs) ∧ flatV x = true ∧ xs.all flatV = true ∧ Q (.bl (g (inV x xs))) H) ∨ (∃ a o, y = .ref a ∧ DGet H a x o ∧ Q (.bl (g o.isSome)) H))) → r x y H Q) :
    Sp2 K ct m1 m2 (mR K ct) r op := by
  intro F H x y d e z Q ex hx hy hz hQ
  rw [hop] at hz
  obtain ⟨b, hb, rfl⟩ := Option.map_eq_some_iff.mp hz
  have hq : Q (.bl (g b)) H := hQ _ F H (Gr.refl ex) rfl
  have hx' := rep_all ex hx
  have hy' := rep_all ex hy
  apply hr
  cases e <;> first | (cases hb; done) | skip
  · rename_i y'
    cases d <;> first | (cases hb; done) | skip
    cases hb
    rw [show y = .str y' from hy', show x = .str _ from hx']
    exact .inl ⟨_, _, rfl, rfl, hq⟩
  · rename_i ds
    simp only [inD] at hb
    split at hb
    · rename_i hf
      obtain ⟨f1, f2⟩ := Bool.and_eq_true_iff.mp hf
      cases hb
      obtain ⟨a, vs, rfl, h1, h2⟩ := hy'
      obtain ⟨g1, g2⟩ := rep_flat hx' f1
      obtain ⟨g3, g4⟩ := reps_flat h2 f2
      rw [← g1, ← g3] at hq
      exact .inr (.inl ⟨a, vs, rfl, .inl (SqL.of h1), g2, g4, hq⟩)
    · cases hb
  · rename_i ds
    simp only [inD] at hb
    split at hb
    · rename_i hf
      obtain ⟨f1, f2⟩ := Bool.and_eq_true_iff.mp hf
      cases hb
      obtain ⟨a, vs, rfl, h1, h2⟩ := hy'
      obtain ⟨g1, g2⟩ := rep_flat hx' f1
      obtain ⟨g3, g4⟩ := reps_flat h2 f2
      rw [← g1, ← g3] at hq
      exact .inr (.inl ⟨a, vs, rfl, .inr (SqT.of h1), g2, g4, hq⟩)
    · cases hb
  · rename_i kvs
    obtain ⟨k, hk, rfl⟩ := Option.map_eq_some_iff.mp (show ((keyD d).map fun k => (valD kvs k).isSome) = some b from hb)
    obtain ⟨a, vs, rfl, h1, h2⟩ := hy'
    rw [repK_some k h2] at hq
    exact .inr (.inr ⟨a, _, rfl, dget_k h1 hx' hk, hq⟩)
  · rename_i kvs
    cases d <;> first | (cases hb; done) | skip
    rename_i ds
    obtain ⟨k, hk, rfl⟩ := Option.map_eq_some_iff.mp (show ((keysD ds).map fun k => (valD kvs k).isSome) = some b from hb)
    obtain ⟨a, vs, rfl, h1, h2⟩ := hy'
    rw [repT_some k h2] at hq
    exact .inr (.inr ⟨a, _, rfl, dget_t h1 hx' hk, hq⟩)
theorem sp_in {m1 m2 : Bool} : Sp2 K ct m1 m2 (mR K ct) (rIn1 K) dIn := sp_inG (g := fun b => b) (fun d e => rfl) fun x y H Q h => by
  rcases h with h | ⟨p, xs, h1, h2, h3, h4, h5⟩ | h
  · exact .inl h
  · exact .inr (.inl ⟨p, xs, h1, h2, h3, h4, h5⟩)
  · exact .inr (.inr h)
theorem sp_notIn {m1 m2 : Bool} : Sp2 K ct m1 m2 (mR K ct) (rNotIn1 K) dNotIn := sp_inG (g := fun b => !b) (fun d e => rfl) fun x y H Q h => by
  rcases h with h | ⟨p, xs, h1, h2, h3, h4, h5⟩ | h
  · exact .inl h
  · exact .inr (.inl ⟨p, xs, h1, h2, h3, h4, h5⟩)
  · exact .inr (.inr h)
end
end Ps

namespace Ps
open PySem PySem.Spec PyProof.Rows L2

/-! ### items -/
def dIx (d e : D) : Option D := match d, e with
  | .lst ds, .int i => atI ds i
  | .tup ds, .int i => atI ds i
  | .str x, .int i => if x.length ≤ sizeLine then (atI x.cps.toList i).map fun c => .str ⟨#[c]⟩ else none
  | .scr ns, .int i => (atI ns i).map .int
  | .dk kvs, k => (keyD k).bind fun k => valD kvs k
  | .dt kvs, .tup ds => (keysD ds).bind fun k => valD kvs k
  | _, _ => none
def rIxDt : R2 := fun x y H Q => ∃ a v, x = .ref a ∧ DGet H a y (some v) ∧ Q v H
theorem ix_dt {X : Cx} (hu : X.A.units + 1 < cLine) : IxR X rIxDt := by
  intro value slice pins s σ H x y v u Q I rx ry h hs
  obtain ⟨a, w, rfl, g, q⟩ := h
  obtain rfl : v = Value.ref a := rx
  have hT := dict_typeIs I g
  have hg : wpAny (model X.prog X.w) X.A (getItem (.ref a) u) (EP X pins σ Q) X.xe s := d_getItem hu I g ry fun w' s3 I3 rw' => ⟨w, H, I3, rw', q⟩
  unfold subscriptTail
  refine wpAny_bind ?_
  rw [getitemInPython_of_ne hT.not_modules]
  refine wpAny_bind (wpAny_specialOf hT PySem.F.slot_dict_getitem.lookup ?_)
  have fin : wpAny (model X.prog X.w) X.A (subscripted slice false (.ref a) u) (fun r s₃ => wpAny (model X.prog X.w) X.A (letTemporaryGo value (.ref a) r >>= fun _ => pure r) (EP X pins σ Q) X.xe s₃) X.xe s := by
    rw [hs]
    exact wpAny_operating (wpAny_mono hg (fun r s₃ h₃ => wpAny_bind (wpAny_letTemporaryGo (wpAny_pure h₃))) fun _ _ x => x)
  first
    | exact wpAny_pure (wpAny_bind fin)
    | exact wpAny_bind (wpAny_pure (wpAny_bind fin))
    | exact wpAny_bind fin
abbrev rIx1 (K : PySem.W.Frag) : R2 := fun x y H Q => rIx K x y H Q ∨ rIxDt x y H Q
theorem ix1 {X : Cx} (hu : X.A.units + 1 < cLine) : IxR X (rIx1 X.K) := ix_seq.or (ix_dt hu)
section
variable {K : PySem.W.Frag} {ct : Nat → Addr} {F H : Hp}
theorem reps_at {ds : List D} {vs : List V} {i : Int} {d : D} (h : Reps K ct F ds vs) (e : atI ds i = some d) : ∃ v, atI vs i = some v ∧ Rep K ct F d v := by
  unfold atI at e ⊢
  rw [h.length]
  obtain ⟨j, e1, e2⟩ := Option.bind_eq_some_iff.mp e
  obtain ⟨v, h1, h2⟩ := h.get e2
  exact ⟨v, by rw [e1]; exact h1, h2⟩
theorem atI_map {α β : Type} (f : α → β) (xs : List α) (i : Int) : atI (xs.map f) i = (atI xs i).map f := by
  unfold atI
  rw [List.length_map]
  cases ixN xs.length i with
  | none => rfl
  | some j => simp
theorem sp_ix : Sp2 K ct true false (mR K ct) (rIx1 K) dIx := by
  intro F H x y d e z Q ex hx hy hz hQ
  replace hy : Rep K ct F e y := hy
  have fin : ∀ v, Rep K ct F z v → Q v H := fun v r => hQ v F H (Gr.refl ex) r
  cases d with
  | lst ds =>
    cases e <;> first | (cases hz; done) | skip
    rename_i i
    obtain ⟨a, vs, rfl, h1, h2⟩ := hx
    obtain ⟨v, q1, q2⟩ := reps_at h2 (show atI ds i = some z from hz)
    cases (show y = .int i from hy)
    exact .inl (.inl ⟨a, vs, i, v, rfl, rfl, SqL.of h1, q1, fin v q2⟩)
  | tup ds =>
    cases e <;> first | (cases hz; done) | skip
    rename_i i
    obtain ⟨a, vs, rfl, h1, h2⟩ := hx
    obtain ⟨v, q1, q2⟩ := reps_at h2 (show atI ds i = some z from hz)
    cases (show y = .int i from hy)
    exact .inl (.inr (.inl ⟨a, vs, i, v, rfl, rfl, SqT.of (ex _ _ h1), q1, fin v q2⟩))
  | str w =>
    cases e <;> first | (cases hz; done) | skip
    rename_i i
    cases (show x = .str w from hx)
    cases (show y = .int i from hy)
    simp only [dIx] at hz
    split at hz
    · rename_i hl
      obtain ⟨c, q1, rfl⟩ := Option.map_eq_some_iff.mp hz
      exact .inl (.inr (.inr ⟨w, i, c, rfl, rfl, hl, q1, fin _ rfl⟩))
    · cases hz
  | scr ns =>
    cases e <;> first | (cases hz; done) | skip
    rename_i i
    obtain ⟨a, rfl, h1⟩ := hx
    cases (show y = .int i from hy)
    obtain ⟨n, q1, rfl⟩ := Option.map_eq_some_iff.mp (show (atI ns i).map .int = some z from hz)
    have h2 : SqL K H a (ns.map V.int) := by
      rcases h1 with h | h
      · exact .inl (Ex.rd ex h)
      · exact .inr h
    exact .inl (.inl ⟨a, _, i, .int n, rfl, rfl, h2, by rw [atI_map, q1]; rfl, fin _ rfl⟩)
  | dk kvs =>
    obtain ⟨k, hk, hv⟩ := Option.bind_eq_some_iff.mp (show ((keyD e).bind fun k => valD kvs k) = some z from by cases e <;> exact hz)
    obtain ⟨a, vs, rfl, h1, h2⟩ := hx
    rcases repK_val k h2 with ⟨e1, _⟩ | ⟨d', v, e1, e2, e3⟩
    · rw [hv] at e1; cases e1
    · rw [hv] at e1; cases e1
      exact .inr ⟨a, v, rfl, by rw [← e2]; exact dget_k h1 (Rep.mono (Ex.le ex) _ _ hy) hk, fin v e3⟩
  | dt kvs =>
    cases e <;> first | (cases hz; done) | skip
    rename_i ds
    obtain ⟨k, hk, hv⟩ := Option.bind_eq_some_iff.mp (show ((keysD ds).bind fun k => valD kvs k) = some z from hz)
    obtain ⟨a, vs, rfl, h1, h2⟩ := hx
    rcases repT_val k h2 with ⟨e1, _⟩ | ⟨d', v, e1, e2, e3⟩
    · rw [hv] at e1; cases e1
    · rw [hv] at e1; cases e1
      exact .inr ⟨a, v, rfl, by rw [← e2]; exact dget_t h1 (Rep.mono (Ex.le ex) _ _ hy) hk, fin v e3⟩
  | _ => cases e <;> cases hz
end
section
variable {X : Cx} {ct : Nat → Addr} {W : WX} {a b e : Expr} {f g : SE} {pos : Pos}
theorem e_ix (hu : X.A.units + 1 < cLine) (ha : PE X a (EB X.K ct W f)) (hb : PE X b (ER X.K ct W g)) (hs : PlainIx b := by intro _ _; rfl) : PE X (.Subscript a b pos) (ER X.K ct W (s2 dIx f g)) :=
  (pe_ix (ix1 hu) ha hb hs).imp fun _ _ _ h => t2 (m1 := true) (m2 := false) mR_ok sp_ix h

/-! ### parts -/
def sPart (f : SE) : SE := fun env => bnd (f env) fun d => match d with
  | .int i => .ok (.int i)
  | _ => .st
def oI : D → Option (Option Int)
  | .int i => some (some i)
  | .non => some none
  | _ => none
def tO (K : PySem.W.Frag) (ct : Nat → Addr) (W : WX) (f : SE) : TO := fun σ H Q => ∃ env F, EnvOk K ct F H env σ ∧ match f env with
  | .ok d => (match oI d with
    | some o => ∀ F' H', Gr F H F' H' → Q o H'
    | none => False)
  | .er c fs => ∀ dx F' H', Gr F H F' H' → ExcOk K ct F' dx fs → W (.ref (ct c)) dx σ H'
  | .st => False
theorem _root_.L2.PO.imp {X : Cx} {e : Option Expr} {t t' : TO} (p : PO X e t) (h : ∀ σ H Q, t' σ H Q → t σ H Q) : PO X e t' := ⟨fun pins s σ H Q I q => p.run pins s σ H Q I (h σ H Q q)⟩
theorem o_none : PO X none (tO X.K ct W (sC .non)) := po_none.imp fun σ H Q ⟨env, F, E, h⟩ => h F H (Gr.refl E.ex)
theorem o_some (ha : PE X a (ER X.K ct W f)) : PO X (some a) (tO X.K ct W (sPart f)) := by
  refine (po_some ha).imp fun σ H Q ⟨env, F, E, h⟩ => ⟨env, F, E, ?_⟩
  unfold sPart at h
  cases e : f env with
  | ok d =>
    rw [e] at h
    intro v F' H' g m
    cases d <;> first | exact h.elim | skip
    exact ⟨_, m, h F' H' g⟩
  | er c fs => rw [e] at h; exact h
  | st => rw [e] at h; exact h.elim
def dSlN (d : D) (lo hi : Option Int) : Option D := match d with
  | .lst ds => some (.lst ((ds.drop (HT.sIx ds.length 0 lo)).take (HT.sIx ds.length ds.length hi - HT.sIx ds.length 0 lo)))
  | .scr ns => some (.lst (((ns.drop (HT.sIx ns.length 0 lo)).take (HT.sIx ns.length ns.length hi - HT.sIx ns.length 0 lo)).map .int))
  | _ => none
def dSlS (d : D) (lo hi : Option Int) : Option D := match d with
  | .str z => if z.length ≤ sizeLine then some (.str (cutS z lo hi)) else none
  | _ => none
def sSl (op : D → Option Int → Option Int → Option D) (f lo hi : SE) : SE := fun env => bnd (f env) fun d => bnd (lo env) fun l => match oI l with
  | some l => bnd (hi env) fun u => (match oI u with
    | some u => ofO (op d l u)
    | none => .st)
  | none => .st
def SpS (K : PySem.W.Frag) (ct : Nat → Addr) (M : Md) (r : V → Option Int → Option Int → Hp → VK → Prop) (op : D → Option Int → Option Int → Option D) : Prop :=
  ∀ F H x d lo hi z Q, Ex F H → RepB K ct F H d x → op d lo hi = some z → (∀ v F' H', Gr F H F' H' → M H F' H' z v → Q v H') → r x lo hi H Q
theorem reps_cut {K : PySem.W.Frag} {F : Hp} {ds : List D} {vs : List V} (h : Reps K ct F ds vs) (lo hi : Option Int) : Reps K ct F ((ds.drop (HT.sIx ds.length 0 lo)).take (HT.sIx ds.length ds.length hi - HT.sIx ds.length 0 lo)) (cutV vs lo hi) := by
  unfold cutV
  rw [h.length]
  exact (h.drop _).take _
theorem sps_n {K : PySem.W.Frag} : SpS K ct (mN K ct) (rSlL K) dSlN := by
  intro F H x d lo hi z Q ex hx hz hQ
  cases d <;> first | (cases hz; done) | skip
  · rename_i ds
    obtain ⟨a, vs, rfl, h1, h2⟩ := hx
    cases hz
    exact ⟨a, vs, rfl, SqL.of h1, fun p hp => hQ _ F _ (Gr.own ex hp) ⟨p, rfl, hp, Ex.free ex hp, _, upd_same, reps_cut h2 lo hi⟩⟩
  · rename_i ns
    obtain ⟨a, rfl, h1⟩ := hx
    cases hz
    have h2 : SqL K H a (ns.map V.int) := by
      rcases h1 with h | h
      · exact .inl (Ex.rd ex h)
      · exact .inr h
    refine ⟨a, _, rfl, h2, fun p hp => hQ _ F _ (Gr.own ex hp) ⟨p, rfl, hp, Ex.free ex hp, _, upd_same, ?_⟩⟩
    have e : cutV (ns.map V.int) lo hi = ((ns.drop (HT.sIx ns.length 0 lo)).take (HT.sIx ns.length ns.length hi - HT.sIx ns.length 0 lo)).map V.int := by
      unfold cutV
      rw [List.length_map, ← List.map_drop, ← List.map_take]
    rw [e]
    exact Reps.ints
theorem sps_s {K : PySem.W.Frag} : SpS K ct (mR K ct) rSlS dSlS := by
  intro F H x d lo hi z Q ex hx hz hQ
  cases d <;> first | (cases hz; done) | skip
  rename_i w
  cases (show x = .str w from hx)
  simp only [dSlS] at hz
  split at hz
  · rename_i hl
    cases hz
    exact ⟨w, rfl, hl, hQ _ F H (Gr.refl ex) rfl⟩
  · cases hz
theorem fin_bindO {K : PySem.W.Frag} {M : Md} {F H : Hp} {σ : L2.St} {Q : VK} {env : En} {f : SE} {k : D → R} (E : EnvOk K ct F H env σ) (h : Fin K ct W M F H σ (bnd (f env) k) Q)
    {Q1 : Option Int → Hp → Prop} (hn : ∀ d, oI d = none → k d = .st) (hk : ∀ d o F1 H1, oI d = some o → Gr F H F1 H1 → EnvOk K ct F1 H1 env σ → Fin K ct W M F H σ (k d) Q → Q1 o H1) : tO K ct W f σ H Q1 := by
  refine ⟨env, F, E, ?_⟩
  cases e : f env with
  | ok d =>
    rw [e] at h
    have h : Fin K ct W M F H σ (k d) Q := h
    show (match oI d with | some o => ∀ F' H', Gr F H F' H' → Q1 o H' | none => False)
    cases q : oI d with
    | some o => exact fun F1 H1 g => hk d o F1 H1 q g (E.gr g) h
    | none => rw [hn d q] at h; exact h.elim
  | er c fs => rw [e] at h; exact h
  | st => rw [e] at h; exact h
theorem e_sl {lo hi : Option Expr} {fl fh : SE} {p2 : Pos} {M : Md} {r : V → Option Int → Option Int → Hp → VK → Prop} {op : D → Option Int → Option Int → Option D} (hr : SlR X r) (hM : MdOk M) (hs : SpS X.K ct M r op)
    (he : PE X e (EB X.K ct W f)) (hl : PO X lo (tO X.K ct W fl)) (hh : PO X hi (tO X.K ct W fh)) : PE X (.Subscript e (.Slice lo hi none p2) pos) (tM X.K ct W M (sSl op f fl fh)) := by
  refine (pe_slice hr he hl hh).imp fun σ H Q ⟨env, F, E, h⟩ => ?_
  refine fin_bind E h rfl fun d x F1 H1 e1 g1 r1 E1 h => ?_
  have h1 := fin_after (M := M) g1 (fun _ _ _ _ m => hM _ _ _ _ _ _ g1.h m) h
  refine fin_bindO E1 h1 (fun l hl => by rw [hl]) fun l o F2 H2 ol g2 E2 h2 => ?_
  rw [ol] at h2
  have h3 := fin_after (M := M) g2 (fun _ _ _ _ m => hM _ _ _ _ _ _ g2.h m) h2
  refine fin_bindO E2 h3 (fun u hu => by rw [hu]) fun u o2 F3 H3 ou g3 E3 h4 => ?_
  rw [ou] at h4
  have h4 : Fin X.K ct W M F2 H2 σ (ofO (op d o o2)) Q := h4
  cases q : op d o o2 with
  | none => rw [q] at h4; exact h4.elim
  | some z =>
    rw [q] at h4
    exact hs F3 H3 x d o o2 z Q E3.ex (RepB.gr g3 (RepB.gr g2 r1)) q fun v F' H' g m => h4 v F' H' (g3.trans g) (hM _ _ _ _ _ _ g3.h m)
end
end Ps

namespace Ps
open PySem PySem.Spec PyProof.Rows L2

section
variable {X : Cx} {ct : Nat → Addr} {W : WX} {a b e : Expr} {es : List Expr} {f g : SE} {fs : SA} {pos p : Pos}

/-! ### fields -/
def sFld (c : Nat) (n : Str) (f : SE) : SE := fun env => bnd (f env) fun d => match d with
  | .obj c' fs => if c' = c then ofO (fs.lookup n) else .st
  | _ => .st
theorem repF_get {K : PySem.W.Frag} {F : Hp} {n : Str} {d : D} : ∀ {fs : List (Str × D)} {fvs : List (Str × V)}, RepF K ct F fs fvs → fs.lookup n = some d → ∃ v, fvs.lookup n = some v ∧ Rep K ct F d v
  | [], _, _, e => by cases e
  | (g, d') :: fs, fvs, h, e => by
    obtain ⟨⟨v, e1, e2⟩, e3⟩ := h
    rw [List.lookup_cons] at e
    cases q : (n == g) with
    | true =>
      rw [q] at e
      cases e
      have : n = g := eq_of_beq q
      subst this
      exact ⟨v, e1, e2⟩
    | false =>
      rw [q] at e
      exact repF_get e3 e
theorem e_fld (c : Nat) {n : Str} (hc : Cls X.K (ct c)) (hn : NoAttr X.K (ct c) n) (he : PE X e (EB X.K ct W f)) (hb : attributeBase e n X.env (eval e X.env) = eval e X.env := by rfl) : PE X (.Attribute e n pos) (ER X.K ct W (sFld c n f)) := by
  refine (pe_fld he hb).imp fun σ H Q ⟨env, F, E, h⟩ => ?_
  refine fin_bind E h rfl fun d x F1 H1 e1 g1 r1 E1 h => ?_
  cases d <;> first | exact h.elim | skip
  rename_i c' gs
  by_cases hcc : c' = c
  · subst hcc
    have h : Fin X.K ct W (mR X.K ct) F H σ (ofO (gs.lookup n)) Q := by simpa using h
    obtain ⟨a, dx, fvs, rfl, ea, _, hf⟩ := r1
    cases q : gs.lookup n with
    | none => rw [q] at h; exact h.elim
    | some z =>
      rw [q] at h
      obtain ⟨v, l, r⟩ := repF_get hf q
      exact ⟨a, _, dx, fvs, v, rfl, ea, hc, hn, l, h v F1 H1 g1 r⟩
  · have h : Fin X.K ct W (mR X.K ct) F H σ (if c' = c then ofO (gs.lookup n) else .st) Q := h
    rw [if_neg hcc] at h
    exact h.elim

/-! ### built-ins by their names -/
def SpC (K : PySem.W.Frag) (ct : Nat → Addr) (ms : List Bool) (M : Md) (r : List V → Hp → VK → Prop) (op : List D → Option D) : Prop := ∀ F H vs ds z Q, Ex F H → ArgsRep K ct F H ms ds vs → op ds = some z → (∀ v F' H', Gr F H F' H' → M H F' H' z v → Q v H') → r vs H Q
def sCall (op : List D → Option D) (fs : SA) : SE := fun env => bndA (fs env) fun ds => ofO (op ds)
theorem tcb {K : PySem.W.Frag} {M : Md} (hM : MdOk M) {ms : List Bool} {r : List V → Hp → VK → Prop} {op : List D → Option D} (hs : SpC K ct ms M r op) {σ : L2.St} {H : Hp} {Q : VK} (h : tM K ct W M (sCall op fs) σ H Q) :
    tA K ct W ms fs σ H fun vs H1 => r vs H1 Q := by
  obtain ⟨env, F, E, h⟩ := h
  refine fin_bindA E h fun ds vs F1 H1 g1 r1 E1 h => ?_
  cases q : op ds with
  | none => rw [q] at h; exact h.elim
  | some z =>
    rw [q] at h
    exact hs F1 H1 vs ds z Q E1.ex r1 q fun v F' H' g m => h v F' H' (g1.trans g) (hM _ _ _ _ _ _ g1.h m)
theorem e_callB {id : String} {x : Str} {M : Md} {ms : List Bool} {r : List V → Hp → VK → Prop} {op : List D → Option D} (hc : CallR X (.builtin id) r) (hM : MdOk M) (hs : SpC X.K ct ms M r op) (hg : Gl X x) (hm : X.mg x = none) (hv : bootBuiltins x = some (.builtin id))
    (ha : PA X (e :: es) (tA X.K ct W ms fs)) (hn : x ≠ "__name__" := by decide) (hdb : (x == ("__debug__" : Str)) = false := by decide) (he : starEach (e :: es) X.env = (false, eval e X.env) :: starEach es X.env := by rfl) (hpl : (backTo pos (starEach es X.env)).any (·.1) = false := by rfl) :
    PE X (.Call (.Name x p) (e :: es) [] pos) (tM X.K ct W M (sCall op fs)) := (pe_callB hc hg hm hv ha hn hdb he hpl).imp fun _ _ _ h => tcb hM hs h
theorem e_callTy {T : String} {x : Str} {M : Md} {ms : List Bool} {r : List V → Hp → VK → Prop} {op : List D → Option D} (hc : CallR X (.type T) r) (hM : MdOk M) (hs : SpC X.K ct ms M r op) (hg : Gl X x) (hm : X.mg x = none) (hv : bootBuiltins x = some (.type T))
    (ha : PA X (e :: es) (tA X.K ct W ms fs)) (hn : x ≠ "__name__" := by decide) (hdb : (x == ("__debug__" : Str)) = false := by decide) (he : starEach (e :: es) X.env = (false, eval e X.env) :: starEach es X.env := by rfl) (hpl : (backTo pos (starEach es X.env)).any (·.1) = false := by rfl) :
    PE X (.Call (.Name x p) (e :: es) [] pos) (tM X.K ct W M (sCall op fs)) := (pe_callTy hc hg hm hv ha hn hdb he hpl).imp fun _ _ _ h => tcb hM hs h
end

section
variable {X : Cx} {K : PySem.W.Frag} {ct : Nat → Addr}
theorem args1 {F H : Hp} {m : Bool} {ds : List D} {vs : List V} (h : ArgsRep K ct F H [m] ds vs) : ∃ d v, ds = [d] ∧ vs = [v] ∧ (if m then RepB K ct F H d v else Rep K ct F d v) := by
  obtain ⟨d, ds', v, vs', rfl, rfl, h, h1, h2⟩ := h
  subst h1 h2
  exact ⟨d, v, rfl, rfl, h⟩
theorem args2 {F H : Hp} {m1 m2 : Bool} {ds : List D} {vs : List V} (h : ArgsRep K ct F H [m1, m2] ds vs) : ∃ d e v w, ds = [d, e] ∧ vs = [v, w] ∧ (if m1 then RepB K ct F H d v else Rep K ct F d v) ∧ (if m2 then RepB K ct F H e w else Rep K ct F e w) := by
  obtain ⟨d, ds', v, vs', rfl, rfl, h, r⟩ := h
  obtain ⟨e, w, rfl, rfl, h2⟩ := args1 r
  exact ⟨d, e, v, w, rfl, rfl, h, h2⟩
/-- len -/
def cLen : List D → Option D
  | [.str x] => if x.length ≤ sizeLine then some (.int x.length) else none
  | [.lst ds] => some (.int ds.length)
  | [.tup ds] => some (.int ds.length)
  | [.scr ns] => some (.int ns.length)
  | [.dk kvs] => some (.int kvs.length)
  | _ => none
theorem call_lenDr : CallR X (.builtin "len") (fun xs H Q => ∃ a kvs, xs = [V.ref a] ∧ Rd H a (.dK kvs) ∧ Q (.int kvs.length) H) := by
  intro pins s σ H xs us Q I r h
  obtain ⟨a, kvs, rfl, ha, q⟩ := h
  obtain ⟨u, rfl, ru⟩ := vals1 r
  cases ru
  exact d_len I ha fun t s' I' => ⟨.int kvs.length, H, I', ⟨t, rfl⟩, q⟩
abbrev rLen1 (K : PySem.W.Frag) : List V → Hp → VK → Prop := fun xs H Q => (∃ p ys, xs = [.ref p] ∧ (SqL K H p ys ∨ SqT K H p ys) ∧ Q (.int ys.length) H) ∨ ((∃ z, xs = [.str z] ∧ z.length ≤ sizeLine ∧ Q (.int z.length) H) ∨ (∃ a kvs, xs = [V.ref a] ∧ Rd H a (.dK kvs) ∧ Q (.int kvs.length) H))
theorem call_len1 : CallR X (.builtin "len") (rLen1 X.K) := call_len_seq.or (call_len_str.or call_lenDr)
theorem repK_len {F : Hp} : ∀ {kvs : List (Key × D)} {vs : List (Key × V)}, RepK K ct F kvs vs → vs.length = kvs.length
  | [], vs, h => by rw [show vs = [] from h]; rfl
  | (k, d) :: kvs, vs, h => by
    obtain ⟨v, r, e1, e2, e3⟩ := h
    rw [e1, List.length_cons, List.length_cons, repK_len e3]
theorem scr_sq {F H : Hp} (ex : Ex F H) {ns : List Int} {x : V} (h : Rep K ct F (.scr ns) x) : ∃ a, x = .ref a ∧ SqL K H a (ns.map V.int) := by
  obtain ⟨a, rfl, h1⟩ := h
  refine ⟨a, rfl, ?_⟩
  rcases h1 with h | h
  · exact .inl (Ex.rd ex h)
  · exact .inr h
theorem spc_len : SpC K ct [true] (mR K ct) (rLen1 K) cLen := by
  intro F H vs ds z Q ex hA hz hQ
  obtain ⟨d, v, rfl, rfl, h⟩ := args1 hA
  replace h : RepB K ct F H d v := h
  cases d <;> first | (cases hz; done) | skip
  · rename_i x
    cases (show v = .str x from h)
    simp only [cLen] at hz
    split at hz
    · rename_i hl
      cases hz
      exact .inr (.inl ⟨x, rfl, hl, hQ _ F H (Gr.refl ex) rfl⟩)
    · cases hz
  · rename_i ds
    obtain ⟨a, vs, rfl, h1, h2⟩ := h
    cases hz
    exact .inl ⟨a, vs, rfl, .inl (SqL.of h1), by rw [h2.length]; exact hQ _ F H (Gr.refl ex) rfl⟩
  · rename_i ds
    obtain ⟨a, vs, rfl, h1, h2⟩ := h
    cases hz
    exact .inl ⟨a, vs, rfl, .inr (SqT.of (ex _ _ h1)), by rw [h2.length]; exact hQ _ F H (Gr.refl ex) rfl⟩
  · rename_i ns
    obtain ⟨a, rfl, h1⟩ := scr_sq (ct := ct) ex h
    cases hz
    exact .inl ⟨a, _, rfl, .inl h1, by rw [List.length_map]; exact hQ _ F H (Gr.refl ex) rfl⟩
  · rename_i kvs
    obtain ⟨a, vs, rfl, h1, h2⟩ := h
    cases hz
    exact .inr (.inr ⟨a, vs, rfl, h1, by rw [repK_len h2]; exact hQ _ F H (Gr.refl ex) rfl⟩)
def cMax2 : List D → Option D
  | [.int i, .int j] => some (.int (if j > i then j else i))
  | _ => none
def cMin2 : List D → Option D
  | [.int i, .int j] => some (.int (if j < i then j else i))
  | _ => none
theorem spc_int2 {m1 m2 : Bool} {op : List D → Option D} {g : Int → Int → Int} (hop : ∀ ds z, op ds = some z → ∃ i j, ds = [.int i, .int j] ∧ z = .int (g i j)) : SpC K ct [m1, m2] (mR K ct) (fun xs H Q => ∃ i j, xs = [.int i, .int j] ∧ Q (.int (g i j)) H) op := by
  intro F H vs ds z Q ex hA hz hQ
  obtain ⟨i, j, rfl, rfl⟩ := hop ds z hz
  obtain ⟨d, e, v, w, q, rfl, h1, h2⟩ := args2 hA
  cases q
  have e1 : v = .int i := by cases m1 <;> exact h1
  have e2 : w = .int j := by cases m2 <;> exact h2
  subst e1 e2
  exact ⟨i, j, rfl, hQ _ F H (Gr.refl ex) rfl⟩
theorem spc_max2 {m1 m2 : Bool} : SpC K ct [m1, m2] (mR K ct) (fun xs H Q => ∃ i j, xs = [.int i, .int j] ∧ Q (.int (if j > i then j else i)) H) cMax2 := spc_int2 fun ds z h => by
  unfold cMax2 at h
  split at h
  · cases h; exact ⟨_, _, rfl, rfl⟩
  · cases h
theorem spc_min2 {m1 m2 : Bool} : SpC K ct [m1, m2] (mR K ct) (fun xs H Q => ∃ i j, xs = [.int i, .int j] ∧ Q (.int (if j < i then j else i)) H) cMin2 := spc_int2 fun ds z h => by
  unfold cMin2 at h
  split at h
  · cases h; exact ⟨_, _, rfl, rfl⟩
  · cases h
def cAbs : List D → Option D
  | [.int i] => some (.int (if i < 0 then -i else i))
  | _ => none
theorem spc_abs {m : Bool} : SpC K ct [m] (mR K ct) (fun xs H Q => ∃ i, xs = [.int i] ∧ Q (.int (if i < 0 then -i else i)) H) cAbs := by
  intro F H vs ds z Q ex hA hz hQ
  obtain ⟨d, v, rfl, rfl, h⟩ := args1 hA
  cases d <;> first | (cases hz; done) | skip
  rename_i i
  have e : v = .int i := by cases m <;> exact h
  subst e
  cases hz
  exact ⟨i, rfl, hQ _ F H (Gr.refl ex) rfl⟩
def cInt : List D → Option D
  | [.int i] => some (.int i)
  | [.bl b] => some (.int (if b then 1 else 0))
  | _ => none
theorem spc_int {m : Bool} : SpC K ct [m] (mR K ct) (fun xs H Q => (∃ i, xs = [.int i] ∧ Q (.int i) H) ∨ ∃ k, xs = [.bl k] ∧ Q (.int (if k then 1 else 0)) H) cInt := by
  intro F H vs ds z Q ex hA hz hQ
  obtain ⟨d, v, rfl, rfl, h⟩ := args1 hA
  cases d <;> first | (cases hz; done) | skip
  · rename_i i
    have e : v = .bl i := by cases m <;> exact h
    subst e
    cases hz
    exact .inr ⟨i, rfl, hQ _ F H (Gr.refl ex) rfl⟩
  · rename_i i
    have e : v = .int i := by cases m <;> exact h
    subst e
    cases hz
    exact .inl ⟨i, rfl, hQ _ F H (Gr.refl ex) rfl⟩
/-- lists of flat things of one kind -/
def unInts : List D → Option (List Int)
  | [] => some []
  | .int i :: ds => (unInts ds).map fun r => i :: r
  | _ => none
def unBls : List D → Option (List Bool)
  | [] => some []
  | .bl i :: ds => (unBls ds).map fun r => i :: r
  | _ => none
def unStrs : List D → Option (List Str)
  | [] => some []
  | .str i :: ds => (unStrs ds).map fun r => i :: r
  | _ => none
theorem reps_ints {F : Hp} : ∀ {ds : List D} {vs : List V} {ns : List Int}, Reps K ct F ds vs → unInts ds = some ns → vs = ns.map V.int
  | [], vs, ns, h, e => by cases e; exact h
  | d :: ds, vs, ns, h, e => by
    obtain ⟨v, r, e1, e2, e3⟩ := h
    cases d <;> first | (cases e; done) | skip
    obtain ⟨r', q1, q2⟩ := Option.map_eq_some_iff.mp (show (unInts ds).map _ = some ns from e)
    subst e1 q2
    rw [reps_ints e3 q1, show v = _ from e2]; rfl
theorem reps_bls {F : Hp} : ∀ {ds : List D} {vs : List V} {ns : List Bool}, Reps K ct F ds vs → unBls ds = some ns → vs = ns.map V.bl
  | [], vs, ns, h, e => by cases e; exact h
  | d :: ds, vs, ns, h, e => by
    obtain ⟨v, r, e1, e2, e3⟩ := h
    cases d <;> first | (cases e; done) | skip
    obtain ⟨r', q1, q2⟩ := Option.map_eq_some_iff.mp (show (unBls ds).map _ = some ns from e)
    subst e1 q2
    rw [reps_bls e3 q1, show v = _ from e2]; rfl
theorem reps_strs {F : Hp} : ∀ {ds : List D} {vs : List V} {ns : List Str}, Reps K ct F ds vs → unStrs ds = some ns → vs = ns.map V.str
  | [], vs, ns, h, e => by cases e; exact h
  | d :: ds, vs, ns, h, e => by
    obtain ⟨v, r, e1, e2, e3⟩ := h
    cases d <;> first | (cases e; done) | skip
    obtain ⟨r', q1, q2⟩ := Option.map_eq_some_iff.mp (show (unStrs ds).map _ = some ns from e)
    subst e1 q2
    rw [reps_strs e3 q1, show v = _ from e2]; rfl
theorem reps_of_strs {F : Hp} : ∀ (ys : List Str), Reps K ct F (ys.map D.str) (ys.map V.str)
  | [] => rfl
  | y :: ys => ⟨.str y, ys.map V.str, rfl, rfl, reps_of_strs ys⟩
def cSum : List D → Option D
  | [.lst ds] => (unInts ds).map fun ns => .int ns.sum
  | _ => none
theorem spc_sum : SpC K ct [true] (mR K ct) (rSum K) cSum := by
  intro F H vs ds z Q ex hA hz hQ
  obtain ⟨d, v, rfl, rfl, h⟩ := args1 hA
  cases d <;> first | (cases hz; done) | skip
  rename_i ds
  obtain ⟨ns, q1, rfl⟩ := Option.map_eq_some_iff.mp (show (unInts ds).map _ = some z from hz)
  obtain ⟨a, vs, rfl, h1, h2⟩ := (show RepB K ct F H (.lst ds) v from h)
  have e := reps_ints h2 q1
  subst e
  exact ⟨a, ns, rfl, SqL.of h1, hQ _ F H (Gr.refl ex) rfl⟩
def cAny : List D → Option D
  | [.lst ds] => (unBls ds).map fun ns => .bl (ns.any id)
  | _ => none
def cAll : List D → Option D
  | [.lst ds] => (unBls ds).map fun ns => .bl (ns.all id)
  | _ => none
theorem spc_any : SpC K ct [true] (mR K ct) (rAny K) cAny := by
  intro F H vs ds z Q ex hA hz hQ
  obtain ⟨d, v, rfl, rfl, h⟩ := args1 hA
  cases d <;> first | (cases hz; done) | skip
  rename_i ds
  obtain ⟨ns, q1, rfl⟩ := Option.map_eq_some_iff.mp (show (unBls ds).map _ = some z from hz)
  obtain ⟨a, vs, rfl, h1, h2⟩ := (show RepB K ct F H (.lst ds) v from h)
  have e := reps_bls h2 q1
  subst e
  exact ⟨a, ns, rfl, SqL.of h1, hQ _ F H (Gr.refl ex) rfl⟩
theorem spc_all : SpC K ct [true] (mR K ct) (rAll K) cAll := by
  intro F H vs ds z Q ex hA hz hQ
  obtain ⟨d, v, rfl, rfl, h⟩ := args1 hA
  cases d <;> first | (cases hz; done) | skip
  rename_i ds
  obtain ⟨ns, q1, rfl⟩ := Option.map_eq_some_iff.mp (show (unBls ds).map _ = some z from hz)
  obtain ⟨a, vs, rfl, h1, h2⟩ := (show RepB K ct F H (.lst ds) v from h)
  have e := reps_bls h2 q1
  subst e
  exact ⟨a, ns, rfl, SqL.of h1, hQ _ F H (Gr.refl ex) rfl⟩
/-- list(..) of a list, a tuple, the script -/
def cList : List D → Option D
  | [.lst ds] => some (.lst ds)
  | [.tup ds] => some (.lst ds)
  | [.scr ns] => some (.lst (ns.map .int))
  | _ => none
theorem spc_list : SpC K ct [true] (mN K ct) (fun xs H Q => ∃ p ys, xs = [.ref p] ∧ (SqL K H p ys ∨ SqT K H p ys) ∧ ∀ l, H l = none → Q (.ref l) (upd H l (.lst ys))) cList := by
  intro F H vs ds z Q ex hA hz hQ
  obtain ⟨d, v, rfl, rfl, h⟩ := args1 hA
  replace h : RepB K ct F H d v := h
  cases d <;> first | (cases hz; done) | skip
  · rename_i ds
    obtain ⟨a, vs, rfl, h1, h2⟩ := h
    cases hz
    exact ⟨a, vs, rfl, .inl (SqL.of h1), fun p hp => hQ _ F _ (Gr.own ex hp) ⟨p, rfl, hp, Ex.free ex hp, vs, upd_same, h2⟩⟩
  · rename_i ds
    obtain ⟨a, vs, rfl, h1, h2⟩ := h
    cases hz
    exact ⟨a, vs, rfl, .inr (SqT.of (ex _ _ h1)), fun p hp => hQ _ F _ (Gr.own ex hp) ⟨p, rfl, hp, Ex.free ex hp, vs, upd_same, h2⟩⟩
  · rename_i ns
    obtain ⟨a, rfl, h1⟩ := scr_sq (ct := ct) ex h
    cases hz
    exact ⟨a, _, rfl, .inl h1, fun p hp => hQ _ F _ (Gr.own ex hp) ⟨p, rfl, hp, Ex.free ex hp, _, upd_same, Reps.ints⟩⟩
/-- texts in their order -/
def leS (x y : Str) : Bool := !ltCps y.cps.toList x.cps.toList
def srt (xs : List Str) : List Str := xs.mergeSort leS
theorem leS_iff {x y : Str} : leS x y = true ↔ x.cps.toList ≤ y.cps.toList := by
  unfold leS
  rw [ltCps_eq, Bool.not_eq_true', decide_eq_false_iff_not]
  exact List.not_lt
theorem leS_trans {x y z : Str} (h1 : leS x y = true) (h2 : leS y z = true) : leS x z = true := leS_iff.mpr (List.le_trans (leS_iff.mp h1) (leS_iff.mp h2))
theorem leS_total (x y : Str) : (leS x y || leS y x) = true := by
  rcases List.le_total x.cps.toList y.cps.toList with h | h
  · rw [leS_iff.mpr h]; rfl
  · rw [leS_iff.mpr h, Bool.or_true]
theorem leS_antisymm {x y : Str} (h1 : leS x y = true) (h2 : leS y x = true) : x = y := TL.ext_tl (List.le_antisymm (leS_iff.mp h1) (leS_iff.mp h2))
theorem rising_pw : ∀ {r : List Str} {p : Str}, risingS p r = true → (p :: r).Pairwise fun a b => leS a b = true
  | [], p, _ => by simp
  | x :: r, p, h => by
    obtain ⟨h1, h2⟩ := Bool.and_eq_true_iff.mp (show (!ltCps x.cps.toList p.cps.toList && risingS x r) = true from h)
    have ih := rising_pw h2
    refine List.pairwise_cons.mpr ⟨fun y hy => ?_, ih⟩
    rcases List.mem_cons.mp hy with rfl | hy
    · exact h1
    · exact leS_trans (show leS p x = true from h1) ((List.pairwise_cons.mp ih).1 y hy)
theorem sortedS_pw : ∀ {ys : List Str}, sortedS ys = true → ys.Pairwise fun a b => leS a b = true
  | [], _ => .nil
  | x :: r, h => rising_pw h
theorem srt_eq {ys xs : List Str} (hp : ys.Perm xs) (h : sortedS ys = true) : ys = srt xs :=
  List.Perm.eq_of_pairwise (fun x y _ _ h1 h2 => leS_antisymm h1 h2) (sortedS_pw h) (List.pairwise_mergeSort (le := leS) (fun _ _ _ => leS_trans) leS_total xs) (hp.trans (List.mergeSort_perm xs leS).symm)
def unKeys {β : Type} : List (Key × β) → Option (List Str)
  | [] => some []
  | (.inr x, _) :: r => (unKeys r).map fun ks => x :: ks
  | _ => none
theorem repK_keys {F : Hp} : ∀ {kvs : List (Key × D)} {vs : List (Key × V)} {ks : List Str}, RepK K ct F kvs vs → unKeys kvs = some ks → vs.map (·.1) = ks.map Sum.inr
  | [], vs, ks, h, e => by cases e; rw [show vs = [] from h]; rfl
  | (.inl _, d) :: kvs, vs, ks, h, e => by cases e
  | (.inr x, d) :: kvs, vs, ks, h, e => by
    obtain ⟨v, r, e1, e2, e3⟩ := h
    obtain ⟨ks', q1, q2⟩ := Option.map_eq_some_iff.mp (show (unKeys kvs).map _ = some ks from e)
    subst e1 q2
    rw [List.map_cons, List.map_cons, repK_keys e3 q1]
/-- sorted of a list of texts, of a dict with text keys -/
def cSorted : List D → Option D
  | [.lst ds] => (unStrs ds).bind fun xs => if xs.length < 64 then some (.lst ((srt xs).map .str)) else none
  | [.dk kvs] => (unKeys kvs).bind fun xs => if xs.length < 64 then some (.lst ((srt xs).map .str)) else none
  | _ => none
abbrev rSorted1 (K : PySem.W.Frag) : List V → Hp → VK → Prop := fun xs H Q => rSortedS K xs H Q ∨ (∃ (a : Addr) (kvs : List (Key × V)) (ks : List Str), xs = [.ref a] ∧ Rd H a (.dK kvs) ∧ kvs.map (·.1) = ks.map Sum.inr ∧ ks.length < 64 ∧
    ∀ ys p, ys.Perm ks → sortedS ys = true → H p = none → Q (.ref p) (upd H p (.lst (ys.map V.str))))
theorem call_sorted1 (hc : X.calm = true) : CallR X (.builtin "sorted") (rSorted1 X.K) := cr_sortedS.or (call_sortedD hc)
theorem spc_sorted : SpC K ct [true] (mN K ct) (rSorted1 K) cSorted := by
  intro F H vs ds z Q ex hA hz hQ
  obtain ⟨d, v, rfl, rfl, h⟩ := args1 hA
  replace h : RepB K ct F H d v := h
  have fin : ∀ (xs : List Str) (ys : List Str) (p : Addr), z = .lst ((srt xs).map .str) → ys.Perm xs → sortedS ys = true → H p = none → Q (.ref p) (upd H p (.lst (ys.map V.str))) := fun xs ys p ez h1 h2 hp => by
    rw [srt_eq h1 h2]
    exact hQ _ F _ (Gr.own ex hp) (by rw [ez]; exact ⟨p, rfl, hp, Ex.free ex hp, _, upd_same, reps_of_strs _⟩)
  cases d <;> first | (cases hz; done) | skip
  · rename_i ds
    obtain ⟨xs, q1, q2⟩ := Option.bind_eq_some_iff.mp (show ((unStrs ds).bind fun xs => if xs.length < 64 then some (D.lst ((srt xs).map .str)) else none) = some z from hz)
    split at q2
    · rename_i hl
      obtain ⟨a, vs, rfl, h1, h2⟩ := h
      have e := reps_strs h2 q1
      subst e
      cases q2
      exact .inl ⟨a, xs, rfl, SqL.of h1, hl, fun ys p hp hs hn => fin xs ys p rfl hp hs hn⟩
    · cases q2
  · rename_i kvs
    obtain ⟨xs, q1, q2⟩ := Option.bind_eq_some_iff.mp (show ((unKeys kvs).bind fun xs => if xs.length < 64 then some (D.lst ((srt xs).map .str)) else none) = some z from hz)
    split at q2
    · rename_i hl
      obtain ⟨a, vs, rfl, h1, h2⟩ := h
      cases q2
      exact .inr ⟨a, vs, xs, rfl, h1, repK_keys h2 q1, hl, fun ys p hp hs hn => fin xs ys p rfl hp hs hn⟩
    · cases q2
end

/-! ### displays -/
section
variable {X : Cx} {ct : Nat → Addr} {W : WX} {a b e : Expr} {es : List Expr} {f g : SE} {fs : SA} {pos p : Pos}
def sTup (fs : SA) : SE := fun env => bndA (fs env) fun ds => if ds.length ≤ sizeLine then .ok (.tup ds) else .st
def sLst (fs : SA) : SE := fun env => bndA (fs env) fun ds => if ds.length ≤ sizeLine then .ok (.lst ds) else .st
theorem args_reps {K : PySem.W.Frag} {F H : Hp} : ∀ {n : Nat} {ds : List D} {vs : List V}, ArgsRep K ct F H (List.replicate n false) ds vs → Reps K ct F ds vs
  | 0, _, _, h => by rw [h.1, h.2]; exact rfl
  | n + 1, _, _, ⟨d, ds', v, vs', e1, e2, h, r⟩ => by
    subst e1 e2
    exact ⟨v, vs', rfl, h, args_reps (n := n) r⟩
theorem e_tup {k : Nat} (n : Nat) (h : PA X es (tA X.K ct W (List.replicate n false) fs)) : PE X (.Tuple es k pos) (ER X.K ct W (sTup fs)) := by
  refine (pe_tup h).imp fun σ H Q ⟨env, F, E, h⟩ => ?_
  refine fin_bindA E h fun ds vs F1 H1 g1 r1 E1 h => ?_
  have rr := args_reps r1
  have h : Fin X.K ct W (mR X.K ct) F H σ (if ds.length ≤ sizeLine then .ok (.tup ds) else .st) Q := h
  split at h
  · rename_i hl
    refine ⟨by rw [rr.length]; exact hl, fun p hp => ?_⟩
    have g2 := Gr.new E1.ex (o := .tup vs) hp
    exact h _ _ _ (g1.trans g2) ⟨p, vs, rfl, upd_same, Reps.mono (Ex.le g2.f) _ _ rr⟩
  · exact h.elim
theorem e_lst {k : Nat} (n : Nat) (h : PA X es (tA X.K ct W (List.replicate n false) fs)) : PE X (.List es pos) (EN X.K ct W (sLst fs)) := by
  refine (pe_lst h).imp fun σ H Q ⟨env, F, E, h⟩ => ?_
  refine fin_bindA E h fun ds vs F1 H1 g1 r1 E1 h => ?_
  have rr := args_reps r1
  have h : Fin X.K ct W (mN X.K ct) F H σ (if ds.length ≤ sizeLine then .ok (.lst ds) else .st) Q := h
  split at h
  · rename_i hl
    refine ⟨by rw [rr.length]; exact hl, fun p hp => ?_⟩
    have g2 := Gr.own E1.ex (o := .lst vs) hp
    exact h _ _ _ (g1.trans g2) ⟨p, rfl, Ex.free g1.h hp, Ex.free E1.ex hp, vs, upd_same, rr⟩
  · exact h.elim
theorem e_dnewK : PE X (.Dict [] [] pos) (EN X.K ct W (sC (.dk []))) := pe_dnewK.imp fun σ H Q ⟨env, F, E, h⟩ p hp => h _ F _ (Gr.own E.ex hp) ⟨p, rfl, hp, Ex.free E.ex hp, [], upd_same, rfl⟩
theorem e_dnewT : PE X (.Dict [] [] pos) (EN X.K ct W (sC (.dt []))) := pe_dnewT.imp fun σ H Q ⟨env, F, E, h⟩ p hp => h _ F _ (Gr.own E.ex hp) ⟨p, rfl, hp, Ex.free E.ex hp, [], upd_same, rfl⟩
/-- {k: v} -/
def sDisp1 (f g : SE) : SE := fun env => bnd (f env) fun k => bnd (g env) fun v => match keyD k with
  | some k => .ok (.dk [(k, v)])
  | none => .st
theorem e_disp1 (ha : PE X a (ER X.K ct W f)) (hb : PE X b (ER X.K ct W g)) : PE X (.Dict [some a] [b] pos) (EN X.K ct W (sDisp1 f g)) := by
  refine (pe_disp (pps_cons ha hb pps_nil) rfl rfl (by simp) (by simp)).imp fun σ H Q ⟨env, F, E, h⟩ p hp => ?_
  have g0 : Gr F H F (upd H p (.dK [])) := Gr.own E.ex hp
  have E0 := E.gr g0
  have hp0 : F p = none := Ex.free E.ex hp
  refine ⟨env, F, E0, ?_⟩
  unfold sDisp1 at h
  cases e1 : f env with
  | er c fs => rw [e1] at h; exact fun dx F' H' g' x => h dx F' H' (g0.trans g') x
  | st => rw [e1] at h; exact h.elim
  | ok k =>
    rw [e1] at h
    intro x F1 H1 g1 r1
    refine ⟨env, F1, E0.gr g1, ?_⟩
    cases e2 : g env with
    | er c fs => rw [e2] at h; exact fun dx F' H' g' x => h dx F' H' ((g0.trans g1).trans g') x
    | st => rw [e2] at h; exact h.elim
    | ok v =>
      rw [e2] at h
      intro y F2 H2 g2 r2
      have h : Fin X.K ct W (mN X.K ct) F H σ (match keyD k with | some k => .ok (.dk [(k, v)]) | none => .st) Q := h
      cases q : keyD k with
      | none => rw [q] at h; exact h.elim
      | some kk =>
        rw [q] at h
        have hpe : H2 p = some (.dK []) := g2.h _ _ (g1.h _ _ upd_same)
        have ek : x = kV kk := rep_key r1 q
        subst ek
        have g3 := (g0.trans g1).trans g2
        have hp2 : F2 p = none := by
          cases z : F2 p with
          | none => rfl
          | some o =>
            rcases g2.n p o z with z | z
            · rcases g1.n p o z with z | z
              · rw [hp0] at z; cases z
              · rw [upd_same] at z; cases z
            · rw [g1.h _ _ upd_same] at z; cases z
        have em : mergeK [] [(kk, y)] = [(kk, y)] := by simp [mergeK, putK]
        refine ⟨hpe, [(kk, y)], rfl, by simp, ?_⟩
        rw [em]
        refine h _ F2 _ ⟨g3.f, fun a o z => by rw [upd_ne (ne_of_none z hp)]; exact g3.h a o z, fun a o z => by rw [upd_ne (ne_of_none z hp2)]; exact g3.e a o z, g3.n⟩ ⟨p, rfl, hp, hp2, _, upd_same, y, [], rfl, r2, rfl⟩
end
end Ps

namespace Ps
open PySem PySem.Spec PyProof.Rows L2

section
variable {X : Cx} {ct : Nat → Addr} {W : WX} {a b e o : Expr} {es : List Expr} {f g : SE} {fs : SA} {pos p apos cpos : Pos}

/-! ### a text's methods with one argument -/
/-- T.m(e): the receiver a text, the argument read where it stands -/
def SpM (K : PySem.W.Frag) (ct : Nat → Addr) (r : V → List V → Hp → VK → Prop) (op : D → D → Option D) : Prop := ∀ F H x y d e z Q, Ex F H → RepB K ct F H d x → RepB K ct F H e y → op d e = some z → (∃ s, x = .str s) ∧ ((∀ v F' H', Gr F H F' H' → Rep K ct F' z v → Q v H') → r x [y] H Q)
/-- the receiver must be a text -/
def isStrD : D → Bool
  | .str _ => true
  | _ => false
def sM1 (op : D → D → Option D) (f g : SE) : SE := fun env => bnd (f env) fun d => if isStrD d then bnd (g env) fun e => ofO (op d e) else .st
theorem e_m1 {id : String} {name : Str} {r : V → List V → Hp → VK → Prop} {op : D → D → Option D} (slot : Slot "str" name id) (ty : typeOf (.builtin id) = pure (.type "method_descriptor")) (rule : MtR X id r) (hs : SpM X.K ct r op)
    (ho : PE X o (EB X.K ct W f)) (he : PE X e (EB X.K ct W g)) (h1 : starEach [e] X.env = [(false, eval e X.env)] := by rfl) (hbase : attributeBase o name X.env (eval o X.env) = eval o X.env := by rfl) (hline : (apos.endLine == pos.line) = true := by rfl) :
    PE X (.Call (.Attribute o name apos) [e] [] pos) (ER X.K ct W (sM1 op f g)) := by
  refine (pe_m1 slot ty rule ho he h1 hbase hline).imp fun σ H Q ⟨env, F, E, h⟩ => ?_
  refine fin_bind E h rfl fun d x F1 H1 e1 g1 r1 E1 h => ?_
  cases d <;> first | exact h.elim | skip
  rename_i z
  refine ⟨⟨z, r1⟩, ?_⟩
  have h1 := fin_after (M := mR X.K ct) g1 (fun _ _ _ _ m => m) h
  refine fin_bind (k := fun e => ofO (op (.str z) e)) E1 h1 rfl fun e y F2 H2 e2 g2 r2 E2 h => ?_
  cases q : op (.str z) e with
  | none => rw [q] at h; exact h.elim
  | some w =>
    rw [q] at h
    exact (hs F2 H2 x y (.str z) e w Q E2.ex r1 r2 q).2 fun v F' H' g3 m => h v F' H' (g2.trans g3) m
def mJoin : D → D → Option D
  | .str a, .lst ds => (unStrs ds).bind fun ys => if (ys.map (·.length)).sum + ys.length * a.length ≤ 16777216 then some (.str (Txt.join a ys)) else none
  | _, _ => none
theorem spm_join {K : PySem.W.Frag} : SpM K ct (fun x xs H Q => ∃ a p, ∃ ys : List Str, x = .str a ∧ xs = [.ref p] ∧ (SqL K H p (ys.map V.str) ∨ SqT K H p (ys.map V.str)) ∧
    (ys.map (·.length)).sum + ys.length * a.length ≤ 16777216 ∧ Q (.str (Txt.join a ys)) H) mJoin := by
  intro F H x y d e z Q ex hx hy hz
  cases d <;> cases e <;> first | (cases hz; done) | skip
  rename_i s ds
  cases (show x = .str s from hx)
  refine ⟨⟨s, rfl⟩, fun hQ => ?_⟩
  obtain ⟨ys, q1, q2⟩ := Option.bind_eq_some_iff.mp (show ((unStrs ds).bind fun ys => if (ys.map (·.length)).sum + ys.length * s.length ≤ 16777216 then some (D.str (Txt.join s ys)) else none) = some z from hz)
  split at q2
  · rename_i hl
    obtain ⟨a, vs, rfl, h1, h2⟩ := (show RepB K ct F H (.lst ds) y from hy)
    have ev := reps_strs h2 q1
    subst ev
    cases q2
    exact ⟨s, a, ys, rfl, rfl, .inl (SqL.of h1), hl, hQ _ F H (Gr.refl ex) rfl⟩
  · cases q2
theorem spm_str2 {K : PySem.W.Frag} {g2 : Str → Str → V} {op : D → D → Option D} (hop : ∀ d e z, op d e = some z → ∃ a b, d = .str a ∧ e = .str b ∧ cV z = some (g2 a b)) :
    SpM K ct (fun x xs H Q => ∃ a b, x = .str a ∧ xs = [.str b] ∧ Q (g2 a b) H) op := by
  intro F H x y d e z Q ex hx hy hz
  obtain ⟨a, b, rfl, rfl, hv⟩ := hop d e z hz
  cases (show x = .str a from hx)
  cases (show y = .str b from hy)
  refine ⟨⟨a, rfl⟩, fun hQ => ⟨a, b, rfl, rfl, hQ _ F H (Gr.refl ex) ?_⟩⟩
  cases z <;> first | (cases hv; done) | (injection hv with hv; exact hv.symm)
def mCount : D → D → Option D
  | .str a, .str b => some (.int (Txt.count a b))
  | _, _ => none
def mStartswith : D → D → Option D
  | .str a, .str b => some (.bl (Txt.startswith a b))
  | _, _ => none
def mEndswith : D → D → Option D
  | .str a, .str b => some (.bl (Txt.endswith a b))
  | _, _ => none
def mFind : D → D → Option D
  | .str a, .str b => some (.int (Txt.find a b))
  | _, _ => none
theorem spm_count {K : PySem.W.Frag} : SpM K ct (fun x xs H Q => ∃ a b, x = .str a ∧ xs = [.str b] ∧ Q (.int (Txt.count a b)) H) mCount := spm_str2 (g2 := fun a b => .int (Txt.count a b)) fun d e z h => by
  cases d <;> cases e <;> cases h; exact ⟨_, _, rfl, rfl, rfl⟩
theorem spm_startswith {K : PySem.W.Frag} : SpM K ct (fun x xs H Q => ∃ a b, x = .str a ∧ xs = [.str b] ∧ Q (.bl (Txt.startswith a b)) H) mStartswith := spm_str2 (g2 := fun a b => .bl (Txt.startswith a b)) fun d e z h => by
  cases d <;> cases e <;> cases h; exact ⟨_, _, rfl, rfl, rfl⟩
theorem spm_endswith {K : PySem.W.Frag} : SpM K ct (fun x xs H Q => ∃ a b, x = .str a ∧ xs = [.str b] ∧ Q (.bl (Txt.endswith a b)) H) mEndswith := spm_str2 (g2 := fun a b => .bl (Txt.endswith a b)) fun d e z h => by
  cases d <;> cases e <;> cases h; exact ⟨_, _, rfl, rfl, rfl⟩
theorem spm_find {K : PySem.W.Frag} : SpM K ct (fun x xs H Q => ∃ a b, x = .str a ∧ xs = [.str b] ∧ Q (.int (Txt.find a b)) H) mFind := spm_str2 (g2 := fun a b => .int (Txt.find a b)) fun d e z h => by
  cases d <;> cases e <;> cases h; exact ⟨_, _, rfl, rfl, rfl⟩

/-! ### calls of own defs -/
def mF (K : PySem.W.Frag) (ct : Nat → Addr) (fr : Bool) : Md := if fr then mN K ct else mR K ct
theorem mF_ok {K : PySem.W.Frag} {fr : Bool} : MdOk (mF K ct fr) := by
  cases fr with
  | true => exact mN_ok
  | false => exact mR_ok
def spP (K : PySem.W.Frag) (ct : Nat → Addr) (ms : List Bool) (fr : Bool) (m : List D → R) : Sp := fun vs H Q E => ∃ F ds, Ex F H ∧ ArgsRep K ct F H ms ds vs ∧ match m ds with
  | .ok d => ∀ v F' H', Gr F H F' H' → mF K ct fr H F' H' d v → Q v H'
  | .er c fs => ∀ dx F' H', Gr F H F' H' → ExcOk K ct F' dx fs → E (.ref (ct c)) dx H'
  | .st => False
theorem spP_len {K : PySem.W.Frag} {ms : List Bool} {fr : Bool} {m : List D → R} {vs : List V} {H : Hp} {Q : VK} {E : XK} (h : spP K ct ms fr m vs H Q E) : vs.length = ms.length := by
  obtain ⟨F, ds, _, h, _⟩ := h
  exact h.length
/-- a def of the text, for calls -/
structure Cal (P : Program) (w : World) (K : PySem.W.Frag) (mg : Str → Option Value) (base : Heap) (k : Nat) (f : Addr) (sp : Sp) : Prop where
  ex : ∃ fd ps, FnOk P w K mg base (L2.CX P w) k f fd ps sp ∧ Binds K fd ps []
  kp : PySem.W.keepIn K (.ref f) = true
def sFn (m : List D → R) (fs : SA) : SE := fun env => bndA (fs env) m
theorem tcall {K : PySem.W.Frag} {ms : List Bool} {fr : Bool} {m : List D → R} {σ : L2.St} {H : Hp} {Q : VK} (h : tM K ct W (mF K ct fr) (sFn m fs) σ H Q) :
    tA K ct W ms fs σ H fun vs H1 => spP K ct ms fr m vs H1 Q (WE W σ) := by
  obtain ⟨env, F, E, h⟩ := h
  refine fin_bindA E h fun ds vs F1 H1 g1 r1 E1 h => ⟨F1, ds, E1.ex, r1, ?_⟩
  cases q : m ds with
  | ok d => rw [q] at h; exact fun v F' H' g r => h v F' H' (g1.trans g) (mF_ok _ _ _ _ _ _ g1.h r)
  | er c fs => rw [q] at h; exact fun dx F' H' g x => h dx F' H' (g1.trans g) x
  | st => rw [q] at h; exact h
theorem e_call {k j : Nat} {x : Str} {fa : Addr} {ms : List Bool} {fr : Bool} {m : List D → R} (c : Cal X.prog X.w X.K X.mg X.base k fa (spP X.K ct ms fr m)) (hm : X.mg x = some (.ref fa)) (tk : Takes X W) (hr : Room j X.A) (hk : k ≤ j) (hg : Gl X x)
    (ha : PA X (e :: es) (tA X.K ct W ms fs)) (hdb : (x == ("__debug__" : Str)) = false := by decide) (he : starEach (e :: es) X.env = (false, eval e X.env) :: starEach es X.env := by rfl) (hpl : (backTo pos (starEach es X.env)).any (·.1) = false := by rfl) :
    PE X (.Call (.Name x p) (e :: es) [] pos) (tM X.K ct W (mF X.K ct fr) (sFn m fs)) := by
  obtain ⟨⟨fd, ps, F, b⟩, kp⟩ := c
  exact (pe_callSD F (hr.mono hk) hg hm kp b .nil (fun σ => passAt tk σ) ha hdb he hpl).imp fun σ H Q h => by
    have q := tcall (ms := ms) h
    show tA X.K ct W ms fs σ H fun vs H1 => spP X.K ct ms fr m (vs ++ []) H1 Q (WE W σ)
    simpa using q
/-! ### a new instance -/
/-- what an __init__ comes to: the attributes -/
inductive RI where
  | ok (fs : List (Str × D)) | er (c : Nat) (fs : List (Str × D)) | st
/-- __init__ of class c: the new instance first -/
def spI (K : PySem.W.Frag) (ct : Nat → Addr) (c : Nat) (ms : List Bool) (m : List D → RI) : Sp := fun vs H Q E => ∃ F ds x dx vs', vs = .ref x :: vs' ∧ Ex F H ∧ F x = none ∧ H x = some (.ins (ct c) dx []) ∧ ArgsRep K ct F H ms ds vs' ∧ (∀ v ∈ vs', v ≠ .ref x) ∧ match m ds with
  | .ok fs => ∀ F' H' dx' fvs, Ex F F' → Ex F' H' → (∀ a o, H a = some o → a ≠ x → H' a = some o) → (∀ a o, F' a = some o → F a = some o ∨ H a = none) → H' x = some (.ins (ct c) dx' fvs) → Nms c fvs → RepF K ct F' fs fvs → Q .non H'
  | .er c fs => ∀ dx F' H', Ex F F' → Ex F' H' → (∀ a o, H a = some o → a ≠ x → H' a = some o) → (∀ a o, F' a = some o → F a = some o ∨ H a = none) → ExcOk K ct F' dx fs → E (.ref (ct c)) dx H'
  | .st => False
theorem spI_len {K : PySem.W.Frag} {c : Nat} {ms : List Bool} {m : List D → RI} {vs : List V} {H : Hp} {Q : VK} {E : XK} (h : spI K ct c ms m vs H Q E) : vs.length = ms.length + 1 := by
  obtain ⟨F, ds, x, dx, vs', rfl, _, _, _, h, _⟩ := h
  rw [List.length_cons, h.length]
def sMk (c : Nat) (m : List D → RI) (fs : SA) : SE := fun env => bndA (fs env) fun ds => if ds.all noScr then (match m ds with
  | .ok gs => .ok (.obj c gs)
  | .er _ _ => .st
  | .st => .st) else .st
theorem rd_there {H : Hp} {a : Addr} {u : HO} (h : Rd H a u) : ∃ o, H a = some o := by
  rcases h with h | ⟨o, h⟩
  · exact ⟨_, h⟩
  · exact ⟨_, h⟩
theorem repB_there {K : PySem.W.Frag} {F H : Hp} (ex : Ex F H) {d : D} {a : Addr} (n : noScr d = true) (h : RepB K ct F H d (.ref a)) : ∃ o, H a = some o := by
  cases d <;> first | (cases h; done) | (cases n; done) | skip
  · obtain ⟨b, vs, e, h1, _⟩ := h; cases e; exact ⟨_, h1⟩
  · obtain ⟨b, vs, e, h1, _⟩ := h; cases e; exact ⟨_, ex _ _ h1⟩
  · obtain ⟨b, vs, e, h1, _⟩ := h; cases e; exact rd_there h1
  · obtain ⟨b, vs, e, h1, _⟩ := h; cases e; exact rd_there h1
  · obtain ⟨b, dx, vs, e, h1, _⟩ := h; cases e; exact ⟨_, h1⟩
  · obtain ⟨b, dx, e, h1, _⟩ := h; cases e; exact ⟨_, ex _ _ h1⟩
theorem args_ne {K : PySem.W.Frag} {F H : Hp} {x : Addr} (ex : Ex F H) (hx : H x = none) : ∀ {ms : List Bool} {ds : List D} {vs : List V}, ds.all noScr = true → ArgsRep K ct F H ms ds vs → ∀ v ∈ vs, v ≠ .ref x
  | [], _, _, _, h => by rw [h.2]; simp
  | m :: ms, _, _, n, ⟨d, ds', v, vs', e1, e2, h, r⟩ => by
    subst e1 e2
    obtain ⟨n1, n2⟩ := Bool.and_eq_true_iff.mp (by rw [List.all_cons] at n; exact n)
    intro w hw
    rcases List.mem_cons.mp hw with rfl | hw
    · intro e
      subst e
      have hb : RepB K ct F H d (.ref x) := by
        cases m with
        | true => exact h
        | false => exact Rep.b ex h
      obtain ⟨o, ho⟩ := repB_there ex n1 hb
      rw [hx] at ho; cases ho
    · exact args_ne ex hx n2 r w hw
theorem RepB.ext {K : PySem.W.Frag} {F H H' : Hp} (e : ∀ a o, H a = some o → H' a = some o) : ∀ {d : D} {v : V}, RepB K ct F H d v → RepB K ct F H' d v
  | .lst ds, v, h => by
    obtain ⟨a, vs, e1, e2, e3⟩ := h
    exact ⟨a, vs, e1, e _ _ e2, e3⟩
  | .dk ds, v, h => by
    obtain ⟨a, vs, e1, e2, e3⟩ := h
    exact ⟨a, vs, e1, Ex.rd e e2, e3⟩
  | .dt ds, v, h => by
    obtain ⟨a, vs, e1, e2, e3⟩ := h
    exact ⟨a, vs, e1, Ex.rd e e2, e3⟩
  | .obj c fs, v, h => by
    obtain ⟨a, dx, fvs, e1, e2, en, e3⟩ := h
    exact ⟨a, dx, fvs, e1, e _ _ e2, en, e3⟩
  | .non, _, h => h
  | .bl _, _, h => h
  | .int _, _, h => h
  | .str _, _, h => h
  | .tup _, _, h => h
  | .scr _, _, h => h
  | .exo _ _, _, h => h
theorem ArgsRep.ext {K : PySem.W.Frag} {F H H' : Hp} (e : ∀ a o, H a = some o → H' a = some o) : ∀ {ms : List Bool} {ds : List D} {vs : List V}, ArgsRep K ct F H ms ds vs → ArgsRep K ct F H' ms ds vs
  | [], _, _, h => h
  | m :: ms, _, _, ⟨d, ds', v, vs', e1, e2, h, r⟩ => ⟨d, ds', v, vs', e1, e2, by
      cases m with
      | true => exact RepB.ext e h
      | false => exact h, ArgsRep.ext e r⟩
theorem e_mk {k j : Nat} {x : Str} {fa : Addr} {ms : List Bool} {m : List D → RI} (c : Nat) (M : Mk X.K (ct c) fa) (cal : Cal X.prog X.w X.K X.mg X.base k fa (spI X.K ct c ms m)) (hm : X.mg x = some (.ref (ct c))) (tk : Takes X W) (hr : Room j X.A) (hk : k + 1 ≤ j) (hg : Gl X x)
    (ha : PA X (e :: es) (tA X.K ct W ms fs)) (hdb : (x == ("__debug__" : Str)) = false := by decide) (he : starEach (e :: es) X.env = (false, eval e X.env) :: starEach es X.env := by rfl) (hpl : (backTo pos (starEach es X.env)).any (·.1) = false := by rfl) :
    PE X (.Call (.Name x p) (e :: es) [] pos) (ER X.K ct W (sMk c m fs)) := by
  obtain ⟨⟨fd, ps, F, b⟩, kp⟩ := cal
  have base := pe_make (p := p) (E := E0) (ds := []) (dvs := []) M F (hr.mono hk) hg hm b .nil passL ha hdb he hpl
  refine base.imp fun σ H Q ⟨env, F0, E, h⟩ => ?_
  refine fin_bindA E h fun ds vs F1 H1 g1 r1 E1 h y dx hy hdx hne => ?_
  have h : Fin X.K ct W (mR X.K ct) F0 H σ (if ds.all noScr then (match m ds with | .ok gs => .ok (.obj c gs) | .er _ _ => .st | .st => .st) else .st) Q := h
  split at h
  · rename_i hns
    have hF : F1 y = none := Ex.free E1.ex hy
    have e2 : ∀ a o, H1 a = some o → (upd (upd H1 dx (.own y)) y (.ins (ct c) dx [])) a = some o := fun a o q => by
      rw [upd_ne (ne_of_none q hy), upd_ne (ne_of_none q hdx)]; exact q
    have e3 : Ex F1 (upd (upd H1 dx (.own y)) y (.ins (ct c) dx [])) := fun a o q => e2 a o (E1.ex a o q)
    refine ⟨F1, ds, y, dx, vs, by rw [List.append_nil], e3, hF, upd_same, r1.ext e2, args_ne E1.ex hy hns r1, ?_⟩
    have keep : ∀ {F' H' : Hp}, Ex F1 F' → Ex F' H' → (∀ a o, (upd (upd H1 dx (.own y)) y (.ins (ct c) dx [])) a = some o → a ≠ y → H' a = some o) → (∀ a o, F' a = some o → F1 a = some o ∨ (upd (upd H1 dx (.own y)) y (.ins (ct c) dx [])) a = none) → Gr F0 H F' H' := fun {F' H'} a1 a2 a3 a4 => by
      refine g1.trans ⟨a1, fun a o q => a3 a o (e2 a o q) (ne_of_none q hy), a2, fun a o q => ?_⟩
      rcases a4 a o q with z | z
      · exact .inl z
      · refine .inr ?_
        cases q2 : H1 a with
        | none => rfl
        | some u => rw [e2 a u q2] at z; cases z
    cases q : m ds with
    | ok gs =>
      rw [q] at h
      intro F' H' dx' fvs a1 a2 a3 a4 a5 a6 a7
      refine ⟨rfl, ?_⟩
      have g2 := keep a1 a2 a3 a4
      have hyH : H y = none := Ex.free g1.h hy
      exact h _ _ _ (g2.share E.ex hyH a5) ⟨y, dx', fvs, rfl, upd_same, a6, RepF.mono (Ex.le (Ex.new (by
        cases z : F' y with
        | none => rfl
        | some o =>
          rcases a4 y o z with z | z
          · rw [hF] at z; cases z
          · rw [upd_same] at z; cases z))) _ _ a7⟩
    | er c' fs' => rw [q] at h; exact h.elim
    | st => rw [q] at h; exact h
  · exact h.elim
end
end Ps

namespace Ps
open PySem PySem.Spec PyProof.Rows L2

/-! ### what is walked -/
def ItOk (K : PySem.W.Frag) (ct : Nat → Addr) (J : It) (ds : List D) (O : Addr → Prop) (F H : Hp) : Prop := ∃ (G : Hp → Prop) (Y : Nat → Hp → V → Hp → Prop), Walk J ds.length G Y ∧ (∀ H2, (∀ b o, H b = some o → ¬ O b → H2 b = some o) → G H2) ∧
  ∀ (i : Nat) d F1 H1 x H1', ds[i]? = some d → Ex F F1 → Ex F1 H1 → Y i H1 x H1' → ∃ F1', Gr F1 H1 F1' H1' ∧ Rep K ct F1' d x
theorem ItOk.mono {K : PySem.W.Frag} {ct : Nat → Addr} {J : It} {ds : List D} {O O' : Addr → Prop} {F H : Hp} (h : ItOk K ct J ds O F H) (hO : ∀ a, O' a → O a) : ItOk K ct J ds O' F H := by
  obtain ⟨G, Y, h1, h2, h3⟩ := h
  exact ⟨G, Y, h1, fun H2 k => h2 H2 fun b o q n => k b o q fun z => n (hO b z), h3⟩
abbrev OW := En → L2.St → Addr → Prop
def O1 : OW := Owns
def O0 : OW := fun _ _ _ => False
def tI (K : PySem.W.Frag) (ct : Nat → Addr) (W : WX) (O : OW) (f : SE) : TI := fun σ H R => ∃ env F, EnvOk K ct F H env σ ∧ match f env with
  | .ok (.lst ds) => ∀ J F' H', Gr F H F' H' → ItOk K ct J ds (O env σ) F' H' → R J H'
  | .ok _ => False
  | .er c fs => ∀ dx F' H', Gr F H F' H' → ExcOk K ct F' dx fs → W (.ref (ct c)) dx σ H'
  | .st => False
theorem _root_.L2.PI.imp {X : Cx} {tg e : Expr} {t t' : TI} (p : PI X tg e t) (h : ∀ σ H R, t' σ H R → t σ H R) : PI X tg e t' := ⟨fun pins s σ H R I q => p.run pins s σ H R I (h σ H R q)⟩
theorem _root_.L2.PI.or {X : Cx} {tg e : Expr} {t t' : TI} (p : PI X tg e t) (p' : PI X tg e t') : PI X tg e (fun σ H R => t σ H R ∨ t' σ H R) := ⟨fun pins s σ H R I q => by
  rcases q with q | q
  · exact p.run pins s σ H R I q
  · exact p'.run pins s σ H R I q⟩
section
variable {K : PySem.W.Frag} {ct : Nat → Addr} {W : WX} {F H : Hp} {env : En} {σ : L2.St} {O : OW}
theorem own_free (E : EnvOk K ct F H env σ) {a : Addr} (h : Owns env σ a) : F a = none ∧ ∃ o, H a = some o := by
  obtain ⟨i, s, e1, e2, e3⟩ := h
  cases s <;> first | (cases e2; done) | skip
  · obtain ⟨b, q1, q2⟩ := E.ow _ _ e1
    rw [e3] at q1; cases q1
    exact ⟨q2.free, q2.there⟩
  · obtain ⟨b, dx, fvs, q1, q2, q3, _⟩ := E.oo _ _ _ _ e1
    rw [e3] at q1; cases q1
    exact ⟨q2, _, q3⟩
  · obtain ⟨b, q1, q2⟩ := E.gh _ _ e1
    rw [e3] at q1; cases q1
    exact ⟨q2.free, q2.there⟩
theorem itok_sq {a : Addr} {vs : List V} {ds : List D} {O : Addr → Prop} (hs : ∀ H2, (∀ b o, H b = some o → ¬ O b → H2 b = some o) → SqL K H2 a vs) (hr : Reps K ct F ds vs) : ItOk K ct (Itl K a) ds O F H := by
  have w := walk_list (K := K) (a := a) (xs := vs)
  rw [hr.length] at w
  refine ⟨_, _, w, hs, fun i d F1 H1 x H1' e1 e2 e3 y => ?_⟩
  obtain ⟨rfl, y2⟩ := y
  obtain ⟨v, h1, h2⟩ := hr.get e1
  rw [y2] at h1; cases h1
  exact ⟨F1, Gr.refl e3, Rep.mono (Ex.le e2) _ _ h2⟩
theorem itok_tup {a : Addr} {vs : List V} {ds : List D} {O : Addr → Prop} (hs : ∀ H2, (∀ b o, H b = some o → ¬ O b → H2 b = some o) → SqT K H2 a vs) (hr : Reps K ct F ds vs) : ItOk K ct (Itt K a) ds O F H := by
  have w := walk_tup (K := K) (a := a) (xs := vs)
  rw [hr.length] at w
  refine ⟨_, _, w, hs, fun i d F1 H1 x H1' e1 e2 e3 y => ?_⟩
  obtain ⟨rfl, y2⟩ := y
  obtain ⟨v, h1, h2⟩ := hr.get e1
  rw [y2] at h1; cases h1
  exact ⟨F1, Gr.refl e3, Rep.mono (Ex.le e2) _ _ h2⟩
def sgn (c : Nat) : D := .str ⟨#[c]⟩
theorem itok_str {z : Str} {O : Addr → Prop} : ItOk K ct (Its z) (z.cps.toList.map sgn) O F H := by
  have w := walk_str (z := z)
  have e : z.cps.size = (z.cps.toList.map sgn).length := by simp
  rw [e] at w
  refine ⟨_, _, w, fun _ _ => True.intro, fun i d F1 H1 x H1' e1 e2 e3 y => ?_⟩
  obtain ⟨rfl, c, y2, rfl⟩ := y
  have : d = sgn c := by
    rw [List.getElem?_map] at e1
    obtain ⟨c', q1, q2⟩ := Option.map_eq_some_iff.mp e1
    have : z.cps.toList[i]? = some c := by simpa using y2
    rw [this] at q1; cases q1; exact q2.symm
  subst this
  exact ⟨F1, Gr.refl e3, rfl⟩
theorem itok_range {lo : Int} {n : Nat} {O : Addr → Prop} : ItOk K ct (Itr lo n) ((List.range n).map fun (i : Nat) => D.int (lo + (i : Int))) O F H := by
  have w := walk_range (lo := lo) (n := n)
  have e : n = ((List.range n).map fun (i : Nat) => D.int (lo + (i : Int))).length := by simp
  refine ⟨_, _, by rw [← e]; exact w, fun _ _ => True.intro, fun i d F1 H1 x H1' e1 e2 e3 y => ?_⟩
  obtain ⟨rfl, rfl⟩ := y
  rw [List.getElem?_map] at e1
  obtain ⟨c', q1, q2⟩ := Option.map_eq_some_iff.mp e1
  obtain ⟨hlt, q1⟩ := List.getElem?_eq_some_iff.mp q1
  rw [List.getElem_range] at q1
  subst q1 q2
  exact ⟨F1, Gr.refl e3, rfl⟩
theorem itok_rangeC {lo c : Int} {n : Nat} {O : Addr → Prop} : ItOk K ct (Itc lo c n) ((List.range n).map fun (i : Nat) => D.int (lo + (i : Int) * c)) O F H := by
  have w := walk_rangeC (lo := lo) (c := c) (n := n)
  have e : n = ((List.range n).map fun (i : Nat) => D.int (lo + (i : Int) * c)).length := by simp
  refine ⟨_, _, by rw [← e]; exact w, fun _ _ => True.intro, fun i d F1 H1 x H1' e1 e2 e3 y => ?_⟩
  obtain ⟨rfl, rfl⟩ := y
  rw [List.getElem?_map] at e1
  obtain ⟨c', q1, q2⟩ := Option.map_eq_some_iff.mp e1
  obtain ⟨hlt, q1⟩ := List.getElem?_eq_some_iff.mp q1
  rw [List.getElem_range] at q1
  subst q1 q2
  exact ⟨F1, Gr.refl e3, rfl⟩
def enumD : Nat → List D → List D
  | _, [] => []
  | k, d :: ds => .tup [.int k, d] :: enumD (k + 1) ds
theorem enumD_length : ∀ (k : Nat) (ds : List D), (enumD k ds).length = ds.length
  | _, [] => rfl
  | k, d :: ds => by unfold enumD; rw [List.length_cons, List.length_cons, enumD_length (k + 1) ds]
theorem enumD_get : ∀ (k : Nat) (ds : List D) (i : Nat), (enumD k ds)[i]? = (ds[i]?).map fun d => .tup [.int ((k + i : Nat) : Int), d]
  | _, [], i => by simp [enumD]
  | k, d :: ds, 0 => by simp [enumD]
  | k, d :: ds, i + 1 => by
    show (enumD (k + 1) ds)[i]? = _
    rw [enumD_get (k + 1) ds i]
    have : k + 1 + i = k + (i + 1) := by omega
    rw [this]; simp
theorem gr_tup2 {F1 H1 : Hp} {x y : V} {d e : D} {T : Addr} (ex : Ex F1 H1) (hT : H1 T = none) (hd : Rep K ct F1 d x) (he : Rep K ct F1 e y) : ∃ F1', Gr F1 H1 F1' (upd H1 T (.tup [x, y])) ∧ Rep K ct F1' (.tup [d, e]) (.ref T) := by
  have g := Gr.new ex (o := .tup [x, y]) hT
  exact ⟨_, g, T, [x, y], rfl, upd_same, x, [y], rfl, Rep.mono (Ex.le g.f) _ _ hd, y, [], rfl, Rep.mono (Ex.le g.f) _ _ he, rfl⟩
theorem itok_enum {a : Addr} {vs : List V} {ds : List D} {O : Addr → Prop} (hs : ∀ H2, (∀ b o, H b = some o → ¬ O b → H2 b = some o) → SqL K H2 a vs) (hr : Reps K ct F ds vs) : ItOk K ct (Ite K a) (enumD 0 ds) O F H := by
  have w := walk_enum (K := K) (a := a) (xs := vs)
  rw [hr.length, ← enumD_length 0 ds] at w
  refine ⟨_, _, w, hs, fun i d F1 H1 x H1' e1 e2 e3 y => ?_⟩
  obtain ⟨T, x1, x2, rfl, hT, rfl, y1, y2⟩ := y
  cases y1
  rw [enumD_get] at e1
  obtain ⟨d', q1, q2⟩ := Option.map_eq_some_iff.mp e1
  obtain ⟨v, h1, h2⟩ := hr.get q1
  have h1 : vs[i]? = some v := h1
  have y2 : vs[i]? = some x2 := y2
  rw [y2] at h1; cases h1
  subst q2
  exact gr_tup2 e3 hT (by show V.int (i : Int) = V.int ((0 + i : Nat) : Int); rw [Nat.zero_add]) (Rep.mono (Ex.le e2) _ _ h2)
end

section
variable {X : Cx} {ct : Nat → Addr} {W : WX} {a b e tg : Expr} {es : List Expr} {f : SE} {fs : SA} {pos p : Pos} {O : OW}
def itemsD : D → Option (List D)
  | .lst ds => some ds
  | .tup ds => some ds
  | .scr ns => some (ns.map .int)
  | .str z => some (z.cps.toList.map sgn)
  | _ => none
def sItems (f : SE) : SE := fun env => bnd (f env) fun d => match itemsD d with
  | some ds => .ok (.lst ds)
  | none => .st
/-- where the container is shared, its cell isn't owned; in a comprehension nothing is changed -/
def Fit (m : Bool) (O : OW) : Prop := m = true → ∀ env σ a, ¬ O env σ a
theorem fit1 : Fit false O1 := fun h => nomatch h
theorem fit0 : Fit true O0 := fun _ _ _ _ z => z
theorem keepL {K : PySem.W.Frag} {H0 F H : Hp} {env : En} {σ : L2.St} {m : Bool} {O : OW} (hO : ∀ env σ a, O env σ a → Owns env σ a) (fit : Fit m O) (E : EnvOk K ct F H env σ) {d : D} {x : V} {a : Addr} (hx : x = .ref a) (r : mX K ct m H0 F H d x) {o : HO} (ho : H a = some o) (hF : m = false → F a = some o) :
    ∀ H2 : Hp, (∀ b o, H b = some o → ¬ O env σ b → H2 b = some o) → H2 a = some o := fun H2 k => k a o ho fun z => by
  cases m with
  | true => exact fit rfl _ _ _ z
  | false =>
    have := (own_free E (hO _ _ _ z)).1
    rw [hF rfl] at this; cases this
theorem o1_own : ∀ env σ a, O1 env σ a → Owns env σ a := fun _ _ _ h => h
theorem o0_own : ∀ env σ a, O0 env σ a → Owns env σ a := fun _ _ _ h => h.elim
theorem i_any {m : Bool} (hO : ∀ env σ a, O env σ a → Owns env σ a) (fit : Fit m O) (he : PE X e (tM X.K ct W (mX X.K ct m) f)) : PI X tg e (tI X.K ct W O (sItems f)) := by
  refine ((pi_list he).or ((pi_tup he).or (pi_str he))).imp fun σ H RR ⟨env, F, E, h⟩ => ?_
  have er : ∀ {t : TE} {Q1 : VK}, t = tM X.K ct W (mX X.K ct m) f → (∀ d, f env = .ok d → ∀ v F' H', Gr F H F' H' → mX X.K ct m H F' H' d v → Q1 v H') → t σ H Q1 := fun {t Q1} et k => by
    subst et
    refine ⟨env, F, E, ?_⟩
    unfold sItems at h
    cases q : f env with
    | ok d => exact fun v F' H' g r => k d q v F' H' g r
    | er c fs => rw [q] at h; exact h
    | st => rw [q] at h; exact h.elim
  have go : ∀ d ds, f env = .ok d → itemsD d = some ds → ∀ J F' H', Gr F H F' H' → ItOk X.K ct J ds (O env σ) F' H' → RR J H' := fun d ds q1 q2 => by
    have h2 : (match sItems f env with | .ok (.lst ds) => ∀ J F' H', Gr F H F' H' → ItOk X.K ct J ds (O env σ) F' H' → RR J H' | .ok _ => False | .er c fs => ∀ dx F' H', Gr F H F' H' → ExcOk X.K ct F' dx fs → W (.ref (ct c)) dx σ H' | .st => False) := h
    have e : sItems f env = .ok (.lst ds) := by unfold sItems; rw [q1]; show (match itemsD d with | some ds => Ps.R.ok (D.lst ds) | none => Ps.R.st) = _; rw [q2]
    rw [e] at h2
    exact h2
  have hsh : ∀ {d : D} {v : V} {F' H' : Hp}, mX X.K ct m H F' H' d v → Ex F' H' → RepB X.K ct F' H' d v := fun {d v F' H'} r ex => by
    cases m with
    | true => exact r
    | false => exact Rep.b ex r
  cases q : f env with
  | er c fs => exact .inl (er rfl fun d e => by rw [q] at e; cases e)
  | st => exact .inl (er rfl fun d e => by rw [q] at e; cases e)
  | ok d =>
    have no : itemsD d = none → False := fun hn => by
      have h2 : (match sItems f env with | .ok (.lst ds) => ∀ J F' H', Gr F H F' H' → ItOk X.K ct J ds (O env σ) F' H' → RR J H' | .ok _ => False | .er c fs => ∀ dx F' H', Gr F H F' H' → ExcOk X.K ct F' dx fs → W (.ref (ct c)) dx σ H' | .st => False) := h
      have e : sItems f env = .st := by unfold sItems; rw [q]; show (match itemsD d with | some ds => Ps.R.ok (D.lst ds) | none => Ps.R.st) = _; rw [hn]
      rw [e] at h2
      exact h2
    cases d <;> first | exact (no rfl).elim | skip
    · rename_i z
      refine .inr (.inr (er rfl fun d e v F' H' g r => ?_))
      rw [q] at e; cases e
      have hv : v = .str z := by cases m <;> exact r
      subst hv
      exact ⟨z, rfl, go _ _ q rfl _ F' H' g itok_str⟩
    · rename_i ds
      refine .inl (er rfl fun d e v F' H' g r => ?_)
      rw [q] at e; cases e
      obtain ⟨a, vs, rfl, h1, h2⟩ := hsh r g.e
      have kp := keepL hO fit (E.gr g) rfl r h1 (fun hm => by
        subst hm
        obtain ⟨b, us, e1, e2, _⟩ := (show Rep X.K ct F' (.lst ds) (.ref a) from r)
        cases e1
        have := g.e _ _ e2
        rw [h1] at this; cases this; exact e2)
      exact ⟨a, rfl, ⟨vs, SqL.of h1⟩, go _ _ q rfl _ F' H' g (itok_sq (fun H2 k => SqL.of (kp H2 k)) h2)⟩
    · rename_i ds
      refine .inr (.inl (er rfl fun d e v F' H' g r => ?_))
      rw [q] at e; cases e
      have r2 : Rep X.K ct F' (.tup ds) v := by cases m <;> exact r
      obtain ⟨a, vs, rfl, h1, h2⟩ := r2
      refine ⟨a, rfl, ⟨vs, SqT.of (g.e _ _ h1)⟩, go _ _ q rfl _ F' H' g (itok_tup (fun H2 k => SqT.of (k a _ (g.e _ _ h1) fun z => ?_)) h2)⟩
      have := (own_free (E.gr g) (hO _ _ _ z)).1
      rw [h1] at this; cases this
    · rename_i ns
      refine .inl (er rfl fun d e v F' H' g r => ?_)
      rw [q] at e; cases e
      have r2 : Rep X.K ct F' (.scr ns) v := by cases m <;> exact r
      obtain ⟨a, rfl, h1⟩ := r2
      have st : ∀ H2, (∀ b o, H' b = some o → ¬ O env σ b → H2 b = some o) → SqL X.K H2 a (ns.map V.int) := fun H2 k => by
        rcases h1 with h1 | h1
        · have : ∀ o, F' a = some o → H2 a = some o := fun o ho => k a o (g.e _ _ ho) fun z => by
            have := (own_free (E.gr g) (hO _ _ _ z)).1
            rw [ho] at this; cases this
          rcases h1 with h1 | ⟨o, h1⟩
          · exact .inl (.inl (this _ h1))
          · exact .inl (.inr ⟨o, this _ h1⟩)
        · exact .inr h1
      refine ⟨a, rfl, ⟨_, st H' fun _ _ q _ => q⟩, go _ _ q rfl _ F' H' g (itok_sq st Reps.ints)⟩
/-- range -/
def inR (i : Int) : Bool := decide (-(2 ^ 62) ≤ i) && decide (i < 2 ^ 62)
def rng1 : List D → Option (List D)
  | [.int j] => if inR j then some ((List.range j.toNat).map fun (i : Nat) => D.int (0 + (i : Int))) else none
  | _ => none
def rng2 : List D → Option (List D)
  | [.int i, .int j] => if inR i && inR j then some ((List.range (j - i).toNat).map fun (k : Nat) => D.int (i + (k : Int))) else none
  | _ => none
def rng3 : List D → Option (List D)
  | [.int i, .int j, .int c] => if c ≠ 0 ∧ c.natAbs < 1073741824 ∧ Builtin.Range.small i j c = true ∧ 0 ≤ Builtin.Range.rangeSize i j c then some ((List.range (Builtin.Range.rangeSize i j c).toNat).map fun (k : Nat) => D.int (i + (k : Int) * c)) else none
  | _ => none
def sRng (r : List D → Option (List D)) (fs : SA) : SE := fun env => bndA (fs env) fun ds => match r ds with
  | some xs => .ok (.lst xs)
  | none => .st
theorem tI_args {ms : List Bool} {r : List D → Option (List D)} {σ : L2.St} {H : Hp} {RR : It → Hp → Prop} (h : tI X.K ct W O (sRng r fs) σ H RR) {Q1 : List V → Hp → Prop}
    (k : ∀ ds xs vs F' H', r ds = some xs → Ex F' H' → ArgsRep X.K ct F' H' ms ds vs → (∀ J, (∀ O, ItOk X.K ct J xs O F' H') → RR J H') → Q1 vs H') : tA X.K ct W ms fs σ H Q1 := by
  obtain ⟨env, F, E, h⟩ := h
  refine ⟨env, F, E, ?_⟩
  unfold sRng at h
  cases q : fs env with
  | er c fs => rw [q] at h; exact h
  | st => rw [q] at h; exact h.elim
  | ok ds =>
    rw [q] at h
    intro vs F' H' g ra
    cases q2 : r ds with
    | none =>
      have h2 : (match (match r ds with | some xs => Ps.R.ok (D.lst xs) | none => Ps.R.st) with | .ok (.lst ds) => ∀ J F' H', Gr F H F' H' → ItOk X.K ct J ds (O env σ) F' H' → RR J H' | .ok _ => False | .er c fs => ∀ dx F' H', Gr F H F' H' → ExcOk X.K ct F' dx fs → W (.ref (ct c)) dx σ H' | .st => False) := h
      rw [q2] at h2
      exact h2.elim
    | some xs =>
      have h2 : (match (match r ds with | some xs => Ps.R.ok (D.lst xs) | none => Ps.R.st) with | .ok (.lst ds) => ∀ J F' H', Gr F H F' H' → ItOk X.K ct J ds (O env σ) F' H' → RR J H' | .ok _ => False | .er c fs => ∀ dx F' H', Gr F H F' H' → ExcOk X.K ct F' dx fs → W (.ref (ct c)) dx σ H' | .st => False) := h
      rw [q2] at h2
      exact k ds xs vs F' H' q2 g.e ra fun J hJ => h2 J F' H' g (hJ _)
theorem inR_iff {i : Int} (h : inR i = true) : -(2 ^ 62) ≤ i ∧ i < 2 ^ 62 := by
  obtain ⟨h1, h2⟩ := Bool.and_eq_true_iff.mp h
  exact ⟨of_decide_eq_true h1, of_decide_eq_true h2⟩
theorem i_rng1 (hg : Gl X "range") (hm : X.mg "range" = none) (ha : PA X [a] (tA X.K ct W [false] fs)) (hs : starEach [a] X.env = [(false, eval a X.env)] := by rfl) : PI X tg (.Call (.Name "range" p) [a] [] pos) (tI X.K ct W O (sRng rng1 fs)) := by
  refine (pi_range1 hg hm ha hs).imp fun σ H R h => tI_args h fun ds xs vs F' H' q ex ra k => ?_
  obtain ⟨d, v, rfl, rfl, r⟩ := args1 ra
  cases d <;> first | (cases q; done) | skip
  rename_i j
  cases (show v = .int j from r)
  simp only [rng1] at q
  split at q
  · rename_i hj
    cases q
    exact ⟨j, rfl, (inR_iff hj).1, (inR_iff hj).2, k _ fun O => itok_range⟩
  · cases q
theorem i_rng2 (hg : Gl X "range") (hm : X.mg "range" = none) (ha : PA X [a, b] (tA X.K ct W [false, false] fs)) (hs : starEach [a, b] X.env = [(false, eval a X.env), (false, eval b X.env)] := by rfl) (hs2 : starEach [b] X.env = [(false, eval b X.env)] := by rfl) :
    PI X tg (.Call (.Name "range" p) [a, b] [] pos) (tI X.K ct W O (sRng rng2 fs)) := by
  refine (pi_range2 hg hm ha hs hs2).imp fun σ H R h => tI_args h fun ds xs vs F' H' q ex ra k => ?_
  obtain ⟨d, e, v, w, rfl, rfl, r1, r2⟩ := args2 ra
  cases d <;> cases e <;> first | (cases q; done) | skip
  rename_i i j
  cases (show v = .int i from r1)
  cases (show w = .int j from r2)
  simp only [rng2] at q
  split at q
  · rename_i hj
    obtain ⟨h1, h2⟩ := Bool.and_eq_true_iff.mp hj
    cases q
    exact ⟨i, j, rfl, ⟨(inR_iff h1).1, (inR_iff h1).2, (inR_iff h2).1, (inR_iff h2).2⟩, k _ fun O => itok_range⟩
  · cases q
theorem i_rng3 {c : Expr} (hg : Gl X "range") (hm : X.mg "range" = none) (ha : PA X [a, b, c] (tA X.K ct W [false, false, false] fs))
    (hs : starEach [a, b, c] X.env = (false, eval a X.env) :: starEach [b, c] X.env := by rfl) (hpl : (backTo pos (starEach [b, c] X.env)).any (·.1) = false := by rfl) :
    PI X tg (.Call (.Name "range" p) [a, b, c] [] pos) (tI X.K ct W O (sRng rng3 fs)) := by
  refine (pi_range3 hg hm ha hs hpl).imp fun σ H R h => tI_args h fun ds xs vs F' H' q ex ra k => ?_
  obtain ⟨d, ds', v, vs', rfl, rfl, r1, ra⟩ := ra
  obtain ⟨e, g, w, u, rfl, rfl, r2, r3⟩ := args2 ra
  cases d <;> cases e <;> cases g <;> first | (cases q; done) | skip
  rename_i i j c
  cases (show v = .int i from r1)
  cases (show w = .int j from r2)
  cases (show u = .int c from r3)
  simp only [rng3] at q
  split at q
  · rename_i hj
    cases q
    refine ⟨i, j, c, (Builtin.Range.rangeSize i j c).toNat, rfl, ⟨hj.1, hj.2.1, hj.2.2.1, ?_⟩, k _ fun O => itok_rangeC⟩
    exact (Int.toNat_of_nonneg hj.2.2.2).symm
  · cases q
end
end Ps

namespace Ps
open PySem PySem.Spec PyProof.Rows L2

/-! ### what a step does to the state -/
structure Sr (F H : Hp) (env : En) (σ : L2.St) (F' H' : Hp) : Prop where
  f : Ex F F'
  e : Ex F' H'
  k : ∀ a o, H a = some o → ¬ Owns env σ a → H' a = some o
  t : ∀ a o, H a = some o → ∃ o', H' a = some o'
  n : ∀ a o, F' a = some o → F a = some o ∨ H a = none ∨ Owns env σ a
structure Sx (F H : Hp) (env : En) (σ : L2.St) (F' H' : Hp) (env' : En) (σ' : L2.St) : Prop extends Sr F H env σ F' H' where
  o : ∀ a, Owns env' σ' a → Owns env σ a ∨ H a = none
  b : ∀ (i : Nat) (d : D), env[i]? = some (.bo d) → env'[i]? = some (.bo d) ∧ σ'[i]? = σ[i]?
  q : ∀ (i c : Nat) (fs : List (Str × D)) (gs : List (Str × Nat)), env[i]? = some (.oo c fs gs) → (∃ fs' gs', env'[i]? = some (.oo c fs' gs')) ∧ σ'[i]? = σ[i]?
section
variable {F H F1 H1 F2 H2 : Hp} {env e1 e2 : En} {σ σ1 σ2 : L2.St}
theorem Gr.sr (g : Gr F H F1 H1) : Sr F H env σ F1 H1 := ⟨g.f, g.e, fun a o q _ => g.h a o q, fun a o q => ⟨o, g.h a o q⟩, fun a o q => (g.n a o q).imp id .inl⟩
theorem Gr.sx (g : Gr F H F1 H1) : Sx F H env σ F1 H1 env σ := ⟨g.sr, fun _ h => .inl h, fun _ _ h => ⟨h, rfl⟩, fun _ _ fs gs h => ⟨⟨fs, gs, h⟩, rfl⟩⟩
theorem t_none (t : ∀ a o, H a = some o → ∃ o', H1 a = some o') {a : Addr} (h : H1 a = none) : H a = none := by
  cases q : H a with
  | none => rfl
  | some o => obtain ⟨o', q'⟩ := t a o q; rw [h] at q'; cases q'
theorem Sx.sr_trans (x : Sx F H env σ F1 H1 e1 σ1) (y : Sr F1 H1 e1 σ1 F2 H2) : Sr F H env σ F2 H2 where
  f := x.f.trans y.f
  e := y.e
  k := fun a o q n => y.k a o (x.k a o q n) fun z => by
    rcases x.o a z with z | z
    · exact n z
    · rw [q] at z; cases z
  t := fun a o q => let ⟨o1, q1⟩ := x.t a o q; y.t a o1 q1
  n := fun a o q => by
    rcases y.n a o q with z | z | z
    · exact x.n a o z
    · exact .inr (.inl (t_none x.t z))
    · rcases x.o a z with z | z
      · exact .inr (.inr z)
      · exact .inr (.inl z)
theorem Sx.trans (x : Sx F H env σ F1 H1 e1 σ1) (y : Sx F1 H1 e1 σ1 F2 H2 e2 σ2) : Sx F H env σ F2 H2 e2 σ2 where
  toSr := x.sr_trans y.toSr
  o := fun a z => by
    rcases y.o a z with z | z
    · exact x.o a z
    · exact .inr (t_none x.t z)
  b := fun i d h => by
    obtain ⟨h1, h2⟩ := x.b i d h
    obtain ⟨h3, h4⟩ := y.b i d h1
    exact ⟨h3, h4.trans h2⟩
  q := fun i c fs gs h => by
    obtain ⟨⟨fs1, gs1, h1⟩, h2⟩ := x.q i c fs gs h
    obtain ⟨h3, h4⟩ := y.q i c fs1 gs1 h1
    exact ⟨h3, h4.trans h2⟩
end

/-! ### slots set -/
def canSet : Sl → Bool
  | .bo _ => false
  | .oo _ _ _ => false
  | .gh _ => false
  | _ => true
def setSl (env : En) (i : Nat) (s : Sl) : Option En := match env[i]? with
  | some t => if canSet t then some (env.set i s) else none
  | none => none
theorem setSl_some {env env' : En} {i : Nat} {s : Sl} (h : setSl env i s = some env') : ∃ t, env[i]? = some t ∧ canSet t = true ∧ env' = env.set i s := by
  unfold setSl at h
  split at h
  · rename_i t q
    split at h
    · rename_i hc
      cases h
      exact ⟨t, q, hc, rfl⟩
    · cases h
  · cases h
section
variable {K : PySem.W.Frag} {ct : Nat → Addr} {F H : Hp} {env env' : En} {σ : L2.St} {i : Nat}
theorem get_set_self {α : Type} {l : List α} {i : Nat} {x t : α} (h : l[i]? = some t) : (l.set i x)[i]? = some x := by
  obtain ⟨hl, _⟩ := List.getElem?_eq_some_iff.mp h
  simp [hl]
theorem get_set_ne {α : Type} {l : List α} {i j : Nat} {x : α} (h : j ≠ i) : (l.set i x)[j]? = l[j]? := List.getElem?_set_ne (Ne.symm h)
/-- slot i set to a thing that isn't owned -/
theorem owns_set {s t : Sl} {x : Option V} (hi : env[i]? = some t) (hs : isOw s = false) {a : Addr} (h : Owns (env.set i s) (σ.set i x) a) : Owns env σ a := by
  obtain ⟨j, u, e1, e2, e3⟩ := h
  by_cases hj : j = i
  · subst hj
    rw [get_set_self hi] at e1
    cases e1; rw [hs] at e2; cases e2
  · rw [get_set_ne hj] at e1 e3
    exact ⟨j, u, e1, e2, e3⟩
theorem set_ok (E : EnvOk K ct F H env σ) {t s : Sl} {x : Option V} (hi : env[i]? = some t) (hc : canSet t = true) (hs : isOw s = false) (hb : ∀ d, s ≠ .bo d) (hsh : ∀ d, s = .sh d → ∃ v, x = some v ∧ Rep K ct F d v) :
    EnvOk K ct F H (env.set i s) (σ.set i x) ∧ Sx F H env σ F H (env.set i s) (σ.set i x) := by
  have hl : i < σ.length := by
    obtain ⟨h1, _⟩ := List.getElem?_eq_some_iff.mp hi
    rw [← E.len]; exact h1
  have hσ : (σ.set i x)[i]? = some x := by simp [hl]
  refine ⟨⟨E.ex, by simp [E.len], fun j d h => ?_, fun j d h => ?_, fun j d h => ?_, fun j c fs gs h => ?_, fun j d h => ?_, fun j k u w a h1 h2 h3 h4 h5 h6 => ?_⟩, ⟨(Gr.refl E.ex).sr, fun a h => .inl (owns_set hi hs h), fun j d h => ?_, fun j c fs gs h => ?_⟩⟩
  · by_cases hj : j = i
    · subst hj
      rw [get_set_self hi] at h; cases h
      obtain ⟨v, rfl, r⟩ := hsh d rfl
      exact ⟨v, hσ, r⟩
    · rw [get_set_ne hj] at h ⊢
      exact E.sh j d h
  · by_cases hj : j = i
    · subst hj; rw [get_set_self hi] at h; cases h; cases hs
    · rw [get_set_ne hj] at h ⊢
      exact E.ow j d h
  · by_cases hj : j = i
    · subst hj; rw [get_set_self hi] at h; cases h; exact absurd rfl (hb d)
    · rw [get_set_ne hj] at h ⊢
      obtain ⟨v, e1, e2, e3⟩ := E.bo j d h
      exact ⟨v, e1, e2, fun a hn ha z => e3 a hn ha (owns_set hi hs z)⟩
  · by_cases hj : j = i
    · subst hj; rw [get_set_self hi] at h; cases h; cases hs
    · rw [get_set_ne hj] at h ⊢
      obtain ⟨a, dx, fvs, e1, e2, e3, e4, e5, e6, e7⟩ := E.oo j c fs gs h
      refine ⟨a, dx, fvs, e1, e2, e3, e4, e5, e6, fun n g hg => ?_⟩
      obtain ⟨v, d, q1, q2, q3⟩ := e7 n g hg
      have hgi : g ≠ i := fun z => by subst z; rw [hi] at q3; cases q3; cases hc
      exact ⟨v, d, q1, by rw [get_set_ne hgi]; exact q2, by rw [get_set_ne hgi]; exact q3⟩
  · by_cases hj : j = i
    · subst hj; rw [get_set_self hi] at h; cases h; cases hs
    · rw [get_set_ne hj] at h ⊢
      exact E.gh j d h
  · have hj : j ≠ i := fun z => by subst z; rw [get_set_self hi] at h1; cases h1; rw [hs] at h3; cases h3
    have hk : k ≠ i := fun z => by subst z; rw [get_set_self hi] at h2; cases h2; rw [hs] at h4; cases h4
    rw [get_set_ne hj] at h1 h5
    rw [get_set_ne hk] at h2 h6
    exact E.ap j k u w a h1 h2 h3 h4 h5 h6
  · have hj : j ≠ i := fun z => by subst z; rw [hi] at h; cases h; cases hc
    rw [get_set_ne hj, get_set_ne hj]
    exact ⟨h, rfl⟩
  · have hj : j ≠ i := fun z => by subst z; rw [hi] at h; cases h; cases hc
    rw [get_set_ne hj, get_set_ne hj]
    exact ⟨⟨fs, gs, h⟩, rfl⟩
end

/-! ### targets -/
inductive Tgt where
  | nm (i : Nat) | tp (is : List Nat)
def slotsT : Tgt → List Nat
  | .nm i => [i]
  | .tp is => is
def bindL : List Nat → List D → En → Option En
  | [], [], env => some env
  | i :: is, d :: ds, env => (setSl env i (.sh d)).bind fun e => bindL is ds e
  | _, _, _ => none
def bindT : Tgt → D → En → Option En
  | .nm i, d, env => setSl env i (.sh d)
  | .tp is, .tup ds, env => bindL is ds env
  | _, _, _ => none
/-- a target's reading does what bindT says -/
def TgOk (K : PySem.W.Frag) (ct : Nat → Addr) (g : TG) (T : Tgt) : Prop := ∀ (v : V) (σ : L2.St) (F H : Hp) (env env' : En) (d : D) (Q : L2.St → Hp → Prop), EnvOk K ct F H env σ → Rep K ct F d v → bindT T d env = some env' →
  (∀ σ', EnvOk K ct F H env' σ' → Sx F H env σ F H env' σ' → (∀ (k : Nat), k ∉ slotsT T → σ'[k]? = σ[k]?) → σ'.length = σ.length → Q σ' H) → g v σ H Q
section
variable {K : PySem.W.Frag} {ct : Nat → Addr}
theorem tg_nm (i : Nat) : TgOk K ct (gName i) (.nm i) := by
  intro v σ F H env env' d Q E r hb hQ
  obtain ⟨t, h1, h2, rfl⟩ := setSl_some hb
  obtain ⟨E', S⟩ := set_ok (s := .sh d) (x := some v) E h1 h2 rfl (fun _ z => nomatch z) fun d' q => by cases q; exact ⟨v, rfl, r⟩
  exact hQ _ E' S (fun k hk => get_set_ne fun z => hk (by rw [z]; exact List.mem_singleton.mpr rfl)) (by simp)
def gNames : List Nat → TGs
  | [] => gNil
  | i :: is => gCons (gName i) (gNames is)
theorem tg_names : ∀ (is : List Nat) (ds : List D) (vs : List V) (σ : L2.St) (F H : Hp) (env env' : En) (Q : L2.St → Hp → Prop), EnvOk K ct F H env σ → Reps K ct F ds vs → bindL is ds env = some env' →
    (∀ σ', EnvOk K ct F H env' σ' → Sx F H env σ F H env' σ' → (∀ (k : Nat), k ∉ is → σ'[k]? = σ[k]?) → σ'.length = σ.length → Q σ' H) → gNames is vs σ H Q
  | [], [], vs, σ, F, H, env, env', Q, E, r, hb, hQ => by
    cases hb
    exact ⟨r, hQ σ E (Gr.refl E.ex).sx (fun _ _ => rfl) rfl⟩
  | [], _ :: _, _, _, _, _, _, _, _, _, _, hb, _ => by cases hb
  | _ :: _, [], _, _, _, _, _, _, _, _, _, hb, _ => by cases hb
  | i :: is, d :: ds, vs, σ, F, H, env, env', Q, E, r, hb, hQ => by
    obtain ⟨v, vr, rfl, r1, r2⟩ := r
    obtain ⟨e1, q1, q2⟩ := Option.bind_eq_some_iff.mp (show ((setSl env i (.sh d)).bind fun e => bindL is ds e) = some env' from hb)
    refine ⟨v, vr, rfl, tg_nm i v σ F H env e1 d _ E r1 q1 fun σ1 E1 S1 k1 l1 => ?_⟩
    refine tg_names is ds vr σ1 F H e1 env' Q E1 r2 q2 fun σ2 E2 S2 k2 l2 => ?_
    exact hQ σ2 E2 (S1.trans S2) (fun k hk => by
      rw [k2 k fun z => hk (List.mem_cons_of_mem _ z), k1 k fun z => hk (by rw [List.mem_singleton.mp z]; exact List.mem_cons_self)]) (l2.trans l1)
theorem bindL_len : ∀ (is : List Nat) (ds : List D) (env env' : En), bindL is ds env = some env' → is.length = ds.length
  | [], [], _, _, _ => rfl
  | [], _ :: _, _, _, h => by cases h
  | _ :: _, [], _, _, h => by cases h
  | i :: is, d :: ds, env, env', h => by
    obtain ⟨e1, _, q2⟩ := Option.bind_eq_some_iff.mp (show ((setSl env i (.sh d)).bind fun e => bindL is ds e) = some env' from h)
    rw [List.length_cons, List.length_cons, bindL_len is ds e1 env' q2]
theorem tg_tp (is : List Nat) : TgOk K ct (gTup K is.length (gNames is)) (.tp is) := by
  intro v σ F H env env' d Q E r hb hQ
  cases d <;> first | (cases hb; done) | skip
  rename_i ds
  have hb : bindL is ds env = some env' := hb
  obtain ⟨a, vs, rfl, h1, h2⟩ := r
  exact ⟨a, vs, rfl, SqT.of (E.ex _ _ h1), by rw [h2.length, bindL_len is ds env env' hb], tg_names is ds vs σ F H env env' Q E h2 hb hQ⟩
end

/-! ### comprehensions -/
def wipeE (env : En) : List Nat → En
  | [] => env
  | v :: vs => (wipeE env vs).set v .no
def wipeOk (env : En) (vs : List Nat) : Bool := vs.all fun i => match env[i]? with
  | some t => canSet t
  | none => false
def compL (T : Tgt) (env0 : En) (ft fe : SE) : List D → Option (List D)
  | [] => some []
  | d :: ds => match bindT T d env0 with
    | none => none
    | some e => match ft e with
      | .ok (.bl true) => (match fe e with
        | .ok x => (compL T env0 ft fe ds).map fun r => x :: r
        | _ => none)
      | .ok (.bl false) => compL T env0 ft fe ds
      | _ => none
def sComp (T : Tgt) (vs : List Nat) (fi ft fe : SE) : SE := fun env => bnd (fi env) fun d => match d with
  | .lst ds => if ds.length < sizeLine ∧ wipeOk env vs = true then (match compL T (wipeE env vs) ft fe ds with
    | some r => .ok (.lst r)
    | none => .st) else .st
  | _ => .st
abbrev W0 : WX := fun _ _ _ _ => False
section
variable {K : PySem.W.Frag} {ct : Nat → Addr} {F H : Hp}
theorem wipe_slot {env : En} {v : Nat} {t : Sl} : ∀ (vs : List Nat), env[v]? = some t → canSet t = true → ∃ t', (wipeE env vs)[v]? = some t' ∧ canSet t' = true
  | [], q, h => ⟨t, q, h⟩
  | u :: us, q, h => by
    obtain ⟨t', a, b⟩ := wipe_slot us q h
    show ∃ t', ((wipeE env us).set u .no)[v]? = some t' ∧ canSet t' = true
    by_cases hu : v = u
    · subst hu; exact ⟨.no, get_set_self a, rfl⟩
    · exact ⟨t', by rw [get_set_ne hu]; exact a, b⟩
theorem wipe_ok : ∀ (vs : List Nat) {env : En} {σ : L2.St}, EnvOk K ct F H env σ → wipeOk env vs = true → EnvOk K ct F H (wipeE env vs) (wipe σ vs)
  | [], env, σ, E, _ => E
  | v :: vs, env, σ, E, h => by
    have h : ((match env[v]? with | some t => canSet t | none => false) && wipeOk env vs) = true := by
      unfold wipeOk at h ⊢
      rw [List.all_cons] at h; exact h
    obtain ⟨h1, h2⟩ := Bool.and_eq_true_iff.mp h
    have ih := wipe_ok vs E h2
    cases q : env[v]? with
    | none => rw [q] at h1; cases h1
    | some t =>
      rw [q] at h1
      have q2 := wipe_slot vs q h1
      obtain ⟨t', a, b⟩ := q2
      exact (set_ok (s := .no) (x := none) ih a b rfl (fun _ z => nomatch z) fun d z => nomatch z).1
theorem wipe_get (vs : List Nat) (σ : L2.St) (k : Nat) : (wipe σ vs)[k]? = if k ∈ vs ∧ k < σ.length then some none else σ[k]? := by
  induction vs with
  | nil => simp [wipe]
  | cons v vs ih =>
    show ((wipe σ vs).set v none)[k]? = _
    by_cases hk : k = v
    · subst hk
      by_cases hl : k < σ.length
      · rw [List.getElem?_set_self (by rw [wipe_length]; exact hl), if_pos ⟨List.mem_cons_self, hl⟩]
      · have : k ≥ σ.length := Nat.le_of_not_lt hl
        rw [List.getElem?_eq_none (by simp [wipe_length]; omega), if_neg (fun z => hl z.2), List.getElem?_eq_none this]
    · rw [get_set_ne hk, ih]
      have : k ∈ v :: vs ↔ k ∈ vs := by simp [hk]
      simp only [this]
theorem wipe_same {vs : List Nat} {σ σ2 : L2.St} (hl : σ2.length = (wipe σ vs).length) (h : ∀ (k : Nat), k ∉ vs → σ2[k]? = (wipe σ vs)[k]?) : wipe σ2 vs = wipe σ vs := by
  apply List.ext_getElem?
  intro k
  rw [wipe_length] at hl
  rw [wipe_get, wipe_get, hl]
  by_cases hk : k ∈ vs ∧ k < σ.length
  · rw [if_pos hk, if_pos hk]
  · rw [if_neg hk, if_neg hk]
    by_cases hv : k ∈ vs
    · have : ¬ k < σ.length := fun z => hk ⟨hv, z⟩
      rw [List.getElem?_eq_none (by omega), List.getElem?_eq_none (by omega)]
    · rw [h k hv, wipe_get, if_neg hk]
theorem compL_drop {T : Tgt} {env0 : En} {ft fe : SE} {d : D} {ds r : List D} (h : compL T env0 ft fe (d :: ds) = some r) : ∃ e, bindT T d env0 = some e ∧ ((ft e = .ok (.bl true) ∧ ∃ x r', fe e = .ok x ∧ compL T env0 ft fe ds = some r' ∧ r = x :: r') ∨ (ft e = .ok (.bl false) ∧ compL T env0 ft fe ds = some r)) := by
  unfold compL at h
  split at h
  · cases h
  · rename_i e q
    refine ⟨e, q, ?_⟩
    split at h
    · rename_i q2
      split at h
      · rename_i x q3
        obtain ⟨r', h1, h2⟩ := Option.map_eq_some_iff.mp h
        exact .inl ⟨q2, x, r', q3, h1, h2.symm⟩
      · cases h
    · rename_i q2
      exact .inr ⟨q2, h⟩
    · cases h
end
section
variable {X : Cx} {ct : Nat → Addr} {W : WX} {elt tg iter : Expr} {ifs : List Expr} {scope : Scope} {own : List (Str × Nat)} {pos : Pos} {g : TG} {T : Tgt} {fi ft fe : SE}
/-- the reading of a comprehension -/
theorem tlc (hT : TgOk X.K ct g T) (hsub : ∀ i ∈ slotsT T, i ∈ own.map (·.2)) {σ : L2.St} {H : Hp} {Q : VK} (h : tM X.K ct W (mN X.K ct) (sComp T (own.map (·.2)) fi ft fe) σ H Q) :
    tLc (tI X.K ct W O0 fi) g (TT1 X.K ct W0 ft) (ER X.K ct W0 fe) (own.map (·.2)) σ H Q := by
  obtain ⟨env, F, E, h⟩ := h
  refine ⟨env, F, E, ?_⟩
  unfold sComp at h
  cases q : fi env with
  | er c fs => rw [q] at h; exact h
  | st => rw [q] at h; exact h.elim
  | ok d =>
    rw [q] at h
    cases d <;> first | exact h.elim | skip
    rename_i ds
    intro J F1 H1 g1 hJ D0 hD
    have h : Fin X.K ct W (mN X.K ct) F H σ (if ds.length < sizeLine ∧ wipeOk env (own.map (·.2)) = true then (match compL T (wipeE env (own.map (·.2))) ft fe ds with | some r => .ok (.lst r) | none => .st) else .st) Q := h
    split at h
    · rename_i hc
      cases q2 : compL T (wipeE env (own.map (·.2))) ft fe ds with
      | none => rw [q2] at h; exact h.elim
      | some r =>
        rw [q2] at h
        obtain ⟨G, Y, w, hG, hY⟩ := hJ
        have E1 := E.gr g1
        have hDH : H D0 = none := Ex.free g1.h hD
        refine lc_it w (fun i H' => ∃ F' acc vs rest, Gr F1 H1 F' H' ∧ F' D0 = none ∧ H' D0 = some (.lst vs) ∧ Reps X.K ct F' acc vs ∧ acc.length ≤ i ∧ compL T (wipeE env (own.map (·.2))) ft fe (ds.drop i) = some rest ∧ r = acc ++ rest)
          ⟨F1, [], [], r, Gr.own E1.ex hD, Ex.free E1.ex hD, upd_same, rfl, Nat.le_refl _, q2, rfl⟩ (fun i H' hi p => ?_) (fun i x H2 H2' hi p y => ?_) fun H' p => ?_
        · obtain ⟨F', acc, vs, rest, g2, _⟩ := p
          exact hG H' fun b o q _ => g2.h b o q
        · obtain ⟨F', acc, vs, rest, g2, hF0, hl, hr, hal, hcl, hre⟩ := p
          have hd : ds[i]? = some ds[i] := by simp [hi]
          obtain ⟨F3, g3, r3⟩ := hY i ds[i] F' H2 x H2' hd g2.f g2.e y
          rw [List.drop_eq_getElem_cons hi] at hcl
          obtain ⟨e, hb, hcase⟩ := compL_drop hcl
          have g23 := g2.trans g3
          have Ew := wipe_ok (own.map (·.2)) (E1.gr g23) hc.2
          have hD3 : F3 D0 = none := g3.none hF0 hl
          refine hT x _ F3 H2' _ e ds[i] _ Ew r3 hb fun σ2 E2 _ k2 l2 => ⟨wipe_same l2 fun k hk => k2 k fun z => hk (hsub k z), ?_⟩
          refine tt_bind (C := True) E2 (fun b hb F4 H4 g4 E4 => ?_) (fun c fs z => ?_) (fun n1 n2 => ?_)
          · have g24 := g23.trans g4
            have hl4 : H4 D0 = some (.lst vs) := g4.h _ _ (g3.h _ _ hl)
            have hD4 : F4 D0 = none := g4.none hD3 (g3.h _ _ hl)
            rcases hcase with ⟨hft, xx, r', hfe, hcl', rfl⟩ | ⟨hft, hcl'⟩
            · rw [hft] at hb; cases hb
              refine ⟨e, F4, E4, ?_⟩
              rw [hfe]
              intro v F5 H5 g5 r5
              have hl5 : H5 D0 = some (.lst vs) := g5.h _ _ hl4
              have hD5 : F5 D0 = none := g5.none hD4 hl4
              have g25 := g24.trans g5
              have hrep : Reps X.K ct F5 acc vs := Reps.mono (Ex.le ((g3.f.trans g4.f).trans g5.f)) _ _ hr
              refine ⟨vs, hl5, by rw [hr.length]; omega, F5, acc ++ [xx], vs ++ [v], r', ⟨g25.f, fun a o z => by rw [upd_ne (ne_of_none z hD)]; exact g25.h a o z, fun a o z => by rw [upd_ne (ne_of_none z hD5)]; exact g25.e a o z, g25.n⟩, hD5, upd_same, hrep.append (Reps.one r5), by simp; omega, hcl', by rw [hre]; simp⟩
            · rw [hft] at hb; cases hb
              exact ⟨F4, acc, vs, rest, g24, hD4, hl4, Reps.mono (Ex.le (g3.f.trans g4.f)) _ _ hr, by omega, hcl', hre⟩
          · rcases hcase with ⟨hft, _⟩ | ⟨hft, _⟩ <;> (rw [hft] at z; cases z)
          · rcases hcase with ⟨hft, _⟩ | ⟨hft, _⟩ <;> exact n1 _ hft
        · obtain ⟨F', acc, vs, rest, g2, hF0, hl, hr, hal, hcl, hre⟩ := p
          rw [List.drop_length] at hcl
          cases hcl
          rw [List.append_nil] at hre
          subst hre
          exact h _ F' H' (g1.trans g2) ⟨D0, rfl, hDH, hF0, vs, hl, hr⟩
    · exact h.elim
theorem ts_nil : PTs X [] (TT1 X.K ct W (sC (.bl true))) := ⟨fun pins s σ H Q I h => pts_nil.run pins s σ H Q I (by obtain ⟨env, F, E, h⟩ := h; exact h F H (Gr.refl E.ex))⟩
theorem ts_one {c : Expr} {f : SE} (h : PT X c (TT1 X.K ct W f)) : PTs X [c] (TT1 X.K ct W f) := pts_one h
theorem e_lc (hc : X.calm = true) (hN : X.N.Nodup) (hi : PI X tg iter (tI X.K ct W O0 fi)) (ok : BlkOk X.N X.env.scope scope own)
    (hg : ∀ (s : Shared) (H : Hp) (C : Addr) (cl : List (Str × Addr)) (fp : List Addr), PG (X.blk s H scope (compEnvC scope cl C X.env) fp) tg g) (hT : TgOk X.K ct g T) (hsub : ∀ i ∈ slotsT T, i ∈ own.map (·.2))
    (ht : ∀ (s : Shared) (H : Hp) (C : Addr) (cl : List (Str × Addr)) (fp : List Addr), PTs (X.blk s H scope (compEnvC scope cl C X.env) fp) ifs (TT1 X.K ct W0 ft))
    (he : ∀ (s : Shared) (H : Hp) (C : Addr) (cl : List (Str × Addr)) (fp : List Addr), PE (X.blk s H scope (compEnvC scope cl C X.env) fp) elt (ER X.K ct W0 fe)) (hs : ∀ x, foldedSetIterable iter X.env x = pure x := by intro _; rfl) :
    PE X (.ListComp elt [⟨tg, iter, ifs, 0⟩] scope pos) (EN X.K ct W (sComp T (own.map (·.2)) fi ft fe)) := (pe_lc hc hN hi ok hg ht he hs).imp fun _ _ _ h => tlc hT hsub h
end
end Ps

namespace Ps
open PySem PySem.Spec PyProof.Rows L2

/-! ### statements -/
section
variable (K : PySem.W.Frag) (ct : Nat → Addr) (W : WX)
def FinS (F H : Hp) (env : En) (σ : L2.St) (o : O) (D : Ends) : Prop := match o with
  | .nx e => ∀ σ' F' H', Sx F H env σ F' H' e σ' → EnvOk K ct F' H' e σ' → D.nx σ' H'
  | .bk e => ∀ σ' F' H', Sx F H env σ F' H' e σ' → EnvOk K ct F' H' e σ' → D.bk σ' H'
  | .ct e => ∀ σ' F' H', Sx F H env σ F' H' e σ' → EnvOk K ct F' H' e σ' → D.ct σ' H'
  | .rt d => ∀ v F' H', Sr F H env σ F' H' → Rep K ct F' d v → D.rt v H'
  | .rn d => ∀ p F' H', Sr F H env σ F' H' → (H p = none ∨ Owns env σ p) → OwnAt K ct F' H' p d → D.rt (.ref p) H'
  | .er c fs e => ∀ dx σ' F' H', Sx F H env σ F' H' e σ' → EnvOk K ct F' H' e σ' → ExcOk K ct F' dx fs → W (.ref (ct c)) dx σ' H'
  | .st => False
def sOf (g : SS) : TS := fun D σ H => ∃ env F, EnvOk K ct F H env σ ∧ FinS K ct W F H env σ (g env) D
end
section
variable {K : PySem.W.Frag} {ct : Nat → Addr} {W : WX} {F H F1 H1 : Hp} {env e1 : En} {σ σ1 : L2.St} {o : O} {Z : Ends}
theorem finS_after (x : Sx F H env σ F1 H1 e1 σ1) (h : FinS K ct W F H env σ o Z) : FinS K ct W F1 H1 e1 σ1 o Z := by
  cases o with
  | nx e => exact fun σ' F' H' y E => h σ' F' H' (x.trans y) E
  | bk e => exact fun σ' F' H' y E => h σ' F' H' (x.trans y) E
  | ct e => exact fun σ' F' H' y E => h σ' F' H' (x.trans y) E
  | rt d => exact fun v F' H' y r => h v F' H' (x.sr_trans y) r
  | rn d =>
    refine fun p F' H' y q r => h p F' H' (x.sr_trans y) ?_ r
    rcases q with q | q
    · exact .inl (t_none x.t q)
    · rcases x.o p q with z | z
      · exact .inr z
      · exact .inl z
  | er c fs e => exact fun dx σ' F' H' y E q => h dx σ' F' H' (x.trans y) E q
  | st => exact h
/-- an expression within a statement -/
def bndS (r : R) (env : En) (k : D → O) : O := match r with
  | .ok d => k d
  | .er c fs => .er c fs env
  | .st => .st
theorem finS_bind {M1 : Md} {f : SE} {k : D → O} (E : EnvOk K ct F H env σ) (h : FinS K ct W F H env σ (bndS (f env) env k) Z) {Q1 : VK}
    (hk : ∀ d v F1 H1, f env = .ok d → Gr F H F1 H1 → M1 H F1 H1 d v → EnvOk K ct F1 H1 env σ → FinS K ct W F H env σ (k d) Z → Q1 v H1) : tM K ct W M1 f σ H Q1 := by
  refine ⟨env, F, E, ?_⟩
  cases e : f env with
  | ok d => rw [e] at h; exact fun v F1 H1 g m => hk d v F1 H1 e g m (E.gr g) h
  | er c fs => rw [e] at h; exact fun dx F' H' g x => h dx σ F' H' g.sx (E.gr g) x
  | st => rw [e] at h; exact h
theorem finS_test {f : SE} {kt kf : O} (E : EnvOk K ct F H env σ)
    (h : FinS K ct W F H env σ (bndS (f env) env fun d => match d with | .bl true => kt | .bl false => kf | _ => .st) Z) {Q1 : Bool → Hp → Prop}
    (hk : ∀ b F1 H1, f env = .ok (.bl b) → Gr F H F1 H1 → EnvOk K ct F1 H1 env σ → FinS K ct W F H env σ (if b then kt else kf) Z → Q1 b H1) : TT1 K ct W f σ H Q1 := by
  refine tt_bind (C := True) E (fun b hb F1 H1 g E1 => ?_) (fun c fs e => ?_) (fun n1 n2 => ?_)
  · rw [hb] at h
    cases b with
    | true => exact hk true F1 H1 hb g E1 h
    | false => exact hk false F1 H1 hb g E1 h
  · rw [e] at h; exact fun dx F' H' g x => h dx σ F' H' g.sx (E.gr g) x
  · cases e : f env with
    | ok d => rw [e] at h; cases d <;> first | exact n1 _ e | exact h.elim
    | er c fs => exact n2 _ _ e
    | st => rw [e] at h; exact h.elim
end

def ssNext : SS := fun env => .nx env
def ssBrk : SS := fun env => .bk env
def ssCont : SS := fun env => .ct env
def ssSeq (f g : SS) : SS := fun env => match f env with
  | .nx e => g e
  | o => o
def ssAsg (T : Tgt) (f : SE) : SS := fun env => bndS (f env) env fun d => match bindT T d env with
  | some e => .nx e
  | none => .st
def isOwnable : D → Bool
  | .lst _ => true | .dk _ => true | .dt _ => true | _ => false
/-- a new thing, owned -/
def ssOwn (i : Nat) (f : SE) : SS := fun env => bndS (f env) env fun d => match setSl env i (.ow d) with
  | some e => .nx e
  | none => .st
def ssIf (c : SE) (f g : SS) : SS := fun env => bndS (c env) env fun d => match d with
  | .bl true => f env
  | .bl false => g env
  | _ => .st
def ssExpr (f : SE) : SS := fun env => bndS (f env) env fun _ => .nx env
def ssRet (f : SE) : SS := fun env => bndS (f env) env fun d => .rt d
def ssRetN (f : SE) : SS := fun env => bndS (f env) env fun d => .rn d
def ssRetOw (i : Nat) : SS := fun env => match env[i]? with
  | some (.ow d) => .rn d
  | _ => .st
/-- an owned thing is let go -/
def ssFrz (i : Nat) : SS := fun env => match env[i]? with
  | some (.ow d) => .nx (env.set i (.sh d))
  | _ => .st
def ssApp (i : Nat) (f : SE) : SS := fun env => match env[i]? with
  | some (.ow (.lst ds)) => bndS (f env) env fun d => if ds.length < sizeLine then .nx (env.set i (.ow (.lst (ds ++ [d])))) else .st
  | _ => .st
def putD {κ : Type} [DecidableEq κ] (kvs : List (κ × D)) (k : κ) (v : D) : List (κ × D) :=
  if kvs.any (fun kv => decide (kv.1 = k)) then kvs.map (fun kv => if kv.1 = k then (kv.1, v) else kv) else kvs ++ [(k, v)]
/-- x[k] = v -/
def dPut (x k v : D) : Option D := match x with
  | .lst ds => (match k with
    | .int i => (ixN ds.length i).map fun j => .lst (ds.set j v)
    | _ => none)
  | .dk kvs => (keyD k).bind fun k => if kvs.length < sizeLine then some (.dk (putD kvs k v)) else none
  | .dt kvs => (match k with
    | .tup ds => (keysD ds).bind fun k => if kvs.length < sizeLine then some (.dt (putD kvs k v)) else none
    | _ => none)
  | _ => none
def ssPut (i : Nat) (fk fv : SE) : SS := fun env => bndS (fv env) env fun v => match env[i]? with
  | some (.ow x) => bndS (fk env) env fun k => (match dPut x k v with
    | some z => .nx (env.set i (.ow z))
    | none => .st)
  | _ => .st
def stepL (o : O) (k : En → O) : O := match o with
  | .nx e => k e
  | .ct e => k e
  | .bk e => .nx e
  | o => o
def loopF (T : Tgt) (body : SS) : List D → En → O
  | [], env => .nx env
  | d :: ds, env => match bindT T d env with
    | none => .st
    | some e => stepL (body e) (loopF T body ds)
def ssFor (T : Tgt) (it : SE) (body : SS) : SS := fun env => bndS (it env) env fun d => match d with
  | .lst ds => loopF T body ds env
  | _ => .st
def whileN (c : SE) (body : SS) : Nat → En → O
  | 0, _ => .st
  | n + 1, env => bndS (c env) env fun d => match d with
    | .bl true => stepL (body env) (whileN c body n)
    | .bl false => .nx env
    | _ => .st
def ssWhile (n : Nat) (c : SE) (body : SS) : SS := whileN c body n

section
variable {X : Cx} {ct : Nat → Addr} {W : WX} {st : Stmt} {rest body orelse : List Stmt} {a b e c : Expr} {f : SE} {g g2 : SS} {pos pos' p : Pos} {T : Tgt}
theorem p_nil : PSs X [] (sOf X.K ct W ssNext) := pss_nil.imp fun D σ H ⟨env, F, E, h⟩ => h σ F H (Gr.refl E.ex).sx E
theorem p_one (h : PS X st (sOf X.K ct W g)) : PSs X [st] (sOf X.K ct W g) := pss_one h
theorem finS_nx {K : PySem.W.Frag} {F H : Hp} {env : En} {σ : L2.St} {D : Ends} {o : O} {N : L2.St → Hp → Prop} (hN : ∀ e, o = .nx e → ∀ σ' F' H', Sx F H env σ F' H' e σ' → EnvOk K ct F' H' e σ' → N σ' H')
    (hO : (∀ e, o ≠ .nx e) → FinS K ct W F H env σ o D) : FinS K ct W F H env σ o { D with nx := N } := by
  cases o with
  | nx e => exact hN e rfl
  | bk e => exact hO fun _ z => nomatch z
  | ct e => exact hO fun _ z => nomatch z
  | rt d => exact hO fun _ z => nomatch z
  | rn d => exact hO fun _ z => nomatch z
  | er c fs e => exact hO fun _ z => nomatch z
  | st => exact hO fun _ z => nomatch z
theorem p_cons (h1 : PS X st (sOf X.K ct W g)) (h2 : PSs X rest (sOf X.K ct W g2)) : PSs X (st :: rest) (sOf X.K ct W (ssSeq g g2)) := by
  refine (pss_cons h1 h2).imp fun D σ H ⟨env, F, E, h⟩ => ⟨env, F, E, ?_⟩
  refine finS_nx (fun e q σ' F' H' x E' => ⟨e, F', E', ?_⟩) fun n => ?_
  · unfold ssSeq at h
    rw [q] at h
    exact finS_after x h
  · have q : ssSeq g g2 env = g env := by
      unfold ssSeq
      cases z : g env with
      | nx e => exact absurd z (n e)
      | _ => rfl
    rw [q] at h
    exact h
theorem p_pass : PS X (.Pass pos) (sOf X.K ct W ssNext) := ps_pass.imp fun D σ H ⟨env, F, E, h⟩ => h σ F H (Gr.refl E.ex).sx E
theorem p_brk : PS X (.Break pos) (sOf X.K ct W ssBrk) := ps_break.imp fun D σ H ⟨env, F, E, h⟩ => h σ F H (Gr.refl E.ex).sx E
theorem p_cont : PS X (.Continue pos) (sOf X.K ct W ssCont) := ps_continue.imp fun D σ H ⟨env, F, E, h⟩ => h σ F H (Gr.refl E.ex).sx E
theorem p_doc {x j} : PS X (.Expr (.Constant (.str x) j pos) pos') (sOf X.K ct W ssNext) := ps_doc.imp fun D σ H ⟨env, F, E, h⟩ => h σ F H (Gr.refl E.ex).sx E
theorem p_never {g : SS} (h : ∀ env, g env = .st) : PS X st (sOf X.K ct W g) := ps_never.imp fun D σ H ⟨env, F, E, q⟩ => by rw [h env] at q; exact q
def ssNever : SS := fun _ => .st
theorem t_asg {K : PySem.W.Frag} {gt : TG} (hT : TgOk K ct gt T) {D : Ends} {σ : L2.St} {H : Hp} (h : sOf K ct W (ssAsg T f) D σ H) : tAsg (ER K ct W f) gt D σ H := by
  obtain ⟨env, F, E, h⟩ := h
  refine finS_bind E h fun d v F1 H1 e1 g1 r1 E1 h => ?_
  cases q : bindT T d env with
  | none => rw [q] at h; exact h.elim
  | some e =>
    rw [q] at h
    exact hT v σ F1 H1 env e d _ E1 r1 q fun σ' E2 S2 _ _ => h σ' F1 H1 (g1.sx.trans S2) E2
theorem p_asg {tg : Expr} {gt : TG} (hT : TgOk X.K ct gt T) (hg : PG X tg gt) (he : PE X e (ER X.K ct W f)) (hs : swapsWithSole [tg] e pos.line X.env = pure false := by rfl) (hw : swappedStores [tg] e X.env = pure none := by rfl) (h1 : (assignEach [tg] X.env).map (·.2) = [assign tg X.env] := by rfl) :
    PS X (.Assign [tg] e pos) (sOf X.K ct W (ssAsg T f)) := (ps_asg he hg hs hw h1).imp fun _ _ _ h => t_asg hT h
theorem p_set {i : Nat} {x : Str} (hN : X.N.Nodup) (hi : X.N[i]? = some x) (hx : Loc X.env.scope x) (he : PE X e (ER X.K ct W f)) (hs : swapsWith e (some (.Name x pos')) pos.line X.env = pure false := by rfl) (hf : X.fn x = true ∨ X.env.scope.names.lookup x = some .local := by first | exact .inl rfl | exact .inr rfl | assumption) :
    PS X (.Assign [.Name x pos'] e pos) (sOf X.K ct W (ssAsg (.nm i) f)) := (ps_set hN hi hx he hs hf).imp fun _ _ _ h => t_asg (tg_nm i) h
/-- the two kinds of owned slots -/
def slOf (b : Bool) (d : D) : Sl := if b then .gh d else .ow d
theorem slOf_ow (b : Bool) (d : D) : isOw (slOf b d) = true := by cases b <;> rfl
/-- slot i takes a new thing -/
theorem own_ok (b : Bool) {K : PySem.W.Frag} {F0 H0 F H : Hp} {env : En} {σ : L2.St} {i : Nat} {t : Sl} {p : Addr} {d : D} (g : Gr F0 H0 F H) (E0 : EnvOk K ct F0 H0 env σ) (hi : env[i]? = some t) (hc : canSet t = true) (hp : H0 p = none) (ho : OwnAt K ct F H p d) :
    EnvOk K ct F H (env.set i (slOf b d)) (σ.set i (some (.ref p))) ∧ Sx F0 H0 env σ F H (env.set i (slOf b d)) (σ.set i (some (.ref p))) := by
  have E := E0.gr g
  have hl : i < σ.length := by
    obtain ⟨h1, _⟩ := List.getElem?_eq_some_iff.mp hi
    rw [← E.len]; exact h1
  have hσ : (σ.set i (some (V.ref p)))[i]? = some (some (.ref p)) := by simp [hl]
  have np : ¬ Owns env σ p := fun z => by
    obtain ⟨_, o, ho⟩ := own_free E0 z
    rw [hp] at ho; cases ho
  have ow : ∀ {a : Addr}, Owns (env.set i (slOf b d)) (σ.set i (some (.ref p))) a → a = p ∨ Owns env σ a := fun {a} ⟨j, s, e1, e2, e3⟩ => by
    by_cases hj : j = i
    · subst hj; rw [hσ] at e3; cases e3; exact .inl rfl
    · rw [get_set_ne hj] at e1 e3
      exact .inr ⟨j, s, e1, e2, e3⟩
  refine ⟨⟨E.ex, by simp [E.len], fun j e h => ?_, fun j e h => ?_, fun j e h => ?_, fun j c fs gs h => ?_, fun j e h => ?_, fun j k u w a h1 h2 h3 h4 h5 h6 => ?_⟩, ⟨g.sr, fun a h => ?_, fun j e h => ?_, fun j c fs gs h => ?_⟩⟩
  · by_cases hj : j = i
    · subst hj; rw [get_set_self hi] at h; cases b <;> cases h
    · rw [get_set_ne hj] at h ⊢; exact E.sh j e h
  · by_cases hj : j = i
    · subst hj; rw [get_set_self hi] at h; cases b <;> cases h; exact ⟨p, hσ, ho⟩
    · rw [get_set_ne hj] at h ⊢; exact E.ow j e h
  · by_cases hj : j = i
    · subst hj; rw [get_set_self hi] at h; cases b <;> cases h
    · rw [get_set_ne hj] at h ⊢
      obtain ⟨v, e1, e2, e3⟩ := E.bo j e h
      refine ⟨v, e1, e2, fun a hn ha z => ?_⟩
      rcases ow z with z | z
      · subst ha z
        obtain ⟨v', e1', e2', _⟩ := E0.bo j e h
        rw [e1] at e1'; cases e1'
        obtain ⟨o, ho⟩ := repB_there E0.ex hn e2'
        rw [hp] at ho; cases ho
      · exact e3 a hn ha z
  · by_cases hj : j = i
    · subst hj; rw [get_set_self hi] at h; cases b <;> cases h
    · rw [get_set_ne hj] at h ⊢
      obtain ⟨a, dx, fvs, e1, e2, e3, e4, e5, e6, e7⟩ := E.oo j c fs gs h
      refine ⟨a, dx, fvs, e1, e2, e3, e4, e5, e6, fun n g hg => ?_⟩
      obtain ⟨v, d', q1, q2, q3⟩ := e7 n g hg
      have hgi : g ≠ i := fun z => by subst z; rw [hi] at q3; cases q3; cases hc
      exact ⟨v, d', q1, by rw [get_set_ne hgi]; exact q2, by rw [get_set_ne hgi]; exact q3⟩
  · by_cases hj : j = i
    · subst hj; rw [get_set_self hi] at h; cases b <;> cases h; exact ⟨p, hσ, ho⟩
    · rw [get_set_ne hj] at h ⊢; exact E.gh j e h
  · by_cases hj : j = i
    · by_cases hk : k = i
      · rw [hj, hk]
      · subst hj
        rw [hσ] at h5; cases h5
        rw [get_set_ne hk] at h2 h6
        exact absurd ⟨k, w, h2, h4, h6⟩ np
    · by_cases hk : k = i
      · subst hk
        rw [hσ] at h6; cases h6
        rw [get_set_ne hj] at h1 h5
        exact absurd ⟨j, u, h1, h3, h5⟩ np
      · rw [get_set_ne hj] at h1 h5
        rw [get_set_ne hk] at h2 h6
        exact E.ap j k u w a h1 h2 h3 h4 h5 h6
  · rcases ow h with z | z
    · subst z; exact .inr hp
    · exact .inl z
  · have hj : j ≠ i := fun z => by subst z; rw [hi] at h; cases h; cases hc
    rw [get_set_ne hj, get_set_ne hj]
    exact ⟨h, rfl⟩
  · have hj : j ≠ i := fun z => by subst z; rw [hi] at h; cases h; cases hc
    rw [get_set_ne hj, get_set_ne hj]
    exact ⟨⟨fs, gs, h⟩, rfl⟩
theorem t_own {K : PySem.W.Frag} {i : Nat} {D : Ends} {σ : L2.St} {H : Hp} (h : sOf K ct W (ssOwn i f) D σ H) : tAsg (EN K ct W f) (gName i) D σ H := by
  obtain ⟨env, F, E, h⟩ := h
  refine finS_bind E h fun d v F1 H1 e1 g1 r1 E1 h => ?_
  obtain ⟨p, rfl, hp, ho⟩ := r1
  cases q : setSl env i (.ow d) with
  | none => rw [q] at h; exact h.elim
  | some e =>
    rw [q] at h
    obtain ⟨t, q1, q2, rfl⟩ := setSl_some q
    obtain ⟨E2, S2⟩ := own_ok false g1 E q1 q2 hp ho
    exact h _ F1 H1 S2 E2
theorem p_own {i : Nat} {x : Str} (hN : X.N.Nodup) (hi : X.N[i]? = some x) (hx : Loc X.env.scope x) (he : PE X e (EN X.K ct W f)) (hs : swapsWith e (some (.Name x pos')) pos.line X.env = pure false := by rfl) (hf : X.fn x = true ∨ X.env.scope.names.lookup x = some .local := by first | exact .inl rfl | exact .inr rfl | assumption) :
    PS X (.Assign [.Name x pos'] e pos) (sOf X.K ct W (ssOwn i f)) := (ps_set hN hi hx he hs hf).imp fun _ _ _ h => t_own h
theorem p_if (hc : PT X c (TT1 X.K ct W f)) (ha : PSs X body (sOf X.K ct W g)) (hb : PSs X orelse (sOf X.K ct W g2)) : PS X (.If c body orelse pos) (sOf X.K ct W (ssIf f g g2)) := by
  refine (ps_if hc ha hb).imp fun D σ H ⟨env, F, E, h⟩ => ?_
  refine finS_test E h fun b F1 H1 _ g1 E1 h => ?_
  cases b with
  | true => exact ⟨env, F1, E1, finS_after g1.sx h⟩
  | false => exact ⟨env, F1, E1, finS_after g1.sx h⟩
theorem p_expr (he : PE X e (ER X.K ct W f)) (hs : swapsWith e none pos.line X.env = pure false := by rfl) : PS X (.Expr e pos) (sOf X.K ct W (ssExpr f)) := by
  refine (ps_expr he hs).imp fun D σ H ⟨env, F, E, h⟩ => ?_
  exact finS_bind E h fun d v F1 H1 e1 g1 r1 E1 h => h σ F1 H1 g1.sx E1
theorem p_ret (he : PE X e (ER X.K ct W f)) : PS X (.Return (some e) pos) (sOf X.K ct W (ssRet f)) := by
  refine (ps_ret he).imp fun D σ H ⟨env, F, E, h⟩ => ?_
  exact finS_bind E h fun d v F1 H1 e1 g1 r1 E1 h => h v F1 H1 g1.sr r1
theorem p_retN (he : PE X e (EN X.K ct W f)) : PS X (.Return (some e) pos) (sOf X.K ct W (ssRetN f)) := by
  refine (ps_ret he).imp fun D σ H ⟨env, F, E, h⟩ => ?_
  refine finS_bind E h fun d v F1 H1 e1 g1 r1 E1 h => ?_
  obtain ⟨p, rfl, hp, ho⟩ := r1
  exact h p F1 H1 g1.sr (.inl hp) ho
theorem p_retNone : PS X (.Return none pos) (sOf X.K ct W (ssRet (sC .non))) := ps_retN.imp fun D σ H ⟨env, F, E, h⟩ => h .non F H (Gr.refl E.ex).sr rfl
theorem p_retOw (i : Nat) {x : Str} (hN : X.N[i]? = some x := by rfl) (hv : Vis X.env.scope x := by first | exact Or.inl rfl | exact Or.inr (Or.inl rfl) | exact Or.inr (Or.inr rfl)) (hd : (x == ("__debug__" : Str)) = false := by decide)
    (hcd : (x == ("__classdict__" : Str)) = false := by decide) : PS X (.Return (some (.Name x p)) pos) (sOf X.K ct W (ssRetOw i)) := by
  refine (ps_ret (pe_var hN hv hd hcd)).imp fun D σ H ⟨env, F, E, h⟩ => ?_
  unfold ssRetOw at h
  split at h
  · rename_i d q
    obtain ⟨a, e1, e2⟩ := E.ow i d q
    exact ⟨.ref a, e1, h a F H (Gr.refl E.ex).sr (.inr ⟨i, _, q, rfl, e1⟩) e2⟩
  · exact h.elim
/-- nothing is written in the program for it -/
theorem frz_ok {K : PySem.W.Frag} {F H : Hp} {env : En} {σ : L2.St} {i : Nat} {d : D} (E : EnvOk K ct F H env σ) (hi : env[i]? = some (.ow d)) : ∃ F', EnvOk K ct F' H (env.set i (.sh d)) σ ∧ Sx F H env σ F' H (env.set i (.sh d)) σ := by
  obtain ⟨p, e1, e2⟩ := E.ow i d hi
  obtain ⟨o, ho⟩ := e2.there
  have hF := e2.free
  have le : Ex F (upd F p o) := Ex.new hF
  have ex : Ex (upd F p o) H := fun a u q => by
    by_cases ha : a = p
    · subst ha; rw [upd_same] at q; cases q; exact ho
    · rw [upd_ne ha] at q; exact E.ex a u q
  have op : Owns env σ p := ⟨i, _, hi, rfl, e1⟩
  have ne : ∀ {j : Nat} {s : Sl} {a : Addr}, j ≠ i → env[j]? = some s → isOw s = true → σ[j]? = some (some (.ref a)) → a ≠ p := fun {j s a} hj h1 h2 h3 z => by
    subst z
    exact hj (E.ap j i s _ a h1 hi h2 rfl h3 e1)
  have own' : ∀ {a : Addr}, Owns (env.set i (.sh d)) σ a → Owns env σ a := fun {a} ⟨j, s, h1, h2, h3⟩ => by
    by_cases hj : j = i
    · subst hj; rw [get_set_self hi] at h1; cases h1; cases h2
    · rw [get_set_ne hj] at h1; exact ⟨j, s, h1, h2, h3⟩
  refine ⟨upd F p o, ⟨ex, by simp [E.len], fun j e h => ?_, fun j e h => ?_, fun j e h => ?_, fun j c fs gs h => ?_, fun j e h => ?_, fun j k u w a h1 h2 h3 h4 h5 h6 => ?_⟩, ⟨⟨le, ex, fun a u q _ => q, fun a u q => ⟨u, q⟩, fun a u q => ?_⟩, fun a h => .inl (own' h), fun j e h => ?_, fun j c fs gs h => ?_⟩⟩
  · by_cases hj : j = i
    · subst hj; rw [get_set_self hi] at h; cases h
      exact ⟨.ref p, e1, e2.freeze ho⟩
    · rw [get_set_ne hj] at h
      obtain ⟨v, q1, q2⟩ := E.sh j e h
      exact ⟨v, q1, Rep.mono (Ex.le le) _ _ q2⟩
  · by_cases hj : j = i
    · subst hj; rw [get_set_self hi] at h; cases h
    · rw [get_set_ne hj] at h
      obtain ⟨a, q1, q2⟩ := E.ow j e h
      exact ⟨a, q1, q2.mono le (by rw [upd_ne (ne hj h rfl q1)]; exact q2.free) rfl⟩
  · by_cases hj : j = i
    · subst hj; rw [get_set_self hi] at h; cases h
    · rw [get_set_ne hj] at h
      obtain ⟨v, q1, q2, q3⟩ := E.bo j e h
      refine ⟨v, q1, ?_, fun a hn ha z => q3 a hn ha (own' z)⟩
      exact RepB.mono2 le (Ex.refl _) q2
  · by_cases hj : j = i
    · subst hj; rw [get_set_self hi] at h; cases h
    · rw [get_set_ne hj] at h
      obtain ⟨a, dx, fvs, q1, q2, q3, q4, q5, q6, q7⟩ := E.oo j c fs gs h
      refine ⟨a, dx, fvs, q1, by rw [upd_ne (ne hj h rfl q1)]; exact q2, q3, q4, q5, RepF.mono (Ex.le le) _ _ q6, fun n g hg => ?_⟩
      obtain ⟨v, d', r1, r2, r3⟩ := q7 n g hg
      have hgi : g ≠ i := fun z => by subst z; rw [hi] at r3; cases r3
      exact ⟨v, d', r1, r2, by rw [get_set_ne hgi]; exact r3⟩
  · by_cases hj : j = i
    · subst hj; rw [get_set_self hi] at h; cases h
    · rw [get_set_ne hj] at h
      obtain ⟨a, q1, q2⟩ := E.gh j e h
      exact ⟨a, q1, q2.mono le (by rw [upd_ne (ne hj h rfl q1)]; exact q2.free) rfl⟩
  · have hj : j ≠ i := fun z => by subst z; rw [get_set_self hi] at h1; cases h1; cases h3
    have hk : k ≠ i := fun z => by subst z; rw [get_set_self hi] at h2; cases h2; cases h4
    rw [get_set_ne hj] at h1
    rw [get_set_ne hk] at h2
    exact E.ap j k u w a h1 h2 h3 h4 h5 h6
  · by_cases ha : a = p
    · subst ha; exact .inr (.inr op)
    · rw [upd_ne ha] at q; exact .inl q
  · have hj : j ≠ i := fun z => by subst z; rw [hi] at h; cases h
    rw [get_set_ne hj]
    exact ⟨h, rfl⟩
  · have hj : j ≠ i := fun z => by subst z; rw [hi] at h; cases h
    rw [get_set_ne hj]
    exact ⟨⟨fs, gs, h⟩, rfl⟩
theorem p_frz (i : Nat) (h : PSs X rest (sOf X.K ct W g)) : PSs X rest (sOf X.K ct W (ssSeq (ssFrz i) g)) := by
  refine PSs.imp h fun D σ H ⟨env, F, E, h⟩ => ?_
  unfold ssSeq ssFrz at h
  cases q : env[i]? with
  | none => rw [q] at h; exact h.elim
  | some s =>
    rw [q] at h
    cases s <;> first | exact h.elim | skip
    rename_i d
    obtain ⟨F', E', S'⟩ := frz_ok E q
    exact ⟨_, F', E', finS_after S' h⟩
end
end Ps

namespace Ps
open PySem PySem.Spec PyProof.Rows L2

section
variable {K : PySem.W.Frag} {ct : Nat → Addr} {F H : Hp} {env : En} {σ : L2.St} {i : Nat}
/-- an owned thing changes -/
theorem mut_ok (b : Bool) {x z : D} {p : Addr} {o : HO} (E : EnvOk K ct F H env σ) (hi : env[i]? = some (slOf b x)) (hp : σ[i]? = some (some (.ref p))) (hF : F p = none) (hz : OwnAt K ct F (upd H p o) p z) :
    EnvOk K ct F (upd H p o) (env.set i (slOf b z)) σ ∧ Sx F H env σ F (upd H p o) (env.set i (slOf b z)) σ := by
  have op : Owns env σ p := ⟨i, _, hi, slOf_ow b x, hp⟩
  have ex : Ex F (upd H p o) := fun a u q => by rw [upd_ne (ne_of_none q hF)]; exact E.ex a u q
  have ne : ∀ {j : Nat} {s : Sl} {a : Addr}, j ≠ i → env[j]? = some s → isOw s = true → σ[j]? = some (some (.ref a)) → a ≠ p := fun {j s a} hj h1 h2 h3 q => by
    subst q
    exact hj (E.ap j i s _ a h1 hi h2 (slOf_ow b x) h3 hp)
  have own' : ∀ {a : Addr}, Owns (env.set i (slOf b z)) σ a → Owns env σ a := fun {a} ⟨j, s, h1, h2, h3⟩ => by
    by_cases hj : j = i
    · subst hj; rw [hp] at h3; cases h3; exact op
    · rw [get_set_ne hj] at h1; exact ⟨j, s, h1, h2, h3⟩
  refine ⟨⟨ex, by simp [E.len], fun j e h => ?_, fun j e h => ?_, fun j e h => ?_, fun j c fs gs h => ?_, fun j e h => ?_, fun j k u w a h1 h2 h3 h4 h5 h6 => ?_⟩, ⟨⟨Ex.refl _, ex, fun a u q n => ?_, fun a u q => ?_, fun a u q => .inl q⟩, fun a h => .inl (own' h), fun j e h => ?_, fun j c fs gs h => ?_⟩⟩
  · by_cases hj : j = i
    · subst hj; rw [get_set_self hi] at h; cases b <;> cases h
    · rw [get_set_ne hj] at h; exact E.sh j e h
  · by_cases hj : j = i
    · subst hj; rw [get_set_self hi] at h
      cases b <;> cases h
      exact ⟨p, hp, hz⟩
    · rw [get_set_ne hj] at h
      obtain ⟨a, q1, q2⟩ := E.ow j e h
      exact ⟨a, q1, q2.mono (Ex.refl _) q2.free (upd_ne (ne hj h rfl q1))⟩
  · by_cases hj : j = i
    · subst hj; rw [get_set_self hi] at h; cases b <;> cases h
    · rw [get_set_ne hj] at h
      obtain ⟨v, q1, q2, q3⟩ := E.bo j e h
      refine ⟨v, q1, ?_, fun a hn ha q => q3 a hn ha (own' q)⟩
      have st : ∀ a, v = .ref a → noScr e = true → ∀ u, H a = some u → upd H p o a = some u := fun a ha hn u q => by
        rw [upd_ne fun z => q3 a hn ha (by rw [z]; exact op)]; exact q
      cases e with
      | lst ds => obtain ⟨a, vs, r1, r2, r3⟩ := q2; exact ⟨a, vs, r1, st a r1 rfl _ r2, r3⟩
      | dk ds =>
        obtain ⟨a, vs, r1, r2, r3⟩ := q2
        refine ⟨a, vs, r1, ?_, r3⟩
        rcases r2 with r2 | ⟨o', r2⟩
        · exact .inl (st a r1 rfl _ r2)
        · exact .inr ⟨o', st a r1 rfl _ r2⟩
      | dt ds =>
        obtain ⟨a, vs, r1, r2, r3⟩ := q2
        refine ⟨a, vs, r1, ?_, r3⟩
        rcases r2 with r2 | ⟨o', r2⟩
        · exact .inl (st a r1 rfl _ r2)
        · exact .inr ⟨o', st a r1 rfl _ r2⟩
      | obj c fs => obtain ⟨a, dx, vs, r1, r2, rn, r3⟩ := q2; exact ⟨a, dx, vs, r1, st a r1 rfl _ r2, rn, r3⟩
      | non => exact q2
      | bl _ => exact q2
      | int _ => exact q2
      | str _ => exact q2
      | tup _ => exact q2
      | scr _ => exact q2
      | exo _ _ => exact q2
  · by_cases hj : j = i
    · subst hj; rw [get_set_self hi] at h; cases b <;> cases h
    · rw [get_set_ne hj] at h
      obtain ⟨a, dx, fvs, q1, q2, q3, q4, q5, q6, q7⟩ := E.oo j c fs gs h
      refine ⟨a, dx, fvs, q1, q2, by rw [upd_ne (ne hj h rfl q1)]; exact q3, q4, q5, q6, fun n g hg => ?_⟩
      obtain ⟨v, d', r1, r2, r3⟩ := q7 n g hg
      by_cases hgi : g = i
      · subst hgi
        rw [hi] at r3
        cases b
        · cases r3
        · exact ⟨v, z, r1, r2, get_set_self hi⟩
      · exact ⟨v, d', r1, r2, by rw [get_set_ne hgi]; exact r3⟩
  · by_cases hj : j = i
    · subst hj; rw [get_set_self hi] at h
      cases b <;> cases h
      exact ⟨p, hp, hz⟩
    · rw [get_set_ne hj] at h
      obtain ⟨a, q1, q2⟩ := E.gh j e h
      exact ⟨a, q1, q2.mono (Ex.refl _) q2.free (upd_ne (ne hj h rfl q1))⟩
  · have fx : ∀ {j : Nat} {u : Sl}, (env.set i (slOf b z))[j]? = some u → isOw u = true → ∃ u', env[j]? = some u' ∧ isOw u' = true := fun {j u} h hu => by
      by_cases hj : j = i
      · subst hj; exact ⟨_, hi, slOf_ow b x⟩
      · rw [get_set_ne hj] at h; exact ⟨u, h, hu⟩
    obtain ⟨u', a1, a2⟩ := fx h1 h3
    obtain ⟨w', b1, b2⟩ := fx h2 h4
    exact E.ap j k u' w' a a1 b1 a2 b2 h5 h6
  · rw [upd_ne fun z => n (by rw [z]; exact op)]; exact q
  · by_cases ha : a = p
    · subst ha; exact ⟨_, upd_same⟩
    · exact ⟨u, by rw [upd_ne ha]; exact q⟩
  · have hj : j ≠ i := fun z => by subst z; rw [hi] at h; cases b <;> cases h
    rw [get_set_ne hj]
    exact ⟨h, rfl⟩
  · have hj : j ≠ i := fun z => by subst z; rw [hi] at h; cases b <;> cases h
    rw [get_set_ne hj]
    exact ⟨⟨fs, gs, h⟩, rfl⟩
theorem repK_put {kvs : List (Key × D)} {vs : List (Key × V)} {k : Key} {d : D} {v : V} (r : Rep K ct F d v) (h : RepK K ct F kvs vs) : RepK K ct F (putD kvs k d) (putK vs k v) := by
  have an : ∀ {kvs : List (Key × D)} {vs : List (Key × V)}, RepK K ct F kvs vs → (kvs.any fun kv => decide (kv.1 = k)) = vs.any fun kv => decide (kv.1 = k) := by
    intro kvs
    induction kvs with
    | nil => intro vs h; rw [show vs = [] from h]; rfl
    | cons p pr ih =>
      intro vs h
      obtain ⟨v', vr, rfl, e2, e3⟩ := h
      rw [List.any_cons, List.any_cons, ih e3]
  have mp : ∀ {kvs : List (Key × D)} {vs : List (Key × V)}, RepK K ct F kvs vs → RepK K ct F (kvs.map fun kv => if kv.1 = k then (kv.1, d) else kv) (vs.map fun kv => if kv.1 = k then (kv.1, v) else kv) := by
    intro kvs
    induction kvs with
    | nil => intro vs h; rw [show vs = [] from h]; rfl
    | cons p pr ih =>
      intro vs h
      obtain ⟨v', vr, rfl, e2, e3⟩ := h
      obtain ⟨pk, pd⟩ := p
      rw [List.map_cons, List.map_cons]
      by_cases e : pk = k
      · rw [if_pos e, if_pos e]; exact ⟨v, _, rfl, r, ih e3⟩
      · rw [if_neg e, if_neg e]; exact ⟨v', _, rfl, e2, ih e3⟩
  have sn : ∀ {kvs : List (Key × D)} {vs : List (Key × V)}, RepK K ct F kvs vs → RepK K ct F (kvs ++ [(k, d)]) (vs ++ [(k, v)]) := by
    intro kvs
    induction kvs with
    | nil => intro vs h; rw [show vs = [] from h]; exact ⟨v, [], rfl, r, rfl⟩
    | cons p pr ih =>
      intro vs h
      obtain ⟨v', vr, rfl, e2, e3⟩ := h
      exact ⟨v', _, rfl, e2, ih e3⟩
  unfold putD putK
  rw [an h]
  cases vs.any fun kv => decide (kv.1 = k) with
  | true => exact mp h
  | false => exact sn h
theorem repT_put {kvs : List (List Key × D)} {vs : List (List Key × V)} {k : List Key} {d : D} {v : V} (r : Rep K ct F d v) (h : RepT K ct F kvs vs) : RepT K ct F (putD kvs k d) (putK vs k v) := by
  have an : ∀ {kvs : List (List Key × D)} {vs : List (List Key × V)}, RepT K ct F kvs vs → (kvs.any fun kv => decide (kv.1 = k)) = vs.any fun kv => decide (kv.1 = k) := by
    intro kvs
    induction kvs with
    | nil => intro vs h; rw [show vs = [] from h]; rfl
    | cons p pr ih =>
      intro vs h
      obtain ⟨v', vr, rfl, e2, e3⟩ := h
      rw [List.any_cons, List.any_cons, ih e3]
  have mp : ∀ {kvs : List (List Key × D)} {vs : List (List Key × V)}, RepT K ct F kvs vs → RepT K ct F (kvs.map fun kv => if kv.1 = k then (kv.1, d) else kv) (vs.map fun kv => if kv.1 = k then (kv.1, v) else kv) := by
    intro kvs
    induction kvs with
    | nil => intro vs h; rw [show vs = [] from h]; rfl
    | cons p pr ih =>
      intro vs h
      obtain ⟨v', vr, rfl, e2, e3⟩ := h
      obtain ⟨pk, pd⟩ := p
      rw [List.map_cons, List.map_cons]
      by_cases e : pk = k
      · rw [if_pos e, if_pos e]; exact ⟨v, _, rfl, r, ih e3⟩
      · rw [if_neg e, if_neg e]; exact ⟨v', _, rfl, e2, ih e3⟩
  have sn : ∀ {kvs : List (List Key × D)} {vs : List (List Key × V)}, RepT K ct F kvs vs → RepT K ct F (kvs ++ [(k, d)]) (vs ++ [(k, v)]) := by
    intro kvs
    induction kvs with
    | nil => intro vs h; rw [show vs = [] from h]; exact ⟨v, [], rfl, r, rfl⟩
    | cons p pr ih =>
      intro vs h
      obtain ⟨v', vr, rfl, e2, e3⟩ := h
      exact ⟨v', _, rfl, e2, ih e3⟩
  unfold putD putK
  rw [an h]
  cases vs.any fun kv => decide (kv.1 = k) with
  | true => exact mp h
  | false => exact sn h
theorem repK_len2 {kvs : List (Key × D)} {vs : List (Key × V)} (h : RepK K ct F kvs vs) : vs.length = kvs.length := repK_len h
theorem repT_len : ∀ {kvs : List (List Key × D)} {vs : List (List Key × V)}, RepT K ct F kvs vs → vs.length = kvs.length
  | [], vs, h => by rw [show vs = [] from h]; rfl
  | (k, d) :: kvs, vs, h => by
    obtain ⟨v, r, e1, e2, e3⟩ := h
    rw [e1, List.length_cons, List.length_cons, repT_len e3]
/-- a store into an owned thing -/
def rPut1 : TSet := fun o i v H Q => rSetL o i v H Q ∨ ∃ a H4, o = .ref a ∧ DPut H a i v H4 ∧ Q H4
theorem set_put1 {X : Cx} (hu : X.A.units + 1 < cLine) : PSet X rPut1 := by
  intro pins s σ H o i v ov iv u Q I ro ri rv h
  rcases h with h | ⟨a, H4, rfl, g, q⟩
  · exact set_list pins s σ H o i v ov iv u Q I ro ri rv h
  · obtain rfl : ov = Value.ref a := ro
    exact d_setItem hu I g ri rv fun s' I' => ⟨H4, I', q⟩
theorem put_ok {x k v z : D} {p : Addr} {kv vv : V} (ex : Ex F H) (ho : OwnAt K ct F H p x) (hk : Rep K ct F k kv) (hv : Rep K ct F v vv) (hz : dPut x k v = some z) :
    ∃ o, OwnAt K ct F (upd H p o) p z ∧ ∀ Q : Hp → Prop, Q (upd H p o) → rPut1 (.ref p) kv vv H Q := by
  cases x <;> first | (cases hz; done) | skip
  · rename_i ds
    cases k <;> first | (cases hz; done) | skip
    rename_i i
    obtain ⟨hF, vs, h1, h2⟩ := ho
    obtain ⟨j, q1, rfl⟩ := Option.map_eq_some_iff.mp (show (ixN ds.length i).map (fun j => D.lst (ds.set j v)) = some z from hz)
    cases (show kv = .int i from hk)
    exact ⟨.lst (vs.set j vv), ⟨hF, _, upd_same, h2.set hv j⟩, fun Q q => .inl ⟨p, vs, i, j, rfl, rfl, h1, by rw [h2.length]; exact q1, q⟩⟩
  · rename_i kvs
    obtain ⟨hF, vs, h1, h2⟩ := ho
    obtain ⟨kk, q1, q2⟩ := Option.bind_eq_some_iff.mp (show ((keyD k).bind fun k => if kvs.length < sizeLine then some (D.dk (putD kvs k v)) else none) = some z from by cases k <;> exact hz)
    split at q2
    · rename_i hl
      cases q2
      have ek := rep_key hk q1
      subst ek
      exact ⟨.dK (putK vs kk vv), ⟨hF, _, upd_same, repK_put hv h2⟩, fun Q q => .inr ⟨p, _, rfl, DPut.k h1 (by rw [repK_len h2]; exact hl), q⟩⟩
    · cases q2
  · rename_i kvs
    cases k <;> first | (cases hz; done) | skip
    rename_i ks
    obtain ⟨hF, vs, h1, h2⟩ := ho
    obtain ⟨kk, q1, q2⟩ := Option.bind_eq_some_iff.mp (show ((keysD ks).bind fun k => if kvs.length < sizeLine then some (D.dt (putD kvs k v)) else none) = some z from hz)
    split at q2
    · rename_i hl
      cases q2
      obtain ⟨b, us, rfl, b1, b2⟩ := hk
      rw [reps_keys b2 q1] at b1
      exact ⟨.dT (putK vs kk vv), ⟨hF, _, upd_same, repT_put hv h2⟩, fun Q q => .inr ⟨p, _, rfl, DPut.t h1 (ex _ _ b1) (by rw [repT_len h2]; exact hl), q⟩⟩
    · cases q2
end

section
variable {X : Cx} {ct : Nat → Addr} {W : WX} {st : Stmt} {rest body orelse : List Stmt} {a b e c tg iter : Expr} {f fk fv fi : SE} {g g2 : SS} {pos pos' p p' apos cpos : Pos} {T : Tgt}
/-- x.append(e) -/
theorem p_app (i : Nat) {x : Str} (he : PE X e (ER X.K ct W f)) (hN : X.N[i]? = some x := by rfl) (hv : Vis X.env.scope x := by first | exact Or.inl rfl | exact Or.inr (Or.inl rfl) | exact Or.inr (Or.inr rfl)) (hd : (x == ("__debug__" : Str)) = false := by decide)
    (hcd : (x == ("__classdict__" : Str)) = false := by decide) (hs : swapsWith (.Call (.Attribute (.Name x p) "append" apos) [e] [] cpos) none pos.line X.env = pure false := by rfl)
    (hbase : attributeBase (.Name x p) "append" X.env (eval (.Name x p) X.env) = eval (.Name x p) X.env := by rfl)
    (hfew : ((backTo cpos (starEach [e] X.env)).all (fun x => !x.1) && (backToKw cpos (keywordEach [] X.env)).all (fun x => x.1.isSome)
      && decide ([e].length + ([] : List Keyword).length + (if ([] : List Keyword).isEmpty then 0 else 1) < 30)) = true := by rfl)
    (hline : (apos.endLine == cpos.line) = true := by rfl) (h1 : starEach [e] X.env = (false, eval e X.env) :: starEach [] X.env := by rfl) (hplain : (backTo cpos (starEach [] X.env)).any (·.1) = false := by rfl) :
    PS X (.Expr (.Call (.Attribute (.Name x p) "append" apos) [e] [] cpos) pos) (sOf X.K ct W (ssApp i f)) := by
  refine (ps_expr (pe_bm PySem.F.plainAttrs_list PySem.F.slot_list_append PySem.F.type_list_append mt_append (pe_var hN hv hd hcd) (pa_cons he pa_nil h1) hbase hfew hline h1 hplain) hs).imp fun D σ H ⟨env, F, E, h⟩ => ?_
  unfold ssApp at h
  split at h
  · rename_i ds q
    obtain ⟨l, e1, hF, vs, h1, h2⟩ := E.ow i _ q
    refine ⟨.ref l, e1, .inl ⟨rfl, vs, SqL.of h1⟩, ?_⟩
    refine finS_bind E h fun d v F1 H1 e2 g1 r1 E1 h => ?_
    split at h
    · rename_i hl
      obtain ⟨l', e1', hF1, vs1, h3, h4⟩ := E1.ow i _ q
      rw [e1] at e1'; cases e1'
      refine ⟨l, vs1, v, rfl, rfl, h3, by rw [h4.length]; exact hl, ?_⟩
      obtain ⟨E2, S2⟩ := mut_ok false (z := .lst (ds ++ [d])) (o := .lst (vs1 ++ [v])) E1 q e1 hF1 ⟨hF1, _, upd_same, h4.append (Reps.one r1)⟩
      exact h σ F1 _ (g1.sx.trans S2) E2
    · exact h.elim
  · exact h.elim
/-- x[k] = v -/
theorem p_put (i : Nat) {x : Str} (hu : X.A.units + 1 < cLine) (hk : PE X a (ER X.K ct W fk)) (hvv : PE X b (ER X.K ct W fv)) (hN : X.N[i]? = some x := by rfl) (hv : Vis X.env.scope x := by first | exact Or.inl rfl | exact Or.inr (Or.inl rfl) | exact Or.inr (Or.inr rfl)) (hd : (x == ("__debug__" : Str)) = false := by decide)
    (hcd : (x == ("__classdict__" : Str)) = false := by decide)
    (ha : ∀ v, assign (.Subscript (.Name x p) a pos') X.env v = (do
      let ov ← holding [v] (eval (.Name x p) X.env)
      let iv ← holding [v, ov] (eval a X.env)
      standAt pos'
      holding [v, ov, iv] (setItem ov iv v)
      release [v, ov, iv] []) := by intro _; rfl)
    (hs : swapsWithSole [.Subscript (.Name x p) a pos'] b pos.line X.env = pure false := by rfl) (hw : swappedStores [.Subscript (.Name x p) a pos'] b X.env = pure none := by rfl) (h1 : (assignEach [.Subscript (.Name x p) a pos'] X.env).map (·.2) = [assign (.Subscript (.Name x p) a pos') X.env] := by rfl) :
    PS X (.Assign [.Subscript (.Name x p) a pos'] b pos) (sOf X.K ct W (ssPut i fk fv)) := by
  refine (ps_asg hvv (pg_sub (pe_var hN hv hd hcd) hk (set_put1 hu) ha) hs hw h1).imp fun D σ H ⟨env, F, E, h⟩ => ?_
  unfold ssPut at h
  refine finS_bind E h fun v vv F1 H1 e2 g1 r1 E1 h => ?_
  split at h
  · rename_i z q
    obtain ⟨l, e1, o1⟩ := E1.ow i _ q
    refine ⟨.ref l, e1, ?_⟩
    have h' := finS_after g1.sx h
    refine finS_bind E1 h' fun k kv F2 H2 e3 g2 r2 E2 h => ?_
    obtain ⟨l', e1', o2⟩ := E2.ow i _ q
    rw [e1] at e1'; cases e1'
    cases q2 : dPut z k v with
    | none => rw [q2] at h; exact h.elim
    | some y =>
      rw [q2] at h
      obtain ⟨o, o3, k3⟩ := put_ok E2.ex o2 r2 (Rep.mono (Ex.le g2.f) _ _ r1) q2
      obtain ⟨E3, S3⟩ := mut_ok false (z := y) (o := o) E2 q e1 o2.free o3
      exact k3 _ (h σ F2 _ (g2.sx.trans S3) E3)
  · exact h.elim
/-- loops -/
theorem loopF_cons {T : Tgt} {body : SS} {d : D} {ds : List D} {env : En} : loopF T body (d :: ds) env = (match bindT T d env with
    | none => .st
    | some e => stepL (body e) (loopF T body ds)) := rfl
theorem p_for {gt : TG} (hp : PassesOwn (model X.prog X.w) X.A X.env X.xe) (hc : X.calm = true) (hT : TgOk X.K ct gt T) (hi : PI X tg iter (tI X.K ct W O1 fi)) (hg : PG X tg gt) (hb : PSs X body (sOf X.K ct W g))
    (hs : ∀ x, foldedSetIterable iter X.env x = pure x := by intro _; rfl) : PS X (.For tg iter body [] pos) (sOf X.K ct W (ssFor T fi g)) := by
  refine (ps_for hp hc hi hg hb hs).imp fun D σ H ⟨env, F, E, h⟩ => ?_
  refine ⟨env, F, E, ?_⟩
  unfold ssFor at h
  cases q : fi env with
  | er c fs => rw [q] at h; exact fun dx F' H' g x => h dx σ F' H' g.sx (E.gr g) x
  | st => rw [q] at h; exact h
  | ok d =>
    rw [q] at h
    cases d <;> first | exact h.elim | skip
    rename_i ds
    intro J F1 H1 g1 hJ
    obtain ⟨G, Y, w, hG, hY⟩ := hJ
    have h : FinS X.K ct W F H env σ (loopF T g ds env) D := h
    refine for_it w (fun i σ' H' => ∃ env' F', Sx F1 H1 env σ F' H' env' σ' ∧ EnvOk X.K ct F' H' env' σ' ∧ loopF T g (ds.drop i) env' = loopF T g ds env)
      ⟨env, F1, (Gr.refl g1.e).sx, E.gr g1, rfl⟩ (fun i σ' H' hi p => ?_) (fun i x σ' H2 H2' hi p y => ?_) fun σ' H' p => ?_
    · obtain ⟨env', F', S, E', _⟩ := p
      exact hG H' fun b o q n => S.k b o q n
    · obtain ⟨env', F', S, E', hl⟩ := p
      have hd : ds[i]? = some ds[i] := by simp [hi]
      obtain ⟨F3, g3, r3⟩ := hY i ds[i] F' H2 x H2' hd S.f S.e y
      rw [List.drop_eq_getElem_cons hi, loopF_cons] at hl
      cases hb : bindT T ds[i] env' with
      | none => rw [hb] at hl; rw [← hl] at h; exact h.elim
      | some e =>
        rw [hb] at hl
        replace hl : stepL (g e) (loopF T g (ds.drop (i + 1))) = loopF T g ds env := hl
        refine hT x σ' F3 H2' env' e ds[i] _ (E'.gr g3) r3 hb fun σ2 E2 S2 _ _ => ⟨e, F3, E2, ?_⟩
        have S' := (S.trans g3.sx).trans S2
        have hS := finS_after (g1.sx.trans S') h
        cases ho : g e with
        | nx e' => rw [ho] at hl; exact fun σ4 F4 H4 S4 E4 => ⟨e', F4, S'.trans S4, E4, hl⟩
        | ct e' => rw [ho] at hl; exact fun σ4 F4 H4 S4 E4 => ⟨e', F4, S'.trans S4, E4, hl⟩
        | bk e' => rw [ho] at hl; rw [← hl] at hS; exact hS
        | rt d => rw [ho] at hl; rw [← hl] at hS; exact hS
        | rn d => rw [ho] at hl; rw [← hl] at hS; exact hS
        | er c fs e' => rw [ho] at hl; rw [← hl] at hS; exact hS
        | st => rw [ho] at hl; rw [← hl] at h; exact h.elim
    · obtain ⟨env', F', S, E', hl⟩ := p
      rw [List.drop_length] at hl
      rw [← hl] at h
      exact h σ' F' H' (g1.sx.trans S) E'
theorem p_while (n : Nat) (hp : PassesOwn (model X.prog X.w) X.A X.env X.xe) (hc : PT X c (TT1 X.K ct W f)) (hb : PSs X body (sOf X.K ct W g)) : PS X (.While c body [] pos) (sOf X.K ct W (ssWhile n f g)) := by
  refine (ps_while hp hc hb).imp fun D σ H ⟨env, F, E, h⟩ => ?_
  unfold ssWhile at h
  refine ⟨fun m σ' H' => ∃ env' F', Sx F H env σ F' H' env' σ' ∧ EnvOk X.K ct F' H' env' σ' ∧ whileN f g m env' = whileN f g n env, ⟨n, env, F, (Gr.refl E.ex).sx, E, rfl⟩, ?_⟩
  rintro m σ' H' ⟨env', F', S, E', hl⟩
  have hS := finS_after S h
  rw [← hl] at hS
  cases m with
  | zero => exact hS.elim
  | succ m =>
    refine finS_test (kt := stepL (g env') (whileN f g m)) (kf := .nx env') E' hS fun b F1 H1 hb g1 E1 h2 => ?_
    cases b with
    | false => exact h2 σ' F1 H1 g1.sx E1
    | true =>
      have h3 : FinS X.K ct W F' H' env' σ' (stepL (g env') (whileN f g m)) D := h2
      have h4 := finS_after g1.sx h3
      have hl : stepL (g env') (whileN f g m) = whileN f g n env := by
        rw [← hl]
        show _ = bndS (f env') env' _
        rw [hb]
        rfl
      refine ⟨fun σ2 H2 => ∃ env2 F2, Sx F H env σ F2 H2 env2 σ2 ∧ EnvOk X.K ct F2 H2 env2 σ2 ∧ whileN f g m env2 = whileN f g n env, fun σ2 H2 p => ⟨m, Nat.lt_succ_self m, p⟩, env', F1, E1, ?_⟩
      have S1 := S.trans g1.sx
      cases ho : g env' with
      | nx e' => rw [ho] at hl; exact fun σ4 F4 H4 S4 E4 => ⟨e', F4, S1.trans S4, E4, hl⟩
      | ct e' => rw [ho] at hl; exact fun σ4 F4 H4 S4 E4 => ⟨e', F4, S1.trans S4, E4, hl⟩
      | bk e' => rw [ho] at h4; exact h4
      | rt d => rw [ho] at h4; exact h4
      | rn d => rw [ho] at h4; exact h4
      | er c fs e' => rw [ho] at h4; exact h4
      | st => rw [ho] at h4; exact h4
/-- y = [..] on one line -/
theorem p_setLc {i : Nat} {y : Str} {py : Pos} {elt : Expr} {ifs : List Expr} {scope : Scope} {own : List (Str × Nat)} {spos : Pos} {gt : TG} {ft fe : SE} (hc : X.calm = true) (hN : X.N.Nodup) (hy : X.N[i]? = some y) (hyl : X.env.scope.names.lookup y = some .local)
    (hsw : swapsWith (.ListComp elt [⟨tg, iter, ifs, 0⟩] scope pos) (some (.Name y py)) spos.line X.env = pure true) (hi : PI X tg iter (tI X.K ct W O0 fi)) (ok : BlkOk X.N X.env.scope scope own)
    (hg : ∀ (s : Shared) (H : Hp) (C : Addr) (cl : List (Str × Addr)) (fp : List Addr), PG (X.blk s H scope (compEnvC scope cl C X.env) fp) tg gt) (hT : TgOk X.K ct gt T) (hsub : ∀ i ∈ slotsT T, i ∈ own.map (·.2))
    (ht : ∀ (s : Shared) (H : Hp) (C : Addr) (cl : List (Str × Addr)) (fp : List Addr), PTs (X.blk s H scope (compEnvC scope cl C X.env) fp) ifs (TT1 X.K ct W0 ft))
    (he : ∀ (s : Shared) (H : Hp) (C : Addr) (cl : List (Str × Addr)) (fp : List Addr), PE (X.blk s H scope (compEnvC scope cl C X.env) fp) elt (ER X.K ct W0 fe)) (hs : ∀ x, foldedSetIterable iter X.env x = pure x := by intro _; rfl) :
    PS X (.Assign [.Name y py] (.ListComp elt [⟨tg, iter, ifs, 0⟩] scope pos) spos) (sOf X.K ct W (ssOwn i (sComp T (own.map (·.2)) fi ft fe))) := by
  refine (ps_setLc hc hN hy hyl hsw hi ok hg ht he hs).imp fun D σ H h => ?_
  have h2 := t_own h
  exact tlc hT hsub h2
end
end Ps

namespace Ps
open PySem PySem.Spec PyProof.Rows L2

/-! ### an instance that is being made -/
def hasF (n : Str) (fs : List (Str × D)) : Bool := fs.any fun p => decide (p.1 = n)
def noG (n : Str) (gs : List (Str × Nat)) : Bool := gs.all fun p => decide (p.1 ≠ n)
/-- self.n = e, the first time -/
def ssFld (c i : Nat) (n : Str) (f : SE) : SS := fun env => match env[i]? with
  | some (.oo c' fs gs) => if c' = c ∧ n ∈ clsF c ∧ noG n gs = true ∧ hasF n fs = false ∧ fs.length + gs.length < 800 then bndS (f env) env fun d => .nx (env.set i (.oo c (fs ++ [(n, d)]) gs)) else .st
  | _ => .st
/-- self.n = a new thing, in slot g -/
def ssFldG (c i : Nat) (n : Str) (g : Nat) (f : SE) : SS := fun env => match env[i]?, env[g]? with
  | some (.oo c' fs gs), some .no => if c' = c ∧ n ∈ clsF c ∧ noG n gs = true ∧ hasF n fs = false ∧ fs.length + gs.length < 800 then bndS (f env) env fun d => .nx ((env.set i (.oo c fs ((n, g) :: gs))).set g (.gh d)) else .st
  | _, _ => .st
/-- self.n[k] = v -/
def ssPutG (c i : Nat) (n : Str) (g : Nat) (fk fv : SE) : SS := fun env => bndS (fv env) env fun v => match env[i]?, env[g]? with
  | some (.oo c' fs gs), some (.gh x) => if c' = c ∧ (n, g) ∈ gs then bndS (fk env) env fun k => (match dPut x k v with
    | some z => .nx (env.set g (.gh z))
    | none => .st) else .st
  | _, _ => .st
section
variable {K : PySem.W.Frag} {ct : Nat → Addr} {F H : Hp} {env : En} {σ : L2.St} {i c : Nat} {fs : List (Str × D)} {gs : List (Str × Nat)}
theorem repF_putN {n : Str} {v : V} {fvs : List (Str × V)} : ∀ {fs : List (Str × D)}, hasF n fs = false → RepF K ct F fs fvs → RepF K ct F fs (putF n v fvs)
  | [], _, _ => True.intro
  | (m, e) :: fs, hn, h => by
    obtain ⟨⟨x, h1, h2⟩, h3⟩ := h
    obtain ⟨n1, n2⟩ := Bool.or_eq_false_iff.mp (show (decide (m = n) || hasF n fs) = false from hn)
    exact ⟨⟨x, by rw [lookup_putF, if_neg (of_decide_eq_false n1)]; exact h1, h2⟩, repF_putN n2 h3⟩
theorem repF_snoc {n : Str} {d : D} {v : V} {fvs : List (Str × V)} (hv : fvs.lookup n = some v) (r : Rep K ct F d v) : ∀ {fs : List (Str × D)}, RepF K ct F fs fvs → RepF K ct F (fs ++ [(n, d)]) fvs
  | [], _ => ⟨⟨v, hv, r⟩, True.intro⟩
  | (m, e) :: fs, h => ⟨h.1, repF_snoc hv r h.2⟩
theorem nms_put {n : Str} {v : V} {fvs : List (Str × V)} (hn : n ∈ clsF c) (h : Nms c fvs) : Nms c (putF n v fvs) := fun m x q => by
  rw [lookup_putF] at q
  split at q
  · rename_i e; rw [e]; exact hn
  · exact h m x q
/-- the instance at slot i changes -/
theorem oo_ok {a dx : Addr} {fvs : List (Str × V)} {fs' : List (Str × D)} {gs' : List (Str × Nat)} (E : EnvOk K ct F H env σ) (hi : env[i]? = some (.oo c fs gs)) (ha : σ[i]? = some (some (.ref a)))
    (hn : Nms c fvs) (hl : fvs.length ≤ fs'.length + gs'.length) (hr : RepF K ct F fs' fvs) (hg : ∀ n g, (n, g) ∈ gs' → ∃ v d, fvs.lookup n = some v ∧ σ[g]? = some (some v) ∧ env[g]? = some (.gh d)) :
    EnvOk K ct F (upd H a (.ins (ct c) dx fvs)) (env.set i (.oo c fs' gs')) σ ∧ Sx F H env σ F (upd H a (.ins (ct c) dx fvs)) (env.set i (.oo c fs' gs')) σ := by
  obtain ⟨a', dx', fvs', q1, hF, _⟩ := E.oo i c fs gs hi
  rw [ha] at q1; cases q1
  have op : Owns env σ a := ⟨i, _, hi, rfl, ha⟩
  have ex : Ex F (upd H a (.ins (ct c) dx fvs)) := fun b u q => by rw [upd_ne (ne_of_none q hF)]; exact E.ex b u q
  have ne : ∀ {j : Nat} {s : Sl} {b : Addr}, j ≠ i → env[j]? = some s → isOw s = true → σ[j]? = some (some (.ref b)) → b ≠ a := fun {j s b} hj h1 h2 h3 q => by
    subst q
    exact hj (E.ap j i s _ b h1 hi h2 rfl h3 ha)
  have own' : ∀ {b : Addr}, Owns (env.set i (.oo c fs' gs')) σ b → Owns env σ b := fun {b} ⟨j, s, h1, h2, h3⟩ => by
    by_cases hj : j = i
    · subst hj; rw [ha] at h3; cases h3; exact op
    · rw [get_set_ne hj] at h1; exact ⟨j, s, h1, h2, h3⟩
  have gne : ∀ {g : Nat} {d : D}, env[g]? = some (.gh d) → g ≠ i := fun {g d} h z => by subst z; rw [hi] at h; cases h
  refine ⟨⟨ex, by simp [E.len], fun j e h => ?_, fun j e h => ?_, fun j e h => ?_, fun j c2 fs2 gs2 h => ?_, fun j e h => ?_, fun j k u w b h1 h2 h3 h4 h5 h6 => ?_⟩, ⟨⟨Ex.refl _, ex, fun b u q n => ?_, fun b u q => ?_, fun b u q => .inl q⟩, fun b h => .inl (own' h), fun j e h => ?_, fun j c2 fs2 gs2 h => ?_⟩⟩
  · by_cases hj : j = i
    · subst hj; rw [get_set_self hi] at h; cases h
    · rw [get_set_ne hj] at h; exact E.sh j e h
  · by_cases hj : j = i
    · subst hj; rw [get_set_self hi] at h; cases h
    · rw [get_set_ne hj] at h
      obtain ⟨b, q1, q2⟩ := E.ow j e h
      exact ⟨b, q1, q2.mono (Ex.refl _) q2.free (upd_ne (ne hj h rfl q1))⟩
  · by_cases hj : j = i
    · subst hj; rw [get_set_self hi] at h; cases h
    · rw [get_set_ne hj] at h
      obtain ⟨v, q1, q2, q3⟩ := E.bo j e h
      refine ⟨v, q1, ?_, fun b hn ha z => q3 b hn ha (own' z)⟩
      have st : ∀ b, v = .ref b → noScr e = true → ∀ u, H b = some u → upd H a (.ins (ct c) dx fvs) b = some u := fun b hb hn u q => by
        rw [upd_ne fun z => q3 b hn hb (by rw [z]; exact op)]; exact q
      cases e with
      | lst ds => obtain ⟨b, vs, r1, r2, r3⟩ := q2; exact ⟨b, vs, r1, st b r1 rfl _ r2, r3⟩
      | dk ds =>
        obtain ⟨b, vs, r1, r2, r3⟩ := q2
        refine ⟨b, vs, r1, ?_, r3⟩
        rcases r2 with r2 | ⟨o', r2⟩
        · exact .inl (st b r1 rfl _ r2)
        · exact .inr ⟨o', st b r1 rfl _ r2⟩
      | dt ds =>
        obtain ⟨b, vs, r1, r2, r3⟩ := q2
        refine ⟨b, vs, r1, ?_, r3⟩
        rcases r2 with r2 | ⟨o', r2⟩
        · exact .inl (st b r1 rfl _ r2)
        · exact .inr ⟨o', st b r1 rfl _ r2⟩
      | obj c fs => obtain ⟨b, dx, vs, r1, r2, rn, r3⟩ := q2; exact ⟨b, dx, vs, r1, st b r1 rfl _ r2, rn, r3⟩
      | non => exact q2
      | bl _ => exact q2
      | int _ => exact q2
      | str _ => exact q2
      | tup _ => exact q2
      | scr _ => exact q2
      | exo _ _ => exact q2
  · by_cases hj : j = i
    · subst hj; rw [get_set_self hi] at h; cases h
      exact ⟨a, dx, fvs, ha, hF, upd_same, hn, hl, hr, fun n g z => by
        obtain ⟨v, d, r1, r2, r3⟩ := hg n g z
        exact ⟨v, d, r1, r2, by rw [get_set_ne (gne r3)]; exact r3⟩⟩
    · rw [get_set_ne hj] at h
      obtain ⟨b, dx2, fvs2, q1, q2, q3, q4, q5, q6, q7⟩ := E.oo j c2 fs2 gs2 h
      exact ⟨b, dx2, fvs2, q1, q2, by rw [upd_ne (ne hj h rfl q1)]; exact q3, q4, q5, q6, fun n g z => by
        obtain ⟨v, d, r1, r2, r3⟩ := q7 n g z
        exact ⟨v, d, r1, r2, by rw [get_set_ne (gne r3)]; exact r3⟩⟩
  · by_cases hj : j = i
    · subst hj; rw [get_set_self hi] at h; cases h
    · rw [get_set_ne hj] at h
      obtain ⟨b, q1, q2⟩ := E.gh j e h
      exact ⟨b, q1, q2.mono (Ex.refl _) q2.free (upd_ne (ne hj h rfl q1))⟩
  · have fx : ∀ {j : Nat} {u : Sl}, (env.set i (.oo c fs' gs'))[j]? = some u → isOw u = true → ∃ u', env[j]? = some u' ∧ isOw u' = true := fun {j u} h hu => by
      by_cases hj : j = i
      · subst hj; exact ⟨_, hi, rfl⟩
      · rw [get_set_ne hj] at h; exact ⟨u, h, hu⟩
    obtain ⟨u', a1, a2⟩ := fx h1 h3
    obtain ⟨w', b1, b2⟩ := fx h2 h4
    exact E.ap j k u' w' b a1 b1 a2 b2 h5 h6
  · rw [upd_ne fun z => n (by rw [z]; exact op)]; exact q
  · by_cases hb : b = a
    · subst hb; exact ⟨_, upd_same⟩
    · exact ⟨u, by rw [upd_ne hb]; exact q⟩
  · have hj : j ≠ i := fun z => by subst z; rw [hi] at h; cases h
    rw [get_set_ne hj]
    exact ⟨h, rfl⟩
  · by_cases hj : j = i
    · subst hj
      rw [hi] at h; cases h
      exact ⟨⟨fs', gs', get_set_self hi⟩, rfl⟩
    · rw [get_set_ne hj]
      exact ⟨⟨fs2, gs2, h⟩, rfl⟩
end
/-! ### slots that no name stands for -/
section
variable {X : Cx}
theorem inv_ghost {pins : List (Addr × Obj)} {σ : L2.St} {H : Hp} {s : Shared} {g : Nat} {x : Option V} (hg : ∀ y, X.N[g]? = some y → ¬ Vis X.env.scope y) (I : Inv X pins σ H s) : Inv X pins (σ.set g x) H s := by
  obtain ⟨h1, h2, h3, h4, ⟨m, hn, hl⟩, h6, h7, h8, h9, h10, h11⟩ := I
  refine ⟨h1, h2, h3, h4, ⟨m, hn, fun i y v e1 e2 e3 => ?_⟩, h6, h7, h8, h9, h10, by rw [List.length_set]; exact h11⟩
  by_cases hi : i = g
  · subst hi; exact absurd e3 (hg y e1)
  · rw [get_set_ne hi] at e2
    exact hl i y v e1 e2 e3
/-- behind a statement the slot g is set -/
theorem ps_ghost {st : Stmt} {t : TS} {g : Nat} (hg : ∀ y, X.N[g]? = some y → ¬ Vis X.env.scope y) (h : PS X st t) : PS X st (fun D σ H => t { D with nx := fun σ' H' => ∃ x, D.nx (σ'.set g x) H' } σ H) := by
  refine ⟨fun pins s σ H D I q => ?_⟩
  refine thn (h.run pins s σ H _ I q) fun f s1 hq => ?_
  cases f with
  | next =>
    obtain ⟨σ', H', I', x, q'⟩ := hq
    exact ⟨_, H', inv_ghost hg I', q'⟩
  | brk => exact hq
  | cont => exact hq
  | ret u => exact hq
end

section
variable {X : Cx} {ct : Nat → Addr} {W : WX} {a b e : Expr} {f fk fv : SE} {pos pos' p p' : Pos}
theorem p_fld (c i : Nat) {x n : Str} (hc : Cls X.K (ct c)) (hna : NoAttr X.K (ct c) n) (he : PE X e (ER X.K ct W f)) (hN : X.N[i]? = some x := by rfl) (hv : Vis X.env.scope x := by first | exact Or.inl rfl | exact Or.inr (Or.inl rfl) | exact Or.inr (Or.inr rfl)) (hd : (x == ("__debug__" : Str)) = false := by decide)
    (hcd : (x == ("__classdict__" : Str)) = false := by decide) (hs : swapsWith e (some (.Attribute (.Name x p) n pos')) pos.line X.env = pure false := by rfl) :
    PS X (.Assign [.Attribute (.Name x p) n pos'] e pos) (sOf X.K ct W (ssFld c i n f)) := by
  refine (ps_fld (pe_var hN hv hd hcd) he hs).imp fun D σ H ⟨env, F, E, h⟩ => ?_
  unfold ssFld at h
  split at h
  · rename_i c' fs gs q
    split at h
    · rename_i hh
      obtain ⟨rfl, h1, h2, h3, h4⟩ := hh
      refine finS_bind E h fun d y F1 H1 e2 g1 r1 E1 h => ?_
      obtain ⟨l, dx, fvs, q1, q2, q3, q4, q5, q6, q7⟩ := E1.oo i c' fs gs q
      refine ⟨.ref l, q1, l, _, dx, fvs, rfl, q3, hc, hna, by omega, ?_⟩
      have lp : (putF n y fvs).lookup n = some y := by rw [lookup_putF, if_pos rfl]
      obtain ⟨E2, S2⟩ := oo_ok (fs' := fs ++ [(n, d)]) (gs' := gs) (fvs := putF n y fvs) (dx := dx) E1 q q1 (nms_put h1 q4) (by have := length_putF n y fvs; simp; omega) (repF_snoc lp r1 (repF_putN h3 q6)) fun m g z => by
        obtain ⟨v, d', r1, r2, r3⟩ := q7 m g z
        have hm : m ≠ n := of_decide_eq_true (List.all_eq_true.mp h2 (m, g) z)
        exact ⟨v, d', by rw [lookup_putF, if_neg hm]; exact r1, r2, r3⟩
      exact h σ F1 _ (g1.sx.trans S2) E2
    · exact h.elim
  · exact h.elim
theorem p_fldG (c i g : Nat) {x n : Str} (hg : ∀ y, X.N[g]? = some y → ¬ Vis X.env.scope y) (hc : Cls X.K (ct c)) (hna : NoAttr X.K (ct c) n) (he : PE X e (EN X.K ct W f)) (hN : X.N[i]? = some x := by rfl) (hv : Vis X.env.scope x := by first | exact Or.inl rfl | exact Or.inr (Or.inl rfl) | exact Or.inr (Or.inr rfl)) (hd : (x == ("__debug__" : Str)) = false := by decide)
    (hcd : (x == ("__classdict__" : Str)) = false := by decide) (hs : swapsWith e (some (.Attribute (.Name x p) n pos')) pos.line X.env = pure false := by rfl) :
    PS X (.Assign [.Attribute (.Name x p) n pos'] e pos) (sOf X.K ct W (ssFldG c i n g f)) := by
  refine (ps_ghost hg (ps_fld (pe_var hN hv hd hcd) he hs)).imp fun D σ H ⟨env, F, E, h⟩ => ?_
  unfold ssFldG at h
  split at h
  · rename_i c' fs gs q qg
    split at h
    · rename_i hh
      obtain ⟨rfl, h1, h2, h3, h4⟩ := hh
      refine finS_bind E h fun d y F1 H1 e2 g1 r1 E1 h => ?_
      obtain ⟨pa, rfl, hp, ho⟩ := r1
      obtain ⟨l, dx, fvs, q1, q2, q3, q4, q5, q6, q7⟩ := E1.oo i c' fs gs q
      obtain ⟨l0, dx0, fvs0, q10, q20, q30, _⟩ := E.oo i c' fs gs q
      rw [q1] at q10; cases q10
      refine ⟨.ref l, q1, l, _, dx, fvs, rfl, q3, hc, hna, by omega, some (.ref pa), ?_⟩
      have lp : (putF n (.ref pa) fvs).lookup n = some (.ref pa) := by rw [lookup_putF, if_pos rfl]
      have hgi : g ≠ i := fun z => by subst z; rw [q] at qg; cases qg
      have npl : pa ≠ l := fun z => by subst z; rw [q30] at hp; cases hp
      -- the slot first
      obtain ⟨E2, S2⟩ := own_ok true (i := g) g1 E qg rfl hp ho
      have hi2 : (env.set g (slOf true d))[i]? = some (.oo c' fs gs) := by rw [get_set_ne (Ne.symm hgi)]; exact q
      have hσ2 : (σ.set g (some (V.ref pa)))[i]? = some (some (.ref l)) := by rw [get_set_ne (Ne.symm hgi)]; exact q1
      have hlen : g < σ.length := by
        rw [← E.len]; exact (List.getElem?_eq_some_iff.mp qg).1
      obtain ⟨E3, S3⟩ := oo_ok (fs' := fs) (gs' := (n, g) :: gs) (fvs := putF n (.ref pa) fvs) (dx := dx) E2 hi2 hσ2 (nms_put h1 q4) (by have := length_putF n (.ref pa) fvs; simp; omega) (repF_putN h3 q6) fun m g' z => by
        rcases List.mem_cons.mp z with e | z
        · cases e
          exact ⟨.ref pa, d, lp, by simp [hlen], get_set_self qg⟩
        · obtain ⟨v, d', r1, r2, r3⟩ := q7 m g' z
          have hm : m ≠ n := of_decide_eq_true (List.all_eq_true.mp h2 (m, g') z)
          have hgg : g' ≠ g := fun y => by subst y; rw [qg] at r3; cases r3
          exact ⟨v, d', by rw [lookup_putF, if_neg hm]; exact r1, by rw [get_set_ne hgg]; exact r2, by rw [get_set_ne hgg]; exact r3⟩
      have ee : (env.set i (.oo c' fs ((n, g) :: gs))).set g (.gh d) = (env.set g (slOf true d)).set i (.oo c' fs ((n, g) :: gs)) := List.set_comm _ _ (Ne.symm hgi)
      rw [ee] at h
      exact h _ F1 _ (S2.trans S3) E3
    · exact h.elim
  · exact h.elim
/-- self.n[k] = v -/
theorem p_putG (c i g : Nat) {x n : Str} {pa : Pos} (hu : X.A.units + 1 < cLine) (hc : Cls X.K (ct c)) (hna : NoAttr X.K (ct c) n) (hk : PE X a (ER X.K ct W fk)) (hvv : PE X b (ER X.K ct W fv)) (hN : X.N[i]? = some x := by rfl) (hv : Vis X.env.scope x := by first | exact Or.inl rfl | exact Or.inr (Or.inl rfl) | exact Or.inr (Or.inr rfl)) (hd : (x == ("__debug__" : Str)) = false := by decide)
    (hcd : (x == ("__classdict__" : Str)) = false := by decide) (hb : attributeBase (.Name x p) n X.env (eval (.Name x p) X.env) = eval (.Name x p) X.env := by rfl)
    (ha : ∀ v, assign (.Subscript (.Attribute (.Name x p) n pa) a pos') X.env v = (do
      let ov ← holding [v] (eval (.Attribute (.Name x p) n pa) X.env)
      let iv ← holding [v, ov] (eval a X.env)
      standAt pos'
      holding [v, ov, iv] (setItem ov iv v)
      release [v, ov, iv] []) := by intro _; rfl)
    (hs : swapsWithSole [.Subscript (.Attribute (.Name x p) n pa) a pos'] b pos.line X.env = pure false := by rfl) (hw : swappedStores [.Subscript (.Attribute (.Name x p) n pa) a pos'] b X.env = pure none := by rfl) (h1 : (assignEach [.Subscript (.Attribute (.Name x p) n pa) a pos'] X.env).map (·.2) = [assign (.Subscript (.Attribute (.Name x p) n pa) a pos') X.env] := by rfl) :
    PS X (.Assign [.Subscript (.Attribute (.Name x p) n pa) a pos'] b pos) (sOf X.K ct W (ssPutG c i n g fk fv)) := by
  refine (ps_asg hvv (pg_sub (pe_fld (pe_var hN hv hd hcd) hb) hk (set_put1 hu) ha) hs hw h1).imp fun D σ H ⟨env, F, E, h⟩ => ?_
  unfold ssPutG at h
  refine finS_bind E h fun v vv F1 H1 e2 g1 r1 E1 h0 => ?_
  clear h
  split at h0
  · rename_i c' fs gs z qi qg
    split at h0
    · rename_i hh
      obtain ⟨rfl, hin⟩ := hh
      obtain ⟨l, dx, fvs, q1, q2, q3, q4, q5, q6, q7⟩ := E1.oo i c' fs gs qi
      obtain ⟨w, d', r5, r6, r7⟩ := q7 n g hin
      obtain ⟨pd, s1, s2⟩ := E1.gh g z qg
      rw [s1] at r6; cases r6
      refine ⟨.ref l, q1, l, _, dx, fvs, .ref pd, rfl, q3, hc, hna, r5, ?_⟩
      have h' := finS_after g1.sx h0
      refine finS_bind E1 h' fun k kv F2 H2 e3 g2 r2 E2 h => ?_
      obtain ⟨l', e1', o2⟩ := E2.gh g _ qg
      rw [s1] at e1'; cases e1'
      cases q2 : dPut z k v with
      | none => rw [q2] at h; exact h.elim
      | some y =>
        rw [q2] at h
        obtain ⟨o, o3, k3⟩ := put_ok E2.ex o2 r2 (Rep.mono (Ex.le g2.f) _ _ r1) q2
        obtain ⟨E3, S3⟩ := mut_ok true (z := y) (o := o) E2 qg s1 o2.free o3
        exact k3 _ (h σ F2 _ (g2.sx.trans S3) E3)
    · exact h0.elim
  · exact h0.elim
end

/-! ### a def keeps its promise -/
def argE : List Bool → List D → En
  | m :: ms, d :: ds => (if m then .bo d else .sh d) :: argE ms ds
  | _, _ => []
def env0 (n : Nat) (ms : List Bool) (ds : List D) : En := argE ms ds ++ List.replicate (n - ms.length) .no
def runR (o : O) (fr : Bool) : R := match o with
  | .nx _ => if fr then .st else .ok .non
  | .rt d => if fr then .st else .ok d
  | .rn d => .ok d
  | .er c fs _ => .er c fs
  | _ => .st
def runF (n : Nat) (ms : List Bool) (fr : Bool) (body : SS) (ds : List D) : R := runR (body (env0 n ms ds)) fr
section
variable {K : PySem.W.Frag} {ct : Nat → Addr} {F H : Hp}
theorem argE_len : ∀ {ms : List Bool} {ds : List D} {vs : List V}, ArgsRep K ct F H ms ds vs → (argE ms ds).length = ms.length ∧ vs.length = ms.length
  | [], _, _, h => by rw [h.1, h.2]; exact ⟨rfl, rfl⟩
  | m :: ms, _, _, ⟨d, ds', v, vs', e1, e2, h, r⟩ => by
    subst e1 e2
    obtain ⟨h1, h2⟩ := argE_len r
    exact ⟨by show ((if m then Sl.bo d else Sl.sh d) :: argE ms ds').length = _; rw [List.length_cons, List.length_cons, h1], by rw [List.length_cons, List.length_cons, h2]⟩
theorem argE_get : ∀ {ms : List Bool} {ds : List D} {vs : List V} {i : Nat} {s : Sl}, ArgsRep K ct F H ms ds vs → (argE ms ds)[i]? = some s → ∃ d v, vs[i]? = some v ∧ ((s = .bo d ∧ RepB K ct F H d v) ∨ (s = .sh d ∧ Rep K ct F d v))
  | [], _, _, i, s, h, e => by rw [h.1] at e; simp [argE] at e
  | m :: ms, _, _, 0, s, ⟨d, ds', v, vs', e1, e2, h, r⟩, e => by
    subst e1 e2
    refine ⟨d, v, rfl, ?_⟩
    have : (if m then Sl.bo d else Sl.sh d) = s := by simpa [argE] using e
    subst this
    cases m with
    | true => exact .inl ⟨rfl, h⟩
    | false => exact .inr ⟨rfl, h⟩
  | m :: ms, _, _, i + 1, s, ⟨d, ds', v, vs', e1, e2, h, r⟩, e => by
    subst e1 e2
    have e : (argE ms ds')[i]? = some s := by simpa [argE] using e
    obtain ⟨d2, v2, h1, h2⟩ := argE_get r e
    exact ⟨d2, v2, by simpa using h1, h2⟩
theorem start_get {N : List Str} {vs : List V} {i : Nat} {v : V} (h : vs[i]? = some v) : (L2.start N vs)[i]? = some (some v) := by
  have hl : i < vs.length := (List.getElem?_eq_some_iff.mp h).1
  unfold L2.start
  rw [List.getElem?_append_left (by simpa using hl), List.getElem?_map, h]; rfl
theorem env_start {N : List Str} {ms : List Bool} {ds : List D} {vs : List V} (ex : Ex F H) (h : ArgsRep K ct F H ms ds vs) (hN : ms.length ≤ N.length) : EnvOk K ct F H (env0 N.length ms ds) (L2.start N vs) ∧ ∀ a, ¬ Owns (env0 N.length ms ds) (L2.start N vs) a := by
  obtain ⟨l1, l2⟩ := argE_len h
  have get : ∀ {i : Nat} {s : Sl}, (env0 N.length ms ds)[i]? = some s → s = .no ∨ ∃ d v, vs[i]? = some v ∧ ((s = .bo d ∧ RepB K ct F H d v) ∨ (s = .sh d ∧ Rep K ct F d v)) := fun {i s} e => by
    unfold env0 at e
    by_cases hi : i < (argE ms ds).length
    · rw [List.getElem?_append_left hi] at e
      exact .inr (argE_get h e)
    · rw [List.getElem?_append_right (Nat.le_of_not_lt hi)] at e
      obtain ⟨_, e⟩ := List.getElem?_eq_some_iff.mp e
      exact .inl (by rw [List.getElem_replicate] at e; exact e.symm)
  have no : ∀ a, ¬ Owns (env0 N.length ms ds) (L2.start N vs) a := fun a ⟨i, s, e1, e2, _⟩ => by
    rcases get e1 with rfl | ⟨d, v, _, (⟨rfl, _⟩ | ⟨rfl, _⟩)⟩ <;> cases e2
  refine ⟨⟨ex, ?_, fun i d e => ?_, fun i d e => ?_, fun i d e => ?_, fun i c fs gs e => ?_, fun i d e => ?_, fun i j s t a h1 h2 h3 h4 h5 h6 => ?_⟩, no⟩
  · unfold env0 L2.start
    rw [List.length_append, List.length_append, List.length_replicate, List.length_replicate, List.length_map, l1, l2]
  · rcases get e with z | ⟨d', v, h1, (⟨z, _⟩ | ⟨z, r⟩)⟩
    · cases z
    · cases z
    · cases z; exact ⟨v, start_get h1, r⟩
  · rcases get e with z | ⟨d', v, h1, (⟨z, _⟩ | ⟨z, r⟩)⟩ <;> cases z
  · rcases get e with z | ⟨d', v, h1, (⟨z, r⟩ | ⟨z, r⟩)⟩
    · cases z
    · cases z; exact ⟨v, start_get h1, r, fun a _ _ => no a⟩
    · cases z
  · rcases get e with z | ⟨d', v, h1, (⟨z, _⟩ | ⟨z, r⟩)⟩ <;> cases z
  · rcases get e with z | ⟨d', v, h1, (⟨z, _⟩ | ⟨z, r⟩)⟩ <;> cases z
  · exact absurd ⟨i, s, h1, h3, h5⟩ (no a)
theorem sr_gr {F' H' : Hp} {env : En} {σ : L2.St} (no : ∀ a, ¬ Owns env σ a) (s : Sr F H env σ F' H') : Gr F H F' H' :=
  ⟨s.f, fun a o q => s.k a o q (no a), s.e, fun a o q => by
    rcases s.n a o q with z | z | z
    · exact .inl z
    · exact .inr z
    · exact absurd z (no a)⟩
end
section
variable {P : Program} {w : World} {K : PySem.W.Frag} {mg : Str → Option Value} {base : Heap} {ct : Nat → Addr}
abbrev WE0 (E : XK) : WX := fun cls d _ H => E cls d H
theorem fn_ok {x qual : Str} {st : Stmt} {f : Addr} {fd : FuncData} {N ps : List Str} {k : Nat} {ms : List Bool} {fr : Bool} {body : SS} (Fn : L2.Fun K x qual st f fd) (S : FnScope N ps (L2.defScope st)) (hl : ms.length = ps.length)
    (hb : ∀ (cdv : Value) (A : Around) (outer : List PySem.Env) (s : Shared) (H : Hp) (E : XK), Room k (A.deeper (envOfC qual (L2.defScope st) s.heap.objs.size f cdv)) →
      PSs (cxOf (L2.CX P w) P w K mg base N qual (L2.defScope st) f cdv A outer s H E) (L2.defBody st) (sOf K ct (WE0 E) body)) : FnOk P w K mg base (L2.CX P w) (k + 1) f fd ps (spP K ct ms fr (runF N.length ms fr body)) := by
  refine Fn.okX S (fun vs H Q E h => by rw [spP_len h, hl]) fun cdv A outer s H vs Q E hr h => ?_
  refine ⟨_, hb cdv A outer s H E hr, ?_⟩
  obtain ⟨F, ds, ex, hA, h⟩ := h
  have hN : ms.length ≤ N.length := by
    have := S.pre
    rw [hl, ← this, List.length_take]
    exact Nat.min_le_right _ _
  obtain ⟨E0, no⟩ := env_start (N := N) ex hA hN
  refine ⟨_, F, E0, ?_⟩
  unfold runF at h
  cases q : body (env0 N.length ms ds) with
  | nx e =>
    rw [q] at h
    cases fr with
    | true => exact h.elim
    | false => exact fun σ' F' H' x _ => h .non F' H' (sr_gr no x.toSr) rfl
  | bk e => rw [q] at h; exact h.elim
  | ct e => rw [q] at h; exact h.elim
  | rt d =>
    rw [q] at h
    cases fr with
    | true => exact h.elim
    | false => exact fun v F' H' x r => h v F' H' (sr_gr no x) r
  | rn d =>
    rw [q] at h
    intro p F' H' x hp r
    have hp' : H p = none := by
      rcases hp with z | z
      · exact z
      · exact absurd z (no p)
    have g := sr_gr no x
    cases fr with
    | true => exact h _ F' H' g ⟨p, rfl, hp', r⟩
    | false =>
      obtain ⟨o, ho⟩ := r.there
      exact h _ _ H' (g.share ex hp' ho) (r.freeze ho)
  | er c fs e =>
    rw [q] at h
    exact fun dx σ' F' H' x _ r => h dx F' H' (sr_gr no x.toSr) r
  | st => rw [q] at h; exact h.elim
/-- an __init__ -/
def ghostsOf (env : En) : List (Str × Nat) → Option (List (Str × D))
  | [] => some []
  | (n, g) :: r => match env[g]? with
    | some (.gh d) => (ghostsOf env r).map fun l => (n, d) :: l
    | _ => none
def runI (c : Nat) (o : O) : RI := match o with
  | .nx env => (match (env[0]? : Option Sl) with
    | some (Sl.oo c' fs gs) => if c' = c then (match ghostsOf env gs with
      | some l => .ok (fs ++ l)
      | none => .st) else .st
    | _ => .st)
  | .er c fs _ => .er c fs
  | _ => .st
def envI (n c : Nat) (ms : List Bool) (ds : List D) : En := .oo c [] [] :: (argE ms ds ++ List.replicate (n - (ms.length + 1)) .no)
def runInit (n c : Nat) (ms : List Bool) (body : SS) (ds : List D) : RI := runI c (body (envI n c ms ds))
def GhAt (env : En) (σ : L2.St) (a : Addr) : Prop := ∃ (g : Nat) (d : D), env[g]? = some (Sl.gh d) ∧ σ[g]? = some (some (V.ref a))
theorem ghosts_rep {F H : Hp} {env : En} {σ : L2.St} (E : EnvOk K ct F H env σ) : ∃ F' : Hp, Ex F F' ∧ Ex F' H ∧ (∀ a o, F' a = some o → F a = some o ∨ GhAt env σ a) ∧ ∀ (g : Nat) (d : D), env[g]? = some (Sl.gh d) → ∃ v, σ[g]? = some (some v) ∧ Rep K ct F' d v := by
  classical
  have e1 : Ex F (fun a => if GhAt env σ a then H a else F a) := fun a o q => by
    have : ¬ GhAt env σ a := fun ⟨g, d, h1, h2⟩ => by
      have := (own_free E ⟨g, _, h1, rfl, h2⟩).1
      rw [q] at this; cases this
    show (if GhAt env σ a then H a else F a) = some o
    rw [if_neg this]; exact q
  refine ⟨fun a => if GhAt env σ a then H a else F a, e1, fun a o q => ?_, fun a o q => ?_, fun g d hg => ?_⟩
  · have q : (if GhAt env σ a then H a else F a) = some o := q
    split at q
    · exact q
    · exact E.ex a o q
  · have q : (if GhAt env σ a then H a else F a) = some o := q
    by_cases hc : GhAt env σ a
    · exact .inr hc
    · rw [if_neg hc] at q; exact .inl q
  · obtain ⟨p, h1, h2⟩ := E.gh g d hg
    obtain ⟨o, ho⟩ := h2.there
    refine ⟨_, h1, Rep.mono (Ex.le fun a u q => ?_) _ _ (h2.freeze ho)⟩
    by_cases ha : a = p
    · subst ha
      rw [upd_same] at q; cases q
      show (if GhAt env σ a then H a else F a) = some o
      rw [if_pos ⟨g, d, hg, h1⟩]; exact ho
    · rw [upd_ne ha] at q; exact e1 a u q
theorem repF_ghosts {F : Hp} {env : En} {σ : L2.St} {fvs : List (Str × V)} (hG : ∀ (g : Nat) (d : D), env[g]? = some (Sl.gh d) → ∃ v, σ[g]? = some (some v) ∧ Rep K ct F d v) : ∀ {gs : List (Str × Nat)} {l : List (Str × D)},
    (∀ n g, (n, g) ∈ gs → ∃ v d, fvs.lookup n = some v ∧ σ[g]? = some (some v) ∧ env[g]? = some (Sl.gh d)) → ghostsOf env gs = some l → RepF K ct F l fvs
  | [], l, _, h => by cases h; exact True.intro
  | (n, g) :: r, l, hg, h => by
    unfold ghostsOf at h
    split at h
    · rename_i d q
      obtain ⟨l', h1, rfl⟩ := Option.map_eq_some_iff.mp h
      obtain ⟨v, d', r1, r2, r3⟩ := hg n g List.mem_cons_self
      obtain ⟨v', s1, s2⟩ := hG g d q
      rw [r2] at s1; cases s1
      exact ⟨⟨v, r1, s2⟩, repF_ghosts hG (fun m k z => hg m k (List.mem_cons_of_mem _ z)) h1⟩
    · cases h
theorem repF_app {F : Hp} {fvs : List (Str × V)} : ∀ {fs l : List (Str × D)}, RepF K ct F fs fvs → RepF K ct F l fvs → RepF K ct F (fs ++ l) fvs
  | [], _, _, h => h
  | (m, e) :: fs, l, h, h2 => ⟨h.1, repF_app h.2 h2⟩
theorem envI_start {F H : Hp} {N : List Str} {c : Nat} {ms : List Bool} {ds : List D} {vs : List V} {x dx : Addr} (ex : Ex F H) (hF : F x = none) (hx : H x = some (.ins (ct c) dx [])) (h : ArgsRep K ct F H ms ds vs) (hne : ∀ v ∈ vs, v ≠ .ref x) (hN : ms.length + 1 ≤ N.length) :
    EnvOk K ct F H (envI N.length c ms ds) (L2.start N (.ref x :: vs)) ∧ ∀ a, Owns (envI N.length c ms ds) (L2.start N (.ref x :: vs)) a → a = x := by
  obtain ⟨l1, l2⟩ := argE_len h
  have s0 : (L2.start N (.ref x :: vs))[0]? = some (some (.ref x)) := start_get (vs := .ref x :: vs) (i := 0) rfl
  have get : ∀ {i : Nat} {s : Sl}, (envI N.length c ms ds)[i]? = some s → (i = 0 ∧ s = .oo c [] []) ∨ s = .no ∨ ∃ d v, (L2.start N (.ref x :: vs))[i]? = some (some v) ∧ v ∈ vs ∧ ((s = .bo d ∧ RepB K ct F H d v) ∨ (s = .sh d ∧ Rep K ct F d v)) := fun {i s} e => by
    cases i with
    | zero => exact .inl ⟨rfl, by simpa [envI] using e.symm⟩
    | succ i =>
      refine .inr ?_
      have e : (argE ms ds ++ List.replicate (N.length - (ms.length + 1)) Sl.no)[i]? = some s := by simpa [envI] using e
      by_cases hi : i < (argE ms ds).length
      · rw [List.getElem?_append_left hi] at e
        obtain ⟨d, v, h1, h2⟩ := argE_get h e
        exact .inr ⟨d, v, start_get (vs := .ref x :: vs) (i := i + 1) (by simpa using h1), List.mem_of_getElem? h1, h2⟩
      · rw [List.getElem?_append_right (Nat.le_of_not_lt hi)] at e
        obtain ⟨_, e⟩ := List.getElem?_eq_some_iff.mp e
        exact .inl (by rw [List.getElem_replicate] at e; exact e.symm)
  have ow : ∀ a, Owns (envI N.length c ms ds) (L2.start N (.ref x :: vs)) a → a = x := fun a ⟨i, s, e1, e2, e3⟩ => by
    rcases get e1 with ⟨rfl, rfl⟩ | rfl | ⟨d, v, _, _, (⟨rfl, _⟩ | ⟨rfl, _⟩)⟩
    · rw [s0] at e3; cases e3; rfl
    · cases e2
    · cases e2
    · cases e2
  refine ⟨⟨ex, ?_, fun i d e => ?_, fun i d e => ?_, fun i d e => ?_, fun i c2 fs gs e => ?_, fun i d e => ?_, fun i j s t a h1 h2 h3 h4 h5 h6 => ?_⟩, ow⟩
  · unfold envI L2.start
    rw [List.length_cons, List.length_append, List.length_append, List.length_replicate, List.length_replicate, List.length_map, List.length_cons, l1, l2]
    omega
  · rcases get e with ⟨_, z⟩ | z | ⟨d', v, h1, _, (⟨z, _⟩ | ⟨z, r⟩)⟩ <;> first | (cases z; done) | (cases z; exact ⟨v, h1, r⟩)
  · rcases get e with ⟨_, z⟩ | z | ⟨d', v, h1, _, (⟨z, _⟩ | ⟨z, r⟩)⟩ <;> cases z
  · rcases get e with ⟨_, z⟩ | z | ⟨d', v, h1, hm, (⟨z, r⟩ | ⟨z, r⟩)⟩ <;> first | (cases z; done) | (cases z; exact ⟨v, h1, r, fun a _ ha o => hne v hm (by rw [ha, ow a o])⟩)
  · rcases get e with ⟨z0, z⟩ | z | ⟨d', v, h1, _, (⟨z, _⟩ | ⟨z, r⟩)⟩ <;> first | (cases z; done) | skip
    subst z0
    cases z
    exact ⟨x, dx, [], s0, hF, hx, fun n v q => (nomatch q), Nat.le_refl _, True.intro, fun n g q => (nomatch q)⟩
  · rcases get e with ⟨_, z⟩ | z | ⟨d', v, h1, _, (⟨z, _⟩ | ⟨z, r⟩)⟩ <;> cases z
  · have f : ∀ {i : Nat} {s : Sl}, (envI N.length c ms ds)[i]? = some s → isOw s = true → i = 0 := fun {i s} e hs => by
      rcases get e with ⟨z, _⟩ | rfl | ⟨d', v, h1, _, (⟨rfl, _⟩ | ⟨rfl, r⟩)⟩
      · exact z
      · cases hs
      · cases hs
      · cases hs
    rw [f h1 h3, f h2 h4]
theorem init_ok {x qual : Str} {st : Stmt} {f : Addr} {fd : FuncData} {N ps : List Str} {k c : Nat} {ms : List Bool} {body : SS} (Fn : L2.Fun K x qual st f fd) (S : FnScope N ps (L2.defScope st)) (hl : ms.length + 1 = ps.length)
    (hb : ∀ (cdv : Value) (A : Around) (outer : List PySem.Env) (s : Shared) (H : Hp) (E : XK), Room k (A.deeper (envOfC qual (L2.defScope st) s.heap.objs.size f cdv)) →
      PSs (cxOf (L2.CX P w) P w K mg base N qual (L2.defScope st) f cdv A outer s H E) (L2.defBody st) (sOf K ct (WE0 E) body)) : FnOk P w K mg base (L2.CX P w) (k + 1) f fd ps (spI K ct c ms (runInit N.length c ms body)) := by
  refine Fn.okX S (fun vs H Q E h => by rw [spI_len h, hl]) fun cdv A outer s H vs Q E hr h => ?_
  refine ⟨_, hb cdv A outer s H E hr, ?_⟩
  obtain ⟨F, ds, y, dx, vs', rfl, ex, hF, hx, hA, hne, h⟩ := h
  have hN : ms.length + 1 ≤ N.length := by
    have := S.pre
    rw [hl, ← this, List.length_take]
    exact Nat.min_le_right _ _
  obtain ⟨E0, ow⟩ := envI_start (N := N) (c := c) ex hF hx hA hne hN
  have s0 : (L2.start N (.ref y :: vs'))[0]? = some (some (.ref y)) := start_get (vs := .ref y :: vs') (i := 0) rfl
  have e0 : (envI N.length c ms ds)[0]? = some (.oo c [] []) := by simp [envI]
  have kk : ∀ {F' H' : Hp}, Sr F H (envI N.length c ms ds) (L2.start N (.ref y :: vs')) F' H' → ∀ a o, H a = some o → a ≠ y → H' a = some o := fun {F' H'} x a o q n => x.k a o q fun z => n (ow a z)
  refine ⟨_, F, E0, ?_⟩
  unfold runInit runI at h
  cases q : body (envI N.length c ms ds) with
  | nx e =>
    rw [q] at h
    intro σ' F' H' x E'
    obtain ⟨⟨fs', gs', q1⟩, q2⟩ := x.q 0 c [] [] e0
    rw [s0] at q2
    have h : (match (match (e[0]? : Option Sl) with | some (Sl.oo c' fs gs) => if c' = c then (match ghostsOf e gs with | some l => RI.ok (fs ++ l) | none => .st) else .st | _ => .st) with
      | .ok fs => ∀ F' H' dx' fvs, Ex F F' → Ex F' H' → (∀ a o, H a = some o → a ≠ y → H' a = some o) → (∀ a o, F' a = some o → F a = some o ∨ H a = none) → H' y = some (.ins (ct c) dx' fvs) → Nms c fvs → RepF K ct F' fs fvs → Q .non H'
      | .er c fs => ∀ dx F' H', Ex F F' → Ex F' H' → (∀ a o, H a = some o → a ≠ y → H' a = some o) → (∀ a o, F' a = some o → F a = some o ∨ H a = none) → ExcOk K ct F' dx fs → E (.ref (ct c)) dx H'
      | .st => False) := h
    rw [q1] at h
    simp only [if_true] at h
    cases q3 : ghostsOf e gs' with
    | none => rw [q3] at h; exact h.elim
    | some l =>
      rw [q3] at h
      obtain ⟨a, dx', fvs, r1, r2, r3, r4, r5, r6, r7⟩ := E'.oo 0 c fs' gs' q1
      rw [q2] at r1; cases r1
      obtain ⟨F2, g1, g2, g3, g4⟩ := ghosts_rep E'
      refine h F2 H' dx' fvs (x.f.trans g1) g2 (kk x.toSr) (fun b o hb => ?_) r3 r4 (repF_app (RepF.mono (Ex.le g1) _ _ r6) (repF_ghosts g4 r7 q3))
      rcases g3 b o hb with z | z
      · rcases x.n b o z with z | z | z
        · exact .inl z
        · exact .inr z
        · have hby := ow b z
          subst hby
          rename_i hb1
          rcases g3 b o hb with y2 | ⟨g, d, y1, y2⟩
          · rw [r2] at y2; cases y2
          · have := E'.ap g 0 _ _ b y1 q1 rfl rfl y2 q2
            subst this
            rw [q1] at y1; cases y1
      · obtain ⟨g, d, z1, z2⟩ := z
        rcases x.o b ⟨g, _, z1, rfl, z2⟩ with z | z
        · have hby := ow b z
          subst hby
          have := E'.ap g 0 _ _ b z1 q1 rfl rfl z2 q2
          subst this
          rw [q1] at z1; cases z1
        · exact .inr z
  | bk e => rw [q] at h; exact h.elim
  | ct e => rw [q] at h; exact h.elim
  | rt d => rw [q] at h; exact h.elim
  | rn d => rw [q] at h; exact h.elim
  | er c' fs e =>
    rw [q] at h
    intro dx σ' F' H' x E' r
    obtain ⟨⟨fs', gs', q1⟩, q2⟩ := x.q 0 c [] [] e0
    rw [s0] at q2
    obtain ⟨a, dx', fvs, r1, r2, _⟩ := E'.oo 0 c fs' gs' q1
    rw [q2] at r1; cases r1
    refine h dx F' H' x.f x.e (kk x.toSr) (fun b o hb => ?_) r
    rcases x.n b o hb with z | z | z
    · exact .inl z
    · exact .inr z
    · have hby := ow b z
      subst hby
      rw [r2] at hb; cases hb
  | st => rw [q] at h; exact h.elim
end
end Ps

namespace L2
open PySem PySem.Spec
open PyProof.Rows
section
variable {X : Cx} {pins : List (Addr × Obj)} {σ : St} {H : Hp} {s sI : Shared} {a : Addr} {o : HO} {B : Heap} {cls : Value} {d : Option Addr}
/-- an object of ours that wasn't tracked is tracked from here on -/
theorem Inv.psTrack (I : Inv X pins σ H s) (na : H a = none) (h0 : X.s_0.heap.get? a = none) (nL : a ≠ X.env.locals) (nc : ∀ x c, X.env.cells.lookup x = some c → c ≠ a) (np : ∀ p ∈ X.pn ++ pins, p.1 ≠ a) (new : ObjOk X.prog X.w (upd H a o) s.heap a o) :
    Inv X pins σ (upd H a o) s :=
  have off : ∀ {b u}, H b = some u → upd H a o b = some u := fun {b u} q => (upd_ne (ne_of_none q na)).trans q
  have on : ∀ {b}, b ≠ a → H b = none → upd H a o b = none := fun hb q => (upd_ne hb).trans q
  { ok := I.ok, os := I.os, bare := I.bare, loc := I.loc, cell := I.cell, len := I.len
    free := on (Ne.symm nL) I.free
    freeC := fun x c e => on (nc x c e) (I.freeC x c e)
    base := { keep := I.base.keep, slot := I.base.slot, there := I.base.there
              free := fun b ob e n hx => on (fun z => by subst z; rw [h0] at e; exact nomatch e) (I.base.free b ob e n hx)
              tups := fun b xs e => off (I.base.tups b xs e)
              frzs := fun b ob u e => off (I.base.frzs b ob u e)
              tbls := fun b ps e => (I.base.tbls b ps e).imp fun _ q => off q }
    pin := fun p hp => (I.pin p hp).imp_right fun r => r.imp_left fun n => on (np p hp) n
    hok := fun b u e => (Decidable.em (b = a)).elim
      (fun hb => by subst hb; cases upd_same.symm.trans e; exact new)
      (fun hb => (I.hok b u ((upd_ne hb).symm.trans e)).stay (fun _ _ _ q => q) (fun _ q => off q) (fun _ _ q => off q)) }
/-- the error a is on the ground: what is known of it -/
structure PsDown (X : Cx) (pins : List (Addr × Obj)) (σ : St) (H : Hp) (B : Heap) (a : Addr) (cls : Value) (d : Option Addr) (s : Shared) : Prop where
  inv : Inv X pins σ H s
  fly : HandSPX.FlyingZ B (X.env :: X.outer) a (Zc cls d) s.heap
  new : H a = none
  old : X.s_0.heap.get? a = none
  loc : a ≠ X.env.locals
  cal : a ∉ X.fs
  pnn : ∀ p ∈ X.pn ++ pins, p.1 ≠ a
theorem psDown (hex : X.ex = []) (hs : X.stack = X.env :: X.outer) (hf : X.env.frame = some X.env.locals) (J : Inv X pins σ H sI) (nb : ∀ b o, sI.heap.get? b = some o → b ∉ frs X.stack → B.get? b = some o) (up : sI.heap.UpToSlots s.heap)
    (fly : HandSPX.FlyingZ B (X.env :: X.outer) a (Zc cls d) s.heap) (new : H a = none) (os : s.os = sI.os) (ag : AllBare s.gens) : PsDown X pins σ H B a cls d s := by
  obtain ⟨oe, vs, ha, _, hv⟩ := fly.there
  have far : a ∉ frs (X.env :: X.outer) := fun hm => by
    obtain ⟨_, o2, g2, nf⟩ := fly.2.2.1.mem hm
    cases g2.symm.trans ha
    exact nf vs hv
  have gone : ∀ {o}, sI.heap.get? a ≠ some o := fun {o} e => by
    have := nb a o e (hs ▸ far)
    rw [fly.2.1] at this
    exact nomatch this
  have inFr : ∀ {e : Env}, e ∈ X.env :: X.outer → e.frame ≠ some a := fun he q => far (List.mem_filterMap.mpr ⟨_, he, q⟩)
  exact {
    inv := J.landed nb fly.1 up os ag
    fly := fly
    new := new
    old := (Option.eq_none_iff_forall_ne_some.mpr fun o q => by
      obtain ⟨o1, q1⟩ := J.base.there a o q (hex ▸ List.not_mem_nil)
      exact gone q1)
    loc := fun z => inFr List.mem_cons_self (z ▸ hf)
    cal := fun hm => (List.mem_filterMap.mp hm).elim fun _ w => inFr (List.mem_cons_of_mem _ w.1) w.2
    pnn := fun p hp z => gone (z ▸ (J.pin p hp).1) }
theorem PsDown.tracked (P : PsDown X pins σ H B a cls d s) : Inv X pins σ (upd H a (Ps.ExV cls d a)) s := by
  obtain ⟨oe, vs, ha, hz, hv⟩ := P.fly.there
  refine P.inv.psTrack P.new P.old P.loc (fun y k e z => ?_) P.pnn ⟨⟨oe, vs, ha, hz, hv⟩, ⟨oe, ha⟩, fun _ _ ⟨oe, vs, q1, q2⟩ k => ⟨oe, vs, k _ q1, q2⟩⟩
  obtain ⟨_, ob, g, gd⟩ := P.inv.cell y k e
  subst z
  cases g.symm.trans ha
  exact nomatch gd.symm.trans hv
/-- what the clause 'except x as n' wishes of an exception of the body: slot i is n's, the error is tracked -/
def psAs (K : PySem.W.Frag) (c : Value) (i : Nat) (ts : Addr → TS) (Wout : WX) (Z : Ends) : WX := fun cls d σ H =>
  ∃ b, PySem.W.exmOne K cls c = some b ∧ (b = true → ∀ a, H a = none → ts a { nx := fun σ' H' => Z.nx (σ'.set i none) H', rt := Z.rt, bk := fun σ' H' => Z.bk (σ'.set i none) H', ct := fun σ' H' => Z.ct (σ'.set i none) H' } (σ.set i (some (.ref a))) (upd H a (Ps.ExV cls d a))) ∧
    (b = false → Wout cls d σ H)
/-- into the suite (no pin), and out of it -/
theorem Inv.psIn (I : Inv X pins σ H s) : Inv (X.suite a (X.pn ++ pins)) [] σ H s :=
  { I with ok := I.ok.suite _ _, pin := fun p hp => I.pin p (List.append_nil (X.pn ++ pins) ▸ hp) }
theorem Inv.psOut {more : List (Addr × Obj)} (I : Inv (X.suite a (X.pn ++ pins)) more σ H s) (ok : X.Ok) : Inv X pins σ H s :=
  { I with ok := ok, pin := fun p hp => I.pin p (List.mem_append_left more hp) }
end
section
variable {X : Cx} {pins : List (Addr × Obj)} {σ : St} {H : Hp} {s : Shared} {a : Addr} {B : Heap} {cls c : Value} {d : Option Addr} {x n : Str} {i : Nat} {suite : List Stmt} {b₀ : Stmt} {np pos' : Pos} {t : TS} {Z : Ends} {E : Value → Shared → Prop}
/-- the clause's class is looked up and asked -/
theorem PsDown.asked (P : PsDown X pins σ H B a cls d s) (hc : Names X x c) {b : Bool} (hb : PySem.W.exmOne X.K cls c = some b) {Q : Bool → Shared → Prop} (q : Q b s) :
    wpAny (model X.prog X.w) (X.A.mark (some (.ref a))) (eval (.Name x np) X.env) (fun v s' => wpAny (model X.prog X.w) (X.A.mark (some (.ref a))) (excMatches (.ref a) v) Q E s') E s := by
  obtain ⟨oe, vs, ha, hz, hv⟩ := P.fly.there
  have look : PySem.W.Looks (model X.prog X.w) s.heap (excMatches (.ref a) c) b :=
    PySem.W.exm_one P.inv.kIn (fun _ _ _ _ keep done => wpAny_typeOf_ref (keep _ _ ha) (hz.1 ▸ done)) hb
  have I := P.inv.psIn (a := a)
  rcases hc with ⟨g, db, m | ⟨m, bv, nn⟩⟩
  · exact ld_glob I g m (look.here q) db
  · exact ld_blt I g m bv (look.here q) nn db
/-- behind the suite its name goes -/
theorem psEnd (ok : X.Ok) (hN : X.N.Nodup) (hi : X.N[i]? = some n) (hln : X.env.kindOf n = some .local) {f : Flow} (out : SP (X.suite a (X.pn ++ pins)) [] { nx := fun σ' H' => Z.nx (σ'.set i none) H', rt := Z.rt, bk := fun σ' H' => Z.bk (σ'.set i none) H', ct := fun σ' H' => Z.ct (σ'.set i none) H' } f s) :
    wpAny (model X.prog X.w) X.A (do bindName X.env n .none; unbindBehindTheSuite X.env n pos') (fun _ s7 => SP X pins Z f s7) X.xe s := by
  have bye : ∀ {σ6 : St} {H6 : Hp} {R : Shared → Prop}, Inv (X.suite a (X.pn ++ pins)) [] σ6 H6 s → (∀ s7, Inv X pins (σ6.set i none) H6 s7 → R s7) → wpAny (model X.prog X.w) X.A (do bindName X.env n .none; unbindBehindTheSuite X.env n pos') (fun _ s7 => R s7) X.xe s :=
    fun S6 k => gone_ok (S6.psOut ok) hN hi hln k
  cases f <;> first
    | (obtain ⟨σ6, H6, S6, w⟩ := out; exact bye S6 fun _ J7 => ⟨_, H6, J7, w⟩)
    | (obtain ⟨v6, σ6, H6, S6, r6, w⟩ := out; exact bye S6 fun _ J7 => ⟨v6, _, H6, J7, r6, w⟩)
end
section
variable {X : Cx} {x n : Str} {c : Value} {i : Nat} {body suite : List Stmt} {b₀ : Stmt} {np pos pos' : Pos} {tb : WX → TS} {ts : Addr → TS} {Wout : WX}
theorem ps_try_ps (hex : X.ex = []) (hs : X.stack = X.env :: X.outer) (hf : X.env.frame = some X.env.locals) (hN : X.N.Nodup) (hi : X.N[i]? = some n) (hln : X.env.kindOf n = some .local) (hc : Names X x c) (tk : Takes X Wout)
    (hb : ∀ (W : WX) (pn : List (Addr × Obj)) (xe : Value → Shared → Prop), Takes (X.tr pn xe) W →
      PassesOwn (model X.prog X.w) X.A X.env xe → PSs (X.tr pn xe) body (tb W))
    (hsu : ∀ (a : Addr) (pn : List (Addr × Obj)), PSs (X.suite a pn) (b₀ :: suite) (ts a)) :
    PS X (.Try body [.ExceptHandler (some (.Name x np)) (some n) (b₀ :: suite) pos'] [] [] pos) (fun Z σ H => tb (psAs X.K c i ts Wout Z) Z σ H) := by
  constructor
  intro pins s σ H Z I h
  have ok := I.ok
  have hfr : X.A.frames = some (X.env :: X.outer) := ok.frames.trans (congrArg some hs)
  refine wpAny_Try_except (wpAny_mono ((hb (psAs X.K c i ts Wout Z) (X.pn ++ pins) (fun e s₁ => wpAny (model X.prog X.w) X.A (noteFrame e X.env)
    (fun _ s₂ => wpAny (model X.prog X.w) X.A (setFlight e none) (fun _ s₃ => wpAny (model X.prog X.w) X.A (handleBy e X.env [.ExceptHandler (some (.Name x np)) (some n) (b₀ :: suite) pos']) (SP X pins Z) X.xe s₃) X.xe s₂) X.xe s₁)
    ?taken PassesOwn.looking).run [] s σ H Z (I.toTry _) h) ?through fun _ _ z => z)
  case through =>
    intro f s1 out
    cases f <;> first
      | (obtain ⟨σ1, H1, J, w⟩ := out; exact wpAny_execs_nil ⟨σ1, H1, J.ofTry ok, w⟩)
      | (obtain ⟨σ1, H1, J, w⟩ := out; exact ⟨σ1, H1, J.ofTry ok, w⟩)
      | (obtain ⟨v1, σ1, H1, J, r, w⟩ := out; exact ⟨v1, σ1, H1, J.ofTry ok, r, w⟩)
  case taken =>
    rintro _ s1 ⟨a, B, sI, p0, σ1, H1, cls, d, rfl, J0, nb, up, sky, na, os, ag, b, hb1, yes, no⟩
    have J := J0.ofTry ok
    have sky1 : Sky B (X.env :: X.outer) a (Zc cls d) X.env.locals s1.heap := hs ▸ sky
    show wpAny (model X.prog X.w) X.A (noteFrame (.ref a) X.env) _ X.xe s1
    refine Sky.land Zc.steady hfr hf sky1 fun h2 fl2 up2 => ?_
    have P : PsDown X pins σ1 H1 B a cls d { s1 with heap := h2 } := psDown hex hs hf J nb (up.trans up2) fl2 na os ag
    refine wpAny_handleBy_cons (codeAny_handlers_test (P.asked hc hb1 ?_)) fun z => nomatch z
    match b, hb1, yes, no with
    | true, _, yes, _ =>
      refine codeAny_handlers_suite_as (HandSPX.lands_againZ fl2 fun h3 fl3 up3 => ?_)
      have P3 : PsDown X pins σ1 H1 B a cls d { s1 with heap := h3 } := psDown hex hs hf J nb ((up.trans up2).trans up3) fl3 na os ag
      refine store_ok (X := X.suite a (X.pn ++ pins)) (v := .ref a) P3.tracked.psIn hN hi (.inl hln) rfl
        (fun s5 S5 => wpAny_mono ((hsu a _).run [] s5 _ _ _ S5 (yes rfl a na)) (fun f s6 out => ?_) fun _ _ z => z.elim) (.inr hln)
      exact psEnd ok hN hi hln out
    | false, _, _, no =>
      show wpAny _ X.A (handleBy (.ref a) X.env []) (SP X pins Z) X.xe _
      have on : wpAny (model X.prog X.w) X.A (setFlight (.ref a) X.env.frame) (fun _ s4 => wpAny (model X.prog X.w) X.A (throw (.ref a) : Sem Flow) (SP X pins Z) X.xe s4) X.xe { s1 with heap := h2 } := by
        rw [hf]
        exact HandSPX.setFlight_upZ fl2 fun h3 held up3 => wpAny_throw (tk _ _ ⟨a, B, sI, pins, σ1, H1, cls, d, rfl, J, nb, (up.trans up2).trans up3, .inr (.inr (hs ▸ held)), na, os, ag, no rfl⟩)
      obtain ⟨_, _, _, ob, vs, T, _, _, gb, _, gd, g1, _⟩ := fl2
      refine wpAny_handleBy_nil ?_
      unfold PySem.passOn
      refine wpAny_bind (wpAny_field gb gd g1 ?_)
      rw [if_neg (by simp)]
      first
        | exact wpAny_bind (wpAny_pure (wpAny_bind on))
        | exact wpAny_bind on
end
end L2

namespace Ps
open PySem PySem.Spec PyProof.Rows L2

/-! ### raise, try -/
def ssRaise (c : Nat) : SS := fun env => .er c [] env
def wipeO (i : Nat) : O → O
  | .nx e => (match setSl e i .no with | some e' => .nx e' | none => .st)
  | .bk e => (match setSl e i .no with | some e' => .bk e' | none => .st)
  | .ct e => (match setSl e i .no with | some e' => .ct e' | none => .st)
  | .rt d => .rt d
  | .rn d => .rn d
  | .er _ _ _ => .st
  | .st => .st
/-- cat: whether class c is caught -/
def ssTry (cat : Nat → Option Bool) (i : Nat) (body gs : SS) : SS := fun env => match body env with
  | .er c fs e => (match cat c with
    | some true => (match setSl e i (.sh (.exo c fs)) with
      | some e1 => wipeO i (gs e1)
      | none => .st)
    | some false => .er c fs e
    | none => .st)
  | o => o
/-- an own error's class, raised with a text -/
structure ErrC (K : PySem.W.Frag) (mg : Str → Option Value) (C : Addr) (x : Str) : Prop where
  g : mg x = some (.ref C)
  k : PySem.W.keepIn K (.ref C) = true
  q : PySem.W.excIn K C [.type "ValueError", .type "Exception", .type "BaseException", .type "object"] "ValueError.__new__" = true
  b : PySem.W.subIn K (.ref C) (.type "BaseException") = some true
  t : PySem.W.typeIn K (.ref C) = some (.type "type")
section
variable {X : Cx} {ct : Nat → Addr} {W : WX} {body suite : List Stmt} {b₀ : Stmt} {g gs : SS} {pos pos' p p2 np : Pos} {x m n : Str} {j : Nat}
theorem p_raise (c : Nat) (T : ErrC X.K X.mg (ct c) x) (hg : Gl X x) (hc : X.calm = true) (tk : Takes X W) (hdb : (x == ("__debug__" : Str)) = false := by decide) :
    PS X (.Raise (some (.Call (.Name x p) [.Constant (.str m) j p2] [] pos)) none pos') (sOf X.K ct W (ssRaise c)) :=
  (ps_raise hc tk (pmk_own PySem.F.excBase_ValueError T.q T.g T.k (raises_own T.b T.t) hg hdb)).imp fun D σ H ⟨env, F, E, h⟩ => h none σ F H (Gr.refl E.ex).sx E (.inl ⟨rfl, rfl⟩)
theorem sh_of_exc {K : PySem.W.Frag} {F : Hp} {c : Nat} {fs : List (Str × D)} {dx : Option Addr} {a : Addr} (r : ExcOk K ct F dx fs) (e : Ex F (upd F a (ExV (.ref (ct c)) dx a))) : Rep K ct (upd F a (ExV (.ref (ct c)) dx a)) (.exo c fs) (.ref a) :=
  ⟨a, dx, rfl, upd_same, ExcOk.mono e r⟩
theorem p_try {C : Value} {cat : Nat → Option Bool} (i : Nat) (hex : X.ex = []) (hs : X.stack = X.env :: X.outer) (hf : X.env.frame = some X.env.locals) (hN : X.N.Nodup) (hi : X.N[i]? = some n) (hln : X.env.kindOf n = some .local) (hc : Names X x C) (tk : Takes X W)
    (hcat : ∀ c b, cat c = some b → PySem.W.exmOne X.K (.ref (ct c)) C = some b)
    (hb : ∀ (W : WX) (pn : List (Addr × Obj)) (xe : Value → Shared → Prop), Takes (X.tr pn xe) W → PassesOwn (model X.prog X.w) X.A X.env xe → PSs (X.tr pn xe) body (sOf X.K ct W g))
    (hsu : ∀ (a : Addr) (pn : List (Addr × Obj)), PSs (X.suite a pn) (b₀ :: suite) (sOf X.K ct W0 gs)) :
    PS X (.Try body [.ExceptHandler (some (.Name x np)) (some n) (b₀ :: suite) pos'] [] [] pos) (sOf X.K ct W (ssTry cat i g gs)) := by
  refine (ps_try_ps hex hs hf hN hi hln hc tk (tb := fun W => sOf X.K ct W g) (ts := fun _ => sOf X.K ct W0 gs) hb hsu).imp fun Z σ H ⟨env, F, E, h⟩ => ⟨env, F, E, ?_⟩
  unfold ssTry at h
  cases q : g env with
  | er c fs e =>
    rw [q] at h
    intro dx σ' F' H' x E' r
    cases hcc : cat c with
    | none =>
      simp only [hcc] at h
      exact h.elim
    | some b =>
      simp only [hcc] at h
      refine ⟨b, hcat _ _ hcc, fun hb a na => ?_, fun hb => ?_⟩
      · subst hb
        simp only at h
        have g1 := Gr.new (o := ExV (.ref (ct c)) dx a) E'.ex na
        have E1 := E'.gr g1
        cases q1 : setSl e i (.sh (.exo c fs)) with
        | none => simp only [q1] at h; exact h.elim
        | some e1 =>
          simp only [q1] at h
          obtain ⟨t, hi1, hc1, rfl⟩ := setSl_some q1
          obtain ⟨E2, S2⟩ := set_ok (s := .sh (.exo c fs)) (x := some (V.ref a)) E1 hi1 hc1 rfl (fun _ z => nomatch z) fun d z => by cases z; exact ⟨_, rfl, sh_of_exc r g1.f⟩
          refine ⟨_, _, E2, ?_⟩
          have S := x.trans (g1.sx.trans S2)
          have h' := finS_after S h
          have wp : ∀ {e2 : En} {k : En → O} {N : L2.St → Hp → Prop}, (∀ e3, FinS X.K ct W _ _ _ _ (k e3) Z → ∀ σ4 F4 H4, Sx _ _ (e.set i (.sh (.exo c fs))) (σ'.set i (some (V.ref a))) F4 H4 e3 σ4 → EnvOk X.K ct F4 H4 e3 σ4 → N σ4 H4) →
              FinS X.K ct W (upd F' a (ExV (.ref (ct c)) dx a)) (upd H' a (ExV (.ref (ct c)) dx a)) (e.set i (.sh (.exo c fs))) (σ'.set i (some (V.ref a))) (match setSl e2 i .no with | some e' => k e' | none => .st) Z →
              ∀ σ3 F3 H3, Sx (upd F' a (ExV (.ref (ct c)) dx a)) (upd H' a (ExV (.ref (ct c)) dx a)) (e.set i (.sh (.exo c fs))) (σ'.set i (some (V.ref a))) F3 H3 e2 σ3 → EnvOk X.K ct F3 H3 e2 σ3 → N (σ3.set i none) H3 := fun {e2 k N} hk hh σ3 F3 H3 S3 E3 => by
            cases q2 : setSl e2 i .no with
            | none => simp only [q2] at hh; exact hh.elim
            | some e3 =>
              simp only [q2] at hh
              obtain ⟨t2, hi2, hc2, rfl⟩ := setSl_some q2
              obtain ⟨E4, S4⟩ := set_ok (s := .no) (x := none) E3 hi2 hc2 rfl (fun _ z => nomatch z) fun d z => nomatch z
              exact hk _ hh _ F3 H3 (S3.trans S4) E4
          cases ho : gs (e.set i (.sh (.exo c fs))) with
          | nx e2 => rw [ho] at h'; exact wp (k := O.nx) (fun e3 hh => hh) h'
          | bk e2 => rw [ho] at h'; exact wp (k := O.bk) (fun e3 hh => hh) h'
          | ct e2 => rw [ho] at h'; exact wp (k := O.ct) (fun e3 hh => hh) h'
          | rt d => rw [ho] at h'; exact h'
          | rn d => rw [ho] at h'; exact h'
          | er c2 fs2 e2 => rw [ho] at h'; exact h'.elim
          | st => rw [ho] at h'; exact h'.elim
      · subst hb
        simp only at h
        exact h dx σ' F' H' x E' r
  | nx e => rw [q] at h; exact h
  | bk e => rw [q] at h; exact h
  | ct e => rw [q] at h; exact h
  | rt d => rw [q] at h; exact h
  | rn d => rw [q] at h; exact h
  | st => rw [q] at h; exact h
end

/-! ### isinstance -/
inductive Kd where
  | ty (n : String) | own (c : Nat) | err (c : Nat) | no
def kd : D → Kd
  | .non => .ty "NoneType" | .bl _ => .ty "bool" | .int _ => .ty "int" | .str _ => .ty "str"
  | .lst _ => .ty "list" | .scr _ => .ty "list" | .tup _ => .ty "tuple" | .dk _ => .ty "dict" | .dt _ => .ty "dict"
  | .obj c _ => .own c | .exo c [] => .err c | .exo _ (_ :: _) => .no
def kdV (ct : Nat → Addr) : Kd → Value
  | .ty n => .type n
  | .own c => .ref (ct c)
  | .err c => .ref (ct c)
  | .no => .none
structure OwnC (K : PySem.W.Frag) (C : Addr) : Prop where
  cl : Cls K C
  ha : PySem.W.findIn K (.ref C) "__class__" = some (some (.builtin "object.__class__"))
  hn : PySem.W.specialIn K (.builtin "object.__class__") "__get__" = some (some (.builtin "getset_descriptor.__get__"))
  ht : PySem.W.takesIn K (.builtin "object.__class__") = some true
  hm : PySem.W.mroIn K C (.type "object") = some true
def KdOk (K : PySem.W.Frag) (ct : Nat → Addr) : Kd → Prop
  | .ty _ => True
  | .own c => OwnC K (ct c)
  | .err c => ExcC K (ct c)
  | .no => False
def IsOk (K : PySem.W.Frag) (ct : Nat → Addr) (C : Value) (tb : Kd → Option Bool) : Prop := ∀ k b, tb k = some b → PySem.W.kitOne K (kdV ct k) C = some b ∧ KdOk K ct k
section
variable {X : Cx} {ct : Nat → Addr} {W : WX} {a b e : Expr} {f : SE} {pos p p2 : Pos}
theorem kit_ps {pins : List (Addr × Obj)} {σ : L2.St} {F H : Hp} {s : Shared} {d : D} {x : V} {u : Value} (I : Inv X pins σ H s) (ex : Ex F H) (rx : RelV x u) (h : RepB X.K ct F H d x) (ok : KdOk X.K ct (kd d)) :
    ∃ P : Heap → Prop, PySem.W.KitX X.K u (kdV ct (kd d)) P ∧ P s.heap ∧ u ≠ .builtin "__main__.__loader__#opaque" := by
  cases d with
  | non => cases (show x = .non from h); exact kit_of I rx (.base .non)
  | bl y => cases (show x = .bl y from h); exact kit_of I rx (.base (.bl y))
  | int y => cases (show x = .int y from h); exact kit_of I rx (.base (.int y))
  | str y => cases (show x = .str y from h); exact kit_of I rx (.base (.str y))
  | lst ds => obtain ⟨a, vs, rfl, h1, _⟩ := h; exact kit_of I rx (.base (.lst h1))
  | tup ds => obtain ⟨a, vs, rfl, h1, _⟩ := h; exact kit_of I rx (.base (.tup (ex _ _ h1)))
  | scr ns =>
    obtain ⟨a, rfl, h1⟩ := h
    cases (show u = Value.ref a from rx)
    obtain ⟨its, _, pl, _⟩ := I.list (show SqL X.K H a (ns.map V.int) from by
      rcases h1 with h1 | h1
      · exact .inl (Ex.rd ex h1)
      · exact .inr h1)
    obtain ⟨n, hget, hcl, _⟩ := pl.isList
    exact ⟨_, PySem.W.kitx_list, ⟨n, hget, hcl⟩, fun z => nomatch z⟩
  | dk kvs =>
    obtain ⟨a, vs, rfl, h1, _⟩ := h
    cases (show u = Value.ref a from rx)
    obtain ⟨_, _, ws, _, o, es, ep, q1, q2, _⟩ := h1.ok I.hok
    exact ⟨_, PySem.W.kitx_dict, ⟨o, q1, q2.1⟩, fun z => nomatch z⟩
  | dt kvs =>
    obtain ⟨a, vs, rfl, h1, _⟩ := h
    cases (show u = Value.ref a from rx)
    obtain ⟨_, _, ws, _, o, es, ep, q1, q2, _⟩ := h1.ok I.hok
    exact ⟨_, PySem.W.kitx_dict, ⟨o, q1, q2.1⟩, fun z => nomatch z⟩
  | obj c fs =>
    obtain ⟨a, dx, fvs, rfl, h1, _, _⟩ := h
    have ok : OwnC X.K (ct c) := ok
    exact kit_of I rx (.base (.ins h1 ok.cl ok.ha ok.hn ok.ht ok.hm))
  | exo c fs =>
    cases fs with
    | cons p q => exact ok.elim
    | nil =>
      obtain ⟨a, dx, rfl, h1, h2⟩ := h
      have C : ExcC X.K (ct c) := ok
      obtain rfl : dx = none := h2.elim (·.2) fun z => absurd rfl z.1
      cases (show u = Value.ref a from rx)
      obtain ⟨⟨oe, vs, q1, ⟨q2, q3⟩, q4⟩, _⟩ := (show ObjOk X.prog X.w H s.heap a (ExV (.ref (ct c)) none a) from I.hok a _ (ex _ _ h1))
      refine ⟨_, PySem.W.handS_kitx_exc (ox := oe) C.hg C.hk C.hs C.hd C.ha C.hn C.ht C.hm, ⟨q1, q2, ?_, ?_⟩, fun z => nomatch z⟩
      · unfold PySem.W.notCls; rw [q4]
      · rw [q3]; trivial
def rIsPs (K : PySem.W.Frag) (ct : Nat → Addr) : List V → Hp → VK → Prop := fun xs H Q => ∃ (F : Hp) (d : D) (x c : V) (u : Value) (b : Bool), xs = [x, c] ∧ ClsV c u ∧ Ex F H ∧ RepB K ct F H d x ∧ KdOk K ct (kd d) ∧ PySem.W.kitOne K (kdV ct (kd d)) u = some b ∧ Q (.bl b) H
theorem call_isPs : CallR X (.builtin "isinstance") (rIsPs X.K ct) := by
  intro pins s σ H xs us Q I r h
  obtain ⟨F, d, x, c, u, b, rfl, k, ex, rp, ok, e, q⟩ := h
  obtain ⟨u1, u2, rfl, r1, r2⟩ := vals2 r
  have e2 := k.eq r2
  subst e2
  obtain ⟨P, Z, p, hx⟩ := kit_ps I ex r1 rp ok
  exact PySem.W.kia_one Z I.kIn p e hx fun tk => ⟨.bl b, H, I.tok tk, rfl, q⟩
def sIsi (tb : Kd → Option Bool) (f : SE) : SE := fun env => bnd (f env) fun d => match tb (kd d) with
  | some b => .ok (.bl b)
  | none => .st
theorem e_isi {C : Value} {c : V} {tb : Kd → Option Bool} (hg : Gl X "isinstance") (hm : X.mg "isinstance" = none) (he : PE X e (EB X.K ct W f)) (hc : PE X b (tC c)) (hk : ClsV c C) (hi : IsOk X.K ct C tb)
    (h1 : starEach [e, b] X.env = (false, eval e X.env) :: starEach [b] X.env := by rfl) (h2 : starEach [b] X.env = (false, eval b X.env) :: starEach [] X.env := by rfl) (hpl : (backTo pos (starEach [b] X.env)).any (·.1) = false := by rfl) :
    PE X (.Call (.Name "isinstance" p) [e, b] [] pos) (ER X.K ct W (sIsi tb f)) := by
  refine (pe_callB (call_isPs (ct := ct)) hg hm (by decide +kernel) (pa_cons he (pa_cons hc pa_nil h2) h1) (he := h1) (hpl := hpl)).imp fun σ H Q ⟨env, F, E, h⟩ => ?_
  refine fin_bind E h rfl fun d v F1 H1 e1 g1 r1 E1 h => ?_
  cases q : tb (kd d) with
  | none => simp only [q] at h; exact h.elim
  | some bb =>
    simp only [q] at h
    obtain ⟨k1, k2⟩ := hi _ _ q
    exact ⟨F1, d, v, c, C, bb, rfl, hk, E1.ex, r1, k2, k1, h _ F1 H1 g1 rfl⟩
theorem e_clsT {x : Str} {n : String} (hg : Gl X x) (hm : X.mg x = none) (hv : bootBuiltins x = some (.type n)) (hn : x ≠ "__name__" := by decide) (hd : (x == ("__debug__" : Str)) = false := by decide) : PE X (.Name x p) (tC (.ty n)) := pe_bltn hg hm hv rfl hn hd
theorem e_clsO {x : Str} {C : Addr} (hg : Gl X x) (hm : X.mg x = some (.ref C)) (hd : (x == ("__debug__" : Str)) = false := by decide) : PE X (.Name x p) (tC (.ref C)) := pe_glob hg hm rfl hd

/-! ### list(range(n)) -/
def cRg : List D → Option D
  | [.int n] => if 0 ≤ n ∧ n ≤ 16777216 then some (.lst ((List.range n.toNat).map fun i => .int (i : Nat))) else none
  | _ => none
theorem reps_rg {K : PySem.W.Frag} {F : Hp} : ∀ (l : List Nat), Reps K ct F (l.map fun i => D.int (i : Nat)) (l.map fun i => V.int (0 + (i : Nat)))
  | [] => rfl
  | i :: l => ⟨_, _, rfl, (show V.int (0 + (i : Nat)) = V.int (i : Nat) by rw [Int.zero_add]), reps_rg l⟩
theorem e_listRg (hc : X.calm = true) (hgl : Gl X "list") (hml : X.mg "list" = none) (hg : Gl X "range") (hm : X.mg "range" = none) (ha : PE X a (ER X.K ct W f))
    (na : starEach [Expr.Call (.Name "range" p) [a] [] p2] X.env = (false, eval (.Call (.Name "range" p) [a] [] p2) X.env) :: starEach [] X.env := by rfl) (na2 : starEach [a] X.env = (false, eval a X.env) :: starEach [] X.env := by rfl) {p3 : Pos} :
    PE X (.Call (.Name "list" p3) [.Call (.Name "range" p) [a] [] p2] [] pos) (EN X.K ct W (sCall cRg (aCons f aNil))) := by
  refine (pe_listRg hc hgl hml (prg_1 hg hm ha na2) na).imp fun σ H Q ⟨env, F, E, h⟩ => ?_
  have h : Fin X.K ct W (mN X.K ct) F H σ (bnd (f env) fun d => ofO (cRg [d])) Q := by
    unfold sCall aCons aNil at h
    cases q : f env with
    | ok d => rw [q] at h; exact h
    | er c fs => rw [q] at h; exact h
    | st => rw [q] at h; exact h
  refine fin_bind E h rfl fun d v F1 H1 e1 g1 r1 E1 h => ?_
  cases d <;> first | exact h.elim | skip
  rename_i n
  simp only [cRg] at h
  split at h
  · rename_i hn
    cases (show v = .int n from r1)
    refine ⟨n, rfl, ⟨by omega, by omega, by omega, by omega, by omega⟩, fun q hq => ?_⟩
    refine h _ F1 _ (g1.trans (Gr.own E1.ex hq)) ⟨q, rfl, Ex.free g1.h hq, Ex.free E1.ex hq, _, upd_same, ?_⟩
    unfold rgV
    rw [Int.sub_zero]
    exact reps_rg _
  · exact h.elim

/-! ### text * int -/
def repS (x : Str) (n : Nat) : Str := ⟨(List.replicate n x.cps).foldl (· ++ ·) #[]⟩
def mulS (x : Str) (n : Int) : Option Str := if n < 1 then (if -(2 ^ 63 : Int) ≤ n then some Str.empty else none) else if n = 1 then some x else
  if n ≤ 1000 ∧ 0 < x.length ∧ x.length ≤ 1000 ∧ (repS x n.toNat).length ≤ sizeLine then some (repS x n.toNat) else none
def dMulS : D → D → Option D
  | .str x, .int n => (mulS x n).map .str
  | _, _ => none
def rMulS : R2 := fun x y H Q => ∃ a n z, x = .str a ∧ y = .int n ∧ mulS a n = some z ∧ Q (.str z) H
theorem op_mulS : OpR X (binaryOp .Mult) rMulS := by
  intro pins s σ H x y v u Q I rx ry h
  obtain ⟨a, n, z, rfl, rfl, hz, q⟩ := h
  obtain ⟨t, rfl⟩ := (show ∃ t, v = Value.str a t from rx)
  obtain ⟨t', rfl⟩ := (show ∃ t, u = Value.int n t from ry)
  have fin : ∀ tk, EP X pins σ Q (.str z tk) { s with toks := s.toks + 1 } := fun tk => ⟨.str z, H, I.tok _, ⟨tk, rfl⟩, q⟩
  unfold mulS at hz
  split at hz
  · rename_i h1
    split at hz
    · rename_i h2
      cases hz
      exact PySem.P.mul_str_none h1 (by omega) (fin _)
    · cases hz
  · rename_i h1
    split at hz
    · rename_i h2
      cases hz
      subst h2
      refine PySem.P.mul_str rfl (fun _ e => by simp at e) (fun _ e => by simp at e) ?_
      rw [if_neg h1, if_pos (by simp)]
      exact ⟨.str a, H, I, ⟨t, rfl⟩, q⟩
    · rename_i h2
      split at hz
      · rename_i h3
        cases hz
        obtain ⟨a1, a2, a3, a4⟩ := h3
        have hd : (1 : Int) < n := by omega
        refine PySem.P.mul_str (by rw [decide_eq_false (by omega), decide_eq_false (by omega)]; rfl) (fun _ _ => ?_) (fun _ _ => ?_) ?_
        · have h5 : (2 ^ 63 - 1) / 1000 ≤ ((2 : Int) ^ 63 - 1) / n := by
            rw [Int.le_ediv_iff_mul_le (by omega)]
            have : (((2 : Int) ^ 63 - 1) / 1000) * n ≤ (((2 : Int) ^ 63 - 1) / 1000) * 1000 := Int.mul_le_mul_of_nonneg_left a1 (by decide)
            omega
          have h6 : ((2 : Int) ^ 63 - 1) / 1000 > 1000 := by decide
          omega
        · have h7 : a.length * n.toNat ≤ 1000 * 1000 := Nat.mul_le_mul a3 (by omega)
          exact PyProof.Rows.short24 (by omega)
        · rw [if_neg h1, if_neg (by
            have : (n == 1) = false := by simp [h2]
            have h8 : (a.length == 0) = false := by simp; omega
            rw [this, h8]; decide)]
          exact ⟨a4, fin _⟩
      · cases hz
theorem sp_mulS {K : PySem.W.Frag} {m1 m2 : Bool} : Sp2 K ct m1 m2 (mR K ct) rMulS dMulS := by
  intro F H x y d e z Q ex hx hy hz hQ
  cases d <;> first | (cases hz; done) | skip
  cases e <;> first | (cases hz; done) | skip
  rename_i a n
  obtain ⟨w, h1, rfl⟩ := Option.map_eq_some_iff.mp (show (mulS a n).map D.str = some z from hz)
  have ex1 : x = .str a := by cases m1 <;> exact hx
  have ey1 : y = .int n := by cases m2 <;> exact hy
  exact ⟨a, n, w, ex1, ey1, h1, hQ _ F H (Gr.refl ex) rfl⟩
end

/-! ### x.append(y.pop(k)) -/
theorem Reps.erase {K : PySem.W.Frag} {ct : Nat → Addr} {F : Hp} : ∀ {ds : List D} {vs : List V} (i : Nat), Reps K ct F ds vs → Reps K ct F (ds.eraseIdx i) (vs.eraseIdx i)
  | [], _, _, h => by rw [show _ = [] from h]; rfl
  | d :: ds, vs, 0, h => by
    obtain ⟨v, r, e1, e2, e3⟩ := h
    subst e1
    exact e3
  | d :: ds, vs, i + 1, h => by
    obtain ⟨v, r, e1, e2, e3⟩ := h
    subst e1
    exact ⟨v, _, rfl, e2, Reps.erase i e3⟩
def popD (es : List D) (k : Int) : Option (D × List D) := if -(2 ^ 63 : Int) ≤ k ∧ k < 2 ^ 63 then (seqIndex? k es.length).bind fun n => (es[n]?).map fun y => (y, es.eraseIdx n) else none
def ssAppPop (i j : Nat) (f : SE) : SS := fun env => match env[i]?, env[j]? with
  | some (.ow (.lst ds)), some (.ow (.lst es)) => bndS (f env) env fun d => match d with
    | .int k => (match popD es k with
      | some (y, es') => if i ≠ j ∧ ds.length < sizeLine then .nx ((env.set j (.ow (.lst es'))).set i (.ow (.lst (ds ++ [y])))) else .st
      | none => .st)
    | _ => .st
  | _, _ => .st
section
variable {X : Cx} {ct : Nat → Addr} {W : WX} {e : Expr} {f : SE} {pos p pos' apos cpos p' apos' cpos' : Pos} {x y : Str}
theorem p_appPop (i j : Nat) (he : PE X e (ER X.K ct W f)) (hN : X.N[i]? = some x := by rfl) (hv : Vis X.env.scope x := by first | exact Or.inl rfl | exact Or.inr (Or.inl rfl) | exact Or.inr (Or.inr rfl)) (hd : (x == ("__debug__" : Str)) = false := by decide)
    (hcd : (x == ("__classdict__" : Str)) = false := by decide)
    (hN' : X.N[j]? = some y := by rfl) (hv' : Vis X.env.scope y := by first | exact Or.inl rfl | exact Or.inr (Or.inl rfl) | exact Or.inr (Or.inr rfl)) (hd' : (y == ("__debug__" : Str)) = false := by decide)
    (hcd' : (y == ("__classdict__" : Str)) = false := by decide)
    (hbase' : attributeBase (.Name y p') "pop" X.env (eval (.Name y p') X.env) = eval (.Name y p') X.env := by rfl)
    (hfew' : ((backTo cpos' (starEach [e] X.env)).all (fun x => !x.1) && (backToKw cpos' (keywordEach [] X.env)).all (fun x => x.1.isSome)
      && decide ([e].length + ([] : List Keyword).length + (if ([] : List Keyword).isEmpty then 0 else 1) < 30)) = true := by rfl)
    (hline' : (apos'.endLine == cpos'.line) = true := by rfl) (h1' : starEach [e] X.env = (false, eval e X.env) :: starEach [] X.env := by rfl) (hplain' : (backTo cpos' (starEach [] X.env)).any (·.1) = false := by rfl)
    (hs : swapsWith (.Call (.Attribute (.Name x p) "append" apos) [.Call (.Attribute (.Name y p') "pop" apos') [e] [] cpos'] [] cpos) none pos.line X.env = pure false := by rfl)
    (hbase : attributeBase (.Name x p) "append" X.env (eval (.Name x p) X.env) = eval (.Name x p) X.env := by rfl)
    (hfew : ((backTo cpos (starEach [Expr.Call (.Attribute (.Name y p') "pop" apos') [e] [] cpos'] X.env)).all (fun x => !x.1) && (backToKw cpos (keywordEach [] X.env)).all (fun x => x.1.isSome)
      && decide ([Expr.Call (.Attribute (.Name y p') "pop" apos') [e] [] cpos'].length + ([] : List Keyword).length + (if ([] : List Keyword).isEmpty then 0 else 1) < 30)) = true := by rfl)
    (hline : (apos.endLine == cpos.line) = true := by rfl)
    (h1 : starEach [Expr.Call (.Attribute (.Name y p') "pop" apos') [e] [] cpos'] X.env = (false, eval (.Call (.Attribute (.Name y p') "pop" apos') [e] [] cpos') X.env) :: starEach [] X.env := by rfl)
    (hplain : (backTo cpos (starEach [] X.env)).any (·.1) = false := by rfl) :
    PS X (.Expr (.Call (.Attribute (.Name x p) "append" apos) [.Call (.Attribute (.Name y p') "pop" apos') [e] [] cpos'] [] cpos) pos) (sOf X.K ct W (ssAppPop i j f)) := by
  refine (ps_expr (pe_bm PySem.F.plainAttrs_list PySem.F.slot_list_append PySem.F.type_list_append mt_append (pe_var hN hv hd hcd)
    (pa_cons (pe_bm PySem.F.plainAttrs_list PySem.F.slot_list_pop PySem.F.type_list_pop mt_popAt (pe_var hN' hv' hd' hcd') (pa_cons he pa_nil h1') hbase' hfew' hline' h1' hplain') pa_nil h1) hbase hfew hline h1 hplain) hs).imp fun D σ H ⟨env, F, E, h⟩ => ?_
  unfold ssAppPop at h
  split at h
  · rename_i ds es q q2
    obtain ⟨l, e1, hF, vs, k1, k2⟩ := E.ow i _ q
    obtain ⟨l2, e2, hF2, us, k3, k4⟩ := E.ow j _ q2
    refine ⟨.ref l, e1, .inl ⟨rfl, vs, SqL.of k1⟩, ?_⟩
    refine ⟨.ref l2, e2, .inl ⟨rfl, us, SqL.of k3⟩, ?_⟩
    refine finS_bind E h fun d v F1 H1 e3 g1 r1 E1 h => ?_
    cases d <;> first | exact h.elim | skip
    rename_i k
    cases (show v = .int k from r1)
    cases q3 : popD es k with
    | none => simp only [q3] at h; exact h.elim
    | some pr =>
      obtain ⟨y, es'⟩ := pr
      simp only [q3] at h
      split at h
      · rename_i hc
        unfold popD at q3
        split at q3
        · rename_i hk
          obtain ⟨n, n1, n2⟩ := Option.bind_eq_some_iff.mp q3
          obtain ⟨y', n3, n4⟩ := Option.map_eq_some_iff.mp n2
          cases n4
          obtain ⟨l2', e2', hF2', us', k3', k4'⟩ := E1.ow j _ q2
          rw [e2] at e2'; cases e2'
          obtain ⟨yv, y1, y2⟩ := k4'.get n3
          refine ⟨l2, us', k, n, yv, rfl, rfl, k3', hk.1, hk.2, by rw [k4'.length]; exact n1, y1, ?_⟩
          obtain ⟨E2, S2⟩ := mut_ok false (z := .lst (es.eraseIdx n)) (o := .lst (us'.eraseIdx n)) E1 q2 e2 hF2' ⟨hF2', _, upd_same, k4'.erase n⟩
          have q4 : (env.set j (slOf false (.lst (es.eraseIdx n))))[i]? = some (.ow (.lst ds)) := by rw [get_set_ne hc.1]; exact q
          obtain ⟨l', e1', hF', vs', k5, k6⟩ := E2.ow i _ q4
          rw [e1] at e1'; cases e1'
          refine ⟨l, vs', yv, rfl, rfl, k5, by rw [k6.length]; exact hc.2, ?_⟩
          obtain ⟨E3, S3⟩ := mut_ok false (z := .lst (ds ++ [y])) (o := .lst (vs' ++ [yv])) E2 q4 e1 hF' ⟨hF', _, upd_same, k6.append (Reps.one y2)⟩
          exact h σ F1 _ (g1.sx.trans (S2.trans S3)) E3
        · cases q3
      · exact h.elim
  · exact h.elim
end
end Ps

namespace Ps
open PySem PySem.Spec PyProof.Rows L2

section
variable {K : PySem.W.Frag} {ct : Nat → Addr}
def orD (a b : Option D) : Option D := match a with
  | some z => some z
  | none => b
theorem Sp2.share {m1 m2 : Bool} {r : R2} {op : D → D → Option D} (h : Sp2 K ct m1 m2 (mN K ct) r op) : Sp2 K ct m1 m2 (mR K ct) r op := fun F H x y d e z Q ex hx hy hz hQ =>
  h F H x y d e z Q ex hx hy hz fun v F' H' g ⟨p, e1, e2, e3⟩ => by
    obtain ⟨o, ho⟩ := e3.there
    subst e1
    exact hQ _ _ H' (g.share ex e2 ho) (e3.freeze ho)
theorem Sp2.or {m1 m2 : Bool} {M : Md} {r r' : R2} {op op' : D → D → Option D} (h : Sp2 K ct m1 m2 M r op) (h' : Sp2 K ct m1 m2 M r' op') : Sp2 K ct m1 m2 M (fun x y H Q => r x y H Q ∨ r' x y H Q) (fun d e => orD (op d e) (op' d e)) := fun F H x y d e z Q ex hx hy hz hQ => by
  cases q : op d e with
  | some w =>
    have hz : orD (op d e) (op' d e) = some z := hz
    rw [q] at hz; cases hz
    exact .inl (h F H x y d e _ Q ex hx hy q hQ)
  | none =>
    have hz : orD (op d e) (op' d e) = some z := hz
    rw [q] at hz
    exact .inr (h' F H x y d e z Q ex hx hy hz hQ)
theorem SpS.share {r : V → Option Int → Option Int → Hp → VK → Prop} {op : D → Option Int → Option Int → Option D} (h : SpS K ct (mN K ct) r op) : SpS K ct (mR K ct) r op := fun F H x d lo hi z Q ex hx hz hQ =>
  h F H x d lo hi z Q ex hx hz fun v F' H' g ⟨p, e1, e2, e3⟩ => by
    obtain ⟨o, ho⟩ := e3.there
    subst e1
    exact hQ _ _ H' (g.share ex e2 ho) (e3.freeze ho)
theorem SpS.or {M : Md} {r r' : V → Option Int → Option Int → Hp → VK → Prop} {op op' : D → Option Int → Option Int → Option D} (h : SpS K ct M r op) (h' : SpS K ct M r' op') : SpS K ct M (fun x lo hi H Q => r x lo hi H Q ∨ r' x lo hi H Q) (fun d l u => orD (op d l u) (op' d l u)) := fun F H x d lo hi z Q ex hx hz hQ => by
  cases q : op d lo hi with
  | some w =>
    have hz : orD (op d lo hi) (op' d lo hi) = some z := hz
    rw [q] at hz; cases hz
    exact .inl (h F H x d lo hi _ Q ex hx q hQ)
  | none =>
    have hz : orD (op d lo hi) (op' d lo hi) = some z := hz
    rw [q] at hz
    exact .inr (h' F H x d lo hi z Q ex hx hz hQ)
end
def dAddU (d e : D) : Option D := orD (dAdd d e) (dCat d e)
def dMulU (d e : D) : Option D := orD (dMul d e) (dMulS d e)
def dSlU (d : D) (l u : Option Int) : Option D := orD (dSlN d l u) (dSlS d l u)
section
variable {X : Cx} {ct : Nat → Addr} {W : WX} {a b c e : Expr} {f g h : SE} {pos p p2 : Pos} {k : Nat}
theorem e_add (ha : PE X a (EB X.K ct W f)) (hb : PE X b (EB X.K ct W g)) : PE X (.BinOp a .Add b pos) (ER X.K ct W (s2 dAddU f g)) := e_op (op_add1.or op_cat) mR_ok (Sp2.or (m1 := true) (m2 := true) sp_add (Sp2.share sp_cat)) ha hb
theorem e_cat (ha : PE X a (EB X.K ct W f)) (hb : PE X b (EB X.K ct W g)) : PE X (.BinOp a .Add b pos) (EN X.K ct W (s2 dCat f g)) := e_op op_cat mN_ok (sp_cat (m1 := true) (m2 := true)) ha hb
theorem e_sub (ha : PE X a (ER X.K ct W f)) (hb : PE X b (ER X.K ct W g)) : PE X (.BinOp a .Sub b pos) (ER X.K ct W (s2 dSub f g)) := e_op op_sub mR_ok (sp_sub (m1 := false) (m2 := false)) ha hb
theorem e_mul (ha : PE X a (ER X.K ct W f)) (hb : PE X b (ER X.K ct W g)) : PE X (.BinOp a .Mult b pos) (ER X.K ct W (s2 dMulU f g)) := e_op (op_mul.or op_mulS) mR_ok (Sp2.or (m1 := false) (m2 := false) sp_mul sp_mulS) ha hb
theorem e_fdiv (ha : PE X a (ER X.K ct W f)) (hb : PE X b (ER X.K ct W g)) : PE X (.BinOp a .FloorDiv b pos) (ER X.K ct W (s2 dFdiv f g)) := e_op op_fdiv mR_ok (sp_fdiv (m1 := false) (m2 := false)) ha hb
theorem e_mod (ha : PE X a (ER X.K ct W f)) (hb : PE X b (ER X.K ct W g)) : PE X (.BinOp a .Mod b pos) (ER X.K ct W (s2 dMod f g)) := e_op op_mod mR_ok (sp_mod (m1 := false) (m2 := false)) ha hb
theorem e_pow (ha : PE X a (ER X.K ct W f)) (hb : PE X b (ER X.K ct W g)) : PE X (.BinOp a .Pow b pos) (ER X.K ct W (s2 dPow f g)) := e_op op_pow mR_ok (sp_pow (m1 := false) (m2 := false)) ha hb
theorem e_lt (ha : PE X a (ER X.K ct W f)) (hb : PE X b (ER X.K ct W g)) : PE X (.Compare a [.Lt] [b] pos) (ER X.K ct W (s2 dLt f g)) := e_cmp op_lt (sp_lt (m1 := false) (m2 := false)) ha hb
theorem t_lt (ha : PE X a (ER X.K ct W f)) (hb : PE X b (ER X.K ct W g)) : PT X (.Compare a [.Lt] [b] pos) (TT1 X.K ct W (s2 dLt f g)) := t_cmp op_lt (sp_lt (m1 := false) (m2 := false)) ha hb
theorem e_le (ha : PE X a (ER X.K ct W f)) (hb : PE X b (ER X.K ct W g)) : PE X (.Compare a [.LtE] [b] pos) (ER X.K ct W (s2 dLe f g)) := e_cmp op_le (sp_le (m1 := false) (m2 := false)) ha hb
theorem t_le (ha : PE X a (ER X.K ct W f)) (hb : PE X b (ER X.K ct W g)) : PT X (.Compare a [.LtE] [b] pos) (TT1 X.K ct W (s2 dLe f g)) := t_cmp op_le (sp_le (m1 := false) (m2 := false)) ha hb
theorem e_gt (ha : PE X a (ER X.K ct W f)) (hb : PE X b (ER X.K ct W g)) : PE X (.Compare a [.Gt] [b] pos) (ER X.K ct W (s2 dGt f g)) := e_cmp op_gt (sp_gt (m1 := false) (m2 := false)) ha hb
theorem t_gt (ha : PE X a (ER X.K ct W f)) (hb : PE X b (ER X.K ct W g)) : PT X (.Compare a [.Gt] [b] pos) (TT1 X.K ct W (s2 dGt f g)) := t_cmp op_gt (sp_gt (m1 := false) (m2 := false)) ha hb
theorem e_ge (ha : PE X a (ER X.K ct W f)) (hb : PE X b (ER X.K ct W g)) : PE X (.Compare a [.GtE] [b] pos) (ER X.K ct W (s2 dGe f g)) := e_cmp op_ge (sp_ge (m1 := false) (m2 := false)) ha hb
theorem t_ge (ha : PE X a (ER X.K ct W f)) (hb : PE X b (ER X.K ct W g)) : PT X (.Compare a [.GtE] [b] pos) (TT1 X.K ct W (s2 dGe f g)) := t_cmp op_ge (sp_ge (m1 := false) (m2 := false)) ha hb
theorem e_eq (hr : Room k X.A) (ha : PE X a (EB X.K ct W f)) (hb : PE X b (EB X.K ct W g)) (hm : behindInMarks .Eq b = false := by first | exact nomark _ | rfl) : PE X (.Compare a [.Eq] [b] pos) (ER X.K ct W (s2 dEq f g)) := e_cmp (op_eqD hr.units) (sp_eq (m1 := true) (m2 := true)) ha hb hm
theorem t_eq (hr : Room k X.A) (ha : PE X a (EB X.K ct W f)) (hb : PE X b (EB X.K ct W g)) (hm : behindInMarks .Eq b = false := by first | exact nomark _ | rfl) : PT X (.Compare a [.Eq] [b] pos) (TT1 X.K ct W (s2 dEq f g)) := t_cmp (op_eqD hr.units) (sp_eq (m1 := true) (m2 := true)) ha hb hm
theorem e_ne (hr : Room k X.A) (ha : PE X a (EB X.K ct W f)) (hb : PE X b (EB X.K ct W g)) (hm : behindInMarks .NotEq b = false := by first | exact nomark _ | rfl) : PE X (.Compare a [.NotEq] [b] pos) (ER X.K ct W (s2 dNe f g)) := e_cmp (op_neD hr.units) (sp_ne (m1 := true) (m2 := true)) ha hb hm
theorem t_ne (hr : Room k X.A) (ha : PE X a (EB X.K ct W f)) (hb : PE X b (EB X.K ct W g)) (hm : behindInMarks .NotEq b = false := by first | exact nomark _ | rfl) : PT X (.Compare a [.NotEq] [b] pos) (TT1 X.K ct W (s2 dNe f g)) := t_cmp (op_neD hr.units) (sp_ne (m1 := true) (m2 := true)) ha hb hm
theorem e_is (ha : PE X a (EB X.K ct W f)) (hb : PE X b (ER X.K ct W g)) (hm : behindInMarks .Is b = false := by first | exact nomark _ | rfl) : PE X (.Compare a [.Is] [b] pos) (ER X.K ct W (s2 dIs f g)) := e_cmp op_isN (sp_is (m1 := true) (m2 := false)) ha hb hm
theorem t_is (ha : PE X a (EB X.K ct W f)) (hb : PE X b (ER X.K ct W g)) (hm : behindInMarks .Is b = false := by first | exact nomark _ | rfl) : PT X (.Compare a [.Is] [b] pos) (TT1 X.K ct W (s2 dIs f g)) := t_cmp op_isN (sp_is (m1 := true) (m2 := false)) ha hb hm
theorem e_isNot (ha : PE X a (EB X.K ct W f)) (hb : PE X b (ER X.K ct W g)) (hm : behindInMarks .IsNot b = false := by first | exact nomark _ | rfl) : PE X (.Compare a [.IsNot] [b] pos) (ER X.K ct W (s2 dIsNot f g)) := e_cmp op_notN (sp_isNot (m1 := true) (m2 := false)) ha hb hm
theorem t_isNot (ha : PE X a (EB X.K ct W f)) (hb : PE X b (ER X.K ct W g)) (hm : behindInMarks .IsNot b = false := by first | exact nomark _ | rfl) : PT X (.Compare a [.IsNot] [b] pos) (TT1 X.K ct W (s2 dIsNot f g)) := t_cmp op_notN (sp_isNot (m1 := true) (m2 := false)) ha hb hm
theorem e_in (hr : Room k X.A) (ha : PE X a (ER X.K ct W f)) (hb : PE X b (EB X.K ct W g)) (hm : behindInMarks .In b = false := by first | exact nomark _ | rfl) : PE X (.Compare a [.In] [b] pos) (ER X.K ct W (s2 dIn f g)) := e_cmp (op_in1 (hu_of hr)) (sp_in (m1 := false) (m2 := true)) ha hb hm
theorem t_in (hr : Room k X.A) (ha : PE X a (ER X.K ct W f)) (hb : PE X b (EB X.K ct W g)) (hm : behindInMarks .In b = false := by first | exact nomark _ | rfl) : PT X (.Compare a [.In] [b] pos) (TT1 X.K ct W (s2 dIn f g)) := t_cmp (op_in1 (hu_of hr)) (sp_in (m1 := false) (m2 := true)) ha hb hm
theorem e_notIn (hr : Room k X.A) (ha : PE X a (ER X.K ct W f)) (hb : PE X b (EB X.K ct W g)) (hm : behindInMarks .NotIn b = false := by first | exact nomark _ | rfl) : PE X (.Compare a [.NotIn] [b] pos) (ER X.K ct W (s2 dNotIn f g)) := e_cmp (op_notIn1 (hu_of hr)) (sp_notIn (m1 := false) (m2 := true)) ha hb hm
theorem t_notIn (hr : Room k X.A) (ha : PE X a (ER X.K ct W f)) (hb : PE X b (EB X.K ct W g)) (hm : behindInMarks .NotIn b = false := by first | exact nomark _ | rfl) : PT X (.Compare a [.NotIn] [b] pos) (TT1 X.K ct W (s2 dNotIn f g)) := t_cmp (op_notIn1 (hu_of hr)) (sp_notIn (m1 := false) (m2 := true)) ha hb hm
def sNeg (f : SE) : SE := fun env => bnd (f env) fun d => match d with
  | .int i => .ok (.int (-i))
  | _ => .st
theorem e_neg (ha : PE X a (ER X.K ct W f)) : PE X (.UnaryOp .USub a pos) (ER X.K ct W (sNeg f)) := by
  refine (pe_un un_neg ha).imp fun σ H Q ⟨env, F, E, h⟩ => ?_
  refine fin_bind E h rfl fun d v F1 H1 e1 g1 r1 E1 h => ?_
  cases d <;> first | exact h.elim | skip
  rename_i i
  exact ⟨i, r1, h _ F1 H1 g1 rfl⟩
theorem e_ife (hc : PT X c (TT1 X.K ct W f)) (ha : PE X a (ER X.K ct W g)) (hb : PE X b (ER X.K ct W h)) : PE X (.IfExp c a b pos) (ER X.K ct W (sIf f g h)) := by
  refine (pe_ifExp hc ha hb).imp fun σ H Q ⟨env, F, E, hh⟩ => ?_
  unfold sIf at hh
  refine tt_bind (C := True) E (fun bb e F1 H1 g1 E1 => ?_) (fun c fs e => ?_) (fun n1 n2 => ?_)
  · rw [e] at hh
    cases bb with
    | true => exact ⟨env, F1, E1, fin_after g1 (fun _ _ _ _ m => m) hh⟩
    | false => exact ⟨env, F1, E1, fin_after g1 (fun _ _ _ _ m => m) hh⟩
  · rw [e] at hh; exact hh
  · cases e : f env with
    | ok d => rw [e] at hh; cases d <;> first | exact n1 _ e | exact hh.elim
    | er c fs => exact n2 _ _ e
    | st => rw [e] at hh; exact hh.elim
theorem e_slice {lo hi : Option Expr} {fl fh : SE} (he : PE X e (EB X.K ct W f)) (hl : PO X lo (tO X.K ct W fl)) (hh : PO X hi (tO X.K ct W fh)) : PE X (.Subscript e (.Slice lo hi none p2) pos) (ER X.K ct W (sSl dSlU f fl fh)) := e_sl (sl_list.or sl_str) mR_ok (SpS.or (SpS.share sps_n) sps_s) he hl hh
theorem e_sliceN {lo hi : Option Expr} {fl fh : SE} (he : PE X e (EB X.K ct W f)) (hl : PO X lo (tO X.K ct W fl)) (hh : PO X hi (tO X.K ct W fh)) : PE X (.Subscript e (.Slice lo hi none p2) pos) (EN X.K ct W (sSl dSlN f fl fh)) := e_sl sl_list mN_ok sps_n he hl hh
/-- addresses of classes by number -/
def ctL (l : List Addr) (n : Nat) : Addr := l.getD n 0
/-- what a law's head asks: the text's own answer -/
theorem law_sp {K : PySem.W.Frag} {ct : Nat → Addr} {m : List D → R} {H : Hp} {a : Addr} {ns : List Int} (hS : SqL K H a (ns.map V.int)) (hm : m [.scr ns] = .ok (.bl true)) : spP K ct [false] false m [.ref a] H (fun v _ => v = .bl true) fun _ _ _ => False := by
  refine ⟨H, [.scr ns], Ex.refl H, ⟨_, _, _, _, rfl, rfl, ⟨a, rfl, hS⟩, rfl, rfl⟩, ?_⟩
  rw [hm]
  exact fun v F' H' g r => r
theorem cx_false {P : Program} {w : World} {H : Hp} {s s' : Shared} {e : Value} (h : L2.CX P w [] H s (fun _ _ _ => False) e s') : False := by
  obtain ⟨_, _, _, _, _, _, _, _, _, _, _, _, z⟩ := h
  exact z.elim
end
end Ps

namespace Ps
open PySem PySem.Spec PyProof.Rows L2
section
variable {X : Cx} {ct : Nat → Addr} {W : WX} {a b c e o : Expr} {f g h : SE} {pos p apos : Pos}
theorem e_len (hm : X.mg "len" = none) (hg : Gl X "len") (ha : PE X a (EB X.K ct W f)) (na : starEach [a] X.env = (false, eval a X.env) :: starEach [] X.env := by rfl) : PE X (.Call (.Name "len" p) [a] [] pos) (ER X.K ct W (sCall cLen (aCons f aNil))) := e_callB call_len1 mR_ok spc_len hg hm (by decide +kernel) (a_cons (m := true) ha a_nil na) (he := na) (hpl := rfl)
theorem e_abs (hm : X.mg "abs" = none) (hg : Gl X "abs") (ha : PE X a (ER X.K ct W f)) (na : starEach [a] X.env = (false, eval a X.env) :: starEach [] X.env := by rfl) : PE X (.Call (.Name "abs" p) [a] [] pos) (ER X.K ct W (sCall cAbs (aCons f aNil))) := e_callB call_abs mR_ok spc_abs hg hm (by decide +kernel) (a_cons (m := false) ha a_nil na) (he := na) (hpl := rfl)
theorem e_int1 (hm : X.mg "int" = none) (hg : Gl X "int") (ha : PE X a (ER X.K ct W f)) (na : starEach [a] X.env = (false, eval a X.env) :: starEach [] X.env := by rfl) : PE X (.Call (.Name "int" p) [a] [] pos) (ER X.K ct W (sCall cInt (aCons f aNil))) := e_callTy call_int1 mR_ok spc_int hg hm (by decide +kernel) (a_cons (m := false) ha a_nil na) (he := na) (hpl := rfl)
theorem e_sum (hm : X.mg "sum" = none) (hg : Gl X "sum") (hcalm : X.calm = true) (ha : PE X a (EB X.K ct W f)) (na : starEach [a] X.env = (false, eval a X.env) :: starEach [] X.env := by rfl) : PE X (.Call (.Name "sum" p) [a] [] pos) (ER X.K ct W (sCall cSum (aCons f aNil))) := e_callB (cr_sum hcalm) mR_ok spc_sum hg hm (by decide +kernel) (a_cons (m := true) ha a_nil na) (he := na) (hpl := rfl)
theorem e_any (hm : X.mg "any" = none) (hg : Gl X "any") (hcalm : X.calm = true) (ha : PE X a (EB X.K ct W f)) (na : starEach [a] X.env = (false, eval a X.env) :: starEach [] X.env := by rfl) : PE X (.Call (.Name "any" p) [a] [] pos) (ER X.K ct W (sCall cAny (aCons f aNil))) := e_callB (cr_any hcalm) mR_ok spc_any hg hm (by decide +kernel) (a_cons (m := true) ha a_nil na) (he := na) (hpl := rfl)
theorem e_all (hm : X.mg "all" = none) (hg : Gl X "all") (hcalm : X.calm = true) (ha : PE X a (EB X.K ct W f)) (na : starEach [a] X.env = (false, eval a X.env) :: starEach [] X.env := by rfl) : PE X (.Call (.Name "all" p) [a] [] pos) (ER X.K ct W (sCall cAll (aCons f aNil))) := e_callB (cr_all hcalm) mR_ok spc_all hg hm (by decide +kernel) (a_cons (m := true) ha a_nil na) (he := na) (hpl := rfl)
theorem e_list (hm : X.mg "list" = none) (hg : Gl X "list") (ha : PE X a (EB X.K ct W f)) (na : starEach [a] X.env = (false, eval a X.env) :: starEach [] X.env := by rfl) : PE X (.Call (.Name "list" p) [a] [] pos) (EN X.K ct W (sCall cList (aCons f aNil))) := e_callTy call_list_of mN_ok spc_list hg hm (by decide +kernel) (a_cons (m := true) ha a_nil na) (he := na) (hpl := rfl)
theorem e_sorted (hm : X.mg "sorted" = none) (hg : Gl X "sorted") (hcalm : X.calm = true) (ha : PE X a (EB X.K ct W f)) (na : starEach [a] X.env = (false, eval a X.env) :: starEach [] X.env := by rfl) : PE X (.Call (.Name "sorted" p) [a] [] pos) (EN X.K ct W (sCall cSorted (aCons f aNil))) := e_callB (call_sorted1 hcalm) mN_ok spc_sorted hg hm (by decide +kernel) (a_cons (m := true) ha a_nil na) (he := na) (hpl := rfl)
theorem e_max2 (hm : X.mg "max" = none) (hg : Gl X "max") (hcalm : X.calm = true) (ha : PE X a (ER X.K ct W f)) (hb : PE X b (ER X.K ct W g)) (na : starEach [a, b] X.env = (false, eval a X.env) :: starEach [b] X.env := by rfl) (nb : starEach [b] X.env = (false, eval b X.env) :: starEach [] X.env := by rfl) (hpl : (backTo pos (starEach [b] X.env)).any (·.1) = false := by rfl) : PE X (.Call (.Name "max" p) [a, b] [] pos) (ER X.K ct W (sCall cMax2 (aCons f (aCons g aNil)))) := e_callB (call_max2 hcalm) mR_ok (spc_max2 (m1 := false) (m2 := false)) hg hm (by decide +kernel) (a_cons (m := false) ha (a_cons (m := false) hb a_nil nb) na) (he := na) (hpl := hpl)
theorem e_min2 (hm : X.mg "min" = none) (hg : Gl X "min") (hcalm : X.calm = true) (ha : PE X a (ER X.K ct W f)) (hb : PE X b (ER X.K ct W g)) (na : starEach [a, b] X.env = (false, eval a X.env) :: starEach [b] X.env := by rfl) (nb : starEach [b] X.env = (false, eval b X.env) :: starEach [] X.env := by rfl) (hpl : (backTo pos (starEach [b] X.env)).any (·.1) = false := by rfl) : PE X (.Call (.Name "min" p) [a, b] [] pos) (ER X.K ct W (sCall cMin2 (aCons f (aCons g aNil)))) := e_callB (call_min2 hcalm) mR_ok (spc_min2 (m1 := false) (m2 := false)) hg hm (by decide +kernel) (a_cons (m := false) ha (a_cons (m := false) hb a_nil nb) na) (he := na) (hpl := hpl)
theorem e_join (ho : PE X o (EB X.K ct W f)) (he : PE X e (EB X.K ct W g)) (h1 : starEach [e] X.env = [(false, eval e X.env)] := by rfl) (hbase : attributeBase o "join" X.env (eval o X.env) = eval o X.env := by rfl) (hline : (apos.endLine == pos.line) = true := by rfl) : PE X (.Call (.Attribute o "join" apos) [e] [] pos) (ER X.K ct W (sM1 mJoin f g)) := e_m1 PySem.F.slot_str_join PySem.F.type_str_join mt_join spm_join ho he h1 hbase hline
theorem e_count (ho : PE X o (EB X.K ct W f)) (he : PE X e (EB X.K ct W g)) (h1 : starEach [e] X.env = [(false, eval e X.env)] := by rfl) (hbase : attributeBase o "count" X.env (eval o X.env) = eval o X.env := by rfl) (hline : (apos.endLine == pos.line) = true := by rfl) : PE X (.Call (.Attribute o "count" apos) [e] [] pos) (ER X.K ct W (sM1 mCount f g)) := e_m1 PySem.F.slot_str_count PySem.F.type_str_count mt_count spm_count ho he h1 hbase hline
theorem e_startswith (ho : PE X o (EB X.K ct W f)) (he : PE X e (EB X.K ct W g)) (h1 : starEach [e] X.env = [(false, eval e X.env)] := by rfl) (hbase : attributeBase o "startswith" X.env (eval o X.env) = eval o X.env := by rfl) (hline : (apos.endLine == pos.line) = true := by rfl) : PE X (.Call (.Attribute o "startswith" apos) [e] [] pos) (ER X.K ct W (sM1 mStartswith f g)) := e_m1 PySem.F.slot_str_startswith PySem.F.type_str_startswith mt_startswith spm_startswith ho he h1 hbase hline
theorem e_endswith (ho : PE X o (EB X.K ct W f)) (he : PE X e (EB X.K ct W g)) (h1 : starEach [e] X.env = [(false, eval e X.env)] := by rfl) (hbase : attributeBase o "endswith" X.env (eval o X.env) = eval o X.env := by rfl) (hline : (apos.endLine == pos.line) = true := by rfl) : PE X (.Call (.Attribute o "endswith" apos) [e] [] pos) (ER X.K ct W (sM1 mEndswith f g)) := e_m1 PySem.F.slot_str_endswith PySem.F.type_str_endswith mt_endswith spm_endswith ho he h1 hbase hline
theorem e_find (ho : PE X o (EB X.K ct W f)) (he : PE X e (EB X.K ct W g)) (h1 : starEach [e] X.env = [(false, eval e X.env)] := by rfl) (hbase : attributeBase o "find" X.env (eval o X.env) = eval o X.env := by rfl) (hline : (apos.endLine == pos.line) = true := by rfl) : PE X (.Call (.Attribute o "find" apos) [e] [] pos) (ER X.K ct W (sM1 mFind f g)) := e_m1 PySem.F.slot_str_find PySem.F.type_str_find mt_find spm_find ho he h1 hbase hline
end
section
variable {X : Cx} {ct : Nat → Addr} {W : WX} {elt tg iter : Expr} {ifs : List Expr} {scope : Scope} {pos : Pos} {g : TG} {T : Tgt} {fi ft fe : SE}
theorem e_comp (own : List (Str × Nat)) {js : List Nat} (hj : own.map (·.2) = js) (hc : X.calm = true) (hN : X.N.Nodup) (hi : PI X tg iter (tI X.K ct W O0 fi)) (ok : BlkOk X.N X.env.scope scope own)
    (hg : ∀ (s : Shared) (H : Hp) (C : Addr) (cl : List (Str × Addr)) (fp : List Addr), PG (X.blk s H scope (compEnvC scope cl C X.env) fp) tg g) (hT : TgOk X.K ct g T) (hsub : ∀ i ∈ slotsT T, i ∈ js)
    (ht : ∀ (s : Shared) (H : Hp) (C : Addr) (cl : List (Str × Addr)) (fp : List Addr), PTs (X.blk s H scope (compEnvC scope cl C X.env) fp) ifs (TT1 X.K ct W0 ft))
    (he : ∀ (s : Shared) (H : Hp) (C : Addr) (cl : List (Str × Addr)) (fp : List Addr), PE (X.blk s H scope (compEnvC scope cl C X.env) fp) elt (ER X.K ct W0 fe)) (hs : ∀ x, foldedSetIterable iter X.env x = pure x := by intro _; rfl) :
    PE X (.ListComp elt [⟨tg, iter, ifs, 0⟩] scope pos) (EN X.K ct W (sComp T js fi ft fe)) := by
  subst hj
  exact e_lc hc hN hi ok hg hT hsub ht he hs
theorem p_comp {i : Nat} {y : Str} {py spos : Pos} (own : List (Str × Nat)) {js : List Nat} (hj : own.map (·.2) = js) (hc : X.calm = true) (hN : X.N.Nodup) (hy : X.N[i]? = some y) (hyl : X.env.scope.names.lookup y = some .local)
    (hsw : swapsWith (.ListComp elt [⟨tg, iter, ifs, 0⟩] scope pos) (some (.Name y py)) spos.line X.env = pure true) (hi : PI X tg iter (tI X.K ct W O0 fi)) (ok : BlkOk X.N X.env.scope scope own)
    (hg : ∀ (s : Shared) (H : Hp) (C : Addr) (cl : List (Str × Addr)) (fp : List Addr), PG (X.blk s H scope (compEnvC scope cl C X.env) fp) tg g) (hT : TgOk X.K ct g T) (hsub : ∀ i ∈ slotsT T, i ∈ js)
    (ht : ∀ (s : Shared) (H : Hp) (C : Addr) (cl : List (Str × Addr)) (fp : List Addr), PTs (X.blk s H scope (compEnvC scope cl C X.env) fp) ifs (TT1 X.K ct W0 ft))
    (he : ∀ (s : Shared) (H : Hp) (C : Addr) (cl : List (Str × Addr)) (fp : List Addr), PE (X.blk s H scope (compEnvC scope cl C X.env) fp) elt (ER X.K ct W0 fe)) (hs : ∀ x, foldedSetIterable iter X.env x = pure x := by intro _; rfl) :
    PS X (.Assign [.Name y py] (.ListComp elt [⟨tg, iter, ifs, 0⟩] scope pos) spos) (sOf X.K ct W (ssOwn i (sComp T js fi ft fe))) := by
  subst hj
  exact p_setLc hc hN hy hyl hsw hi ok hg hT hsub ht he hs
end
end Ps

namespace Ps
open PySem (Str)
open PySem (sizeLine sizeLine_eq)
/-! ### reckoning by simp: each combinator on its operands' values -/
def seqO (o : O) (g : SS) : O := match o with
  | .nx e => g e
  | o => o
@[simp] theorem ssSeq_eq {f g : SS} {env : En} : ssSeq f g env = seqO (f env) g := rfl
@[simp] theorem seqO_nx {g : SS} {e : En} : seqO (.nx e) g = g e := rfl
@[simp] theorem seqO_rt {g : SS} {d : D} : seqO (.rt d) g = .rt d := rfl
@[simp] theorem seqO_er {g : SS} {c : Nat} {fs : List (Str × D)} {e : En} : seqO (.er c fs e) g = .er c fs e := rfl
@[simp] theorem seqO_bk {g : SS} {e : En} : seqO (.bk e) g = .bk e := rfl
@[simp] theorem seqO_ct {g : SS} {e : En} : seqO (.ct e) g = .ct e := rfl
@[simp] theorem ssNext_eq {env : En} : ssNext env = .nx env := rfl
@[simp] theorem ssBrk_eq {env : En} : ssBrk env = .bk env := rfl
@[simp] theorem ssCont_eq {env : En} : ssCont env = .ct env := rfl
@[simp] theorem ssRaise_eq {env : En} {c : Nat} : ssRaise c env = .er c [] env := rfl
@[simp] theorem stepL_nx {e : En} {k : En → O} : stepL (.nx e) k = k e := rfl
@[simp] theorem stepL_ct {e : En} {k : En → O} : stepL (.ct e) k = k e := rfl
@[simp] theorem stepL_bk {e : En} {k : En → O} : stepL (.bk e) k = .nx e := rfl
@[simp] theorem stepL_rt {d : D} {k : En → O} : stepL (.rt d) k = .rt d := rfl
@[simp] theorem stepL_er {c : Nat} {fs : List (Str × D)} {e : En} {k : En → O} : stepL (.er c fs e) k = .er c fs e := rfl
def asgO (T : Tgt) (r : R) (env : En) : O := bndS r env fun d => match bindT T d env with
  | some e => .nx e
  | none => .st
@[simp] theorem ssAsg_eq {T : Tgt} {f : SE} {env : En} : ssAsg T f env = asgO T (f env) env := rfl
def nxO : Option En → O
  | some e => .nx e
  | none => .st
@[simp] theorem nxO_some {e : En} : nxO (some e) = .nx e := rfl
theorem nx_match {o : Option En} : (match o with | some e => O.nx e | none => .st) = nxO o := by cases o <;> rfl
@[simp] theorem asgO_ok {T : Tgt} {d : D} {env : En} : asgO T (.ok d) env = nxO (bindT T d env) := by unfold asgO; exact nx_match
@[simp] theorem asgO_er {T : Tgt} {c : Nat} {fs : List (Str × D)} {env : En} : asgO T (.er c fs) env = .er c fs env := rfl
@[simp] theorem bindT_nm {i : Nat} {d : D} {env : En} : bindT (.nm i) d env = setSl env i (.sh d) := rfl
@[simp] theorem bindT_tp {is : List Nat} {ds : List D} {env : En} : bindT (.tp is) (.tup ds) env = bindL is ds env := rfl
@[simp] theorem bindL_nil {env : En} : bindL [] [] env = some env := rfl
@[simp] theorem bindL_cons {i : Nat} {is : List Nat} {d : D} {ds : List D} {env : En} : bindL (i :: is) (d :: ds) env = (setSl env i (.sh d)).bind fun e => bindL is ds e := rfl
def setS (t : Option Sl) (env : En) (i : Nat) (s : Sl) : Option En := match t with
  | some t => if canSet t then some (env.set i s) else none
  | none => none
@[simp] theorem setSl_eq {env : En} {i : Nat} {s : Sl} : setSl env i s = setS env[i]? env i s := rfl
@[simp] theorem setS_sh {env : En} {i : Nat} {s : Sl} {d : D} : setS (some (.sh d)) env i s = some (env.set i s) := rfl
@[simp] theorem setS_ow {env : En} {i : Nat} {s : Sl} {d : D} : setS (some (.ow d)) env i s = some (env.set i s) := rfl
@[simp] theorem setS_no {env : En} {i : Nat} {s : Sl} : setS (some .no) env i s = some (env.set i s) := rfl
def ownO (i : Nat) (r : R) (env : En) : O := bndS r env fun d => match setSl env i (.ow d) with
  | some e => .nx e
  | none => .st
@[simp] theorem ssOwn_eq {i : Nat} {f : SE} {env : En} : ssOwn i f env = ownO i (f env) env := rfl
@[simp] theorem ownO_ok {i : Nat} {d : D} {env : En} : ownO i (.ok d) env = nxO (setSl env i (.ow d)) := by unfold ownO; exact nx_match
def ifO (r : R) (f g : SS) (env : En) : O := bndS r env fun d => match d with
  | .bl true => f env
  | .bl false => g env
  | _ => .st
@[simp] theorem ssIf_eq {c : SE} {f g : SS} {env : En} : ssIf c f g env = ifO (c env) f g env := rfl
@[simp] theorem ifO_t {f g : SS} {env : En} : ifO (.ok (.bl true)) f g env = f env := rfl
@[simp] theorem ifO_f {f g : SS} {env : En} : ifO (.ok (.bl false)) f g env = g env := rfl
@[simp] theorem ifO_er {f g : SS} {env : En} {c : Nat} {fs : List (Str × D)} : ifO (.er c fs) f g env = .er c fs env := rfl
def retO (r : R) (env : En) : O := bndS r env fun d => .rt d
@[simp] theorem ssRet_eq {f : SE} {env : En} : ssRet f env = retO (f env) env := rfl
@[simp] theorem retO_ok {d : D} {env : En} : retO (.ok d) env = .rt d := rfl
@[simp] theorem retO_er {c : Nat} {fs : List (Str × D)} {env : En} : retO (.er c fs) env = .er c fs env := rfl
def exprO (r : R) (env : En) : O := bndS r env fun _ => .nx env
@[simp] theorem ssExpr_eq {f : SE} {env : En} : ssExpr f env = exprO (f env) env := rfl
@[simp] theorem exprO_ok {d : D} {env : En} : exprO (.ok d) env = .nx env := rfl
@[simp] theorem exprO_er {c : Nat} {fs : List (Str × D)} {env : En} : exprO (.er c fs) env = .er c fs env := rfl
def frzO (t : Option Sl) (i : Nat) (env : En) : O := match t with
  | some (.ow d) => .nx (env.set i (.sh d))
  | _ => .st
@[simp] theorem ssFrz_eq {i : Nat} {env : En} : ssFrz i env = frzO env[i]? i env := rfl
@[simp] theorem frzO_ow {i : Nat} {env : En} {d : D} : frzO (some (.ow d)) i env = .nx (env.set i (.sh d)) := rfl
def appO (t : Option Sl) (r : R) (i : Nat) (env : En) : O := match t with
  | some (.ow (.lst ds)) => bndS r env fun d => if ds.length < sizeLine then .nx (env.set i (.ow (.lst (ds ++ [d])))) else .st
  | _ => .st
@[simp] theorem ssApp_eq {i : Nat} {f : SE} {env : En} : ssApp i f env = appO env[i]? (f env) i env := rfl
@[simp] theorem appO_ok {i : Nat} {env : En} {ds : List D} {d : D} : appO (some (.ow (.lst ds))) (.ok d) i env = if ds.length < sizeLine then .nx (env.set i (.ow (.lst (ds ++ [d])))) else .st := rfl
def putO (t : Option Sl) (v k : R) (i : Nat) (env : En) : O := bndS v env fun v => match t with
  | some (.ow x) => bndS k env fun k => (match dPut x k v with
    | some z => .nx (env.set i (.ow z))
    | none => .st)
  | _ => .st
@[simp] theorem ssPut_eq {i : Nat} {fk fv : SE} {env : En} : ssPut i fk fv env = putO env[i]? (fv env) (fk env) i env := rfl
@[simp] theorem putO_ok {i : Nat} {env : En} {x k v : D} : putO (some (.ow x)) (.ok v) (.ok k) i env = (match dPut x k v with | some z => .nx (env.set i (.ow z)) | none => .st) := rfl
def forO (T : Tgt) (r : R) (body : SS) (env : En) : O := bndS r env fun d => match d with
  | .lst ds => loopF T body ds env
  | _ => .st
@[simp] theorem ssFor_eq {T : Tgt} {it : SE} {body : SS} {env : En} : ssFor T it body env = forO T (it env) body env := by
  unfold ssFor forO; cases it env <;> rfl
@[simp] theorem forO_ok {T : Tgt} {body : SS} {env : En} {ds : List D} : forO T (.ok (.lst ds)) body env = loopF T body ds env := rfl
@[simp] theorem loopF_nil {T : Tgt} {body : SS} {env : En} : loopF T body [] env = .nx env := rfl
/-! expressions -/
def locR (s : Option Sl) : R := match s with
  | some (.sh d) => .ok d
  | _ => .st
@[simp] theorem sLoc_eq {i : Nat} {env : En} : sLoc i env = locR env[i]? := rfl
@[simp] theorem locR_sh {d : D} : locR (some (.sh d)) = .ok d := rfl
def locBR (s : Option Sl) : R := match s with
  | some (.sh d) => .ok d
  | some (.ow d) => .ok d
  | some (.bo d) => .ok d
  | some (.oo c fs _) => .ok (.obj c fs)
  | _ => .st
@[simp] theorem sLocB_eq {i : Nat} {env : En} : sLocB i env = locBR env[i]? := rfl
@[simp] theorem locBR_sh {d : D} : locBR (some (.sh d)) = .ok d := rfl
@[simp] theorem locBR_ow {d : D} : locBR (some (.ow d)) = .ok d := rfl
@[simp] theorem locBR_bo {d : D} : locBR (some (.bo d)) = .ok d := rfl
@[simp] theorem sC_eq {d : D} {env : En} : sC d env = .ok d := rfl
@[simp] theorem ofO_some {d : D} : ofO (some d) = .ok d := rfl
def s2R (op : D → D → Option D) (a b : R) : R := bnd a fun d => bnd b fun e => ofO (op d e)
@[simp] theorem s2_eq {op : D → D → Option D} {f g : SE} {env : En} : s2 op f g env = s2R op (f env) (g env) := rfl
@[simp] theorem s2R_ok {op : D → D → Option D} {d e : D} : s2R op (.ok d) (.ok e) = ofO (op d e) := rfl
def notR (r : R) : R := bnd r fun d => match d with
  | .bl b => .ok (.bl (!b))
  | _ => .st
@[simp] theorem sNot_eq {f : SE} {env : En} : sNot f env = notR (f env) := rfl
@[simp] theorem notR_ok {b : Bool} : notR (.ok (.bl b)) = .ok (.bl (!b)) := rfl
@[simp] theorem notR_er {c : Nat} {fs : List (Str × D)} : notR (.er c fs) = .er c fs := rfl
def andR (r : R) (g : SE) (env : En) : R := bnd r fun d => match d with
  | .bl true => g env
  | .bl false => .ok (.bl false)
  | _ => .st
@[simp] theorem sAnd_eq {f g : SE} {env : En} : sAnd f g env = andR (f env) g env := rfl
@[simp] theorem andR_t {g : SE} {env : En} : andR (.ok (.bl true)) g env = g env := rfl
@[simp] theorem andR_f {g : SE} {env : En} : andR (.ok (.bl false)) g env = .ok (.bl false) := rfl
def orR (r : R) (g : SE) (env : En) : R := bnd r fun d => match d with
  | .bl true => .ok (.bl true)
  | .bl false => g env
  | _ => .st
@[simp] theorem sOr_eq {f g : SE} {env : En} : sOr f g env = orR (f env) g env := rfl
@[simp] theorem orR_t {g : SE} {env : En} : orR (.ok (.bl true)) g env = .ok (.bl true) := rfl
@[simp] theorem orR_f {g : SE} {env : En} : orR (.ok (.bl false)) g env = g env := rfl
def ifR (r : R) (f g : SE) (env : En) : R := bnd r fun d => match d with
  | .bl true => f env
  | .bl false => g env
  | _ => .st
@[simp] theorem sIf_eq {c f g : SE} {env : En} : sIf c f g env = ifR (c env) f g env := rfl
@[simp] theorem ifR_t {f g : SE} {env : En} : ifR (.ok (.bl true)) f g env = f env := rfl
@[simp] theorem ifR_f {f g : SE} {env : En} : ifR (.ok (.bl false)) f g env = g env := rfl
def negR (r : R) : R := bnd r fun d => match d with
  | .int i => .ok (.int (-i))
  | _ => .st
@[simp] theorem sNeg_eq {f : SE} {env : En} : sNeg f env = negR (f env) := rfl
@[simp] theorem negR_ok {i : Int} : negR (.ok (.int i)) = .ok (.int (-i)) := rfl
@[simp] theorem aNil_eq {env : En} : aNil env = .ok [] := rfl
def consA (r : R) (a : RA) : RA := match r with
  | .ok d => (match a with
    | .ok ds => .ok (d :: ds)
    | .er c fs => .er c fs
    | .st => .st)
  | .er c fs => .er c fs
  | .st => .st
@[simp] theorem aCons_eq {f : SE} {g : SA} {env : En} : aCons f g env = consA (f env) (g env) := by
  unfold aCons consA; cases f env <;> rfl
@[simp] theorem consA_ok {d : D} {ds : List D} : consA (.ok d) (.ok ds) = .ok (d :: ds) := rfl
@[simp] theorem consA_er {c : Nat} {fs : List (Str × D)} {a : RA} : consA (.er c fs) a = .er c fs := rfl
def callR (op : List D → Option D) (a : RA) : R := bndA a fun ds => ofO (op ds)
@[simp] theorem sCall_eq {op : List D → Option D} {fs : SA} {env : En} : sCall op fs env = callR op (fs env) := rfl
@[simp] theorem callR_ok {op : List D → Option D} {ds : List D} : callR op (.ok ds) = ofO (op ds) := rfl
def fnR (m : List D → R) (a : RA) : R := bndA a m
@[simp] theorem sFn_eq {m : List D → R} {fs : SA} {env : En} : sFn m fs env = fnR m (fs env) := rfl
@[simp] theorem fnR_ok {m : List D → R} {ds : List D} : fnR m (.ok ds) = m ds := rfl
def mkR (c : Nat) (m : List D → RI) (a : RA) : R := bndA a fun ds => if ds.all noScr then (match m ds with | .ok gs => .ok (.obj c gs) | .er _ _ => .st | .st => .st) else .st
@[simp] theorem sMk_eq {c : Nat} {m : List D → RI} {fs : SA} {env : En} : sMk c m fs env = mkR c m (fs env) := rfl
@[simp] theorem mkR_ok {c : Nat} {m : List D → RI} {ds : List D} : mkR c m (.ok ds) = if ds.all noScr then (match m ds with | .ok gs => .ok (.obj c gs) | .er _ _ => .st | .st => .st) else .st := rfl
def tupR (a : RA) : R := bndA a fun ds => if ds.length ≤ sizeLine then .ok (.tup ds) else .st
@[simp] theorem sTup_eq {fs : SA} {env : En} : sTup fs env = tupR (fs env) := rfl
theorem small_le {n : Nat} (h : n ≤ 16777216) : n ≤ sizeLine := by rw [sizeLine_eq]; exact h
theorem tupR_ok {ds : List D} (h : ds.length ≤ 16777216) : tupR (.ok ds) = .ok (.tup ds) := by
  show (if ds.length ≤ sizeLine then R.ok (.tup ds) else .st) = _
  rw [if_pos (small_le h)]
def lstR (a : RA) : R := bndA a fun ds => if ds.length ≤ sizeLine then .ok (.lst ds) else .st
@[simp] theorem sLst_eq {fs : SA} {env : En} : sLst fs env = lstR (fs env) := rfl
theorem lstR_ok {ds : List D} (h : ds.length ≤ 16777216) : lstR (.ok ds) = .ok (.lst ds) := by
  show (if ds.length ≤ sizeLine then R.ok (.lst ds) else .st) = _
  rw [if_pos (small_le h)]
@[simp] theorem tupR_1 {a : D} : tupR (.ok [a]) = .ok (.tup [a]) := tupR_ok (by simp)
@[simp] theorem tupR_2 {a b : D} : tupR (.ok [a, b]) = .ok (.tup [a, b]) := tupR_ok (by simp)
@[simp] theorem tupR_3 {a b c : D} : tupR (.ok [a, b, c]) = .ok (.tup [a, b, c]) := tupR_ok (by simp)
@[simp] theorem tupR_4 {a b c d : D} : tupR (.ok [a, b, c, d]) = .ok (.tup [a, b, c, d]) := tupR_ok (by simp)
@[simp] theorem lstR_0 : lstR (.ok []) = .ok (.lst []) := lstR_ok (by simp)
@[simp] theorem lstR_1 {a : D} : lstR (.ok [a]) = .ok (.lst [a]) := lstR_ok (by simp)
@[simp] theorem lstR_2 {a b : D} : lstR (.ok [a, b]) = .ok (.lst [a, b]) := lstR_ok (by simp)
@[simp] theorem lstR_3 {a b c : D} : lstR (.ok [a, b, c]) = .ok (.lst [a, b, c]) := lstR_ok (by simp)
def fldR (c : Nat) (n : Str) (r : R) : R := bnd r fun d => match d with
  | .obj c' fs => if c' = c then ofO (fs.lookup n) else .st
  | _ => .st
@[simp] theorem sFld_eq {c : Nat} {n : Str} {f : SE} {env : En} : sFld c n f env = fldR c n (f env) := rfl
@[simp] theorem fldR_ok {c : Nat} {n : Str} {fs : List (Str × D)} : fldR c n (.ok (.obj c fs)) = ofO (fs.lookup n) := if_pos rfl
def isiR (tb : Kd → Option Bool) (r : R) : R := bnd r fun d => match tb (kd d) with
  | some b => .ok (.bl b)
  | none => .st
@[simp] theorem sIsi_eq {tb : Kd → Option Bool} {f : SE} {env : En} : sIsi tb f env = isiR tb (f env) := rfl
theorem isiR_ok {tb : Kd → Option Bool} {d : D} {b : Bool} (h : tb (kd d) = some b) : isiR tb (.ok d) = .ok (.bl b) := by
  show (match tb (kd d) with | some b => R.ok (.bl b) | none => .st) = _
  rw [h]
def partR (r : R) : R := bnd r fun d => match d with
  | .int i => .ok (.int i)
  | _ => .st
@[simp] theorem sPart_eq {f : SE} {env : En} : sPart f env = partR (f env) := rfl
@[simp] theorem partR_ok {i : Int} : partR (.ok (.int i)) = .ok (.int i) := rfl
def slR (op : D → Option Int → Option Int → Option D) (a b c : R) : R := bnd a fun d => bnd b fun l => match oI l with
  | some l => bnd c fun u => (match oI u with
    | some u => ofO (op d l u)
    | none => .st)
  | none => .st
@[simp] theorem sSl_eq {op : D → Option Int → Option Int → Option D} {f lo hi : SE} {env : En} : sSl op f lo hi env = slR op (f env) (lo env) (hi env) := rfl
@[simp] theorem slR_ii {op : D → Option Int → Option Int → Option D} {d : D} {i j : Int} : slR op (.ok d) (.ok (.int i)) (.ok (.int j)) = ofO (op d (some i) (some j)) := rfl
@[simp] theorem slR_in {op : D → Option Int → Option Int → Option D} {d : D} {i : Int} : slR op (.ok d) (.ok (.int i)) (.ok .non) = ofO (op d (some i) none) := rfl
@[simp] theorem slR_ni {op : D → Option Int → Option Int → Option D} {d : D} {j : Int} : slR op (.ok d) (.ok .non) (.ok (.int j)) = ofO (op d none (some j)) := rfl
def itemsR (r : R) : R := bnd r fun d => match itemsD d with
  | some xs => .ok (.lst xs)
  | none => .st
@[simp] theorem sItems_eq {f : SE} {env : En} : sItems f env = itemsR (f env) := rfl
@[simp] theorem itemsR_lst {ds : List D} : itemsR (.ok (.lst ds)) = .ok (.lst ds) := rfl
@[simp] theorem itemsR_tup {ds : List D} : itemsR (.ok (.tup ds)) = .ok (.lst ds) := rfl
def rngR (r : List D → Option (List D)) (a : RA) : R := bndA a fun ds => match r ds with
  | some xs => .ok (.lst xs)
  | none => .st
@[simp] theorem sRng_eq {r : List D → Option (List D)} {fs : SA} {env : En} : sRng r fs env = rngR r (fs env) := rfl
theorem rngR_1 {n : Int} (h0 : 0 ≤ n) (h1 : n ≤ 1000000) : rngR rng1 (.ok [.int n]) = .ok (.lst ((List.range n.toNat).map fun i => .int (i : Nat))) := by
  have h : inR n = true := by unfold inR; simp; omega
  show (match (rng1 [.int n]) with | some xs => R.ok (.lst xs) | none => .st) = _
  simp [rng1, h]
def compR (T : Tgt) (vs : List Nat) (r : R) (ft fe : SE) (env : En) : R := bnd r fun d => match d with
  | .lst ds => if ds.length < sizeLine ∧ wipeOk env vs = true then (match compL T (wipeE env vs) ft fe ds with
    | some r => .ok (.lst r)
    | none => .st) else .st
  | _ => .st
@[simp] theorem sComp_eq {T : Tgt} {vs : List Nat} {fi ft fe : SE} {env : En} : sComp T vs fi ft fe env = compR T vs (fi env) ft fe env := rfl
theorem compR_ok {T : Tgt} {vs : List Nat} {ds rs : List D} {ft fe : SE} {env : En} (h1 : ds.length ≤ 1000000) (h2 : wipeOk env vs = true) (h3 : compL T (wipeE env vs) ft fe ds = some rs) : compR T vs (.ok (.lst ds)) ft fe env = .ok (.lst rs) := by
  show (if ds.length < sizeLine ∧ wipeOk env vs = true then (match compL T (wipeE env vs) ft fe ds with | some r => R.ok (.lst r) | none => .st) else .st) = _
  rw [if_pos ⟨by rw [sizeLine_eq]; omega, h2⟩, h3]
def m1R (op : D → D → Option D) (a b : R) : R := bnd a fun d => if isStrD d then bnd b fun e => ofO (op d e) else .st
@[simp] theorem sM1_eq {op : D → D → Option D} {f g : SE} {env : En} : sM1 op f g env = m1R op (f env) (g env) := rfl
@[simp] theorem m1R_ok {op : D → D → Option D} {x : Str} {e : D} : m1R op (.ok (.str x)) (.ok e) = ofO (op (.str x) e) := rfl
@[simp] theorem runR_rt {d : D} : runR (.rt d) false = .ok d := rfl
@[simp] theorem runR_er {c : Nat} {fs : List (Str × D)} {e : En} : runR (.er c fs e) false = .er c fs := rfl
@[simp] theorem runR_nx {e : En} : runR (.nx e) false = .ok .non := rfl
/-! operators -/
@[simp] theorem dAddU_int {i j : Int} : dAddU (.int i) (.int j) = some (.int (i + j)) := rfl
theorem dAddU_lst {xs ys : List D} (h : xs.length + ys.length ≤ 1000000) : dAddU (.lst xs) (.lst ys) = some (.lst (xs ++ ys)) := by
  show (if xs.length + ys.length ≤ sizeLine then some (D.lst (xs ++ ys)) else none) = _
  rw [if_pos (small_le (by omega))]
@[simp] theorem dSub_int {i j : Int} : dSub (.int i) (.int j) = some (.int (i - j)) := rfl
theorem dMulU_int {i j : Int} (h : (-(2 ^ 64) < i ∧ i < 2 ^ 64) ∨ (-(2 ^ 64) < j ∧ j < 2 ^ 64)) : dMulU (.int i) (.int j) = some (.int (i * j)) := by
  show orD (if (-(2 ^ 64) < i ∧ i < 2 ^ 64) ∨ (-(2 ^ 64) < j ∧ j < 2 ^ 64) then some (D.int (i * j)) else none) _ = _
  rw [if_pos h]
  rfl
theorem dFdiv_int {i j : Int} (h0 : 0 < j) (h1 : j < 1073741824) : dFdiv (.int i) (.int j) = some (.int (i / j)) := if_pos ⟨h0, h1⟩
theorem dMod_int {i j : Int} (h0 : 0 < j) : dMod (.int i) (.int j) = some (.int (i % j)) := if_pos h0
@[simp] theorem dLt_int {i j : Int} : dLt (.int i) (.int j) = some (.bl (decide (i < j))) := rfl
@[simp] theorem dLe_int {i j : Int} : dLe (.int i) (.int j) = some (.bl (decide (i ≤ j))) := rfl
@[simp] theorem dGt_int {i j : Int} : dGt (.int i) (.int j) = some (.bl (decide (j < i))) := rfl
@[simp] theorem dGe_int {i j : Int} : dGe (.int i) (.int j) = some (.bl (decide (j ≤ i))) := rfl
@[simp] theorem dEq_int {i j : Int} : dEq (.int i) (.int j) = some (.bl (decide (i = j))) := by
  simp [dEq, toP, PySem.SeqAt.shaped, PySem.PyData.canLay0, PySem.PyData.depth, PySem.PyData.eqv]
  by_cases h : i = j <;> simp [h]
/-- comparable data of depth at most n -/
def Sh (n : Nat) (d : D) : Prop := ∃ p, toP d = some p ∧ p.canLay0 = true ∧ p.depth ≤ n
mutual
theorem eqv_refl : ∀ (p : PySem.PyData), p.canLay0 = true → PySem.PyData.eqv p p = true
  | .none, _ => by simp [PySem.PyData.eqv]
  | .bool _, _ => by simp [PySem.PyData.eqv]
  | .int _, _ => by simp [PySem.PyData.eqv]
  | .str _, _ => by simp [PySem.PyData.eqv]
  | .list xs, h => by
    rw [PySem.PyData.eqv]
    exact eqvAll_refl xs (by simpa [PySem.PyData.canLay0] using h)
  | .tuple xs, h => by
    rw [PySem.PyData.eqv]
    exact eqvAll_refl xs (by simpa [PySem.PyData.canLay0] using h)
  | .dict _, h => by simp [PySem.PyData.canLay0] at h
theorem eqvAll_refl : ∀ (xs : List PySem.PyData), PySem.PyData.canLayAll0 xs = true → PySem.PyData.eqvAll xs xs = true
  | [], _ => by simp [PySem.PyData.eqvAll]
  | x :: xs, h => by
    have h' : x.canLay0 = true ∧ PySem.PyData.canLayAll0 xs = true := by simpa [PySem.PyData.canLayAll0] using h
    simp [PySem.PyData.eqvAll, eqv_refl x h'.1, eqvAll_refl xs h'.2]
end
theorem dEq_refl {d : D} (h : Sh 64 d) : dEq d d = some (.bl true) := by
  obtain ⟨p, h1, h2, h3⟩ := h
  simp [dEq, h1, PySem.SeqAt.shaped, h2, h3, eqv_refl p h2]
theorem dNe_refl {d : D} (h : Sh 64 d) : dNe d d = some (.bl false) := by
  obtain ⟨p, h1, h2, h3⟩ := h
  simp [dNe, h1, PySem.SeqAt.shaped, h2, h3, eqv_refl p h2]
theorem Sh.mono {n m : Nat} {d : D} (h : Sh n d) (l : n ≤ m) : Sh m d := by
  obtain ⟨p, h1, h2, h3⟩ := h
  exact ⟨p, h1, h2, Nat.le_trans h3 l⟩
theorem sh_int {i : Int} : Sh 0 (.int i) := ⟨.int i, rfl, by simp [PySem.PyData.canLay0], by simp [PySem.PyData.depth]⟩
theorem sh_str {x : Str} (h : PySem.PyData.strOk x = true) : Sh 0 (.str x) := ⟨.str x, rfl, by simpa [PySem.PyData.canLay0] using h, by simp [PySem.PyData.depth]⟩
theorem sh_all {n : Nat} : ∀ {ds : List D}, (∀ d ∈ ds, Sh n d) → ∃ ps, toPs ds = some ps ∧ PySem.PyData.canLayAll0 ps = true ∧ PySem.PyData.depthAll ps ≤ n
  | [], _ => ⟨[], rfl, by simp [PySem.PyData.canLayAll0], by simp [PySem.PyData.depthAll]⟩
  | d :: ds, h => by
    obtain ⟨p, h1, h2, h3⟩ := h d List.mem_cons_self
    obtain ⟨ps, q1, q2, q3⟩ := sh_all (ds := ds) fun e he => h e (List.mem_cons_of_mem _ he)
    exact ⟨p :: ps, by simp [toPs, h1, q1], by simp [PySem.PyData.canLayAll0, h2, q2], by simp [PySem.PyData.depthAll]; omega⟩
theorem sh_lst {n : Nat} {ds : List D} (h : ∀ d ∈ ds, Sh n d) : Sh (n + 1) (.lst ds) := by
  obtain ⟨ps, q1, q2, q3⟩ := sh_all h
  exact ⟨.list ps, by simp [toP, q1], by simpa [PySem.PyData.canLay0] using q2, by simp [PySem.PyData.depth]; omega⟩
theorem sh_tup {n : Nat} {ds : List D} (h : ∀ d ∈ ds, Sh n d) : Sh (n + 1) (.tup ds) := by
  obtain ⟨ps, q1, q2, q3⟩ := sh_all h
  exact ⟨.tuple ps, by simp [toP, q1], by simpa [PySem.PyData.canLay0] using q2, by simp [PySem.PyData.depth]; omega⟩
@[simp] theorem cLen_lst {ds : List D} : cLen [.lst ds] = some (.int ds.length) := rfl
@[simp] theorem cAbs_int {i : Int} : cAbs [.int i] = some (.int (if i < 0 then -i else i)) := rfl
@[simp] theorem cInt_int {i : Int} : cInt [.int i] = some (.int i) := rfl
@[simp] theorem cInt_bl {b : Bool} : cInt [.bl b] = some (.int (if b then 1 else 0)) := rfl
@[simp] theorem cList_lst {ds : List D} : cList [.lst ds] = some (.lst ds) := rfl
/-- a loop by an invariant -/
theorem loop_inv {T : Tgt} {body : SS} (P : Nat → En → Prop) : ∀ (ds : List D) (i : Nat) (env : En), P i env → (∀ j d env, ds[j]? = some d → P (i + j) env → ∃ e e', bindT T d env = some e ∧ body e = .nx e' ∧ P (i + j + 1) e') →
    ∃ e', loopF T body ds env = .nx e' ∧ P (i + ds.length) e'
  | [], i, env, h, _ => ⟨env, rfl, h⟩
  | d :: ds, i, env, h, hs => by
    obtain ⟨e, e1, h1, h2, h3⟩ := hs 0 d env rfl h
    obtain ⟨e', h4, h5⟩ := loop_inv P ds (i + 1) e1 h3 fun j d env hj hp => by
      obtain ⟨e, e', a1, a2, a3⟩ := hs (j + 1) d env (by simpa using hj) (by rw [show i + (j + 1) = i + 1 + j by omega]; exact hp)
      exact ⟨e, e', a1, a2, by rw [show i + 1 + j + 1 = i + (j + 1) + 1 by omega]; exact a3⟩
    refine ⟨e', ?_, by rw [List.length_cons, show i + (ds.length + 1) = i + 1 + ds.length by omega]; exact h5⟩
    rw [loopF_cons, h1]
    show stepL (body e) _ = _
    rw [h2]
    exact h4
/-- a comprehension that keeps all -/
theorem compL_map {T : Tgt} {env : En} {fe : SE} (g : D → D) : ∀ (ds : List D), (∀ d ∈ ds, ∃ e, bindT T d env = some e ∧ fe e = .ok (g d)) → compL T env (sC (.bl true)) fe ds = some (ds.map g)
  | [], _ => rfl
  | d :: ds, h => by
    obtain ⟨e, h1, h2⟩ := h d List.mem_cons_self
    show (match bindT T d env with
      | none => none
      | some e => match (R.ok (.bl true)) with
        | .ok (.bl true) => (match fe e with
          | .ok x => (compL T env (sC (.bl true)) fe ds).map fun r => x :: r
          | _ => none)
        | .ok (.bl false) => compL T env (sC (.bl true)) fe ds
        | _ => none) = _
    rw [h1]
    simp only
    rw [h2, compL_map g ds fun d hd => h d (List.mem_cons_of_mem _ hd)]
    rfl
/-- .. with a test -/
theorem compL_filter {T : Tgt} {env : En} {ft fe : SE} (p : D → Bool) (g : D → D) : ∀ (ds : List D), (∀ d ∈ ds, ∃ e, bindT T d env = some e ∧ ft e = .ok (.bl (p d)) ∧ (p d = true → fe e = .ok (g d))) → compL T env ft fe ds = some ((ds.filter p).map g)
  | [], _ => rfl
  | d :: ds, h => by
    obtain ⟨e, h1, h2, h3⟩ := h d List.mem_cons_self
    have ih := compL_filter p g ds fun d hd => h d (List.mem_cons_of_mem _ hd)
    unfold compL
    rw [h1]
    simp only [h2]
    cases hp : p d with
    | true => simp [h3 hp, ih, hp]
    | false => simp [ih, hp]
end Ps

namespace Lw
open PySem PySem.Spec PyProof.Rows L2 Ps
def tb_Barred (k : Kd) : Option Bool := match k with
  | .ty n => if n = "NoneType" then some false else none
  | .err n => if n = 15 then some false else none
  | _ => none
def tb_NoBand (k : Kd) : Option Bool := match k with
  | .ty n => if n = "NoneType" then some false else none
  | .err n => if n = 15 then some false else none
  | _ => none
def tb_NoData (k : Kd) : Option Bool := match k with
  | .ty n => if n = "NoneType" then some false else none
  | .err n => if n = 15 then some false else none
  | _ => none
def tb_NoForm (k : Kd) : Option Bool := match k with
  | .ty n => if n = "NoneType" then some false else none
  | .err n => if n = 15 then some false else none
  | _ => none
def tb_NoLength (k : Kd) : Option Bool := match k with
  | .ty n => if n = "NoneType" then some false else none
  | .err n => if n = 15 then some false else none
  | _ => none
def tb_NoNumber (k : Kd) : Option Bool := match k with
  | .ty n => if n = "NoneType" then some false else none
  | .err n => if n = 15 then some false else none
  | _ => none
def tb_NoPlace (k : Kd) : Option Bool := match k with
  | .ty n => if n = "NoneType" then some false else none
  | .err n => if n = 15 then some false else none
  | _ => none
def tb_NoRate (k : Kd) : Option Bool := match k with
  | .ty n => if n = "NoneType" then some false else none
  | .err n => if n = 15 then some false else none
  | _ => none
def tb_NoRow (k : Kd) : Option Bool := match k with
  | .ty n => if n = "NoneType" then some false else none
  | .err n => if n = 15 then some false else none
  | _ => none
def tb_NoSigns (k : Kd) : Option Bool := match k with
  | .ty n => if n = "NoneType" then some false else none
  | .err n => if n = 15 then some false else none
  | _ => none
def tb_NoSplit (k : Kd) : Option Bool := match k with
  | .ty n => if n = "NoneType" then some false else none
  | .err n => if n = 15 then some true else none
  | _ => none
def tb_NoWord (k : Kd) : Option Bool := match k with
  | .ty n => if n = "NoneType" then some false else none
  | .err n => if n = 15 then some false else none
  | _ => none
def tb_NoWriter (k : Kd) : Option Bool := match k with
  | .ty n => if n = "NoneType" then some false else none
  | .err n => if n = 15 then some false else none
  | _ => none
def tb_Open (k : Kd) : Option Bool := match k with
  | .ty n => if n = "NoneType" then some false else none
  | .err n => if n = 15 then some false else none
  | _ => none
def tb_Scarce (k : Kd) : Option Bool := match k with
  | .ty n => if n = "NoneType" then some false else none
  | .err n => if n = 15 then some false else none
  | _ => none
def tb_Sheet (k : Kd) : Option Bool := match k with
  | .own n => if n = 1 then some true else none
  | _ => none
def tb_TooMany (k : Kd) : Option Bool := match k with
  | .ty n => if n = "NoneType" then some false else none
  | .err n => if n = 15 then some false else none
  | _ => none
def tb_ValueError (k : Kd) : Option Bool := match k with
  | .ty n => if n = "NoneType" then some false else if n = "bool" then some false else if n = "int" then some false else if n = "str" then some false else if n = "list" then some false else if n = "tuple" then some false else if n = "dict" then some false else none
  | .err n => if n = 15 then some true else none
  | _ => none
def tb_bool (k : Kd) : Option Bool := match k with
  | .ty n => if n = "NoneType" then some false else if n = "bool" then some true else if n = "int" then some false else if n = "str" then some false else if n = "list" then some false else if n = "tuple" then some false else if n = "dict" then some false else none
  | .err n => if n = 15 then some false else none
  | _ => none
def tb_int (k : Kd) : Option Bool := match k with
  | .ty n => if n = "NoneType" then some false else if n = "bool" then some true else if n = "int" then some true else if n = "str" then some false else if n = "list" then some false else if n = "tuple" then some false else if n = "dict" then some false else none
  | .err n => if n = 15 then some false else none
  | _ => none
def tb_list (k : Kd) : Option Bool := match k with
  | .ty n => if n = "NoneType" then some false else if n = "bool" then some false else if n = "int" then some false else if n = "str" then some false else if n = "list" then some true else if n = "tuple" then some false else if n = "dict" then some false else none
  | .err n => if n = 15 then some false else none
  | _ => none
def cat_BandError (n : Nat) : Option Bool := if n = 15 then some true else none
def b_Sheet__init_ : SS := (ssSeq (ssFld 1 0 "homes" (sCall cList (aCons (sLoc 1) aNil))) (ssSeq (ssFld 1 0 "weights" (sCall cList (aCons (sLoc 2) aNil))) (ssFld 1 0 "lines" (sComp (.nm 4) [4] (sItems (sLoc 3)) (sC (.bl true)) (sCall cList (aCons (sLoc 4) aNil))))))
def m_Sheet__init_ : List D → RI := runInit 5 1 [false, false, false] b_Sheet__init_
def b_borne_by : SS := (ssRet (sCall cSum (aCons (sComp (.tp [2, 3]) [2, 3] (sItems (sLoc 1)) (sC (.bl true)) (s2 dIx (sFld 1 "weights" (sLoc 0)) (sLoc 3))) aNil)))
def m_borne_by : List D → R := runF 4 [false, false] false b_borne_by
def b_doubled : SS := (ssSeq (ssOwn 3 (sLst aNil)) (ssSeq (ssFor (.tp [4, 5]) (sItems (sLoc 0)) (ssSeq (ssApp 3 (sTup (aCons (sLoc 4) (aCons (sLoc 5) aNil)))) (ssIf (s2 dEq (sLoc 5) (sLoc 1)) (ssApp 3 (sTup (aCons (sLoc 4) (aCons (sLoc 2) aNil)))) ssNext))) (ssSeq (ssFrz 3) (ssRet (sLoc 3)))))
def m_doubled : List D → R := runF 6 [false, false, false] false b_doubled
def b_law_nth : SS := (ssSeq (ssFor (.nm 2) (sItems (sSl dSlU (sLoc 0) (sPart (sLoc 1)) (sPart (s2 dAddU (sLoc 1) (sC (.int 1)))))) (ssRet (sLoc 2))) (ssRet (sC (.int 0))))
def m_law_nth : List D → R := runF 3 [false, false] false b_law_nth
def b_law_mixed : SS := (ssSeq (ssIf (s2 dEq (s2 dMod (sLoc 0) (sC (.int 2))) (sC (.int 1))) (ssSeq (ssAsg (.nm 3) (s2 dFdiv (sCall cAbs (aCons (sLoc 0) aNil)) (sC (.int 2)))) (ssSeq (ssFor (.nm 4) (sRng rng1 (aCons (sLoc 1) aNil)) (ssAsg (.nm 3) (s2 dFdiv (sLoc 3) (sC (.int 1000003))))) (ssRet (s2 dMod (s2 dMod (sLoc 3) (sC (.int 1000003))) (sLoc 2))))) ssNext) (ssSeq (ssAsg (.nm 5) (s2 dMod (sLoc 0) (sC (.int 998244353)))) (ssSeq (ssAsg (.nm 6) (s2 dMod (s2 dFdiv (sLoc 0) (sC (.int 998244353))) (sC (.int 1000000007)))) (ssSeq (ssAsg (.nm 7) (s2 dAddU (s2 dMulU (sLoc 5) (s2 dAddU (sC (.int 4099)) (s2 dMulU (sLoc 1) (sC (.int 30))))) (s2 dMulU (sLoc 6) (s2 dAddU (sLoc 1) (sC (.int 2)))))) (ssSeq (ssAsg (.nm 7) (s2 dMod (s2 dAddU (s2 dAddU (sLoc 7) (s2 dMulU (s2 dMulU (sLoc 1) (sLoc 1)) (sC (.int 104729)))) (sC (.int 31))) (sC (.int 1000000007)))) (ssRet (s2 dMod (s2 dMod (s2 dMulU (sLoc 7) (sLoc 7)) (sC (.int 1000000007))) (sLoc 2))))))))
def m_law_mixed : List D → R := runF 8 [false, false, false] false b_law_mixed
def b_law_part : SS := (ssSeq (ssOwn 4 (sComp (.nm 5) [5] (sRng rng1 (aCons (sCall cLen (aCons (s2 dIx (sLoc 0) (sLoc 2)) aNil)) aNil)) (s2 dIn (sLoc 5) (sLoc 3)) (s2 dIx (s2 dIx (sLoc 0) (sLoc 2)) (sLoc 5)))) (ssSeq (ssOwn 6 (sComp (.nm 5) [5] (sRng rng1 (aCons (sCall cLen (aCons (s2 dIx (sLoc 0) (sLoc 2)) aNil)) aNil)) (s2 dNotIn (sLoc 5) (sLoc 3)) (s2 dIx (s2 dIx (sLoc 0) (sLoc 2)) (sLoc 5)))) (ssSeq (ssFrz 6) (ssSeq (ssFrz 4) (ssSeq (ssOwn 7 (sComp (.nm 10) [10] (sItems (sLst (aCons (sLoc 4) (aCons (sLoc 6) aNil)))) (sC (.bl true)) (sCall cSum (aCons (sComp (.tp [8, 9]) [8, 9] (sItems (sLoc 10)) (sC (.bl true)) (s2 dIx (sLoc 1) (sLoc 9))) aNil)))) (ssSeq (ssFrz 7) (ssRet (sTup (aCons (sLoc 4) (aCons (sLoc 6) (aCons (sLoc 7) aNil)))))))))))
def m_law_part : List D → R := runF 11 [false, false, false, false] false b_law_part
def b_law_is_sheet : SS := (ssSeq (ssIf (sOr (sNot (sIsi tb_Sheet (sLoc 0))) (sOr (sNot (sIsi tb_list (sFld 1 "homes" (sLoc 0)))) (sNot (sIsi tb_list (sFld 1 "weights" (sLoc 0)))))) (ssRet (sC (.bl false))) ssNext) (ssSeq (ssIf (sOr (sNot (sIsi tb_list (sFld 1 "lines" (sLoc 0)))) (sNot (sCall cAll (aCons (sComp (.nm 2) [2] (sItems (sFld 1 "lines" (sLoc 0))) (sC (.bl true)) (sIsi tb_list (sLoc 2))) aNil)))) (ssRet (sC (.bl false))) ssNext) (ssSeq (ssIf (sNot (sCall cAll (aCons (sComp (.nm 3) [3] (sItems (sFld 1 "weights" (sLoc 0))) (sC (.bl true)) (sAnd (sIsi tb_int (sLoc 3)) (sNot (sIsi tb_bool (sLoc 3))))) aNil))) (ssRet (sC (.bl false))) ssNext) (ssRet (s2 dEq (sTup (aCons (sFld 1 "homes" (sLoc 0)) (aCons (sFld 1 "weights" (sLoc 0)) (aCons (sFld 1 "lines" (sLoc 0)) aNil)))) (sLoc 1))))))
def m_law_is_sheet : List D → R := runF 4 [false, false] false b_law_is_sheet
def b_law_others : SS := (ssSeq (ssIf (sOr (sIsi tb_Barred (sLoc 0)) (sOr (sIsi tb_NoBand (sLoc 0)) (sOr (sIsi tb_NoData (sLoc 0)) (sIsi tb_NoForm (sLoc 0))))) (ssRet (sC (.bl true))) ssNext) (ssSeq (ssIf (sOr (sIsi tb_NoLength (sLoc 0)) (sOr (sIsi tb_NoNumber (sLoc 0)) (sOr (sIsi tb_NoPlace (sLoc 0)) (sIsi tb_NoRate (sLoc 0))))) (ssRet (sC (.bl true))) ssNext) (ssSeq (ssIf (sOr (sIsi tb_NoRow (sLoc 0)) (sOr (sIsi tb_NoSigns (sLoc 0)) (sOr (sIsi tb_NoWord (sLoc 0)) (sIsi tb_NoWriter (sLoc 0))))) (ssRet (sC (.bl true))) ssNext) (ssRet (sOr (sIsi tb_Open (sLoc 0)) (sOr (sIsi tb_Scarce (sLoc 0)) (sIsi tb_TooMany (sLoc 0))))))))
def m_law_others : List D → R := runF 1 [false] false b_law_others
def b_law_sheet : SS := (ssSeq (ssAsg (.nm 2) (s2 dAddU (sC (.int 1)) (sFn m_law_mixed (aCons (sLoc 0) (aCons (sC (.int 1)) (aCons (sC (.int 5)) aNil)))))) (ssSeq (ssOwn 3 (sComp (.nm 4) [4] (sRng rng1 (aCons (sLoc 2) aNil)) (sC (.bl true)) (s2 dMulU (s2 dIx (sC (.str "ab")) (sFn m_law_mixed (aCons (sLoc 0) (aCons (s2 dAddU (sC (.int 2)) (sLoc 4)) (aCons (sC (.int 2)) aNil))))) (s2 dMod (sLoc 4) (sC (.int 3)))))) (ssSeq (ssOwn 5 (sComp (.nm 4) [4] (sRng rng1 (aCons (sLoc 2) aNil)) (sC (.bl true)) (s2 dAddU (sC (.int 2)) (sFn m_law_mixed (aCons (sLoc 0) (aCons (s2 dAddU (sC (.int 10)) (sLoc 4)) (aCons (sC (.int 2)) aNil))))))) (ssSeq (ssOwn 6 (sLst aNil)) (ssSeq (ssFor (.nm 4) (sRng rng1 (aCons (sLoc 2) aNil)) (ssSeq (ssOwn 7 (sLst aNil)) (ssSeq (ssFor (.nm 8) (sRng rng1 (aCons (s2 dMulU (sC (.int 2)) (sLoc 1)) aNil)) (ssSeq (ssAsg (.nm 9) (sFn m_law_mixed (aCons (sLoc 0) (aCons (s2 dAddU (s2 dAddU (sC (.int 20)) (s2 dMulU (sC (.int 16)) (sLoc 4))) (sLoc 8)) (aCons (sC (.int 8)) aNil))))) (ssSeq (ssAsg (.nm 10) (sM1 mJoin (sC (.str "")) (sComp (.nm 11) [11] (sItems (sLst (aCons (sC (.int 1)) (aCons (sC (.int 2)) (aCons (sC (.int 4)) aNil))))) (sC (.bl true)) (s2 dIx (sC (.str "ab")) (s2 dMod (s2 dFdiv (sLoc 9) (sLoc 11)) (sC (.int 2))))))) (ssApp 7 (sTup (aCons (sLoc 10) (aCons (sFn m_law_mixed (aCons (sLoc 0) (aCons (s2 dAddU (s2 dAddU (sC (.int 100)) (s2 dMulU (sC (.int 16)) (sLoc 4))) (sLoc 8)) (aCons (sLoc 2) aNil)))) aNil))))))) (ssSeq (ssFrz 7) (ssApp 6 (sLoc 7)))))) (ssSeq (ssFrz 3) (ssSeq (ssFrz 6) (ssSeq (ssFrz 5) (ssRet (sTup (aCons (sLoc 3) (aCons (sLoc 5) (aCons (sLoc 6) aNil)))))))))))))
def m_law_sheet : List D → R := runF 12 [false, false] false b_law_sheet
def b_law_half : SS := (ssSeq (ssOwn 2 (sCall cRg (aCons (s2 dMulU (sC (.int 2)) (sLoc 1)) aNil))) (ssSeq (ssOwn 3 (sLst aNil)) (ssSeq (ssFor (.nm 4) (sRng rng1 (aCons (sLoc 1) aNil)) (ssAppPop 3 2 (sFn m_law_mixed (aCons (sLoc 0) (aCons (s2 dAddU (sC (.int 20)) (sLoc 4)) (aCons (sCall cLen (aCons (sLocB 2) aNil)) aNil)))))) (ssSeq (ssFrz 3) (ssRet (sLoc 3))))))
def m_law_half : List D → R := runF 5 [false, false] false b_law_half
def b_law_divided : SS := (ssSeq (ssAsg (.tp [6, 7, 8]) (sFn m_law_part (aCons (sLoc 2) (aCons (sLoc 1) (aCons (sLoc 3) (aCons (sLoc 4) aNil)))))) (ssSeq (ssOwn 9 (sComp (.nm 10) [10] (sItems (sLoc 2)) (sC (.bl true)) (sCall cList (aCons (sLoc 10) aNil)))) (ssSeq (ssPut 9 (sLoc 3) (sLoc 6)) (ssSeq (ssApp 9 (sLoc 7)) (ssSeq (ssOwn 11 (sLst aNil)) (ssSeq (ssFrz 9) (ssSeq (ssFor (.nm 10) (sItems (sLoc 9)) (ssSeq (ssOwn 12 (sLst aNil)) (ssSeq (ssFor (.tp [13, 14]) (sItems (sLoc 10)) (ssSeq (ssApp 12 (sTup (aCons (sLoc 13) (aCons (sLoc 14) aNil)))) (ssIf (s2 dEq (sLoc 14) (sLoc 3)) (ssApp 12 (sTup (aCons (sLoc 13) (aCons (sCall cLen (aCons (sLoc 2) aNil)) aNil)))) ssNext))) (ssSeq (ssFrz 12) (ssApp 11 (sLoc 12)))))) (ssSeq (ssAsg (.nm 15) (s2 dSub (s2 dIx (sLoc 1) (sLoc 3)) (sLoc 5))) (ssSeq (ssAsg (.nm 16) (s2 dAddU (s2 dAddU (sSl dSlU (sLoc 1) (sC .non) (sPart (sLoc 3))) (sLst (aCons (sLoc 5) aNil))) (sSl dSlU (sLoc 1) (sPart (s2 dAddU (sLoc 3) (sC (.int 1)))) (sC .non)))) (ssSeq (ssFrz 11) (ssRet (sTup (aCons (s2 dAddU (sLoc 0) (sLst (aCons (s2 dIx (sLoc 0) (sLoc 3)) aNil))) (aCons (s2 dAddU (sLoc 16) (sLst (aCons (sLoc 15) aNil))) (aCons (sLoc 11) aNil)))))))))))))))
def m_law_divided : List D → R := runF 17 [false, false, false, false, false, false] false b_law_divided
def b_law_turned : SS := (ssSeq (ssAsg (.tp [4, 5, 6]) (sLoc 1)) (ssSeq (ssAsg (.nm 7) (sFn m_law_mixed (aCons (sLoc 0) (aCons (sC (.int 2)) (aCons (sC (.int 4)) aNil))))) (ssSeq (ssAsg (.nm 8) (sFn m_law_mixed (aCons (sLoc 0) (aCons (sC (.int 3)) (aCons (sC (.int 3)) aNil))))) (ssSeq (ssIf (s2 dEq (sLoc 7) (sC (.int 0))) (ssRet (sTup (aCons (s2 dIx (sLst (aCons (sNeg (sC (.int 1))) (aCons (sCall cLen (aCons (sLoc 4) aNil)) (aCons (s2 dAddU (sCall cLen (aCons (sLoc 4) aNil)) (sFn m_law_mixed (aCons (sLoc 0) (aCons (sC (.int 4)) (aCons (s2 dPow (sC (.int 10)) (sC (.int 9))) aNil))))) aNil)))) (sLoc 8)) (aCons (sLoc 3) (aCons (sC (.int 1)) aNil))))) ssNext) (ssSeq (ssIf (s2 dEq (sLoc 7) (sC (.int 1))) (ssSeq (ssAsg (.nm 9) (s2 dIx (sLst (aCons (sNeg (sC (.int 1))) (aCons (sCall cLen (aCons (s2 dIx (sLoc 6) (sLoc 2)) aNil)) (aCons (s2 dAddU (sCall cLen (aCons (s2 dIx (sLoc 6) (sLoc 2)) aNil)) (sFn m_law_mixed (aCons (sLoc 0) (aCons (sC (.int 4)) (aCons (s2 dPow (sC (.int 10)) (sC (.int 9))) aNil))))) aNil)))) (sLoc 8))) (ssRet (sTup (aCons (sLoc 2) (aCons (s2 dAddU (s2 dAddU (sSl dSlU (sLoc 3) (sC .non) (sPart (sLoc 8))) (sLst (aCons (sLoc 9) aNil))) (sSl dSlU (sLoc 3) (sPart (sLoc 8)) (sC .non))) (aCons (sC (.int 1)) aNil)))))) ssNext) (ssSeq (ssIf (s2 dEq (sLoc 7) (sC (.int 2))) (ssRet (sTup (aCons (sLoc 2) (aCons (s2 dIx (sLst (aCons (sLst aNil) (aCons (sCall cRg (aCons (sCall cLen (aCons (s2 dIx (sLoc 6) (sLoc 2)) aNil)) aNil)) (aCons (sLst aNil) aNil)))) (sLoc 8)) (aCons (sC (.int 1)) aNil))))) ssNext) (ssRet (sTup (aCons (sLoc 2) (aCons (sLoc 3) (aCons (s2 dAddU (s2 dIx (sLst (aCons (sC (.int 0)) (aCons (sNeg (sC (.int 1))) (aCons (s2 dIx (sLoc 5) (sLoc 2)) aNil)))) (sLoc 8)) (s2 dMulU (sFn m_law_mixed (aCons (sLoc 0) (aCons (sC (.int 4)) (aCons (sC (.int 3)) aNil)))) (sCall cInt (aCons (s2 dEq (sLoc 8) (sC (.int 2))) aNil)))) aNil)))))))))))
def m_law_turned : List D → R := runF 10 [false, false, false, false] false b_law_turned
def b_split : SS := (ssSeq (ssIf (sOr (s2 dLt (sLoc 2) (sC (.int 0))) (s2 dGe (sLoc 2) (sCall cLen (aCons (sFld 1 "homes" (sLoc 0)) aNil)))) (ssRaise 15) ssNext) (ssSeq (ssAsg (.nm 5) (s2 dIx (sFld 1 "lines" (sLoc 0)) (sLoc 2))) (ssSeq (ssIf (sCall cAny (aCons (sComp (.nm 6) [6] (sItems (sLoc 3)) (sC (.bl true)) (sOr (s2 dLt (sLoc 6) (sC (.int 0))) (s2 dGe (sLoc 6) (sCall cLen (aCons (sLoc 5) aNil))))) aNil)) (ssRaise 15) ssNext) (ssSeq (ssOwn 7 (sComp (.nm 8) [8] (sRng rng1 (aCons (sCall cLen (aCons (sLoc 5) aNil)) aNil)) (s2 dIn (sLoc 8) (sLoc 3)) (s2 dIx (sLoc 5) (sLoc 8)))) (ssSeq (ssOwn 9 (sComp (.nm 8) [8] (sRng rng1 (aCons (sCall cLen (aCons (sLoc 5) aNil)) aNil)) (s2 dNotIn (sLoc 8) (sLoc 3)) (s2 dIx (sLoc 5) (sLoc 8)))) (ssSeq (ssAsg (.nm 10) (s2 dSub (s2 dIx (sFld 1 "weights" (sLoc 0)) (sLoc 2)) (sLoc 4))) (ssSeq (ssIf (sOr (s2 dEq (sLocB 7) (sLst aNil)) (sOr (s2 dEq (sLocB 9) (sLst aNil)) (sOr (s2 dLt (sLoc 4) (sC (.int 1))) (s2 dLt (sLoc 10) (sC (.int 1)))))) (ssRaise 15) ssNext) (ssSeq (ssFrz 9) (ssSeq (ssFrz 7) (ssSeq (ssIf (sOr (s2 dLt (sFn m_borne_by (aCons (sLoc 0) (aCons (sLoc 7) aNil))) (s2 dMulU (sLoc 1) (sLoc 4))) (s2 dLt (sFn m_borne_by (aCons (sLoc 0) (aCons (sLoc 9) aNil))) (s2 dMulU (sLoc 1) (sLoc 10)))) (ssRaise 15) ssNext) (ssSeq (ssAsg (.nm 11) (s2 dAddU (s2 dAddU (s2 dAddU (sSl dSlU (sFld 1 "weights" (sLoc 0)) (sC .non) (sPart (sLoc 2))) (sLst (aCons (sLoc 4) aNil))) (sSl dSlU (sFld 1 "weights" (sLoc 0)) (sPart (s2 dAddU (sLoc 2) (sC (.int 1)))) (sC .non))) (sLst (aCons (sLoc 10) aNil)))) (ssSeq (ssAsg (.nm 12) (s2 dAddU (s2 dAddU (s2 dAddU (sSl dSlU (sFld 1 "lines" (sLoc 0)) (sC .non) (sPart (sLoc 2))) (sLst (aCons (sLoc 7) aNil))) (sSl dSlU (sFld 1 "lines" (sLoc 0)) (sPart (s2 dAddU (sLoc 2) (sC (.int 1)))) (sC .non))) (sLst (aCons (sLoc 9) aNil)))) (ssSeq (ssOwn 12 (sComp (.nm 5) [5] (sItems (sLoc 12)) (sC (.bl true)) (sFn m_doubled (aCons (sLoc 5) (aCons (sLoc 2) (aCons (sCall cLen (aCons (sFld 1 "homes" (sLoc 0)) aNil)) aNil)))))) (ssSeq (ssFrz 12) (ssRet (sMk 1 m_Sheet__init_ (aCons (s2 dAddU (sFld 1 "homes" (sLoc 0)) (sLst (aCons (s2 dIx (sFld 1 "homes" (sLoc 0)) (sLoc 2)) aNil))) (aCons (sLoc 11) (aCons (sLoc 12) aNil)))))))))))))))))))
def m_split : List D → R := runF 13 [false, false, false, false, false] false b_split
def b_law_is_refused : SS := (ssSeq (ssAsg (.nm 5) (sC .non)) (ssSeq (ssTry cat_BandError 6 (ssExpr (sFn m_split (aCons (sLoc 0) (aCons (sLoc 1) (aCons (sLoc 2) (aCons (sLoc 3) (aCons (sLoc 4) aNil))))))) (ssAsg (.nm 5) (sLoc 6))) (ssRet (sAnd (sIsi tb_NoSplit (sLoc 5)) (sAnd (sIsi tb_ValueError (sLoc 5)) (sNot (sFn m_law_others (aCons (sLoc 5) aNil))))))))
def m_law_is_refused : List D → R := runF 7 [false, false, false, false, false] false b_law_is_refused
def b_law : SS := (ssSeq (ssAsg (.nm 1) (s2 dAddU (sC (.int 2)) (s2 dMod (sFn m_law_nth (aCons (sLoc 0) (aCons (sC (.int 1)) aNil))) (sC (.int 7))))) (ssSeq (ssAsg (.nm 2) (sFn m_law_sheet (aCons (sFn m_law_nth (aCons (sLoc 0) (aCons (sC (.int 0)) aNil))) (aCons (sLoc 1) aNil)))) (ssSeq (ssAsg (.tp [3, 4, 5]) (sLoc 2)) (ssSeq (ssAsg (.nm 6) (sMk 1 m_Sheet__init_ (aCons (sCall cList (aCons (sLoc 3) aNil)) (aCons (sCall cList (aCons (sLoc 4) aNil)) (aCons (sComp (.nm 7) [7] (sItems (sLoc 5)) (sC (.bl true)) (sCall cList (aCons (sLoc 7) aNil))) aNil))))) (ssSeq (ssFor (.nm 8) (sItems (s2 dAddU (sLst (aCons (sFn m_law_nth (aCons (sLoc 0) (aCons (sC (.int 2)) aNil))) aNil)) (sSl dSlU (sLoc 0) (sPart (sC (.int 3))) (sPart (sC (.int 18)))))) (ssSeq (ssAsg (.nm 9) (sFn m_law_mixed (aCons (sLoc 8) (aCons (sC (.int 1)) (aCons (sCall cLen (aCons (sLoc 3) aNil)) aNil))))) (ssSeq (ssAsg (.nm 10) (sFn m_law_half (aCons (sLoc 8) (aCons (sLoc 1) aNil)))) (ssSeq (ssAsg (.nm 11) (sFn m_law_turned (aCons (sLoc 8) (aCons (sLoc 2) (aCons (sLoc 9) (aCons (sLoc 10) aNil)))))) (ssSeq (ssAsg (.nm 12) (sCall cList (aCons (s2 dIx (sLoc 11) (sC (.int 1))) aNil))) (ssSeq (ssIf (sOr (sNot (sFn m_law_is_refused (aCons (sLoc 6) (aCons (sLoc 1) (aCons (s2 dIx (sLoc 11) (sC (.int 0))) (aCons (sLoc 12) (aCons (s2 dIx (sLoc 11) (sC (.int 2))) aNil))))))) (s2 dNe (sLoc 12) (s2 dIx (sLoc 11) (sC (.int 1))))) (ssRet (sC (.bl false))) ssNext) (ssSeq (ssIf (sNot (sFn m_law_is_sheet (aCons (sLoc 6) (aCons (sLoc 2) aNil)))) (ssRet (sC (.bl false))) ssNext) (ssSeq (ssAsg (.nm 13) (sFn m_law_divided (aCons (sLoc 3) (aCons (sLoc 4) (aCons (sLoc 5) (aCons (sLoc 9) (aCons (sLoc 10) (aCons (sC (.int 1)) aNil)))))))) (ssIf (sNot (sFn m_law_is_sheet (aCons (sFn m_split (aCons (sLoc 6) (aCons (sLoc 1) (aCons (sLoc 9) (aCons (sLoc 10) (aCons (sC (.int 1)) aNil)))))) (aCons (sLoc 13) aNil)))) (ssRet (sC (.bl false))) ssNext))))))))) (ssRet (sC (.bl true))))))))
def m_law : List D → R := runF 14 [false] false b_law
end Lw

namespace Lw
open PySem PySem.Spec PyProof.Rows L2 Ps
def top (i : Nat) : Stmt := PySem.Challenge.pw_bandscribe_k32_no_split.main.body.getD i (.Pass ⟨0, 0, 0, 0⟩)
abbrev s_Sheet__init_ : Stmt := inClass (top 19) 0
abbrev s_borne_by : Stmt := top 20
abbrev s_doubled : Stmt := top 21
abbrev s_law_nth : Stmt := top 24
abbrev s_law_mixed : Stmt := top 25
abbrev s_law_part : Stmt := top 28
abbrev s_law_is_sheet : Stmt := top 30
abbrev s_law_others : Stmt := top 32
abbrev s_law_sheet : Stmt := top 26
abbrev s_law_half : Stmt := top 27
abbrev s_law_divided : Stmt := top 29
abbrev s_law_turned : Stmt := top 31
abbrev s_split : Stmt := top 22
abbrev s_law_is_refused : Stmt := top 33
abbrev s_law : Stmt := top 34
structure Txt (K : PySem.W.Frag) (mg : Str → Option Value) (ct fa : Nat → Addr) : Prop where
  F_Sheet__init_ : ∃ fd, L2.Fun K "__init__" "Sheet.__init__" s_Sheet__init_ (fa 0) fd
  F_borne_by : ∃ fd, L2.Fun K "borne_by" "borne_by" s_borne_by (fa 1) fd
  g_borne_by : mg "borne_by" = some (.ref (fa 1))
  F_doubled : ∃ fd, L2.Fun K "doubled" "doubled" s_doubled (fa 2) fd
  g_doubled : mg "doubled" = some (.ref (fa 2))
  F_law_nth : ∃ fd, L2.Fun K "_law_nth" "_law_nth" s_law_nth (fa 4) fd
  g_law_nth : mg "_law_nth" = some (.ref (fa 4))
  F_law_mixed : ∃ fd, L2.Fun K "_law_mixed" "_law_mixed" s_law_mixed (fa 5) fd
  g_law_mixed : mg "_law_mixed" = some (.ref (fa 5))
  F_law_part : ∃ fd, L2.Fun K "_law_part" "_law_part" s_law_part (fa 8) fd
  g_law_part : mg "_law_part" = some (.ref (fa 8))
  F_law_is_sheet : ∃ fd, L2.Fun K "_law_is_sheet" "_law_is_sheet" s_law_is_sheet (fa 10) fd
  g_law_is_sheet : mg "_law_is_sheet" = some (.ref (fa 10))
  F_law_others : ∃ fd, L2.Fun K "_law_others" "_law_others" s_law_others (fa 12) fd
  g_law_others : mg "_law_others" = some (.ref (fa 12))
  F_law_sheet : ∃ fd, L2.Fun K "_law_sheet" "_law_sheet" s_law_sheet (fa 6) fd
  g_law_sheet : mg "_law_sheet" = some (.ref (fa 6))
  F_law_half : ∃ fd, L2.Fun K "_law_half" "_law_half" s_law_half (fa 7) fd
  g_law_half : mg "_law_half" = some (.ref (fa 7))
  F_law_divided : ∃ fd, L2.Fun K "_law_divided" "_law_divided" s_law_divided (fa 9) fd
  g_law_divided : mg "_law_divided" = some (.ref (fa 9))
  F_law_turned : ∃ fd, L2.Fun K "_law_turned" "_law_turned" s_law_turned (fa 11) fd
  g_law_turned : mg "_law_turned" = some (.ref (fa 11))
  F_split : ∃ fd, L2.Fun K "split" "split" s_split (fa 3) fd
  g_split : mg "split" = some (.ref (fa 3))
  F_law_is_refused : ∃ fd, L2.Fun K "_law_is_refused" "_law_is_refused" s_law_is_refused (fa 13) fd
  g_law_is_refused : mg "_law_is_refused" = some (.ref (fa 13))
  F_law : ∃ fd, L2.Fun K "law" "law" s_law (fa 14) fd
  g_law : mg "law" = some (.ref (fa 14))
  g_Sheet : mg "Sheet" = some (.ref (ct 1))
  cl_1 : Cls K (ct 1)
  ow_1 : OwnC K (ct 1)
  na_1_homes : NoAttr K (ct 1) "homes"
  na_1_weights : NoAttr K (ct 1) "weights"
  na_1_lines : NoAttr K (ct 1) "lines"
  mk_1 : Mk K (ct 1) (fa 0)
  g_BandError : mg "BandError" = some (.ref (ct 6))
  g_NoSigns : mg "NoSigns" = some (.ref (ct 7))
  g_TooMany : mg "TooMany" = some (.ref (ct 8))
  g_NoWord : mg "NoWord" = some (.ref (ct 9))
  g_NoRow : mg "NoRow" = some (.ref (ct 10))
  g_Barred : mg "Barred" = some (.ref (ct 11))
  g_NoPlace : mg "NoPlace" = some (.ref (ct 12))
  g_NoNumber : mg "NoNumber" = some (.ref (ct 13))
  g_NoRate : mg "NoRate" = some (.ref (ct 14))
  g_NoSplit : mg "NoSplit" = some (.ref (ct 15))
  g_NoLength : mg "NoLength" = some (.ref (ct 16))
  g_Scarce : mg "Scarce" = some (.ref (ct 17))
  g_Open : mg "Open" = some (.ref (ct 18))
  g_NoData : mg "NoData" = some (.ref (ct 19))
  g_NoForm : mg "NoForm" = some (.ref (ct 20))
  g_NoBand : mg "NoBand" = some (.ref (ct 21))
  g_NoWriter : mg "NoWriter" = some (.ref (ct 22))
  er_NoSplit : ErrC K mg (ct 15) "NoSplit"
  ec_NoSplit : ExcC K (ct 15)
  xm_NoSplit_BandError : PySem.W.exmOne K (.ref (ct 15)) (.ref (ct 6)) = some true
  ks_Barred_tyNoneType : PySem.W.kitOne K (.type "NoneType") (.ref (ct 11)) = some false
  ks_Barred_err15 : PySem.W.kitOne K (.ref (ct 15)) (.ref (ct 11)) = some false
  ks_NoBand_tyNoneType : PySem.W.kitOne K (.type "NoneType") (.ref (ct 21)) = some false
  ks_NoBand_err15 : PySem.W.kitOne K (.ref (ct 15)) (.ref (ct 21)) = some false
  ks_NoData_tyNoneType : PySem.W.kitOne K (.type "NoneType") (.ref (ct 19)) = some false
  ks_NoData_err15 : PySem.W.kitOne K (.ref (ct 15)) (.ref (ct 19)) = some false
  ks_NoForm_tyNoneType : PySem.W.kitOne K (.type "NoneType") (.ref (ct 20)) = some false
  ks_NoForm_err15 : PySem.W.kitOne K (.ref (ct 15)) (.ref (ct 20)) = some false
  ks_NoLength_tyNoneType : PySem.W.kitOne K (.type "NoneType") (.ref (ct 16)) = some false
  ks_NoLength_err15 : PySem.W.kitOne K (.ref (ct 15)) (.ref (ct 16)) = some false
  ks_NoNumber_tyNoneType : PySem.W.kitOne K (.type "NoneType") (.ref (ct 13)) = some false
  ks_NoNumber_err15 : PySem.W.kitOne K (.ref (ct 15)) (.ref (ct 13)) = some false
  ks_NoPlace_tyNoneType : PySem.W.kitOne K (.type "NoneType") (.ref (ct 12)) = some false
  ks_NoPlace_err15 : PySem.W.kitOne K (.ref (ct 15)) (.ref (ct 12)) = some false
  ks_NoRate_tyNoneType : PySem.W.kitOne K (.type "NoneType") (.ref (ct 14)) = some false
  ks_NoRate_err15 : PySem.W.kitOne K (.ref (ct 15)) (.ref (ct 14)) = some false
  ks_NoRow_tyNoneType : PySem.W.kitOne K (.type "NoneType") (.ref (ct 10)) = some false
  ks_NoRow_err15 : PySem.W.kitOne K (.ref (ct 15)) (.ref (ct 10)) = some false
  ks_NoSigns_tyNoneType : PySem.W.kitOne K (.type "NoneType") (.ref (ct 7)) = some false
  ks_NoSigns_err15 : PySem.W.kitOne K (.ref (ct 15)) (.ref (ct 7)) = some false
  ks_NoSplit_tyNoneType : PySem.W.kitOne K (.type "NoneType") (.ref (ct 15)) = some false
  ks_NoSplit_err15 : PySem.W.kitOne K (.ref (ct 15)) (.ref (ct 15)) = some true
  ks_NoWord_tyNoneType : PySem.W.kitOne K (.type "NoneType") (.ref (ct 9)) = some false
  ks_NoWord_err15 : PySem.W.kitOne K (.ref (ct 15)) (.ref (ct 9)) = some false
  ks_NoWriter_tyNoneType : PySem.W.kitOne K (.type "NoneType") (.ref (ct 22)) = some false
  ks_NoWriter_err15 : PySem.W.kitOne K (.ref (ct 15)) (.ref (ct 22)) = some false
  ks_Open_tyNoneType : PySem.W.kitOne K (.type "NoneType") (.ref (ct 18)) = some false
  ks_Open_err15 : PySem.W.kitOne K (.ref (ct 15)) (.ref (ct 18)) = some false
  ks_Scarce_tyNoneType : PySem.W.kitOne K (.type "NoneType") (.ref (ct 17)) = some false
  ks_Scarce_err15 : PySem.W.kitOne K (.ref (ct 15)) (.ref (ct 17)) = some false
  ks_Sheet_own1 : PySem.W.kitOne K (.ref (ct 1)) (.ref (ct 1)) = some true
  ks_TooMany_tyNoneType : PySem.W.kitOne K (.type "NoneType") (.ref (ct 8)) = some false
  ks_TooMany_err15 : PySem.W.kitOne K (.ref (ct 15)) (.ref (ct 8)) = some false
  ks_ValueError_err15 : PySem.W.kitOne K (.ref (ct 15)) (.type "ValueError") = some true
  ks_bool_err15 : PySem.W.kitOne K (.ref (ct 15)) (.type "bool") = some false
  ks_int_err15 : PySem.W.kitOne K (.ref (ct 15)) (.type "int") = some false
  ks_list_err15 : PySem.W.kitOne K (.ref (ct 15)) (.type "list") = some false
  z_ValueError : mg "ValueError" = none
  z_abs : mg "abs" = none
  z_all : mg "all" = none
  z_any : mg "any" = none
  z_bool : mg "bool" = none
  z_int : mg "int" = none
  z_isinstance : mg "isinstance" = none
  z_len : mg "len" = none
  z_list : mg "list" = none
  z_range : mg "range" = none
  z_sum : mg "sum" = none
section
variable {P : Program} {w : World} {K : PySem.W.Frag} {mg : Str → Option Value} {base : Heap} {ct fa : Nat → Addr}
theorem is_Barred (T : Txt K mg ct fa) : IsOk K ct (.ref (ct 11)) tb_Barred := by
  intro k b h
  cases k with
  | ty n =>
    simp only [tb_Barred] at h
    split at h
    · rename_i q; subst q; cases h; exact ⟨T.ks_Barred_tyNoneType, trivial⟩
    · cases h
  | own n => cases h
  | err n =>
    simp only [tb_Barred] at h
    split at h
    · rename_i q; subst q; cases h; exact ⟨T.ks_Barred_err15, T.ec_NoSplit⟩
    · cases h
  | no => cases h
theorem is_NoBand (T : Txt K mg ct fa) : IsOk K ct (.ref (ct 21)) tb_NoBand := by
  intro k b h
  cases k with
  | ty n =>
    simp only [tb_NoBand] at h
    split at h
    · rename_i q; subst q; cases h; exact ⟨T.ks_NoBand_tyNoneType, trivial⟩
    · cases h
  | own n => cases h
  | err n =>
    simp only [tb_NoBand] at h
    split at h
    · rename_i q; subst q; cases h; exact ⟨T.ks_NoBand_err15, T.ec_NoSplit⟩
    · cases h
  | no => cases h
theorem is_NoData (T : Txt K mg ct fa) : IsOk K ct (.ref (ct 19)) tb_NoData := by
  intro k b h
  cases k with
  | ty n =>
    simp only [tb_NoData] at h
    split at h
    · rename_i q; subst q; cases h; exact ⟨T.ks_NoData_tyNoneType, trivial⟩
    · cases h
  | own n => cases h
  | err n =>
    simp only [tb_NoData] at h
    split at h
    · rename_i q; subst q; cases h; exact ⟨T.ks_NoData_err15, T.ec_NoSplit⟩
    · cases h
  | no => cases h
theorem is_NoForm (T : Txt K mg ct fa) : IsOk K ct (.ref (ct 20)) tb_NoForm := by
  intro k b h
  cases k with
  | ty n =>
    simp only [tb_NoForm] at h
    split at h
    · rename_i q; subst q; cases h; exact ⟨T.ks_NoForm_tyNoneType, trivial⟩
    · cases h
  | own n => cases h
  | err n =>
    simp only [tb_NoForm] at h
    split at h
    · rename_i q; subst q; cases h; exact ⟨T.ks_NoForm_err15, T.ec_NoSplit⟩
    · cases h
  | no => cases h
theorem is_NoLength (T : Txt K mg ct fa) : IsOk K ct (.ref (ct 16)) tb_NoLength := by
  intro k b h
  cases k with
  | ty n =>
    simp only [tb_NoLength] at h
    split at h
    · rename_i q; subst q; cases h; exact ⟨T.ks_NoLength_tyNoneType, trivial⟩
    · cases h
  | own n => cases h
  | err n =>
    simp only [tb_NoLength] at h
    split at h
    · rename_i q; subst q; cases h; exact ⟨T.ks_NoLength_err15, T.ec_NoSplit⟩
    · cases h
  | no => cases h
theorem is_NoNumber (T : Txt K mg ct fa) : IsOk K ct (.ref (ct 13)) tb_NoNumber := by
  intro k b h
  cases k with
  | ty n =>
    simp only [tb_NoNumber] at h
    split at h
    · rename_i q; subst q; cases h; exact ⟨T.ks_NoNumber_tyNoneType, trivial⟩
    · cases h
  | own n => cases h
  | err n =>
    simp only [tb_NoNumber] at h
    split at h
    · rename_i q; subst q; cases h; exact ⟨T.ks_NoNumber_err15, T.ec_NoSplit⟩
    · cases h
  | no => cases h
theorem is_NoPlace (T : Txt K mg ct fa) : IsOk K ct (.ref (ct 12)) tb_NoPlace := by
  intro k b h
  cases k with
  | ty n =>
    simp only [tb_NoPlace] at h
    split at h
    · rename_i q; subst q; cases h; exact ⟨T.ks_NoPlace_tyNoneType, trivial⟩
    · cases h
  | own n => cases h
  | err n =>
    simp only [tb_NoPlace] at h
    split at h
    · rename_i q; subst q; cases h; exact ⟨T.ks_NoPlace_err15, T.ec_NoSplit⟩
    · cases h
  | no => cases h
theorem is_NoRate (T : Txt K mg ct fa) : IsOk K ct (.ref (ct 14)) tb_NoRate := by
  intro k b h
  cases k with
  | ty n =>
    simp only [tb_NoRate] at h
    split at h
    · rename_i q; subst q; cases h; exact ⟨T.ks_NoRate_tyNoneType, trivial⟩
    · cases h
  | own n => cases h
  | err n =>
    simp only [tb_NoRate] at h
    split at h
    · rename_i q; subst q; cases h; exact ⟨T.ks_NoRate_err15, T.ec_NoSplit⟩
    · cases h
  | no => cases h
theorem is_NoRow (T : Txt K mg ct fa) : IsOk K ct (.ref (ct 10)) tb_NoRow := by
  intro k b h
  cases k with
  | ty n =>
    simp only [tb_NoRow] at h
    split at h
    · rename_i q; subst q; cases h; exact ⟨T.ks_NoRow_tyNoneType, trivial⟩
    · cases h
  | own n => cases h
  | err n =>
    simp only [tb_NoRow] at h
    split at h
    · rename_i q; subst q; cases h; exact ⟨T.ks_NoRow_err15, T.ec_NoSplit⟩
    · cases h
  | no => cases h
theorem is_NoSigns (T : Txt K mg ct fa) : IsOk K ct (.ref (ct 7)) tb_NoSigns := by
  intro k b h
  cases k with
  | ty n =>
    simp only [tb_NoSigns] at h
    split at h
    · rename_i q; subst q; cases h; exact ⟨T.ks_NoSigns_tyNoneType, trivial⟩
    · cases h
  | own n => cases h
  | err n =>
    simp only [tb_NoSigns] at h
    split at h
    · rename_i q; subst q; cases h; exact ⟨T.ks_NoSigns_err15, T.ec_NoSplit⟩
    · cases h
  | no => cases h
theorem is_NoSplit (T : Txt K mg ct fa) : IsOk K ct (.ref (ct 15)) tb_NoSplit := by
  intro k b h
  cases k with
  | ty n =>
    simp only [tb_NoSplit] at h
    split at h
    · rename_i q; subst q; cases h; exact ⟨T.ks_NoSplit_tyNoneType, trivial⟩
    · cases h
  | own n => cases h
  | err n =>
    simp only [tb_NoSplit] at h
    split at h
    · rename_i q; subst q; cases h; exact ⟨T.ks_NoSplit_err15, T.ec_NoSplit⟩
    · cases h
  | no => cases h
theorem is_NoWord (T : Txt K mg ct fa) : IsOk K ct (.ref (ct 9)) tb_NoWord := by
  intro k b h
  cases k with
  | ty n =>
    simp only [tb_NoWord] at h
    split at h
    · rename_i q; subst q; cases h; exact ⟨T.ks_NoWord_tyNoneType, trivial⟩
    · cases h
  | own n => cases h
  | err n =>
    simp only [tb_NoWord] at h
    split at h
    · rename_i q; subst q; cases h; exact ⟨T.ks_NoWord_err15, T.ec_NoSplit⟩
    · cases h
  | no => cases h
theorem is_NoWriter (T : Txt K mg ct fa) : IsOk K ct (.ref (ct 22)) tb_NoWriter := by
  intro k b h
  cases k with
  | ty n =>
    simp only [tb_NoWriter] at h
    split at h
    · rename_i q; subst q; cases h; exact ⟨T.ks_NoWriter_tyNoneType, trivial⟩
    · cases h
  | own n => cases h
  | err n =>
    simp only [tb_NoWriter] at h
    split at h
    · rename_i q; subst q; cases h; exact ⟨T.ks_NoWriter_err15, T.ec_NoSplit⟩
    · cases h
  | no => cases h
theorem is_Open (T : Txt K mg ct fa) : IsOk K ct (.ref (ct 18)) tb_Open := by
  intro k b h
  cases k with
  | ty n =>
    simp only [tb_Open] at h
    split at h
    · rename_i q; subst q; cases h; exact ⟨T.ks_Open_tyNoneType, trivial⟩
    · cases h
  | own n => cases h
  | err n =>
    simp only [tb_Open] at h
    split at h
    · rename_i q; subst q; cases h; exact ⟨T.ks_Open_err15, T.ec_NoSplit⟩
    · cases h
  | no => cases h
theorem is_Scarce (T : Txt K mg ct fa) : IsOk K ct (.ref (ct 17)) tb_Scarce := by
  intro k b h
  cases k with
  | ty n =>
    simp only [tb_Scarce] at h
    split at h
    · rename_i q; subst q; cases h; exact ⟨T.ks_Scarce_tyNoneType, trivial⟩
    · cases h
  | own n => cases h
  | err n =>
    simp only [tb_Scarce] at h
    split at h
    · rename_i q; subst q; cases h; exact ⟨T.ks_Scarce_err15, T.ec_NoSplit⟩
    · cases h
  | no => cases h
theorem is_Sheet (T : Txt K mg ct fa) : IsOk K ct (.ref (ct 1)) tb_Sheet := by
  intro k b h
  cases k with
  | ty n => cases h
  | own n =>
    simp only [tb_Sheet] at h
    split at h
    · rename_i q; subst q; cases h; exact ⟨T.ks_Sheet_own1, T.ow_1⟩
    · cases h
  | err n => cases h
  | no => cases h
theorem is_TooMany (T : Txt K mg ct fa) : IsOk K ct (.ref (ct 8)) tb_TooMany := by
  intro k b h
  cases k with
  | ty n =>
    simp only [tb_TooMany] at h
    split at h
    · rename_i q; subst q; cases h; exact ⟨T.ks_TooMany_tyNoneType, trivial⟩
    · cases h
  | own n => cases h
  | err n =>
    simp only [tb_TooMany] at h
    split at h
    · rename_i q; subst q; cases h; exact ⟨T.ks_TooMany_err15, T.ec_NoSplit⟩
    · cases h
  | no => cases h
theorem is_ValueError (T : Txt K mg ct fa) : IsOk K ct (.type "ValueError") tb_ValueError := by
  intro k b h
  cases k with
  | ty n =>
    simp only [tb_ValueError] at h
    split at h
    · rename_i q; subst q; cases h; exact ⟨kit_ty (by decide +kernel), trivial⟩
    split at h
    · rename_i q; subst q; cases h; exact ⟨kit_ty (by decide +kernel), trivial⟩
    split at h
    · rename_i q; subst q; cases h; exact ⟨kit_ty (by decide +kernel), trivial⟩
    split at h
    · rename_i q; subst q; cases h; exact ⟨kit_ty (by decide +kernel), trivial⟩
    split at h
    · rename_i q; subst q; cases h; exact ⟨kit_ty (by decide +kernel), trivial⟩
    split at h
    · rename_i q; subst q; cases h; exact ⟨kit_ty (by decide +kernel), trivial⟩
    split at h
    · rename_i q; subst q; cases h; exact ⟨kit_ty (by decide +kernel), trivial⟩
    · cases h
  | own n => cases h
  | err n =>
    simp only [tb_ValueError] at h
    split at h
    · rename_i q; subst q; cases h; exact ⟨T.ks_ValueError_err15, T.ec_NoSplit⟩
    · cases h
  | no => cases h
theorem is_bool (T : Txt K mg ct fa) : IsOk K ct (.type "bool") tb_bool := by
  intro k b h
  cases k with
  | ty n =>
    simp only [tb_bool] at h
    split at h
    · rename_i q; subst q; cases h; exact ⟨kit_ty (by decide +kernel), trivial⟩
    split at h
    · rename_i q; subst q; cases h; exact ⟨kit_ty (by decide +kernel), trivial⟩
    split at h
    · rename_i q; subst q; cases h; exact ⟨kit_ty (by decide +kernel), trivial⟩
    split at h
    · rename_i q; subst q; cases h; exact ⟨kit_ty (by decide +kernel), trivial⟩
    split at h
    · rename_i q; subst q; cases h; exact ⟨kit_ty (by decide +kernel), trivial⟩
    split at h
    · rename_i q; subst q; cases h; exact ⟨kit_ty (by decide +kernel), trivial⟩
    split at h
    · rename_i q; subst q; cases h; exact ⟨kit_ty (by decide +kernel), trivial⟩
    · cases h
  | own n => cases h
  | err n =>
    simp only [tb_bool] at h
    split at h
    · rename_i q; subst q; cases h; exact ⟨T.ks_bool_err15, T.ec_NoSplit⟩
    · cases h
  | no => cases h
theorem is_int (T : Txt K mg ct fa) : IsOk K ct (.type "int") tb_int := by
  intro k b h
  cases k with
  | ty n =>
    simp only [tb_int] at h
    split at h
    · rename_i q; subst q; cases h; exact ⟨kit_ty (by decide +kernel), trivial⟩
    split at h
    · rename_i q; subst q; cases h; exact ⟨kit_ty (by decide +kernel), trivial⟩
    split at h
    · rename_i q; subst q; cases h; exact ⟨kit_ty (by decide +kernel), trivial⟩
    split at h
    · rename_i q; subst q; cases h; exact ⟨kit_ty (by decide +kernel), trivial⟩
    split at h
    · rename_i q; subst q; cases h; exact ⟨kit_ty (by decide +kernel), trivial⟩
    split at h
    · rename_i q; subst q; cases h; exact ⟨kit_ty (by decide +kernel), trivial⟩
    split at h
    · rename_i q; subst q; cases h; exact ⟨kit_ty (by decide +kernel), trivial⟩
    · cases h
  | own n => cases h
  | err n =>
    simp only [tb_int] at h
    split at h
    · rename_i q; subst q; cases h; exact ⟨T.ks_int_err15, T.ec_NoSplit⟩
    · cases h
  | no => cases h
theorem is_list (T : Txt K mg ct fa) : IsOk K ct (.type "list") tb_list := by
  intro k b h
  cases k with
  | ty n =>
    simp only [tb_list] at h
    split at h
    · rename_i q; subst q; cases h; exact ⟨kit_ty (by decide +kernel), trivial⟩
    split at h
    · rename_i q; subst q; cases h; exact ⟨kit_ty (by decide +kernel), trivial⟩
    split at h
    · rename_i q; subst q; cases h; exact ⟨kit_ty (by decide +kernel), trivial⟩
    split at h
    · rename_i q; subst q; cases h; exact ⟨kit_ty (by decide +kernel), trivial⟩
    split at h
    · rename_i q; subst q; cases h; exact ⟨kit_ty (by decide +kernel), trivial⟩
    split at h
    · rename_i q; subst q; cases h; exact ⟨kit_ty (by decide +kernel), trivial⟩
    split at h
    · rename_i q; subst q; cases h; exact ⟨kit_ty (by decide +kernel), trivial⟩
    · cases h
  | own n => cases h
  | err n =>
    simp only [tb_list] at h
    split at h
    · rename_i q; subst q; cases h; exact ⟨T.ks_list_err15, T.ec_NoSplit⟩
    · cases h
  | no => cases h
theorem cat_BandError_ok (T : Txt K mg ct fa) : ∀ n b, cat_BandError n = some b → PySem.W.exmOne K (.ref (ct n)) (.ref (ct 6)) = some b := by
  intro n b h
  simp only [cat_BandError] at h
  split at h
  · rename_i q; subst q; cases h; exact T.xm_NoSplit_BandError
  · cases h
theorem sc_Sheet__init_ : FnScope ["self", "homes", "weights", "lines", "line"] ["self", "homes", "weights", "lines"] (L2.defScope s_Sheet__init_) := ⟨rfl, rfl, rfl, by decide +kernel, rfl, by decide +kernel, by decide +kernel⟩
theorem ok_Sheet__init_ (T : Txt K mg ct fa) {fd : FuncData} (F : L2.Fun K "__init__" "Sheet.__init__" s_Sheet__init_ (fa 0) fd) : FnOk P w K mg base (L2.CX P w) 1 (fa 0) fd ["self", "homes", "weights", "lines"] (spI K ct 1 [false, false, false] m_Sheet__init_) := by
  refine init_ok (k := 0) (N := ["self", "homes", "weights", "lines", "line"]) F sc_Sheet__init_ rfl fun cdv A outer s H E hr => ?_
  have nd := sc_Sheet__init_.nd
  exact (p_cons (p_fld 1 0 T.cl_1 T.na_1_homes (e_n (e_list T.z_list (by rfl)  (e_b (e_loc 1)))))
    (p_cons (p_fld 1 0 T.cl_1 T.na_1_weights (e_n (e_list T.z_list (by rfl)  (e_b (e_loc 2)))))
    (p_one (p_fld 1 0 T.cl_1 T.na_1_lines (e_n (e_comp [("line", 4)] rfl rfl nd (i_any (m := true) o0_own fit0 (e_b (e_loc 3))) (blkOk_by (own := [("line", 4)]) (N := ["self", "homes", "weights", "lines", "line"]) (sc := L2.defScope s_Sheet__init_) (by decide +kernel)) (fun _ _ _ _ _ => (pg_name (i := 4) nd rfl (by first | exact Or.inl rfl | exact Or.inr rfl))) (tg_nm 4) (by decide) (fun _ _ _ _ _ => ts_nil) (fun _ _ _ _ _ => (e_n (e_list T.z_list (by rfl)  (e_b (e_loc 4)))))))))))
theorem cal_Sheet__init_ (T : Txt K mg ct fa) : Cal P w K mg base 1 (fa 0) (spI K ct 1 [false, false, false] m_Sheet__init_) := by
  obtain ⟨fd, F⟩ := T.F_Sheet__init_
  refine ⟨⟨fd, ["self", "homes", "weights", "lines"], ok_Sheet__init_ T F, ?_⟩, F.kp⟩
  exact F.binds fun _ _ _ _ _ _ us hl => match us, hl with | [_, _, _, _], _ => rfl
theorem sc_borne_by : FnScope ["sheet", "line", "word", "end"] ["sheet", "line"] (L2.defScope s_borne_by) := ⟨rfl, rfl, rfl, by decide +kernel, rfl, by decide +kernel, by decide +kernel⟩
theorem ok_borne_by (T : Txt K mg ct fa) {fd : FuncData} (F : L2.Fun K "borne_by" "borne_by" s_borne_by (fa 1) fd) : FnOk P w K mg base (L2.CX P w) 1 (fa 1) fd ["sheet", "line"] (spP K ct [false, false] false m_borne_by) := by
  refine fn_ok (k := 0) (N := ["sheet", "line", "word", "end"]) F sc_borne_by rfl fun cdv A outer s H E hr => ?_
  have nd := sc_borne_by.nd
  exact (p_one (p_ret (e_sum T.z_sum (by rfl) rfl (e_b (e_n (e_comp [("word", 2), ("end", 3)] rfl rfl nd (i_any (m := true) o0_own fit0 (e_b (e_loc 1))) (blkOk_by (own := [("word", 2), ("end", 3)]) (N := ["sheet", "line", "word", "end"]) (sc := L2.defScope s_borne_by) (by decide +kernel)) (fun _ _ _ _ _ => (pg_tup rfl (pgs_cons (pg_name (i := 2) nd rfl (by first | exact Or.inl rfl | exact Or.inr rfl)) (pgs_cons (pg_name (i := 3) nd rfl (by first | exact Or.inl rfl | exact Or.inr rfl)) pgs_nil)))) (tg_tp [2, 3]) (by decide) (fun _ _ _ _ _ => ts_nil) (fun _ _ _ _ _ => (e_ix (hu_of hr) (e_b (e_fld 1 T.cl_1 T.na_1_weights (e_b (e_loc 0)))) (e_loc 3)))))))))
theorem cal_borne_by (T : Txt K mg ct fa) : Cal P w K mg base 1 (fa 1) (spP K ct [false, false] false m_borne_by) := by
  obtain ⟨fd, F⟩ := T.F_borne_by
  refine ⟨⟨fd, ["sheet", "line"], ok_borne_by T F, ?_⟩, F.kp⟩
  exact F.binds fun _ _ _ _ _ _ us hl => match us, hl with | [_, _], _ => rfl
theorem sc_doubled : FnScope ["line", "desk", "other", "found", "word", "end"] ["line", "desk", "other"] (L2.defScope s_doubled) := ⟨rfl, rfl, rfl, by decide +kernel, rfl, by decide +kernel, by decide +kernel⟩
theorem ok_doubled (T : Txt K mg ct fa) {fd : FuncData} (F : L2.Fun K "doubled" "doubled" s_doubled (fa 2) fd) : FnOk P w K mg base (L2.CX P w) 1 (fa 2) fd ["line", "desk", "other"] (spP K ct [false, false, false] false m_doubled) := by
  refine fn_ok (k := 0) (N := ["line", "desk", "other", "found", "word", "end"]) F sc_doubled rfl fun cdv A outer s H E hr => ?_
  have nd := sc_doubled.nd
  exact (p_cons (p_own (i := 3) nd rfl (by first | exact Or.inl rfl | exact Or.inr rfl) (e_lst (k := 0) 0 a_nil))
    (p_cons (p_for (passes_of rfl) rfl (tg_tp [4, 5]) (i_any (m := false) o1_own fit1 (e_loc 0)) (pg_tup rfl (pgs_cons (pg_name (i := 4) nd rfl (by first | exact Or.inl rfl | exact Or.inr rfl)) (pgs_cons (pg_name (i := 5) nd rfl (by first | exact Or.inl rfl | exact Or.inr rfl)) pgs_nil))) (p_cons (p_app 3 (e_tup 2 (a_cons (m := false) (e_loc 4) (a_cons (m := false) (e_loc 5) a_nil))))
    (p_one (p_if (t_eq hr (e_b (e_loc 5)) (e_b (e_loc 1))) (p_one (p_app 3 (e_tup 2 (a_cons (m := false) (e_loc 4) (a_cons (m := false) (e_loc 2) a_nil))))) p_nil))))
    (p_frz 3 (p_one (p_ret (e_loc 3))))))
theorem cal_doubled (T : Txt K mg ct fa) : Cal P w K mg base 1 (fa 2) (spP K ct [false, false, false] false m_doubled) := by
  obtain ⟨fd, F⟩ := T.F_doubled
  refine ⟨⟨fd, ["line", "desk", "other"], ok_doubled T F, ?_⟩, F.kp⟩
  exact F.binds fun _ _ _ _ _ _ us hl => match us, hl with | [_, _, _], _ => rfl
theorem sc_law_nth : FnScope ["_law_script", "_law_k", "_law_cell"] ["_law_script", "_law_k"] (L2.defScope s_law_nth) := ⟨rfl, rfl, rfl, by decide +kernel, rfl, by decide +kernel, by decide +kernel⟩
theorem ok_law_nth (T : Txt K mg ct fa) {fd : FuncData} (F : L2.Fun K "_law_nth" "_law_nth" s_law_nth (fa 4) fd) : FnOk P w K mg base (L2.CX P w) 1 (fa 4) fd ["_law_script", "_law_k"] (spP K ct [false, false] false m_law_nth) := by
  refine fn_ok (k := 0) (N := ["_law_script", "_law_k", "_law_cell"]) F sc_law_nth rfl fun cdv A outer s H E hr => ?_
  have nd := sc_law_nth.nd
  exact (p_cons (p_for (passes_of rfl) rfl (tg_nm 2) (i_any (m := false) o1_own fit1 (e_slice (e_b (e_loc 0)) (o_some (e_loc 1)) (o_some (e_add (e_b (e_loc 1)) (e_b e_int))))) (pg_name (i := 2) nd rfl (by first | exact Or.inl rfl | exact Or.inr rfl)) (p_one (p_ret (e_loc 2))))
    (p_one (p_ret e_int)))
theorem cal_law_nth (T : Txt K mg ct fa) : Cal P w K mg base 1 (fa 4) (spP K ct [false, false] false m_law_nth) := by
  obtain ⟨fd, F⟩ := T.F_law_nth
  refine ⟨⟨fd, ["_law_script", "_law_k"], ok_law_nth T F, ?_⟩, F.kp⟩
  exact F.binds fun _ _ _ _ _ _ us hl => match us, hl with | [_, _], _ => rfl
theorem sc_law_mixed : FnScope ["_law_cell", "_law_turn", "_law_many", "_law_digits", "_law_step", "_law_low", "_law_high", "_law_number"] ["_law_cell", "_law_turn", "_law_many"] (L2.defScope s_law_mixed) := ⟨rfl, rfl, rfl, by decide +kernel, rfl, by decide +kernel, by decide +kernel⟩
theorem ok_law_mixed (T : Txt K mg ct fa) {fd : FuncData} (F : L2.Fun K "_law_mixed" "_law_mixed" s_law_mixed (fa 5) fd) : FnOk P w K mg base (L2.CX P w) 1 (fa 5) fd ["_law_cell", "_law_turn", "_law_many"] (spP K ct [false, false, false] false m_law_mixed) := by
  refine fn_ok (k := 0) (N := ["_law_cell", "_law_turn", "_law_many", "_law_digits", "_law_step", "_law_low", "_law_high", "_law_number"]) F sc_law_mixed rfl fun cdv A outer s H E hr => ?_
  have nd := sc_law_mixed.nd
  exact (p_cons (p_if (t_eq hr (e_b (e_mod (e_loc 0) e_int)) (e_b e_int)) (p_cons (p_set (i := 3) nd rfl (by first | exact Or.inl rfl | exact Or.inr rfl) (e_fdiv (e_abs T.z_abs (by rfl)  (e_loc 0)) e_int))
    (p_cons (p_for (passes_of rfl) rfl (tg_nm 4) (i_rng1 (by rfl) T.z_range (a_cons (m := false) (e_loc 1) a_nil)) (pg_name (i := 4) nd rfl (by first | exact Or.inl rfl | exact Or.inr rfl)) (p_one (p_set (i := 3) nd rfl (by first | exact Or.inl rfl | exact Or.inr rfl) (e_fdiv (e_loc 3) e_int))))
    (p_one (p_ret (e_mod (e_mod (e_loc 3) e_int) (e_loc 2)))))) p_nil)
    (p_cons (p_set (i := 5) nd rfl (by first | exact Or.inl rfl | exact Or.inr rfl) (e_mod (e_loc 0) e_int))
    (p_cons (p_set (i := 6) nd rfl (by first | exact Or.inl rfl | exact Or.inr rfl) (e_mod (e_fdiv (e_loc 0) e_int) e_int))
    (p_cons (p_set (i := 7) nd rfl (by first | exact Or.inl rfl | exact Or.inr rfl) (e_add (e_b (e_mul (e_loc 5) (e_add (e_b e_int) (e_b (e_mul (e_loc 1) e_int))))) (e_b (e_mul (e_loc 6) (e_add (e_b (e_loc 1)) (e_b e_int))))))
    (p_cons (p_set (i := 7) nd rfl (by first | exact Or.inl rfl | exact Or.inr rfl) (e_mod (e_add (e_b (e_add (e_b (e_loc 7)) (e_b (e_mul (e_mul (e_loc 1) (e_loc 1)) e_int)))) (e_b e_int)) e_int))
    (p_one (p_ret (e_mod (e_mod (e_mul (e_loc 7) (e_loc 7)) e_int) (e_loc 2)))))))))
theorem cal_law_mixed (T : Txt K mg ct fa) : Cal P w K mg base 1 (fa 5) (spP K ct [false, false, false] false m_law_mixed) := by
  obtain ⟨fd, F⟩ := T.F_law_mixed
  refine ⟨⟨fd, ["_law_cell", "_law_turn", "_law_many"], ok_law_mixed T F, ?_⟩, F.kp⟩
  exact F.binds fun _ _ _ _ _ _ us hl => match us, hl with | [_, _, _], _ => rfl
theorem sc_law_part : FnScope ["_law_lines", "_law_weights", "_law_desk", "_law_numbers", "_law_some", "_law_k", "_law_others_here", "_law_sums", "_law_word", "_law_end", "_law_line"] ["_law_lines", "_law_weights", "_law_desk", "_law_numbers"] (L2.defScope s_law_part) := ⟨rfl, rfl, rfl, by decide +kernel, rfl, by decide +kernel, by decide +kernel⟩
theorem ok_law_part (T : Txt K mg ct fa) {fd : FuncData} (F : L2.Fun K "_law_part" "_law_part" s_law_part (fa 8) fd) : FnOk P w K mg base (L2.CX P w) 1 (fa 8) fd ["_law_lines", "_law_weights", "_law_desk", "_law_numbers"] (spP K ct [false, false, false, false] false m_law_part) := by
  refine fn_ok (k := 0) (N := ["_law_lines", "_law_weights", "_law_desk", "_law_numbers", "_law_some", "_law_k", "_law_others_here", "_law_sums", "_law_word", "_law_end", "_law_line"]) F sc_law_part rfl fun cdv A outer s H E hr => ?_
  have nd := sc_law_part.nd
  exact (p_cons (p_comp (i := 4) [("_law_k", 5)] rfl rfl nd rfl rfl (sw_true rfl rfl rfl (by decide +kernel)) (i_rng1 (by rfl) T.z_range (a_cons (m := false) (e_len T.z_len (by rfl)  (e_b (e_ix (hu_of hr) (e_b (e_loc 0)) (e_loc 2)))) a_nil)) (blkOk_by (own := [("_law_k", 5)]) (N := ["_law_lines", "_law_weights", "_law_desk", "_law_numbers", "_law_some", "_law_k", "_law_others_here", "_law_sums", "_law_word", "_law_end", "_law_line"]) (sc := L2.defScope s_law_part) (by decide +kernel)) (fun _ _ _ _ _ => (pg_name (i := 5) nd rfl (by first | exact Or.inl rfl | exact Or.inr rfl))) (tg_nm 5) (by decide) (fun _ _ _ _ _ => (ts_one (t_in hr (e_loc 5) (e_b (e_loc 3))))) (fun _ _ _ _ _ => (e_ix (hu_of hr) (e_b (e_ix (hu_of hr) (e_b (e_loc 0)) (e_loc 2))) (e_loc 5))))
    (p_cons (p_comp (i := 6) [("_law_k", 5)] rfl rfl nd rfl rfl (sw_true rfl rfl rfl (by decide +kernel)) (i_rng1 (by rfl) T.z_range (a_cons (m := false) (e_len T.z_len (by rfl)  (e_b (e_ix (hu_of hr) (e_b (e_loc 0)) (e_loc 2)))) a_nil)) (blkOk_by (own := [("_law_k", 5)]) (N := ["_law_lines", "_law_weights", "_law_desk", "_law_numbers", "_law_some", "_law_k", "_law_others_here", "_law_sums", "_law_word", "_law_end", "_law_line"]) (sc := L2.defScope s_law_part) (by decide +kernel)) (fun _ _ _ _ _ => (pg_name (i := 5) nd rfl (by first | exact Or.inl rfl | exact Or.inr rfl))) (tg_nm 5) (by decide) (fun _ _ _ _ _ => (ts_one (t_notIn hr (e_loc 5) (e_b (e_loc 3))))) (fun _ _ _ _ _ => (e_ix (hu_of hr) (e_b (e_ix (hu_of hr) (e_b (e_loc 0)) (e_loc 2))) (e_loc 5))))
    (p_frz 6 (p_frz 4 (p_cons (p_comp (i := 7) [("_law_line", 10)] rfl rfl nd rfl rfl (sw_true rfl rfl rfl (by decide +kernel)) (i_any (m := true) o0_own fit0 (e_b (e_n (e_lst (k := 0) 2 (a_cons (m := false) (e_loc 4) (a_cons (m := false) (e_loc 6) a_nil)))))) (blkOk_by (own := [("_law_line", 10)]) (N := ["_law_lines", "_law_weights", "_law_desk", "_law_numbers", "_law_some", "_law_k", "_law_others_here", "_law_sums", "_law_word", "_law_end", "_law_line"]) (sc := L2.defScope s_law_part) (by decide +kernel)) (fun _ _ _ _ _ => (pg_name (i := 10) nd rfl (by first | exact Or.inl rfl | exact Or.inr rfl))) (tg_nm 10) (by decide) (fun _ _ _ _ _ => ts_nil) (fun _ _ _ _ _ => (e_sum T.z_sum (by rfl) rfl (e_b (e_n (e_comp [("_law_word", 8), ("_law_end", 9)] rfl rfl nd (i_any (m := true) o0_own fit0 (e_b (e_loc 10))) (blkOk_by (own := [("_law_word", 8), ("_law_end", 9)]) (N := ["_law_lines", "_law_weights", "_law_desk", "_law_numbers", "_law_some", "_law_k", "_law_others_here", "_law_sums", "_law_word", "_law_end", "_law_line"]) (by rfl)) (fun _ _ _ _ _ => (pg_tup rfl (pgs_cons (pg_name (i := 8) nd rfl (by first | exact Or.inl rfl | exact Or.inr rfl)) (pgs_cons (pg_name (i := 9) nd rfl (by first | exact Or.inl rfl | exact Or.inr rfl)) pgs_nil)))) (tg_tp [8, 9]) (by decide) (fun _ _ _ _ _ => ts_nil) (fun _ _ _ _ _ => (e_ix (hu_of hr) (e_b (e_loc 1)) (e_loc 9)))))))))
    (p_frz 7 (p_one (p_ret (e_tup 3 (a_cons (m := false) (e_loc 4) (a_cons (m := false) (e_loc 6) (a_cons (m := false) (e_loc 7) a_nil))))))))))))
theorem cal_law_part (T : Txt K mg ct fa) : Cal P w K mg base 1 (fa 8) (spP K ct [false, false, false, false] false m_law_part) := by
  obtain ⟨fd, F⟩ := T.F_law_part
  refine ⟨⟨fd, ["_law_lines", "_law_weights", "_law_desk", "_law_numbers"], ok_law_part T F, ?_⟩, F.kp⟩
  exact F.binds fun _ _ _ _ _ _ us hl => match us, hl with | [_, _, _, _], _ => rfl
theorem sc_law_is_sheet : FnScope ["_law_found", "_law_due", "_law_line", "_law_weight"] ["_law_found", "_law_due"] (L2.defScope s_law_is_sheet) := ⟨rfl, rfl, rfl, by decide +kernel, rfl, by decide +kernel, by decide +kernel⟩
theorem ok_law_is_sheet (T : Txt K mg ct fa) {fd : FuncData} (F : L2.Fun K "_law_is_sheet" "_law_is_sheet" s_law_is_sheet (fa 10) fd) : FnOk P w K mg base (L2.CX P w) 1 (fa 10) fd ["_law_found", "_law_due"] (spP K ct [false, false] false m_law_is_sheet) := by
  refine fn_ok (k := 0) (N := ["_law_found", "_law_due", "_law_line", "_law_weight"]) F sc_law_is_sheet rfl fun cdv A outer s H E hr => ?_
  have nd := sc_law_is_sheet.nd
  exact (p_cons (p_if (PW.pt (t_or (t_not (t_val (e_isi (by rfl) T.z_isinstance (e_b (e_loc 0)) (e_clsO (by rfl) T.g_Sheet) (.own _) (is_Sheet T)))) (t_or (t_not (t_val (e_isi (by rfl) T.z_isinstance (e_b (e_fld 1 T.cl_1 T.na_1_homes (e_b (e_loc 0)))) (e_clsT (by rfl) T.z_list (by decide +kernel)) (.ty _) (is_list T)))) (t_or1 (t_not (t_val (e_isi (by rfl) T.z_isinstance (e_b (e_fld 1 T.cl_1 T.na_1_weights (e_b (e_loc 0)))) (e_clsT (by rfl) T.z_list (by decide +kernel)) (.ty _) (is_list T)))))))) (p_one (p_ret e_bl)) p_nil)
    (p_cons (p_if (PW.pt (t_or (t_not (t_val (e_isi (by rfl) T.z_isinstance (e_b (e_fld 1 T.cl_1 T.na_1_lines (e_b (e_loc 0)))) (e_clsT (by rfl) T.z_list (by decide +kernel)) (.ty _) (is_list T)))) (t_or1 (t_not (t_val (e_all T.z_all (by rfl) rfl (e_b (e_n (e_comp [("_law_line", 2)] rfl rfl nd (i_any (m := true) o0_own fit0 (e_b (e_fld 1 T.cl_1 T.na_1_lines (e_b (e_loc 0))))) (blkOk_by (own := [("_law_line", 2)]) (N := ["_law_found", "_law_due", "_law_line", "_law_weight"]) (sc := L2.defScope s_law_is_sheet) (by decide +kernel)) (fun _ _ _ _ _ => (pg_name (i := 2) nd rfl (by first | exact Or.inl rfl | exact Or.inr rfl))) (tg_nm 2) (by decide) (fun _ _ _ _ _ => ts_nil) (fun _ _ _ _ _ => (e_isi (by rfl) T.z_isinstance (e_b (e_loc 2)) (e_clsT (by rfl) T.z_list (by decide +kernel)) (.ty _) (is_list T)))))))))))) (p_one (p_ret e_bl)) p_nil)
    (p_cons (p_if (t_not (t_val (e_all T.z_all (by rfl) rfl (e_b (e_n (e_comp [("_law_weight", 3)] rfl rfl nd (i_any (m := true) o0_own fit0 (e_b (e_fld 1 T.cl_1 T.na_1_weights (e_b (e_loc 0))))) (blkOk_by (own := [("_law_weight", 3)]) (N := ["_law_found", "_law_due", "_law_line", "_law_weight"]) (sc := L2.defScope s_law_is_sheet) (by decide +kernel)) (fun _ _ _ _ _ => (pg_name (i := 3) nd rfl (by first | exact Or.inl rfl | exact Or.inr rfl))) (tg_nm 3) (by decide) (fun _ _ _ _ _ => ts_nil) (fun _ _ _ _ _ => (e_and (e_isi (by rfl) T.z_isinstance (e_b (e_loc 3)) (e_clsT (by rfl) T.z_int (by decide +kernel)) (.ty _) (is_int T)) (e_one (e_not (e_isi (by rfl) T.z_isinstance (e_b (e_loc 3)) (e_clsT (by rfl) T.z_bool (by decide +kernel)) (.ty _) (is_bool T)))))))))))) (p_one (p_ret e_bl)) p_nil)
    (p_one (p_ret (e_eq hr (e_b (e_tup 3 (a_cons (m := false) (e_fld 1 T.cl_1 T.na_1_homes (e_b (e_loc 0))) (a_cons (m := false) (e_fld 1 T.cl_1 T.na_1_weights (e_b (e_loc 0))) (a_cons (m := false) (e_fld 1 T.cl_1 T.na_1_lines (e_b (e_loc 0))) a_nil))))) (e_b (e_loc 1))))))))
theorem cal_law_is_sheet (T : Txt K mg ct fa) : Cal P w K mg base 1 (fa 10) (spP K ct [false, false] false m_law_is_sheet) := by
  obtain ⟨fd, F⟩ := T.F_law_is_sheet
  refine ⟨⟨fd, ["_law_found", "_law_due"], ok_law_is_sheet T F, ?_⟩, F.kp⟩
  exact F.binds fun _ _ _ _ _ _ us hl => match us, hl with | [_, _], _ => rfl
theorem sc_law_others : FnScope ["_law_e"] ["_law_e"] (L2.defScope s_law_others) := ⟨rfl, rfl, rfl, by decide +kernel, rfl, by decide +kernel, by decide +kernel⟩
theorem ok_law_others (T : Txt K mg ct fa) {fd : FuncData} (F : L2.Fun K "_law_others" "_law_others" s_law_others (fa 12) fd) : FnOk P w K mg base (L2.CX P w) 1 (fa 12) fd ["_law_e"] (spP K ct [false] false m_law_others) := by
  refine fn_ok (k := 0) (N := ["_law_e"]) F sc_law_others rfl fun cdv A outer s H E hr => ?_
  have nd := sc_law_others.nd
  exact (p_cons (p_if (PW.pt (t_or (t_val (e_isi (by rfl) T.z_isinstance (e_b (e_loc 0)) (e_clsO (by rfl) T.g_Barred) (.own _) (is_Barred T))) (t_or (t_val (e_isi (by rfl) T.z_isinstance (e_b (e_loc 0)) (e_clsO (by rfl) T.g_NoBand) (.own _) (is_NoBand T))) (t_or (t_val (e_isi (by rfl) T.z_isinstance (e_b (e_loc 0)) (e_clsO (by rfl) T.g_NoData) (.own _) (is_NoData T))) (t_or1 (t_val (e_isi (by rfl) T.z_isinstance (e_b (e_loc 0)) (e_clsO (by rfl) T.g_NoForm) (.own _) (is_NoForm T)))))))) (p_one (p_ret e_bl)) p_nil)
    (p_cons (p_if (PW.pt (t_or (t_val (e_isi (by rfl) T.z_isinstance (e_b (e_loc 0)) (e_clsO (by rfl) T.g_NoLength) (.own _) (is_NoLength T))) (t_or (t_val (e_isi (by rfl) T.z_isinstance (e_b (e_loc 0)) (e_clsO (by rfl) T.g_NoNumber) (.own _) (is_NoNumber T))) (t_or (t_val (e_isi (by rfl) T.z_isinstance (e_b (e_loc 0)) (e_clsO (by rfl) T.g_NoPlace) (.own _) (is_NoPlace T))) (t_or1 (t_val (e_isi (by rfl) T.z_isinstance (e_b (e_loc 0)) (e_clsO (by rfl) T.g_NoRate) (.own _) (is_NoRate T)))))))) (p_one (p_ret e_bl)) p_nil)
    (p_cons (p_if (PW.pt (t_or (t_val (e_isi (by rfl) T.z_isinstance (e_b (e_loc 0)) (e_clsO (by rfl) T.g_NoRow) (.own _) (is_NoRow T))) (t_or (t_val (e_isi (by rfl) T.z_isinstance (e_b (e_loc 0)) (e_clsO (by rfl) T.g_NoSigns) (.own _) (is_NoSigns T))) (t_or (t_val (e_isi (by rfl) T.z_isinstance (e_b (e_loc 0)) (e_clsO (by rfl) T.g_NoWord) (.own _) (is_NoWord T))) (t_or1 (t_val (e_isi (by rfl) T.z_isinstance (e_b (e_loc 0)) (e_clsO (by rfl) T.g_NoWriter) (.own _) (is_NoWriter T)))))))) (p_one (p_ret e_bl)) p_nil)
    (p_one (p_ret (e_or (e_isi (by rfl) T.z_isinstance (e_b (e_loc 0)) (e_clsO (by rfl) T.g_Open) (.own _) (is_Open T)) (e_or (e_isi (by rfl) T.z_isinstance (e_b (e_loc 0)) (e_clsO (by rfl) T.g_Scarce) (.own _) (is_Scarce T)) (e_one (e_isi (by rfl) T.z_isinstance (e_b (e_loc 0)) (e_clsO (by rfl) T.g_TooMany) (.own _) (is_TooMany T))))))))))
theorem cal_law_others (T : Txt K mg ct fa) : Cal P w K mg base 1 (fa 12) (spP K ct [false] false m_law_others) := by
  obtain ⟨fd, F⟩ := T.F_law_others
  refine ⟨⟨fd, ["_law_e"], ok_law_others T F, ?_⟩, F.kp⟩
  exact F.binds fun _ _ _ _ _ _ us hl => match us, hl with | [_], _ => rfl
theorem sc_law_sheet : FnScope ["_law_cell", "_law_many", "_law_desks", "_law_homes", "_law_desk", "_law_weights", "_law_lines", "_law_line", "_law_k", "_law_letters", "_law_word", "_law_power"] ["_law_cell", "_law_many"] (L2.defScope s_law_sheet) := ⟨rfl, rfl, rfl, by decide +kernel, rfl, by decide +kernel, by decide +kernel⟩
theorem ok_law_sheet (T : Txt K mg ct fa) {fd : FuncData} (F : L2.Fun K "_law_sheet" "_law_sheet" s_law_sheet (fa 6) fd) : FnOk P w K mg base (L2.CX P w) 2 (fa 6) fd ["_law_cell", "_law_many"] (spP K ct [false, false] false m_law_sheet) := by
  refine fn_ok (k := 1) (N := ["_law_cell", "_law_many", "_law_desks", "_law_homes", "_law_desk", "_law_weights", "_law_lines", "_law_line", "_law_k", "_law_letters", "_law_word", "_law_power"]) F sc_law_sheet rfl fun cdv A outer s H E hr => ?_
  have nd := sc_law_sheet.nd
  exact (p_cons (p_set (i := 2) nd rfl (by first | exact Or.inl rfl | exact Or.inr rfl) (e_add (e_b e_int) (e_b (e_call (fr := false) (cal_law_mixed T) T.g_law_mixed (takes_of rfl rfl rfl rfl) hr (by decide) (by rfl) (a_cons (m := false) (e_loc 0) (a_cons (m := false) e_int (a_cons (m := false) e_int a_nil)))))))
    (p_cons (p_comp (i := 3) [("_law_desk", 4)] rfl rfl nd rfl rfl (sw_true rfl rfl rfl (by decide +kernel)) (i_rng1 (by rfl) T.z_range (a_cons (m := false) (e_loc 2) a_nil)) (blkOk_by (own := [("_law_desk", 4)]) (N := ["_law_cell", "_law_many", "_law_desks", "_law_homes", "_law_desk", "_law_weights", "_law_lines", "_law_line", "_law_k", "_law_letters", "_law_word", "_law_power"]) (sc := L2.defScope s_law_sheet) (by decide +kernel)) (fun _ _ _ _ _ => (pg_name (i := 4) nd rfl (by first | exact Or.inl rfl | exact Or.inr rfl))) (tg_nm 4) (by decide) (fun _ _ _ _ _ => ts_nil) (fun _ _ _ _ _ => (e_mul (e_ix (hu_of hr) (e_b e_str) (e_call (fr := false) (cal_law_mixed T) T.g_law_mixed takes0 hr (by decide) (by rfl) (a_cons (m := false) (e_loc 0) (a_cons (m := false) (e_add (e_b e_int) (e_b (e_loc 4))) (a_cons (m := false) e_int a_nil))))) (e_mod (e_loc 4) e_int))))
    (p_cons (p_comp (i := 5) [("_law_desk", 4)] rfl rfl nd rfl rfl (sw_true rfl rfl rfl (by decide +kernel)) (i_rng1 (by rfl) T.z_range (a_cons (m := false) (e_loc 2) a_nil)) (blkOk_by (own := [("_law_desk", 4)]) (N := ["_law_cell", "_law_many", "_law_desks", "_law_homes", "_law_desk", "_law_weights", "_law_lines", "_law_line", "_law_k", "_law_letters", "_law_word", "_law_power"]) (sc := L2.defScope s_law_sheet) (by decide +kernel)) (fun _ _ _ _ _ => (pg_name (i := 4) nd rfl (by first | exact Or.inl rfl | exact Or.inr rfl))) (tg_nm 4) (by decide) (fun _ _ _ _ _ => ts_nil) (fun _ _ _ _ _ => (e_add (e_b e_int) (e_b (e_call (fr := false) (cal_law_mixed T) T.g_law_mixed takes0 hr (by decide) (by rfl) (a_cons (m := false) (e_loc 0) (a_cons (m := false) (e_add (e_b e_int) (e_b (e_loc 4))) (a_cons (m := false) e_int a_nil))))))))
    (p_cons (p_own (i := 6) nd rfl (by first | exact Or.inl rfl | exact Or.inr rfl) (e_lst (k := 0) 0 a_nil))
    (p_cons (p_for (passes_of rfl) rfl (tg_nm 4) (i_rng1 (by rfl) T.z_range (a_cons (m := false) (e_loc 2) a_nil)) (pg_name (i := 4) nd rfl (by first | exact Or.inl rfl | exact Or.inr rfl)) (p_cons (p_own (i := 7) nd rfl (by first | exact Or.inl rfl | exact Or.inr rfl) (e_lst (k := 0) 0 a_nil))
    (p_cons (p_for (passes_of rfl) rfl (tg_nm 8) (i_rng1 (by rfl) T.z_range (a_cons (m := false) (e_mul e_int (e_loc 1)) a_nil)) (pg_name (i := 8) nd rfl (by first | exact Or.inl rfl | exact Or.inr rfl)) (p_cons (p_set (i := 9) nd rfl (by first | exact Or.inl rfl | exact Or.inr rfl) (e_call (fr := false) (cal_law_mixed T) T.g_law_mixed (takes_of rfl rfl rfl rfl) hr (by decide) (by rfl) (a_cons (m := false) (e_loc 0) (a_cons (m := false) (e_add (e_b (e_add (e_b e_int) (e_b (e_mul e_int (e_loc 4))))) (e_b (e_loc 8))) (a_cons (m := false) e_int a_nil)))))
    (p_cons (p_set (i := 10) nd rfl (by first | exact Or.inl rfl | exact Or.inr rfl) (e_join (e_b e_str) (e_b (e_n (e_comp [("_law_power", 11)] rfl rfl nd (i_any (m := true) o0_own fit0 (e_b (e_n (e_lst (k := 0) 3 (a_cons (m := false) e_int (a_cons (m := false) e_int (a_cons (m := false) e_int a_nil))))))) (blkOk_by (own := [("_law_power", 11)]) (N := ["_law_cell", "_law_many", "_law_desks", "_law_homes", "_law_desk", "_law_weights", "_law_lines", "_law_line", "_law_k", "_law_letters", "_law_word", "_law_power"]) (sc := L2.defScope s_law_sheet) (by decide +kernel)) (fun _ _ _ _ _ => (pg_name (i := 11) nd rfl (by first | exact Or.inl rfl | exact Or.inr rfl))) (tg_nm 11) (by decide) (fun _ _ _ _ _ => ts_nil) (fun _ _ _ _ _ => (e_ix (hu_of hr) (e_b e_str) (e_mod (e_fdiv (e_loc 9) (e_loc 11)) e_int))))))))
    (p_one (p_app 7 (e_tup 2 (a_cons (m := false) (e_loc 10) (a_cons (m := false) (e_call (fr := false) (cal_law_mixed T) T.g_law_mixed (takes_of rfl rfl rfl rfl) hr (by decide) (by rfl) (a_cons (m := false) (e_loc 0) (a_cons (m := false) (e_add (e_b (e_add (e_b e_int) (e_b (e_mul e_int (e_loc 4))))) (e_b (e_loc 8))) (a_cons (m := false) (e_loc 2) a_nil)))) a_nil))))))))
    (p_frz 7 (p_one (p_app 6 (e_loc 7)))))))
    (p_frz 3 (p_frz 6 (p_frz 5 (p_one (p_ret (e_tup 3 (a_cons (m := false) (e_loc 3) (a_cons (m := false) (e_loc 5) (a_cons (m := false) (e_loc 6) a_nil))))))))))))))
theorem cal_law_sheet (T : Txt K mg ct fa) : Cal P w K mg base 2 (fa 6) (spP K ct [false, false] false m_law_sheet) := by
  obtain ⟨fd, F⟩ := T.F_law_sheet
  refine ⟨⟨fd, ["_law_cell", "_law_many"], ok_law_sheet T F, ?_⟩, F.kp⟩
  exact F.binds fun _ _ _ _ _ _ us hl => match us, hl with | [_, _], _ => rfl
theorem sc_law_half : FnScope ["_law_cell", "_law_many", "_law_rest", "_law_found", "_law_k"] ["_law_cell", "_law_many"] (L2.defScope s_law_half) := ⟨rfl, rfl, rfl, by decide +kernel, rfl, by decide +kernel, by decide +kernel⟩
theorem ok_law_half (T : Txt K mg ct fa) {fd : FuncData} (F : L2.Fun K "_law_half" "_law_half" s_law_half (fa 7) fd) : FnOk P w K mg base (L2.CX P w) 2 (fa 7) fd ["_law_cell", "_law_many"] (spP K ct [false, false] false m_law_half) := by
  refine fn_ok (k := 1) (N := ["_law_cell", "_law_many", "_law_rest", "_law_found", "_law_k"]) F sc_law_half rfl fun cdv A outer s H E hr => ?_
  have nd := sc_law_half.nd
  exact (p_cons (p_own (i := 2) nd rfl (by first | exact Or.inl rfl | exact Or.inr rfl) (e_listRg rfl (by rfl) T.z_list (by rfl) T.z_range (e_mul e_int (e_loc 1))))
    (p_cons (p_own (i := 3) nd rfl (by first | exact Or.inl rfl | exact Or.inr rfl) (e_lst (k := 0) 0 a_nil))
    (p_cons (p_for (passes_of rfl) rfl (tg_nm 4) (i_rng1 (by rfl) T.z_range (a_cons (m := false) (e_loc 1) a_nil)) (pg_name (i := 4) nd rfl (by first | exact Or.inl rfl | exact Or.inr rfl)) (p_one (p_appPop 3 2 (e_call (fr := false) (cal_law_mixed T) T.g_law_mixed (takes_of rfl rfl rfl rfl) hr (by decide) (by rfl) (a_cons (m := false) (e_loc 0) (a_cons (m := false) (e_add (e_b e_int) (e_b (e_loc 4))) (a_cons (m := false) (e_len T.z_len (by rfl)  (e_locB 2)) a_nil)))))))
    (p_frz 3 (p_one (p_ret (e_loc 3)))))))
theorem cal_law_half (T : Txt K mg ct fa) : Cal P w K mg base 2 (fa 7) (spP K ct [false, false] false m_law_half) := by
  obtain ⟨fd, F⟩ := T.F_law_half
  refine ⟨⟨fd, ["_law_cell", "_law_many"], ok_law_half T F, ?_⟩, F.kp⟩
  exact F.binds fun _ _ _ _ _ _ us hl => match us, hl with | [_, _], _ => rfl
theorem sc_law_divided : FnScope ["_law_homes", "_law_weights", "_law_lines", "_law_desk", "_law_numbers", "_law_weight", "_law_some", "_law_others_here", "_law_sums", "_law_more", "_law_line", "_law_found", "_law_steps", "_law_word", "_law_end", "_law_rest", "_law_heavy"] ["_law_homes", "_law_weights", "_law_lines", "_law_desk", "_law_numbers", "_law_weight"] (L2.defScope s_law_divided) := ⟨rfl, rfl, rfl, by decide +kernel, rfl, by decide +kernel, by decide +kernel⟩
theorem ok_law_divided (T : Txt K mg ct fa) {fd : FuncData} (F : L2.Fun K "_law_divided" "_law_divided" s_law_divided (fa 9) fd) : FnOk P w K mg base (L2.CX P w) 2 (fa 9) fd ["_law_homes", "_law_weights", "_law_lines", "_law_desk", "_law_numbers", "_law_weight"] (spP K ct [false, false, false, false, false, false] false m_law_divided) := by
  refine fn_ok (k := 1) (N := ["_law_homes", "_law_weights", "_law_lines", "_law_desk", "_law_numbers", "_law_weight", "_law_some", "_law_others_here", "_law_sums", "_law_more", "_law_line", "_law_found", "_law_steps", "_law_word", "_law_end", "_law_rest", "_law_heavy"]) F sc_law_divided rfl fun cdv A outer s H E hr => ?_
  have nd := sc_law_divided.nd
  exact (p_cons (p_asg (tg_tp [6, 7, 8]) (pg_tup rfl (pgs_cons (pg_name (i := 6) nd rfl (by first | exact Or.inl rfl | exact Or.inr rfl)) (pgs_cons (pg_name (i := 7) nd rfl (by first | exact Or.inl rfl | exact Or.inr rfl)) (pgs_cons (pg_name (i := 8) nd rfl (by first | exact Or.inl rfl | exact Or.inr rfl)) pgs_nil)))) (e_call (fr := false) (cal_law_part T) T.g_law_part (takes_of rfl rfl rfl rfl) hr (by decide) (by rfl) (a_cons (m := false) (e_loc 2) (a_cons (m := false) (e_loc 1) (a_cons (m := false) (e_loc 3) (a_cons (m := false) (e_loc 4) a_nil))))))
    (p_cons (p_comp (i := 9) [("_law_line", 10)] rfl rfl nd rfl rfl (sw_true rfl rfl rfl (by decide +kernel)) (i_any (m := true) o0_own fit0 (e_b (e_loc 2))) (blkOk_by (own := [("_law_line", 10)]) (N := ["_law_homes", "_law_weights", "_law_lines", "_law_desk", "_law_numbers", "_law_weight", "_law_some", "_law_others_here", "_law_sums", "_law_more", "_law_line", "_law_found", "_law_steps", "_law_word", "_law_end", "_law_rest", "_law_heavy"]) (sc := L2.defScope s_law_divided) (by decide +kernel)) (fun _ _ _ _ _ => (pg_name (i := 10) nd rfl (by first | exact Or.inl rfl | exact Or.inr rfl))) (tg_nm 10) (by decide) (fun _ _ _ _ _ => ts_nil) (fun _ _ _ _ _ => (e_n (e_list T.z_list (by rfl)  (e_b (e_loc 10))))))
    (p_cons (p_put 9 (hu_of hr) (e_loc 3) (e_loc 6))
    (p_cons (p_app 9 (e_loc 7))
    (p_cons (p_own (i := 11) nd rfl (by first | exact Or.inl rfl | exact Or.inr rfl) (e_lst (k := 0) 0 a_nil))
    (p_frz 9 (p_cons (p_for (passes_of rfl) rfl (tg_nm 10) (i_any (m := false) o1_own fit1 (e_loc 9)) (pg_name (i := 10) nd rfl (by first | exact Or.inl rfl | exact Or.inr rfl)) (p_cons (p_own (i := 12) nd rfl (by first | exact Or.inl rfl | exact Or.inr rfl) (e_lst (k := 0) 0 a_nil))
    (p_cons (p_for (passes_of rfl) rfl (tg_tp [13, 14]) (i_any (m := false) o1_own fit1 (e_loc 10)) (pg_tup rfl (pgs_cons (pg_name (i := 13) nd rfl (by first | exact Or.inl rfl | exact Or.inr rfl)) (pgs_cons (pg_name (i := 14) nd rfl (by first | exact Or.inl rfl | exact Or.inr rfl)) pgs_nil))) (p_cons (p_app 12 (e_tup 2 (a_cons (m := false) (e_loc 13) (a_cons (m := false) (e_loc 14) a_nil))))
    (p_one (p_if (t_eq hr (e_b (e_loc 14)) (e_b (e_loc 3))) (p_one (p_app 12 (e_tup 2 (a_cons (m := false) (e_loc 13) (a_cons (m := false) (e_len T.z_len (by rfl)  (e_b (e_loc 2))) a_nil))))) p_nil))))
    (p_frz 12 (p_one (p_app 11 (e_loc 12)))))))
    (p_cons (p_set (i := 15) nd rfl (by first | exact Or.inl rfl | exact Or.inr rfl) (e_sub (e_ix (hu_of hr) (e_b (e_loc 1)) (e_loc 3)) (e_loc 5)))
    (p_cons (p_set (i := 16) nd rfl (by first | exact Or.inl rfl | exact Or.inr rfl) (e_add (e_b (e_add (e_b (e_slice (e_b (e_loc 1)) o_none (o_some (e_loc 3)))) (e_b (e_n (e_lst (k := 0) 1 (a_cons (m := false) (e_loc 5) a_nil)))))) (e_b (e_slice (e_b (e_loc 1)) (o_some (e_add (e_b (e_loc 3)) (e_b e_int))) o_none))))
    (p_frz 11 (p_one (p_ret (e_tup 3 (a_cons (m := false) (e_add (e_b (e_loc 0)) (e_b (e_n (e_lst (k := 0) 1 (a_cons (m := false) (e_ix (hu_of hr) (e_b (e_loc 0)) (e_loc 3)) a_nil))))) (a_cons (m := false) (e_add (e_b (e_loc 16)) (e_b (e_n (e_lst (k := 0) 1 (a_cons (m := false) (e_loc 15) a_nil))))) (a_cons (m := false) (e_loc 11) a_nil))))))))))))))))
theorem cal_law_divided (T : Txt K mg ct fa) : Cal P w K mg base 2 (fa 9) (spP K ct [false, false, false, false, false, false] false m_law_divided) := by
  obtain ⟨fd, F⟩ := T.F_law_divided
  refine ⟨⟨fd, ["_law_homes", "_law_weights", "_law_lines", "_law_desk", "_law_numbers", "_law_weight"], ok_law_divided T F, ?_⟩, F.kp⟩
  exact F.binds fun _ _ _ _ _ _ us hl => match us, hl with | [_, _, _, _, _, _], _ => rfl
theorem sc_law_turned : FnScope ["_law_cell", "_law_here", "_law_desk", "_law_numbers", "_law_homes", "_law_weights", "_law_lines", "_law_way", "_law_at", "_law_more"] ["_law_cell", "_law_here", "_law_desk", "_law_numbers"] (L2.defScope s_law_turned) := ⟨rfl, rfl, rfl, by decide +kernel, rfl, by decide +kernel, by decide +kernel⟩
theorem ok_law_turned (T : Txt K mg ct fa) {fd : FuncData} (F : L2.Fun K "_law_turned" "_law_turned" s_law_turned (fa 11) fd) : FnOk P w K mg base (L2.CX P w) 2 (fa 11) fd ["_law_cell", "_law_here", "_law_desk", "_law_numbers"] (spP K ct [false, false, false, false] false m_law_turned) := by
  refine fn_ok (k := 1) (N := ["_law_cell", "_law_here", "_law_desk", "_law_numbers", "_law_homes", "_law_weights", "_law_lines", "_law_way", "_law_at", "_law_more"]) F sc_law_turned rfl fun cdv A outer s H E hr => ?_
  have nd := sc_law_turned.nd
  exact (p_cons (p_asg (tg_tp [4, 5, 6]) (pg_tup rfl (pgs_cons (pg_name (i := 4) nd rfl (by first | exact Or.inl rfl | exact Or.inr rfl)) (pgs_cons (pg_name (i := 5) nd rfl (by first | exact Or.inl rfl | exact Or.inr rfl)) (pgs_cons (pg_name (i := 6) nd rfl (by first | exact Or.inl rfl | exact Or.inr rfl)) pgs_nil)))) (e_loc 1))
    (p_cons (p_set (i := 7) nd rfl (by first | exact Or.inl rfl | exact Or.inr rfl) (e_call (fr := false) (cal_law_mixed T) T.g_law_mixed (takes_of rfl rfl rfl rfl) hr (by decide) (by rfl) (a_cons (m := false) (e_loc 0) (a_cons (m := false) e_int (a_cons (m := false) e_int a_nil)))))
    (p_cons (p_set (i := 8) nd rfl (by first | exact Or.inl rfl | exact Or.inr rfl) (e_call (fr := false) (cal_law_mixed T) T.g_law_mixed (takes_of rfl rfl rfl rfl) hr (by decide) (by rfl) (a_cons (m := false) (e_loc 0) (a_cons (m := false) e_int (a_cons (m := false) e_int a_nil)))))
    (p_cons (p_if (t_eq hr (e_b (e_loc 7)) (e_b e_int)) (p_one (p_ret (e_tup 3 (a_cons (m := false) (e_ix (hu_of hr) (e_b (e_n (e_lst (k := 0) 3 (a_cons (m := false) (e_neg e_int) (a_cons (m := false) (e_len T.z_len (by rfl)  (e_b (e_loc 4))) (a_cons (m := false) (e_add (e_b (e_len T.z_len (by rfl)  (e_b (e_loc 4)))) (e_b (e_call (fr := false) (cal_law_mixed T) T.g_law_mixed (takes_of rfl rfl rfl rfl) hr (by decide) (by rfl) (a_cons (m := false) (e_loc 0) (a_cons (m := false) e_int (a_cons (m := false) (e_pow e_int e_int) a_nil)))))) a_nil)))))) (e_loc 8)) (a_cons (m := false) (e_loc 3) (a_cons (m := false) e_int a_nil)))))) p_nil)
    (p_cons (p_if (t_eq hr (e_b (e_loc 7)) (e_b e_int)) (p_cons (p_set (i := 9) nd rfl (by first | exact Or.inl rfl | exact Or.inr rfl) (e_ix (hu_of hr) (e_b (e_n (e_lst (k := 0) 3 (a_cons (m := false) (e_neg e_int) (a_cons (m := false) (e_len T.z_len (by rfl)  (e_b (e_ix (hu_of hr) (e_b (e_loc 6)) (e_loc 2)))) (a_cons (m := false) (e_add (e_b (e_len T.z_len (by rfl)  (e_b (e_ix (hu_of hr) (e_b (e_loc 6)) (e_loc 2))))) (e_b (e_call (fr := false) (cal_law_mixed T) T.g_law_mixed (takes_of rfl rfl rfl rfl) hr (by decide) (by rfl) (a_cons (m := false) (e_loc 0) (a_cons (m := false) e_int (a_cons (m := false) (e_pow e_int e_int) a_nil)))))) a_nil)))))) (e_loc 8)))
    (p_one (p_ret (e_tup 3 (a_cons (m := false) (e_loc 2) (a_cons (m := false) (e_add (e_b (e_add (e_b (e_slice (e_b (e_loc 3)) o_none (o_some (e_loc 8)))) (e_b (e_n (e_lst (k := 0) 1 (a_cons (m := false) (e_loc 9) a_nil)))))) (e_b (e_slice (e_b (e_loc 3)) (o_some (e_loc 8)) o_none))) (a_cons (m := false) e_int a_nil))))))) p_nil)
    (p_cons (p_if (t_eq hr (e_b (e_loc 7)) (e_b e_int)) (p_one (p_ret (e_tup 3 (a_cons (m := false) (e_loc 2) (a_cons (m := false) (e_ix (hu_of hr) (e_b (e_n (e_lst (k := 0) 3 (a_cons (m := false) (e_n (e_lst (k := 0) 0 a_nil)) (a_cons (m := false) (e_n (e_listRg rfl (by rfl) T.z_list (by rfl) T.z_range (e_len T.z_len (by rfl)  (e_b (e_ix (hu_of hr) (e_b (e_loc 6)) (e_loc 2)))))) (a_cons (m := false) (e_n (e_lst (k := 0) 0 a_nil)) a_nil)))))) (e_loc 8)) (a_cons (m := false) e_int a_nil)))))) p_nil)
    (p_one (p_ret (e_tup 3 (a_cons (m := false) (e_loc 2) (a_cons (m := false) (e_loc 3) (a_cons (m := false) (e_add (e_b (e_ix (hu_of hr) (e_b (e_n (e_lst (k := 0) 3 (a_cons (m := false) e_int (a_cons (m := false) (e_neg e_int) (a_cons (m := false) (e_ix (hu_of hr) (e_b (e_loc 5)) (e_loc 2)) a_nil)))))) (e_loc 8))) (e_b (e_mul (e_call (fr := false) (cal_law_mixed T) T.g_law_mixed (takes_of rfl rfl rfl rfl) hr (by decide) (by rfl) (a_cons (m := false) (e_loc 0) (a_cons (m := false) e_int (a_cons (m := false) e_int a_nil)))) (e_int1 T.z_int (by rfl)  (e_eq hr (e_b (e_loc 8)) (e_b e_int)))))) a_nil))))))))))))
theorem cal_law_turned (T : Txt K mg ct fa) : Cal P w K mg base 2 (fa 11) (spP K ct [false, false, false, false] false m_law_turned) := by
  obtain ⟨fd, F⟩ := T.F_law_turned
  refine ⟨⟨fd, ["_law_cell", "_law_here", "_law_desk", "_law_numbers"], ok_law_turned T F, ?_⟩, F.kp⟩
  exact F.binds fun _ _ _ _ _ _ us hl => match us, hl with | [_, _, _, _], _ => rfl
theorem sc_split : FnScope ["sheet", "many", "desk", "numbers", "weight", "line", "number", "some", "k", "others", "rest", "weights", "lines"] ["sheet", "many", "desk", "numbers", "weight"] (L2.defScope s_split) := ⟨rfl, rfl, rfl, by decide +kernel, rfl, by decide +kernel, by decide +kernel⟩
theorem ok_split (T : Txt K mg ct fa) {fd : FuncData} (F : L2.Fun K "split" "split" s_split (fa 3) fd) : FnOk P w K mg base (L2.CX P w) 3 (fa 3) fd ["sheet", "many", "desk", "numbers", "weight"] (spP K ct [false, false, false, false, false] false m_split) := by
  refine fn_ok (k := 2) (N := ["sheet", "many", "desk", "numbers", "weight", "line", "number", "some", "k", "others", "rest", "weights", "lines"]) F sc_split rfl fun cdv A outer s H E hr => ?_
  have nd := sc_split.nd
  exact (p_cons (p_if (PW.pt (t_or (t_lt (e_loc 2) e_int) (t_or1 (t_ge (e_loc 2) (e_len T.z_len (by rfl)  (e_b (e_fld 1 T.cl_1 T.na_1_homes (e_b (e_loc 0))))))))) (p_one (p_raise 15 T.er_NoSplit (by rfl) rfl (takes_of rfl rfl rfl rfl))) p_nil)
    (p_cons (p_set (i := 5) nd rfl (by first | exact Or.inl rfl | exact Or.inr rfl) (e_ix (hu_of hr) (e_b (e_fld 1 T.cl_1 T.na_1_lines (e_b (e_loc 0)))) (e_loc 2)))
    (p_cons (p_if (t_val (e_any T.z_any (by rfl) rfl (e_b (e_n (e_comp [("number", 6)] rfl rfl nd (i_any (m := true) o0_own fit0 (e_b (e_loc 3))) (blkOk_by (own := [("number", 6)]) (N := ["sheet", "many", "desk", "numbers", "weight", "line", "number", "some", "k", "others", "rest", "weights", "lines"]) (sc := L2.defScope s_split) (by decide +kernel)) (fun _ _ _ _ _ => (pg_name (i := 6) nd rfl (by first | exact Or.inl rfl | exact Or.inr rfl))) (tg_nm 6) (by decide) (fun _ _ _ _ _ => ts_nil) (fun _ _ _ _ _ => (e_or (e_lt (e_loc 6) e_int) (e_one (e_ge (e_loc 6) (e_len T.z_len (by rfl)  (e_b (e_loc 5)))))))))))) (p_one (p_raise 15 T.er_NoSplit (by rfl) rfl (takes_of rfl rfl rfl rfl))) p_nil)
    (p_cons (p_comp (i := 7) [("k", 8)] rfl rfl nd rfl rfl (sw_true rfl rfl rfl (by decide +kernel)) (i_rng1 (by rfl) T.z_range (a_cons (m := false) (e_len T.z_len (by rfl)  (e_b (e_loc 5))) a_nil)) (blkOk_by (own := [("k", 8)]) (N := ["sheet", "many", "desk", "numbers", "weight", "line", "number", "some", "k", "others", "rest", "weights", "lines"]) (sc := L2.defScope s_split) (by decide +kernel)) (fun _ _ _ _ _ => (pg_name (i := 8) nd rfl (by first | exact Or.inl rfl | exact Or.inr rfl))) (tg_nm 8) (by decide) (fun _ _ _ _ _ => (ts_one (t_in hr (e_loc 8) (e_b (e_loc 3))))) (fun _ _ _ _ _ => (e_ix (hu_of hr) (e_b (e_loc 5)) (e_loc 8))))
    (p_cons (p_comp (i := 9) [("k", 8)] rfl rfl nd rfl rfl (sw_true rfl rfl rfl (by decide +kernel)) (i_rng1 (by rfl) T.z_range (a_cons (m := false) (e_len T.z_len (by rfl)  (e_b (e_loc 5))) a_nil)) (blkOk_by (own := [("k", 8)]) (N := ["sheet", "many", "desk", "numbers", "weight", "line", "number", "some", "k", "others", "rest", "weights", "lines"]) (sc := L2.defScope s_split) (by decide +kernel)) (fun _ _ _ _ _ => (pg_name (i := 8) nd rfl (by first | exact Or.inl rfl | exact Or.inr rfl))) (tg_nm 8) (by decide) (fun _ _ _ _ _ => (ts_one (t_notIn hr (e_loc 8) (e_b (e_loc 3))))) (fun _ _ _ _ _ => (e_ix (hu_of hr) (e_b (e_loc 5)) (e_loc 8))))
    (p_cons (p_set (i := 10) nd rfl (by first | exact Or.inl rfl | exact Or.inr rfl) (e_sub (e_ix (hu_of hr) (e_b (e_fld 1 T.cl_1 T.na_1_weights (e_b (e_loc 0)))) (e_loc 2)) (e_loc 4)))
    (p_cons (p_if (PW.pt (t_or (t_eq hr (e_locB 7) (e_b (e_n (e_lst (k := 0) 0 a_nil)))) (t_or (t_eq hr (e_locB 9) (e_b (e_n (e_lst (k := 0) 0 a_nil)))) (t_or (t_lt (e_loc 4) e_int) (t_or1 (t_lt (e_loc 10) e_int)))))) (p_one (p_raise 15 T.er_NoSplit (by rfl) rfl (takes_of rfl rfl rfl rfl))) p_nil)
    (p_frz 9 (p_frz 7 (p_cons (p_if (PW.pt (t_or (t_lt (e_call (fr := false) (cal_borne_by T) T.g_borne_by (takes_of rfl rfl rfl rfl) hr (by decide) (by rfl) (a_cons (m := false) (e_loc 0) (a_cons (m := false) (e_loc 7) a_nil))) (e_mul (e_loc 1) (e_loc 4))) (t_or1 (t_lt (e_call (fr := false) (cal_borne_by T) T.g_borne_by (takes_of rfl rfl rfl rfl) hr (by decide) (by rfl) (a_cons (m := false) (e_loc 0) (a_cons (m := false) (e_loc 9) a_nil))) (e_mul (e_loc 1) (e_loc 10)))))) (p_one (p_raise 15 T.er_NoSplit (by rfl) rfl (takes_of rfl rfl rfl rfl))) p_nil)
    (p_cons (p_set (i := 11) nd rfl (by first | exact Or.inl rfl | exact Or.inr rfl) (e_add (e_b (e_add (e_b (e_add (e_b (e_slice (e_b (e_fld 1 T.cl_1 T.na_1_weights (e_b (e_loc 0)))) o_none (o_some (e_loc 2)))) (e_b (e_n (e_lst (k := 0) 1 (a_cons (m := false) (e_loc 4) a_nil)))))) (e_b (e_slice (e_b (e_fld 1 T.cl_1 T.na_1_weights (e_b (e_loc 0)))) (o_some (e_add (e_b (e_loc 2)) (e_b e_int))) o_none)))) (e_b (e_n (e_lst (k := 0) 1 (a_cons (m := false) (e_loc 10) a_nil))))))
    (p_cons (p_set (i := 12) nd rfl (by first | exact Or.inl rfl | exact Or.inr rfl) (e_add (e_b (e_add (e_b (e_add (e_b (e_slice (e_b (e_fld 1 T.cl_1 T.na_1_lines (e_b (e_loc 0)))) o_none (o_some (e_loc 2)))) (e_b (e_n (e_lst (k := 0) 1 (a_cons (m := false) (e_loc 7) a_nil)))))) (e_b (e_slice (e_b (e_fld 1 T.cl_1 T.na_1_lines (e_b (e_loc 0)))) (o_some (e_add (e_b (e_loc 2)) (e_b e_int))) o_none)))) (e_b (e_n (e_lst (k := 0) 1 (a_cons (m := false) (e_loc 9) a_nil))))))
    (p_cons (p_comp (i := 12) [("line", 5)] rfl rfl nd rfl rfl (sw_true rfl rfl rfl (by decide +kernel)) (i_any (m := true) o0_own fit0 (e_b (e_loc 12))) (blkOk_by (own := [("line", 5)]) (N := ["sheet", "many", "desk", "numbers", "weight", "line", "number", "some", "k", "others", "rest", "weights", "lines"]) (sc := L2.defScope s_split) (by decide +kernel)) (fun _ _ _ _ _ => (pg_name (i := 5) nd rfl (by first | exact Or.inl rfl | exact Or.inr rfl))) (tg_nm 5) (by decide) (fun _ _ _ _ _ => ts_nil) (fun _ _ _ _ _ => (e_call (fr := false) (cal_doubled T) T.g_doubled takes0 hr (by decide) (by rfl) (a_cons (m := false) (e_loc 5) (a_cons (m := false) (e_loc 2) (a_cons (m := false) (e_len T.z_len (by rfl)  (e_b (e_fld 1 T.cl_1 T.na_1_homes (e_b (e_loc 0))))) a_nil))))))
    (p_frz 12 (p_one (p_ret (e_mk 1 T.mk_1 (cal_Sheet__init_ T) T.g_Sheet (takes_of rfl rfl rfl rfl) hr (by decide) (by rfl) (a_cons (m := false) (e_add (e_b (e_fld 1 T.cl_1 T.na_1_homes (e_b (e_loc 0)))) (e_b (e_n (e_lst (k := 0) 1 (a_cons (m := false) (e_ix (hu_of hr) (e_b (e_fld 1 T.cl_1 T.na_1_homes (e_b (e_loc 0)))) (e_loc 2)) a_nil))))) (a_cons (m := false) (e_loc 11) (a_cons (m := false) (e_loc 12) a_nil))))))))))))))))))))
theorem cal_split (T : Txt K mg ct fa) : Cal P w K mg base 3 (fa 3) (spP K ct [false, false, false, false, false] false m_split) := by
  obtain ⟨fd, F⟩ := T.F_split
  refine ⟨⟨fd, ["sheet", "many", "desk", "numbers", "weight"], ok_split T F, ?_⟩, F.kp⟩
  exact F.binds fun _ _ _ _ _ _ us hl => match us, hl with | [_, _, _, _, _], _ => rfl
theorem sc_law_is_refused : FnScope ["_law_sheet_here", "_law_many", "_law_desk", "_law_numbers", "_law_weight", "_law_caught", "_law_e"] ["_law_sheet_here", "_law_many", "_law_desk", "_law_numbers", "_law_weight"] (L2.defScope s_law_is_refused) := ⟨rfl, rfl, rfl, by decide +kernel, rfl, by decide +kernel, by decide +kernel⟩
theorem ok_law_is_refused (T : Txt K mg ct fa) {fd : FuncData} (F : L2.Fun K "_law_is_refused" "_law_is_refused" s_law_is_refused (fa 13) fd) : FnOk P w K mg base (L2.CX P w) 4 (fa 13) fd ["_law_sheet_here", "_law_many", "_law_desk", "_law_numbers", "_law_weight"] (spP K ct [false, false, false, false, false] false m_law_is_refused) := by
  refine fn_ok (k := 3) (N := ["_law_sheet_here", "_law_many", "_law_desk", "_law_numbers", "_law_weight", "_law_caught", "_law_e"]) F sc_law_is_refused rfl fun cdv A outer s H E hr => ?_
  have nd := sc_law_is_refused.nd
  exact (p_cons (p_set (i := 5) nd rfl (by first | exact Or.inl rfl | exact Or.inr rfl) e_non)
    (p_cons (p_try (cat := cat_BandError) 6 rfl rfl rfl nd rfl rfl ⟨by rfl, by decide, .inl T.g_BandError⟩ (takes_of rfl rfl rfl rfl) (cat_BandError_ok T) (fun W pn xe tk ps => (p_one (p_expr (e_call (fr := false) (cal_split T) T.g_split tk hr (by decide) (by rfl) (a_cons (m := false) (e_loc 0) (a_cons (m := false) (e_loc 1) (a_cons (m := false) (e_loc 2) (a_cons (m := false) (e_loc 3) (a_cons (m := false) (e_loc 4) a_nil))))))))) (fun a pn => (p_one (p_set (i := 5) nd rfl (by first | exact Or.inl rfl | exact Or.inr rfl) (e_loc 6)))))
    (p_one (p_ret (e_and (e_isi (by rfl) T.z_isinstance (e_b (e_loc 5)) (e_clsO (by rfl) T.g_NoSplit) (.own _) (is_NoSplit T)) (e_and (e_isi (by rfl) T.z_isinstance (e_b (e_loc 5)) (e_clsT (by rfl) T.z_ValueError (by decide +kernel)) (.ty _) (is_ValueError T)) (e_one (e_not (e_call (fr := false) (cal_law_others T) T.g_law_others (takes_of rfl rfl rfl rfl) hr (by decide) (by rfl) (a_cons (m := false) (e_loc 5) a_nil))))))))))
theorem cal_law_is_refused (T : Txt K mg ct fa) : Cal P w K mg base 4 (fa 13) (spP K ct [false, false, false, false, false] false m_law_is_refused) := by
  obtain ⟨fd, F⟩ := T.F_law_is_refused
  refine ⟨⟨fd, ["_law_sheet_here", "_law_many", "_law_desk", "_law_numbers", "_law_weight"], ok_law_is_refused T F, ?_⟩, F.kp⟩
  exact F.binds fun _ _ _ _ _ _ us hl => match us, hl with | [_, _, _, _, _], _ => rfl
theorem sc_law : FnScope ["_law_script", "_law_many", "_law_here", "_law_homes", "_law_weights", "_law_lines", "_law_handed", "_law_line", "_law_cell", "_law_desk", "_law_numbers", "_law_bad", "_law_listed", "_law_due"] ["_law_script"] (L2.defScope s_law) := ⟨rfl, rfl, rfl, by decide +kernel, rfl, by decide +kernel, by decide +kernel⟩
theorem ok_law (T : Txt K mg ct fa) {fd : FuncData} (F : L2.Fun K "law" "law" s_law (fa 14) fd) : FnOk P w K mg base (L2.CX P w) 5 (fa 14) fd ["_law_script"] (spP K ct [false] false m_law) := by
  refine fn_ok (k := 4) (N := ["_law_script", "_law_many", "_law_here", "_law_homes", "_law_weights", "_law_lines", "_law_handed", "_law_line", "_law_cell", "_law_desk", "_law_numbers", "_law_bad", "_law_listed", "_law_due"]) F sc_law rfl fun cdv A outer s H E hr => ?_
  have nd := sc_law.nd
  exact (p_cons (p_set (i := 1) nd rfl (by first | exact Or.inl rfl | exact Or.inr rfl) (e_add (e_b e_int) (e_b (e_mod (e_call (fr := false) (cal_law_nth T) T.g_law_nth (takes_of rfl rfl rfl rfl) hr (by decide) (by rfl) (a_cons (m := false) (e_loc 0) (a_cons (m := false) e_int a_nil))) e_int))))
    (p_cons (p_set (i := 2) nd rfl (by first | exact Or.inl rfl | exact Or.inr rfl) (e_call (fr := false) (cal_law_sheet T) T.g_law_sheet (takes_of rfl rfl rfl rfl) hr (by decide) (by rfl) (a_cons (m := false) (e_call (fr := false) (cal_law_nth T) T.g_law_nth (takes_of rfl rfl rfl rfl) hr (by decide) (by rfl) (a_cons (m := false) (e_loc 0) (a_cons (m := false) e_int a_nil))) (a_cons (m := false) (e_loc 1) a_nil))))
    (p_cons (p_asg (tg_tp [3, 4, 5]) (pg_tup rfl (pgs_cons (pg_name (i := 3) nd rfl (by first | exact Or.inl rfl | exact Or.inr rfl)) (pgs_cons (pg_name (i := 4) nd rfl (by first | exact Or.inl rfl | exact Or.inr rfl)) (pgs_cons (pg_name (i := 5) nd rfl (by first | exact Or.inl rfl | exact Or.inr rfl)) pgs_nil)))) (e_loc 2))
    (p_cons (p_set (i := 6) nd rfl (by first | exact Or.inl rfl | exact Or.inr rfl) (e_mk 1 T.mk_1 (cal_Sheet__init_ T) T.g_Sheet (takes_of rfl rfl rfl rfl) hr (by decide) (by rfl) (a_cons (m := false) (e_n (e_list T.z_list (by rfl)  (e_b (e_loc 3)))) (a_cons (m := false) (e_n (e_list T.z_list (by rfl)  (e_b (e_loc 4)))) (a_cons (m := false) (e_n (e_comp [("_law_line", 7)] rfl rfl nd (i_any (m := true) o0_own fit0 (e_b (e_loc 5))) (blkOk_by (own := [("_law_line", 7)]) (N := ["_law_script", "_law_many", "_law_here", "_law_homes", "_law_weights", "_law_lines", "_law_handed", "_law_line", "_law_cell", "_law_desk", "_law_numbers", "_law_bad", "_law_listed", "_law_due"]) (sc := L2.defScope s_law) (by decide +kernel)) (fun _ _ _ _ _ => (pg_name (i := 7) nd rfl (by first | exact Or.inl rfl | exact Or.inr rfl))) (tg_nm 7) (by decide) (fun _ _ _ _ _ => ts_nil) (fun _ _ _ _ _ => (e_n (e_list T.z_list (by rfl)  (e_b (e_loc 7))))))) a_nil)))))
    (p_cons (p_for (passes_of rfl) rfl (tg_nm 8) (i_any (m := false) o1_own fit1 (e_add (e_b (e_n (e_lst (k := 0) 1 (a_cons (m := false) (e_call (fr := false) (cal_law_nth T) T.g_law_nth (takes_of rfl rfl rfl rfl) hr (by decide) (by rfl) (a_cons (m := false) (e_loc 0) (a_cons (m := false) e_int a_nil))) a_nil)))) (e_b (e_slice (e_b (e_loc 0)) (o_some e_int) (o_some e_int))))) (pg_name (i := 8) nd rfl (by first | exact Or.inl rfl | exact Or.inr rfl)) (p_cons (p_set (i := 9) nd rfl (by first | exact Or.inl rfl | exact Or.inr rfl) (e_call (fr := false) (cal_law_mixed T) T.g_law_mixed (takes_of rfl rfl rfl rfl) hr (by decide) (by rfl) (a_cons (m := false) (e_loc 8) (a_cons (m := false) e_int (a_cons (m := false) (e_len T.z_len (by rfl)  (e_b (e_loc 3))) a_nil)))))
    (p_cons (p_set (i := 10) nd rfl (by first | exact Or.inl rfl | exact Or.inr rfl) (e_call (fr := false) (cal_law_half T) T.g_law_half (takes_of rfl rfl rfl rfl) hr (by decide) (by rfl) (a_cons (m := false) (e_loc 8) (a_cons (m := false) (e_loc 1) a_nil))))
    (p_cons (p_set (i := 11) nd rfl (by first | exact Or.inl rfl | exact Or.inr rfl) (e_call (fr := false) (cal_law_turned T) T.g_law_turned (takes_of rfl rfl rfl rfl) hr (by decide) (by rfl) (a_cons (m := false) (e_loc 8) (a_cons (m := false) (e_loc 2) (a_cons (m := false) (e_loc 9) (a_cons (m := false) (e_loc 10) a_nil))))))
    (p_cons (p_set (i := 12) nd rfl (by first | exact Or.inl rfl | exact Or.inr rfl) (e_n (e_list T.z_list (by rfl)  (e_b (e_ix (hu_of hr) (e_b (e_loc 11)) e_int)))))
    (p_cons (p_if (PW.pt (t_or (t_not (t_val (e_call (fr := false) (cal_law_is_refused T) T.g_law_is_refused (takes_of rfl rfl rfl rfl) hr (by decide) (by rfl) (a_cons (m := false) (e_loc 6) (a_cons (m := false) (e_loc 1) (a_cons (m := false) (e_ix (hu_of hr) (e_b (e_loc 11)) e_int) (a_cons (m := false) (e_loc 12) (a_cons (m := false) (e_ix (hu_of hr) (e_b (e_loc 11)) e_int) a_nil)))))))) (t_or1 (t_ne hr (e_b (e_loc 12)) (e_b (e_ix (hu_of hr) (e_b (e_loc 11)) e_int)))))) (p_one (p_ret e_bl)) p_nil)
    (p_cons (p_if (t_not (t_val (e_call (fr := false) (cal_law_is_sheet T) T.g_law_is_sheet (takes_of rfl rfl rfl rfl) hr (by decide) (by rfl) (a_cons (m := false) (e_loc 6) (a_cons (m := false) (e_loc 2) a_nil))))) (p_one (p_ret e_bl)) p_nil)
    (p_cons (p_set (i := 13) nd rfl (by first | exact Or.inl rfl | exact Or.inr rfl) (e_call (fr := false) (cal_law_divided T) T.g_law_divided (takes_of rfl rfl rfl rfl) hr (by decide) (by rfl) (a_cons (m := false) (e_loc 3) (a_cons (m := false) (e_loc 4) (a_cons (m := false) (e_loc 5) (a_cons (m := false) (e_loc 9) (a_cons (m := false) (e_loc 10) (a_cons (m := false) e_int a_nil))))))))
    (p_one (p_if (t_not (t_val (e_call (fr := false) (cal_law_is_sheet T) T.g_law_is_sheet (takes_of rfl rfl rfl rfl) hr (by decide) (by rfl) (a_cons (m := false) (e_call (fr := false) (cal_split T) T.g_split (takes_of rfl rfl rfl rfl) hr (by decide) (by rfl) (a_cons (m := false) (e_loc 6) (a_cons (m := false) (e_loc 1) (a_cons (m := false) (e_loc 9) (a_cons (m := false) (e_loc 10) (a_cons (m := false) e_int a_nil)))))) (a_cons (m := false) (e_loc 13) a_nil))))) (p_one (p_ret e_bl)) p_nil))))))))))
    (p_one (p_ret e_bl)))))))
theorem cal_law (T : Txt K mg ct fa) : Cal P w K mg base 5 (fa 14) (spP K ct [false] false m_law) := by
  obtain ⟨fd, F⟩ := T.F_law
  refine ⟨⟨fd, ["_law_script"], ok_law T F, ?_⟩, F.kp⟩
  exact F.binds fun _ _ _ _ _ _ us hl => match us, hl with | [_], _ => rfl
end
end Lw

namespace Lw
open Ps
theorem mixed_ok (c t n : Int) (hn : 0 < n) (h0 : 0 ≤ t) (h1 : t ≤ 1000) : ∃ r, m_law_mixed [.int c, .int t, .int n] = .ok (.int r) ∧ 0 ≤ r ∧ r < n := by
  unfold m_law_mixed b_law_mixed runF env0 argE
  by_cases hc : c % 2 = 1
  · have hl : ∀ (ds : List D) (q : Int) (x : Sl), (∀ d ∈ ds, ∃ i, d = .int i) → canSet x = true → ∃ (q' : Int) (x' : Sl), loopF (.nm 4) (ssAsg (.nm 3) (s2 dFdiv (sLoc 3) (sC (.int 1000003)))) ds [.sh (.int c), .sh (.int t), .sh (.int n), .sh (.int q), x, .no, .no, .no] = .nx [.sh (.int c), .sh (.int t), .sh (.int n), .sh (.int q'), x', .no, .no, .no] := by
      intro ds
      induction ds with
      | nil => exact fun q x _ _ => ⟨q, x, rfl⟩
      | cons d ds ih =>
        intro q x hd hx
        obtain ⟨i, rfl⟩ := hd d List.mem_cons_self
        have hs : setS (some x) [.sh (.int c), .sh (.int t), .sh (.int n), .sh (.int q), x, .no, .no, .no] 4 (.sh (.int i)) = some [.sh (.int c), .sh (.int t), .sh (.int n), .sh (.int q), .sh (.int i), .no, .no, .no] := by
          unfold setS; simp [hx]
        obtain ⟨q', x', h⟩ := ih (q / 1000003) (.sh (.int i)) (fun e he => hd e (List.mem_cons_of_mem _ he)) rfl
        refine ⟨q', x', ?_⟩
        rw [loopF_cons]
        simp [hs, dFdiv_int, h]
    obtain ⟨q', x', h⟩ := hl ((List.range t.toNat).map fun i => .int (i : Nat)) ((if c < 0 then -c else c) / 2) .no (fun d hd => by
      obtain ⟨i, _, rfl⟩ := List.mem_map.mp hd
      exact ⟨_, rfl⟩) rfl
    refine ⟨q' % 1000003 % n, ?_, Int.emod_nonneg _ (by omega), Int.emod_lt_of_pos _ hn⟩
    simp [argE, hc, dMod_int, dFdiv_int, rngR_1 h0 (by omega : t ≤ 1000000), h, hn]
  · generalize hlo : c % 998244353 = lo
    generalize hhi : c / 998244353 % 1000000007 = hi
    have l1 : 0 ≤ lo := by rw [← hlo]; exact Int.emod_nonneg _ (by decide)
    have l2 : lo < 998244353 := by rw [← hlo]; exact Int.emod_lt_of_pos _ (by decide)
    have l3 : 0 ≤ hi := by rw [← hhi]; exact Int.emod_nonneg _ (by decide)
    have l4 : hi < 1000000007 := by rw [← hhi]; exact Int.emod_lt_of_pos _ (by decide)
    have m1 : dMulU (.int t) (.int 30) = some (.int (t * 30)) := dMulU_int (.inr (by decide))
    have m2 : dMulU (.int lo) (.int (4099 + t * 30)) = some (.int (lo * (4099 + t * 30))) := dMulU_int (.inl (by omega))
    have m3 : dMulU (.int hi) (.int (t + 2)) = some (.int (hi * (t + 2))) := dMulU_int (.inl (by omega))
    have m4 : dMulU (.int t) (.int t) = some (.int (t * t)) := dMulU_int (.inl (by omega))
    have m5 : dMulU (.int (t * t)) (.int 104729) = some (.int (t * t * 104729)) := dMulU_int (.inr (by decide))
    generalize hN : (lo * (4099 + t * 30) + hi * (t + 2) + t * t * 104729 + 31) % 1000000007 = N
    have n1 : 0 ≤ N := by rw [← hN]; exact Int.emod_nonneg _ (by decide)
    have n2 : N < 1000000007 := by rw [← hN]; exact Int.emod_lt_of_pos _ (by decide)
    have m6 : dMulU (.int N) (.int N) = some (.int (N * N)) := dMulU_int (.inl (by omega))
    refine ⟨N * N % 1000000007 % n, ?_, Int.emod_nonneg _ (by omega), Int.emod_lt_of_pos _ hn⟩
    simp [argE, hc, dMod_int, dFdiv_int, hlo, hhi, m1, m2, m3, m4, m5, hN, m6, hn]
def mx (c t n : Int) : Int := match m_law_mixed [.int c, .int t, .int n] with
  | .ok (.int r) => r
  | _ => 0
theorem mx_ok (c t n : Int) (hn : 0 < n) (h0 : 0 ≤ t) (h1 : t ≤ 1000) : m_law_mixed [.int c, .int t, .int n] = .ok (.int (mx c t n)) ∧ 0 ≤ mx c t n ∧ mx c t n < n := by
  obtain ⟨r, h2, h3, h4⟩ := mixed_ok c t n hn h0 h1
  unfold mx
  rw [h2]
  exact ⟨rfl, h3, h4⟩
theorem dSl_scr (ns : List Int) (i j : Nat) (h : i ≤ j) : dSlU (.scr ns) (some (i : Int)) (some (j : Int)) = some (.lst (((ns.drop i).take (j - i)).map .int)) := by
  show orD (some (D.lst (((ns.drop (HT.sIx ns.length 0 (some (i : Int)))).take (HT.sIx ns.length ns.length (some (j : Int)) - HT.sIx ns.length 0 (some (i : Int)))).map .int))) _ = _
  rw [HT.sIx_nat, HT.sIx_nat]
  show some _ = some _
  congr 3
  rcases Nat.le_total i ns.length with h1 | h1
  · rw [Nat.min_eq_left h1]
    rcases Nat.le_total j ns.length with h2 | h2
    · rw [Nat.min_eq_left h2]
    · rw [Nat.min_eq_right h2, List.take_of_length_le (by simp), List.take_of_length_le (by simp; omega)]
  · rw [Nat.min_eq_right h1, Nat.min_eq_right (by omega), List.drop_of_length_le (Nat.le_refl _), List.drop_of_length_le h1]
    simp
theorem nth_ok (ns : List Int) (k : Nat) : m_law_nth [.scr ns, .int k] = .ok (.int (ns.getD k 0)) := by
  unfold m_law_nth b_law_nth runF env0 argE
  have h := dSl_scr ns k (k + 1) (by omega)
  rw [show ((k + 1 : Nat) : Int) = (k : Int) + 1 by omega] at h
  rcases Nat.lt_or_ge k ns.length with h1 | h1
  · have e : (ns.drop k).take (k + 1 - k) = [ns[k]] := by
      rw [show k + 1 - k = 1 by omega, List.drop_eq_getElem_cons h1]; rfl
    rw [e] at h
    simp [argE, h, loopF_cons, List.getD_eq_getElem?_getD, h1]
  · have e : (ns.drop k).take (k + 1 - k) = [] := by rw [List.drop_of_length_le h1]; simp
    rw [e] at h
    simp [argE, h, List.getD_eq_getElem?_getD, h1]
/-- a comprehension that keeps all, by what holds of its items -/
theorem compL_ex {T : Tgt} {env : En} {fe : SE} {Q : D → Prop} : ∀ (ds : List D), (∀ d ∈ ds, ∃ e x, bindT T d env = some e ∧ fe e = .ok x ∧ Q x) → ∃ rs, compL T env (sC (.bl true)) fe ds = some rs ∧ rs.length = ds.length ∧ ∀ x ∈ rs, Q x
  | [], _ => ⟨[], rfl, rfl, fun _ h => nomatch h⟩
  | d :: ds, h => by
    obtain ⟨e, x, h1, h2, h3⟩ := h d List.mem_cons_self
    obtain ⟨rs, q1, q2, q3⟩ := compL_ex ds fun d hd => h d (List.mem_cons_of_mem _ hd)
    refine ⟨x :: rs, ?_, by simp [q2], fun y hy => ?_⟩
    · unfold compL
      rw [h1]
      simp [h2, q1]
    · rcases List.mem_cons.mp hy with rfl | hy
      · exact h3
      · exact q3 y hy
theorem ints_of : ∀ {rs : List D} {Q : Int → Prop}, (∀ x ∈ rs, ∃ i, x = .int i ∧ Q i) → ∃ ns : List Int, rs = ns.map .int ∧ ∀ i ∈ ns, Q i
  | [], _, _ => ⟨[], rfl, fun _ h => nomatch h⟩
  | x :: rs, Q, h => by
    obtain ⟨i, rfl, hi⟩ := h x List.mem_cons_self
    obtain ⟨ns, rfl, hn⟩ := ints_of (rs := rs) fun y hy => h y (List.mem_cons_of_mem _ hy)
    exact ⟨i :: ns, rfl, fun j hj => by
      rcases List.mem_cons.mp hj with rfl | hj
      · exact hi
      · exact hn j hj⟩
def stepD (p : PySem.Str × Int) : D := .tup [.str p.1, .int p.2]
def lineD (l : List (PySem.Str × Int)) : D := .lst (l.map stepD)
theorem lines_of : ∀ {rs : List D} {Q : List (PySem.Str × Int) → Prop}, (∀ x ∈ rs, ∃ l, x = lineD l ∧ Q l) → ∃ ls : List (List (PySem.Str × Int)), rs = ls.map lineD ∧ ∀ l ∈ ls, Q l
  | [], _, _ => ⟨[], rfl, fun _ h => nomatch h⟩
  | x :: rs, Q, h => by
    obtain ⟨i, rfl, hi⟩ := h x List.mem_cons_self
    obtain ⟨ns, rfl, hn⟩ := lines_of (rs := rs) fun y hy => h y (List.mem_cons_of_mem _ hy)
    exact ⟨i :: ns, rfl, fun j hj => by
      rcases List.mem_cons.mp hj with rfl | hj
      · exact hi
      · exact hn j hj⟩
structure Good (many : Int) (hs : List D) (ws : List Int) (ls : List (List (PySem.Str × Int))) : Prop where
  n1 : 1 ≤ hs.length
  n5 : hs.length ≤ 5
  lw : ws.length = hs.length
  ll : ls.length = hs.length
  hh : ∀ h ∈ hs, Sh 0 h
  w2 : ∀ w ∈ ws, 2 ≤ w ∧ w ≤ 3
  sl : ∀ l ∈ ls, (l.length : Int) = 2 * many ∧ ∀ p ∈ l, PySem.PyData.strOk p.1 = true ∧ 0 ≤ p.2 ∧ p.2 < hs.length
/-- the sign of a drawn one -/
theorem ab_ix (r : Int) (h0 : 0 ≤ r) (h1 : r < 2) : ∃ x, dIx (.str "ab") (.int r) = some (.str x) ∧ x.length = 1 ∧ PySem.PyData.strOk x = true := by
  have : r = 0 ∨ r = 1 := by omega
  rcases this with rfl | rfl
  · refine ⟨⟨#[97]⟩, ?_, by decide, by decide +kernel⟩
    show (if ("ab" : PySem.Str).length ≤ PySem.sizeLine then (L2.atI ("ab" : PySem.Str).cps.toList 0).map (fun c => D.str ⟨#[c]⟩) else none) = _
    rw [if_pos (small_le (by decide +kernel)), show L2.atI ("ab" : PySem.Str).cps.toList 0 = some 97 from by decide +kernel]
    rfl
  · refine ⟨⟨#[98]⟩, ?_, by decide, by decide +kernel⟩
    show (if ("ab" : PySem.Str).length ≤ PySem.sizeLine then (L2.atI ("ab" : PySem.Str).cps.toList 1).map (fun c => D.str ⟨#[c]⟩) else none) = _
    rw [if_pos (small_le (by decide +kernel)), show L2.atI ("ab" : PySem.Str).cps.toList 1 = some 98 from by decide +kernel]
    rfl
theorem home_ok (x : PySem.Str) (hx : x.length = 1) (ho : PySem.PyData.strOk x = true) (n : Int) (h0 : 0 ≤ n) (h1 : n < 3) : ∃ z, dMulU (.str x) (.int n) = some z ∧ Sh 0 z := by
  have : n = 0 ∨ n = 1 ∨ n = 2 := by omega
  obtain ⟨c⟩ := x
  rcases this with rfl | rfl | rfl
  · exact ⟨.str PySem.Str.empty, rfl, sh_str (by decide +kernel)⟩
  · exact ⟨.str ⟨c⟩, rfl, sh_str ho⟩
  · have hl : (repS ⟨c⟩ 2).length = 2 := by
      unfold repS PySem.Str.length
      have : c.size = 1 := hx
      simp [List.replicate, this]
    refine ⟨.str (repS ⟨c⟩ 2), ?_, sh_str ?_⟩
    · show orD none ((mulS ⟨c⟩ 2).map D.str) = _
      unfold mulS
      rw [if_neg (by decide), if_neg (by decide), if_pos ⟨by decide, by rw [hx]; decide, by rw [hx]; decide, by
        rw [show (2 : Int).toNat = 2 from rfl, hl, PySem.sizeLine_eq]; decide⟩]
      rfl
    · unfold PySem.PyData.strOk at ho ⊢
      simp only [repS, List.replicate, List.foldl, Array.all_append, Array.empty_append]
      simp [ho]
end Lw

namespace Lw
open Ps
theorem ab_ix2 (r : Int) (h0 : 0 ≤ r) (h1 : r < 2) : ∃ x, dIx (.str "ab") (.int r) = some (.str x) ∧ (x = ⟨#[97]⟩ ∨ x = ⟨#[98]⟩) := by
  have : r = 0 ∨ r = 1 := by omega
  rcases this with rfl | rfl
  · refine ⟨⟨#[97]⟩, ?_, .inl rfl⟩
    show (if ("ab" : PySem.Str).length ≤ PySem.sizeLine then (L2.atI ("ab" : PySem.Str).cps.toList 0).map (fun c => D.str ⟨#[c]⟩) else none) = _
    rw [if_pos (small_le (by decide +kernel)), show L2.atI ("ab" : PySem.Str).cps.toList 0 = some 97 from by decide +kernel]
    rfl
  · refine ⟨⟨#[98]⟩, ?_, .inr rfl⟩
    show (if ("ab" : PySem.Str).length ≤ PySem.sizeLine then (L2.atI ("ab" : PySem.Str).cps.toList 1).map (fun c => D.str ⟨#[c]⟩) else none) = _
    rw [if_pos (small_le (by decide +kernel)), show L2.atI ("ab" : PySem.Str).cps.toList 1 = some 98 from by decide +kernel]
    rfl
theorem join3 {x y z : PySem.Str} (hx : x = ⟨#[97]⟩ ∨ x = ⟨#[98]⟩) (hy : y = ⟨#[97]⟩ ∨ y = ⟨#[98]⟩) (hz : z = ⟨#[97]⟩ ∨ z = ⟨#[98]⟩) : ∃ w, mJoin (.str "") (.lst [.str x, .str y, .str z]) = some (.str w) ∧ PySem.PyData.strOk w = true := by
  have h : mJoin (.str "") (.lst [.str x, .str y, .str z]) = some (.str (PySem.Txt.join "" [x, y, z])) := by
    show (if ([x, y, z].map (·.length)).sum + [x, y, z].length * ("" : PySem.Str).length ≤ 16777216 then some (D.str (PySem.Txt.join "" [x, y, z])) else none) = _
    rw [if_pos]
    rcases hx with rfl | rfl <;> rcases hy with rfl | rfl <;> rcases hz with rfl | rfl <;> decide +kernel
  refine ⟨_, h, ?_⟩
  rcases hx with rfl | rfl <;> rcases hy with rfl | rfl <;> rcases hz with rfl | rfl <;> decide +kernel
theorem rng_get {n : Nat} {j : Nat} {d : D} (h : ((List.range n).map fun i => D.int (i : Nat))[j]? = some d) : d = .int (j : Nat) ∧ j < n := by
  rw [List.getElem?_map] at h
  obtain ⟨i, h1, rfl⟩ := Option.map_eq_some_iff.mp h
  obtain ⟨h2, h3⟩ := List.getElem?_eq_some_iff.mp h1
  simp at h2 h3
  exact ⟨by rw [← h3], h2⟩
theorem rng_mem {n : Nat} {d : D} (h : d ∈ (List.range n).map fun i => D.int (i : Nat)) : ∃ i : Nat, d = .int (i : Nat) ∧ i < n := by
  obtain ⟨i, h1, rfl⟩ := List.mem_map.mp h
  exact ⟨i, rfl, by simpa using h1⟩
def inner : SS := (ssSeq (ssAsg (.nm 9) (sFn m_law_mixed (aCons (sLoc 0) (aCons (s2 dAddU (s2 dAddU (sC (.int 20)) (s2 dMulU (sC (.int 16)) (sLoc 4))) (sLoc 8)) (aCons (sC (.int 8)) aNil))))) (ssSeq (ssAsg (.nm 10) (sM1 mJoin (sC (.str "")) (sComp (.nm 11) [11] (sItems (sLst (aCons (sC (.int 1)) (aCons (sC (.int 2)) (aCons (sC (.int 4)) aNil))))) (sC (.bl true)) (s2 dIx (sC (.str "ab")) (s2 dMod (s2 dFdiv (sLoc 9) (sLoc 11)) (sC (.int 2))))))) (ssApp 7 (sTup (aCons (sLoc 10) (aCons (sFn m_law_mixed (aCons (sLoc 0) (aCons (s2 dAddU (s2 dAddU (sC (.int 100)) (s2 dMulU (sC (.int 16)) (sLoc 4))) (sLoc 8)) (aCons (sLoc 2) aNil)))) aNil))))))
theorem inner_ok (c many n : Int) (hs ws ac : D) (de : Int) (n1 : 1 ≤ n) (d0 : 0 ≤ de) (d5 : de < 5) (st : List (PySem.Str × Int)) (i : Nat) (hi : i < 16) (x9 x10 : Sl) (c9 : canSet x9 = true) (c10 : canSet x10 = true) (hl : st.length ≤ 1000) :
    ∃ w e y9 y10, canSet y9 = true ∧ canSet y10 = true ∧ PySem.PyData.strOk w = true ∧ 0 ≤ e ∧ e < n ∧
      inner [.sh (.int c), .sh (.int many), .sh (.int n), .ow hs, .sh (.int de), .ow ws, .ow ac, .ow (lineD st), .sh (.int i), x9, x10, .no] =
        .nx [.sh (.int c), .sh (.int many), .sh (.int n), .ow hs, .sh (.int de), .ow ws, .ow ac, .ow (lineD (st ++ [(w, e)])), .sh (.int i), y9, y10, .no] := by
  obtain ⟨a1, a2, a3⟩ := mx_ok c (20 + 16 * de + i) 8 (by decide) (by omega) (by omega)
  obtain ⟨b1, b2, b3⟩ := mx_ok c (100 + 16 * de + i) n (by omega) (by omega) (by omega)
  generalize mx c (20 + 16 * de + i) 8 = l at *
  generalize mx c (100 + 16 * de + i) n = e at *
  obtain ⟨x1, p1, q1⟩ := ab_ix2 (l / 1 % 2) (Int.emod_nonneg _ (by decide)) (Int.emod_lt_of_pos _ (by decide))
  obtain ⟨x2, p2, q2⟩ := ab_ix2 (l / 2 % 2) (Int.emod_nonneg _ (by decide)) (Int.emod_lt_of_pos _ (by decide))
  obtain ⟨x3, p3, q3⟩ := ab_ix2 (l / 4 % 2) (Int.emod_nonneg _ (by decide)) (Int.emod_lt_of_pos _ (by decide))
  obtain ⟨w, j1, j2⟩ := join3 q1 q2 q3
  refine ⟨w, e, .sh (.int l), .sh (.str w), rfl, rfl, j2, b2, b3, ?_⟩
  have m1 : dMulU (.int 16) (.int de) = some (.int (16 * de)) := dMulU_int (.inl (by decide))
  have hc := compR_ok (T := .nm 11) (vs := [11]) (ds := [.int 1, .int 2, .int 4]) (rs := [.str x1, .str x2, .str x3]) (ft := sC (.bl true)) (fe := (s2 dIx (sC (.str "ab")) (s2 dMod (s2 dFdiv (sLoc 9) (sLoc 11)) (sC (.int 2)))))
    (env := [.sh (.int c), .sh (.int many), .sh (.int n), .ow hs, .sh (.int de), .ow ws, .ow ac, .ow (.lst (st.map stepD)), .sh (.int i), .sh (.int l), x10, .no]) (by simp) (by rfl) (by
      simp only [Int.ediv_one] at p1
      simp [compL, wipeE, dFdiv_int, dMod_int, p1, p2, p3])
  unfold inner
  have hset : ∀ (x : Sl), canSet x = true → ∀ (env : En) (i : Nat) (s : Sl), setS (some x) env i s = some (env.set i s) := fun x hx env i s => by unfold setS; simp [hx]
  have hlen : (st.map stepD).length < PySem.sizeLine := by rw [PySem.sizeLine_eq]; simp; omega
  simp [m1, a1, b1, hset x9 c9, hset x10 c10, hc, j1, lineD]
  simp [stepD]
  rw [PySem.sizeLine_eq]; omega
end Lw
namespace Lw
open Ps
theorem setS_can {x : Sl} (hx : canSet x = true) (env : En) (i : Nat) (s : Sl) : setS (some x) env i s = some (env.set i s) := by unfold setS; simp [hx]
def GoodP (n : Int) (p : PySem.Str × Int) : Prop := PySem.PyData.strOk p.1 = true ∧ 0 ≤ p.2 ∧ p.2 < n
theorem inner_loop (c many n : Int) (hs ws ac : D) (de : Int) (n1 : 1 ≤ n) (d0 : 0 ≤ de) (d5 : de < 5) (k : Nat) (hk : k ≤ 16) (x8 x9 x10 : Sl) (c8 : canSet x8 = true) (c9 : canSet x9 = true) (c10 : canSet x10 = true) :
    ∃ st y8 y9 y10, canSet y8 = true ∧ canSet y9 = true ∧ canSet y10 = true ∧ st.length = k ∧ (∀ p ∈ st, GoodP n p) ∧
      loopF (.nm 8) inner ((List.range k).map fun i => .int (i : Nat)) [.sh (.int c), .sh (.int many), .sh (.int n), .ow hs, .sh (.int de), .ow ws, .ow ac, .ow (.lst []), x8, x9, x10, .no] =
        .nx [.sh (.int c), .sh (.int many), .sh (.int n), .ow hs, .sh (.int de), .ow ws, .ow ac, .ow (lineD st), y8, y9, y10, .no] := by
  obtain ⟨e', h1, st, y8, y9, y10, g8, g9, g10, rfl, hl, hg⟩ := loop_inv (T := .nm 8) (body := inner) (fun i env => ∃ (st : List (PySem.Str × Int)) (x8 x9 x10 : Sl), canSet x8 = true ∧ canSet x9 = true ∧ canSet x10 = true ∧
      env = [.sh (.int c), .sh (.int many), .sh (.int n), .ow hs, .sh (.int de), .ow ws, .ow ac, .ow (lineD st), x8, x9, x10, .no] ∧ st.length = i ∧ ∀ p ∈ st, GoodP n p)
    ((List.range k).map fun i => .int (i : Nat)) 0 [.sh (.int c), .sh (.int many), .sh (.int n), .ow hs, .sh (.int de), .ow ws, .ow ac, .ow (.lst []), x8, x9, x10, .no]
    ⟨[], x8, x9, x10, c8, c9, c10, rfl, rfl, fun _ h => nomatch h⟩ (fun j d env hj ⟨st, x8, x9, x10, c8, c9, c10, he, hl, hg⟩ => by
      subst he
      obtain ⟨rfl, hjk⟩ := rng_get hj
      obtain ⟨w, e, y9, y10, g9, g10, w1, e1, e2, hin⟩ := inner_ok c many n hs ws ac de n1 d0 d5 st j (by omega) x9 x10 c9 c10 (by omega)
      refine ⟨_, _, by simp [setS_can c8], hin, st ++ [(w, e)], _, y9, y10, rfl, g9, g10, rfl, by simp [hl], fun p hp => ?_⟩
      rcases List.mem_append.mp hp with hp | hp
      · exact hg p hp
      · rw [List.mem_singleton.mp hp]; exact ⟨w1, e1, e2⟩)
  exact ⟨st, y8, y9, y10, g8, g9, g10, by simpa using hl, hg, h1⟩
def outer : SS := (ssSeq (ssOwn 7 (sLst aNil)) (ssSeq (ssFor (.nm 8) (sRng rng1 (aCons (s2 dMulU (sC (.int 2)) (sLoc 1)) aNil)) inner) (ssSeq (ssFrz 7) (ssApp 6 (sLoc 7)))))
theorem outer_loop (c many n : Int) (hs ws : D) (m2 : 2 ≤ many) (m8 : many ≤ 8) (n1 : 1 ≤ n) (k : Nat) (hk : k ≤ 5) :
    ∃ (ls : List (List (PySem.Str × Int))) (y4 y7 y8 y9 y10 : Sl), (canSet y4 = true ∧ canSet y7 = true ∧ canSet y8 = true ∧ canSet y9 = true ∧ canSet y10 = true) ∧ ls.length = k ∧ (∀ l ∈ ls, (l.length : Int) = 2 * many ∧ ∀ p ∈ l, GoodP n p) ∧
      loopF (.nm 4) outer ((List.range k).map fun i => .int (i : Nat)) [.sh (.int c), .sh (.int many), .sh (.int n), .ow hs, .no, .ow ws, .ow (.lst []), .no, .no, .no, .no, .no] =
        .nx [.sh (.int c), .sh (.int many), .sh (.int n), .ow hs, y4, .ow ws, .ow (.lst (ls.map lineD)), y7, y8, y9, y10, .no] := by
  obtain ⟨e', h1, ls, y4, y7, y8, y9, y10, gg, rfl, hl, hg⟩ := loop_inv (T := .nm 4) (body := outer) (fun i env => ∃ (ls : List (List (PySem.Str × Int))) (x4 x7 x8 x9 x10 : Sl), (canSet x4 = true ∧ canSet x7 = true ∧ canSet x8 = true ∧ canSet x9 = true ∧ canSet x10 = true) ∧
      env = [.sh (.int c), .sh (.int many), .sh (.int n), .ow hs, x4, .ow ws, .ow (.lst (ls.map lineD)), x7, x8, x9, x10, .no] ∧ ls.length = i ∧ ∀ l ∈ ls, (l.length : Int) = 2 * many ∧ ∀ p ∈ l, GoodP n p)
    ((List.range k).map fun i => .int (i : Nat)) 0 [.sh (.int c), .sh (.int many), .sh (.int n), .ow hs, .no, .ow ws, .ow (.lst []), .no, .no, .no, .no, .no]
    ⟨[], .no, .no, .no, .no, .no, ⟨rfl, rfl, rfl, rfl, rfl⟩, rfl, rfl, fun _ h => nomatch h⟩ (fun j d env hj ⟨ls, x4, x7, x8, x9, x10, ⟨c4, c7, c8, c9, c10⟩, he, hl, hg⟩ => by
      subst he
      obtain ⟨rfl, hjk⟩ := rng_get hj
      obtain ⟨st, y8, y9, y10, g8, g9, g10, sl, sg, hin⟩ := inner_loop c many n hs ws (.lst (ls.map lineD)) j n1 (by omega) (by omega) (2 * many).toNat (by omega) x8 x9 x10 c8 c9 c10
      refine ⟨[.sh (.int c), .sh (.int many), .sh (.int n), .ow hs, .sh (.int (j : Nat)), .ow ws, .ow (.lst (ls.map lineD)), x7, x8, x9, x10, .no], [.sh (.int c), .sh (.int many), .sh (.int n), .ow hs, .sh (.int (j : Nat)), .ow ws, .ow (.lst ((ls ++ [st]).map lineD)), .sh (lineD st), y8, y9, y10, .no], by simp [setS_can c4], ?_, ls ++ [st], _, _, y8, y9, y10, ⟨rfl, rfl, g8, g9, g10⟩, rfl, by simp [hl], fun p hp => ?_⟩
      · have m1 : dMulU (.int 2) (.int many) = some (.int (2 * many)) := dMulU_int (.inl (by decide))
        have hlen : ls.length < PySem.sizeLine := by rw [PySem.sizeLine_eq]; omega
        unfold outer
        simp [setS_can c7, m1, rngR_1 (by omega : 0 ≤ 2 * many) (by omega : 2 * many ≤ 1000000), hin, hlen]
      · rcases List.mem_append.mp hp with hp | hp
        · exact hg p hp
        · rw [List.mem_singleton.mp hp]; exact ⟨by rw [sl]; omega, sg⟩)
  exact ⟨ls, y4, y7, y8, y9, y10, gg, by simpa using hl, hg, h1⟩
theorem sheet_ok (c many : Int) (m2 : 2 ≤ many) (m8 : many ≤ 8) : ∃ hs ws ls, m_law_sheet [.int c, .int many] = .ok (.tup [.lst hs, .lst (ws.map .int), .lst (ls.map lineD)]) ∧ Good many hs ws ls := by
  obtain ⟨a1, a2, a3⟩ := mx_ok c 1 5 (by decide) (by decide) (by decide)
  generalize mx c 1 5 = q at *
  have hn : (1 + q).toNat ≤ 5 := by omega
  have cn : (((1 + q).toNat : Nat) : Int) = 1 + q := Int.toNat_of_nonneg (by omega)
  obtain ⟨hs, h1, h2, h3⟩ := compL_ex (T := .nm 4) (env := [.sh (.int c), .sh (.int many), .sh (.int (1 + q)), .no, .no, .no, .no, .no, .no, .no, .no, .no]) (Q := Sh 0)
    (fe := (s2 dMulU (s2 dIx (sC (.str "ab")) (sFn m_law_mixed (aCons (sLoc 0) (aCons (s2 dAddU (sC (.int 2)) (sLoc 4)) (aCons (sC (.int 2)) aNil))))) (s2 dMod (sLoc 4) (sC (.int 3)))))
    ((List.range (1 + q).toNat).map fun i => .int (i : Nat)) (fun d hd => by
      obtain ⟨i, rfl, hi⟩ := rng_mem hd
      obtain ⟨b1, b2, b3⟩ := mx_ok c (2 + i) 2 (by decide) (by omega) (by omega)
      obtain ⟨x, x1, x2, x3⟩ := ab_ix _ b2 b3
      obtain ⟨z, z1, z2⟩ := home_ok x x2 x3 ((i : Int) % 3) (Int.emod_nonneg _ (by decide)) (Int.emod_lt_of_pos _ (by decide))
      exact ⟨_, z, rfl, by simp [b1, x1, dMod_int, z1], z2⟩)
  obtain ⟨ws', w1, w2, w3⟩ := compL_ex (T := .nm 4) (env := [.sh (.int c), .sh (.int many), .sh (.int (1 + q)), .ow (.lst hs), .no, .no, .no, .no, .no, .no, .no, .no]) (Q := fun d => ∃ i, d = .int i ∧ 2 ≤ i ∧ i ≤ 3)
    (fe := (s2 dAddU (sC (.int 2)) (sFn m_law_mixed (aCons (sLoc 0) (aCons (s2 dAddU (sC (.int 10)) (sLoc 4)) (aCons (sC (.int 2)) aNil))))))
    ((List.range (1 + q).toNat).map fun i => .int (i : Nat)) (fun d hd => by
      obtain ⟨i, rfl, hi⟩ := rng_mem hd
      obtain ⟨b1, b2, b3⟩ := mx_ok c (10 + i) 2 (by decide) (by omega) (by omega)
      exact ⟨_, .int (2 + mx c (10 + i) 2), rfl, by simp [b1], _, rfl, by omega, by omega⟩)
  obtain ⟨ws, rfl, w4⟩ := ints_of w3
  obtain ⟨ls, y4, y7, y8, y9, y10, ⟨g4, g7, g8, g9, g10⟩, l1, l2, l3⟩ := outer_loop c many (1 + q) (.lst hs) (.lst (ws.map .int)) m2 m8 (by omega) (1 + q).toNat hn
  simp at h2 w2
  refine ⟨hs, ws, ls, ?_, ⟨by omega, by omega, by omega, by omega, h3, w4, fun l hl => ⟨(l2 l hl).1, fun p hp => ?_⟩⟩⟩
  · have c1 := compR_ok (vs := [4]) (env := [.sh (.int c), .sh (.int many), .sh (.int (1 + q)), .no, .no, .no, .no, .no, .no, .no, .no, .no]) (by simp; omega) (by rfl) h1
    have c2 := compR_ok (vs := [4]) (env := [.sh (.int c), .sh (.int many), .sh (.int (1 + q)), .ow (.lst hs), .no, .no, .no, .no, .no, .no, .no, .no]) (by simp; omega) (by rfl) w1
    unfold m_law_sheet b_law_sheet runF env0
    simp only [outer, inner] at l3
    simp [argE, a1, rngR_1 (by omega : 0 ≤ 1 + q) (by omega : 1 + q ≤ 1000000), c1, c2, l3]
  · obtain ⟨p1, p2, p3⟩ := (l2 l hl).2 p hp
    exact ⟨p1, p2, by omega⟩
end Lw

namespace Lw
open Ps
theorem erase_map {α β : Type} (f : α → β) : ∀ (l : List α) (i : Nat), (l.map f).eraseIdx i = (l.eraseIdx i).map f
  | [], _ => by simp
  | x :: l, 0 => by simp
  | x :: l, i + 1 => by simp [erase_map f l i]
theorem erase_perm {α : Type} : ∀ (l : List α) (i : Nat) (h : i < l.length), (l[i] :: l.eraseIdx i).Perm l
  | x :: l, 0, _ => by simp
  | x :: l, i + 1, h => by
    have h' : i < l.length := by simpa using h
    have ih := erase_perm l i h'
    show (l[i] :: x :: l.eraseIdx i).Perm (x :: l)
    exact (List.Perm.swap _ _ _).trans (ih.cons x)
theorem popD_ok (rest : List Int) (k : Int) (h0 : 0 ≤ k) (h1 : k.toNat < rest.length) (h2 : rest.length ≤ 1000) : popD (rest.map .int) k = some (.int rest[k.toNat], (rest.eraseIdx k.toNat).map .int) := by
  unfold popD
  rw [if_pos ⟨by omega, by omega⟩]
  have hs : PySem.seqIndex? k (rest.map D.int).length = some k.toNat := by
    unfold PySem.seqIndex?
    simp
    rw [if_neg (by omega)]
    simp
    omega
  rw [hs]
  simp [List.getElem?_map, List.getElem?_eq_getElem h1, erase_map]
theorem half_ok (c many : Int) (m2 : 2 ≤ many) (m8 : many ≤ 8) : ∃ ks : List Int, m_law_half [.int c, .int many] = .ok (.lst (ks.map .int)) ∧ (ks.length : Int) = many ∧ ks.Nodup ∧ ∀ k ∈ ks, 0 ≤ k ∧ k < 2 * many := by
  have m1 : dMulU (.int 2) (.int many) = some (.int (2 * many)) := dMulU_int (.inl (by decide))
  obtain ⟨e', h1, rest, found, x4, c4, rfl, hp, hl⟩ := loop_inv (T := .nm 4) (body := ssAppPop 3 2 (sFn m_law_mixed (aCons (sLoc 0) (aCons (s2 dAddU (sC (.int 20)) (sLoc 4)) (aCons (sCall cLen (aCons (sLocB 2) aNil)) aNil)))))
    (fun i env => ∃ (rest found : List Int) (x4 : Sl), canSet x4 = true ∧ env = [.sh (.int c), .sh (.int many), .ow (.lst (rest.map .int)), .ow (.lst (found.map .int)), x4] ∧
      (rest ++ found).Perm ((List.range (2 * many).toNat).map fun i => ((i : Nat) : Int)) ∧ found.length = i)
    ((List.range many.toNat).map fun i => .int (i : Nat)) 0 [.sh (.int c), .sh (.int many), .ow (.lst ((List.range (2 * many).toNat).map fun i => .int (i : Nat))), .ow (.lst []), .no]
    ⟨(List.range (2 * many).toNat).map fun i => ((i : Nat) : Int), [], .no, rfl, by simp [Function.comp_def], by simp, rfl⟩ (fun j d env hj ⟨rest, found, x4, c4, he, hp, hl⟩ => by
      subst he
      obtain ⟨rfl, hjk⟩ := rng_get hj
      have hlen := hp.length_eq
      simp at hlen
      have hr : 0 < rest.length := by omega
      obtain ⟨b1, b2, b3⟩ := mx_ok c (20 + j) rest.length (by omega) (by omega) (by omega)
      generalize mx c (20 + j) rest.length = k at *
      have hk : k.toNat < rest.length := by omega
      have po := popD_ok rest k b2 hk (by omega)
      refine ⟨[.sh (.int c), .sh (.int many), .ow (.lst (rest.map .int)), .ow (.lst (found.map .int)), .sh (.int (j : Nat))], [.sh (.int c), .sh (.int many), .ow (.lst ((rest.eraseIdx k.toNat).map .int)), .ow (.lst ((found ++ [rest[k.toNat]]).map .int)), .sh (.int (j : Nat))],
        by simp [setS_can c4], ?_, rest.eraseIdx k.toNat, found ++ [rest[k.toNat]], _, rfl, rfl, ?_, by simp [hl]⟩
      · have hs : found.length < PySem.sizeLine := by rw [PySem.sizeLine_eq]; omega
        simp [ssAppPop, b1, bndS, po, hs]
      · refine List.Perm.trans ?_ hp
        have q := erase_perm rest k.toNat hk
        rw [← List.append_assoc]
        refine (List.perm_append_comm).trans ?_
        show (rest[k.toNat] :: (rest.eraseIdx k.toNat ++ found)).Perm (rest ++ found)
        exact (q.append_right found))
  refine ⟨found, ?_, by simp at hl; omega, ?_, fun k hk => ?_⟩
  · unfold m_law_half b_law_half runF env0
    have hrg : cRg [.int (2 * many)] = some (.lst ((List.range (2 * many).toNat).map fun i => .int (i : Nat))) := if_pos ⟨by omega, by omega⟩
    simp [argE, m1, hrg, rngR_1 (by omega : 0 ≤ many) (by omega : many ≤ 1000000), h1]
  · have nd : (rest ++ found).Nodup := hp.nodup_iff.mpr (by
      refine List.Pairwise.map _ (fun a b h => ?_) List.nodup_range
      intro z; exact h (by omega))
    exact (List.nodup_append.mp nd).2.1
  · have : k ∈ (List.range (2 * many).toNat).map fun i => ((i : Nat) : Int) := hp.mem_iff.mp (List.mem_append_right _ hk)
    obtain ⟨i, h1, rfl⟩ := List.mem_map.mp this
    have := List.mem_range.mp h1
    omega
theorem in_int (k : Int) (ks : List Int) : inD (.int k) (.lst (ks.map .int)) = some (decide (k ∈ ks)) := by
  have h1 : (ks.map D.int).all dFlat = true := by simp [dFlat]
  show (if dFlat (.int k) && (ks.map D.int).all dFlat then some (L2.inV (toV (.int k)) ((ks.map D.int).map toV)) else none) = _
  rw [h1]
  simp only [dFlat, Bool.true_and, if_true]
  congr 1
  unfold L2.inV
  rw [List.map_map, List.any_map]
  rw [Bool.eq_iff_iff]
  simp [toV, L2.eqV]
def pick (l : List (PySem.Str × Int)) (ks : List Int) (b : Bool) : List (PySem.Str × Int) := ((List.range l.length).filter fun (i : Nat) => decide ((i : Int) ∈ ks) == b).map fun i => l.getD i ("", 0)
theorem pick_mem {l : List (PySem.Str × Int)} {ks : List Int} {b : Bool} {p : PySem.Str × Int} (h : p ∈ pick l ks b) : p ∈ l := by
  obtain ⟨i, h1, rfl⟩ := List.mem_map.mp h
  have h2 := List.mem_range.mp (List.mem_filter.mp h1).1
  simp [List.getD_eq_getElem?_getD, h2]
theorem pick_len {l : List (PySem.Str × Int)} {ks : List Int} (nd : ks.Nodup) (hk : ∀ k ∈ ks, 0 ≤ k ∧ k < l.length) : (pick l ks true).length = ks.length ∧ (pick l ks false).length = l.length - ks.length := by
  have h1 : (pick l ks true).length = ks.length := by
    unfold pick
    rw [List.length_map]
    have hp : (((List.range l.length).filter fun (i : Nat) => decide ((i : Int) ∈ ks) == true).map fun i => ((i : Nat) : Int)).Perm ks := by
      rw [List.perm_ext_iff_of_nodup (by
        refine List.Pairwise.map _ (fun a b h => ?_) (List.Pairwise.filter _ List.nodup_range)
        intro z; exact h (by omega)) nd]
      intro a
      constructor
      · intro h
        obtain ⟨i, q1, rfl⟩ := List.mem_map.mp h
        simpa using (List.mem_filter.mp q1).2
      · intro h
        obtain ⟨q1, q2⟩ := hk a h
        refine List.mem_map.mpr ⟨a.toNat, List.mem_filter.mpr ⟨List.mem_range.mpr (by omega), ?_⟩, by omega⟩
        rw [show ((a.toNat : Nat) : Int) = a by omega]
        simpa using h
    rw [← hp.length_eq, List.length_map]
  refine ⟨h1, ?_⟩
  have h2 := List.length_eq_countP_add_countP (fun i : Nat => decide ((i : Int) ∈ ks) == true) (l := List.range l.length)
  unfold pick at h1 ⊢
  rw [List.length_map, ← List.countP_eq_length_filter] at h1 ⊢
  rw [List.length_range, h1] at h2
  have h3 : List.countP (fun i : Nat => decide ((i : Int) ∈ ks) == false) (List.range l.length) = List.countP (fun a : Nat => decide ¬(decide ((a : Int) ∈ ks) == true) = true) (List.range l.length) := by
    congr 1; funext i; cases h : decide ((i : Int) ∈ ks) <;> simp
  rw [h3]
  omega
theorem ix_line (l : List (PySem.Str × Int)) (i : Nat) (h : i < l.length) : dIx (lineD l) (.int i) = some (stepD (l.getD i ("", 0))) := by
  show L2.atI (l.map stepD) (i : Int) = _
  unfold L2.atI L2.ixN
  rw [if_pos (by omega), if_pos (by rw [List.length_map]; omega)]
  simp [List.getD_eq_getElem?_getD, h]
theorem ix_ints (ws : List Int) (e : Int) (h0 : 0 ≤ e) (h1 : e < ws.length) : dIx (.lst (ws.map .int)) (.int e) = some (.int (ws.getD e.toNat 0)) := by
  show L2.atI (ws.map D.int) e = _
  unfold L2.atI L2.ixN
  rw [if_pos h0, if_pos (by rw [List.length_map]; omega)]
  have : e.toNat < ws.length := by omega
  simp [List.getD_eq_getElem?_getD, this]
theorem ix_lst (ds : List D) (e : Int) (h0 : 0 ≤ e) (h1 : e.toNat < ds.length) : dIx (.lst ds) (.int e) = some ds[e.toNat] := by
  show L2.atI ds e = _
  unfold L2.atI L2.ixN
  rw [if_pos h0, if_pos (by omega)]
  simp [h1]
end Lw

namespace Lw
open Ps
def flds (hs : List D) (ws : List Int) (ls : List (List (PySem.Str × Int))) : List (PySem.Str × D) := [("homes", .lst hs), ("weights", .lst (ws.map .int)), ("lines", .lst (ls.map lineD))]
def S (hs : List D) (ws : List Int) (ls : List (List (PySem.Str × Int))) : D := .obj 1 (flds hs ws ls)
theorem f_homes (hs : List D) (ws : List Int) (ls : List (List (PySem.Str × Int))) : fldR 1 "homes" (.ok (S hs ws ls)) = .ok (.lst hs) := by
  unfold S flds
  rw [fldR_ok, List.lookup_cons, show (("homes" : PySem.Str) == "homes") = true from by decide +kernel]
  rfl
theorem f_weights (hs : List D) (ws : List Int) (ls : List (List (PySem.Str × Int))) : fldR 1 "weights" (.ok (S hs ws ls)) = .ok (.lst (ws.map .int)) := by
  unfold S flds
  rw [fldR_ok, List.lookup_cons, show (("weights" : PySem.Str) == "homes") = false from by decide +kernel, List.lookup_cons, show (("weights" : PySem.Str) == "weights") = true from by decide +kernel]
  rfl
theorem f_lines (hs : List D) (ws : List Int) (ls : List (List (PySem.Str × Int))) : fldR 1 "lines" (.ok (S hs ws ls)) = .ok (.lst (ls.map lineD)) := by
  unfold S flds
  rw [fldR_ok, List.lookup_cons, show (("lines" : PySem.Str) == "homes") = false from by decide +kernel, List.lookup_cons, show (("lines" : PySem.Str) == "weights") = false from by decide +kernel, List.lookup_cons, show (("lines" : PySem.Str) == "lines") = true from by decide +kernel]
  rfl
theorem comp_copy (ls : List (List (PySem.Str × Int))) (env : En) (i : Nat) (h : ∀ d, ∃ e, bindT (.nm i) d env = some e ∧ sLoc i e = .ok d) : compL (.nm i) env (sC (.bl true)) (sCall cList (aCons (sLoc i) aNil)) (ls.map lineD) = some (ls.map lineD) := by
  have := compL_map (T := .nm i) (env := env) (fe := sCall cList (aCons (sLoc i) aNil)) (fun d => d) (ls.map lineD) (fun d hd => by
    obtain ⟨l, _, rfl⟩ := List.mem_map.mp hd
    obtain ⟨e, h1, h2⟩ := h (lineD l)
    refine ⟨e, h1, ?_⟩
    rw [sCall_eq, aCons_eq, h2]
    rfl)
  exact this.trans (by rw [List.map_id'])
theorem fld_ok {n : PySem.Str} {fs : List (PySem.Str × D)} {f : SE} {env : En} {d : D} (h0 : (env[0]? : Option Sl) = some (.oo 1 fs [])) (hn : n ∈ clsF 1) (hf : hasF n fs = false) (hl : fs.length < 800) (h : f env = .ok d) : ssFld 1 0 n f env = .nx (env.set 0 (.oo 1 (fs ++ [(n, d)]) [])) := by
  unfold ssFld
  rw [h0]
  simp only
  rw [if_pos ⟨trivial, hn, rfl, hf, by simpa using hl⟩, h]
  rfl
theorem init_S (hs : List D) (ws : List Int) (ls : List (List (PySem.Str × Int))) (hl : ls.length ≤ 1000) : m_Sheet__init_ [.lst hs, .lst (ws.map .int), .lst (ls.map lineD)] = .ok (flds hs ws ls) := by
  unfold m_Sheet__init_ b_Sheet__init_ runInit envI
  rw [ssSeq_eq, fld_ok (fs := []) (d := .lst hs) rfl (by decide +kernel) rfl (by simp) (by simp [argE]), seqO_nx, ssSeq_eq,
    fld_ok (fs := [("homes", .lst hs)]) (d := .lst (ws.map .int)) rfl (by decide +kernel) (by
      show (decide (("homes" : PySem.Str) = "weights") || false) = false
      decide +kernel) (by simp) (by simp [argE]), seqO_nx,
    fld_ok (fs := [("homes", .lst hs), ("weights", .lst (ws.map .int))]) (d := .lst (ls.map lineD)) rfl (by decide +kernel) (by
      show (decide (("homes" : PySem.Str) = "lines") || (decide (("weights" : PySem.Str) = "lines") || false)) = false
      decide +kernel) (by simp) (by
      have hc := comp_copy ls [.oo 1 [("homes", .lst hs), ("weights", .lst (ws.map .int))] [], .sh (.lst hs), .sh (.lst (ws.map .int)), .sh (.lst (ls.map lineD)), .no] 4 (fun d => ⟨_, rfl, rfl⟩)
      have hd := compR_ok (vs := [4]) (env := [.oo 1 [("homes", .lst hs), ("weights", .lst (ws.map .int))] [], .sh (.lst hs), .sh (.lst (ws.map .int)), .sh (.lst (ls.map lineD)), .no]) (by simp; omega) (by rfl) hc
      simpa [argE] using hd)]
  rfl
theorem mk_S (hs : List D) (ws : List Int) (ls : List (List (PySem.Str × Int))) (hl : ls.length ≤ 1000) : mkR 1 m_Sheet__init_ (.ok [.lst hs, .lst (ws.map .int), .lst (ls.map lineD)]) = .ok (S hs ws ls) := by
  rw [mkR_ok, if_pos (by rfl), init_S hs ws ls hl]
  rfl
def wOf (ws : List Int) (p : PySem.Str × Int) : Int := ws.getD p.2.toNat 0
theorem unInts_map {α : Type} (f : α → Int) : ∀ l : List α, unInts (l.map fun a => D.int (f a)) = some (l.map f)
  | [] => rfl
  | a :: l => by
    show (unInts (l.map fun a => D.int (f a))).map _ = _
    rw [unInts_map f l]; rfl
/-- sum([weights[end] for word, end in line]) -/
theorem comp_w (ws : List Int) (st : List (PySem.Str × Int)) (hst : ∀ p ∈ st, 0 ≤ p.2 ∧ p.2 < ws.length) (env : En) (i j : Nat) (fw : SE) (h : ∀ w e, ∃ en, bindL [i, j] [.str w, .int e] env = some en ∧ fw en = .ok (.lst (ws.map .int)) ∧ sLoc j en = .ok (.int e)) :
    compL (.tp [i, j]) env (sC (.bl true)) (s2 dIx fw (sLoc j)) (st.map stepD) = some (st.map fun p => D.int (wOf ws p)) := by
  have := compL_map (T := .tp [i, j]) (env := env) (fe := s2 dIx fw (sLoc j)) (fun d => match d with | .tup [.str w, .int e] => .int (wOf ws (w, e)) | d => d) (st.map stepD) (fun d hd => by
    obtain ⟨p, hp, rfl⟩ := List.mem_map.mp hd
    obtain ⟨en, h1, h2, h3⟩ := h p.1 p.2
    refine ⟨en, h1, ?_⟩
    obtain ⟨q1, q2⟩ := hst p hp
    rw [s2_eq, h2, h3, s2R_ok, ix_ints ws p.2 q1 q2]
    rfl)
  rw [this, List.map_map]
  rfl
theorem borne_ok (hs : List D) (ws : List Int) (ls : List (List (PySem.Str × Int))) (st : List (PySem.Str × Int)) (hst : ∀ p ∈ st, 0 ≤ p.2 ∧ p.2 < ws.length) (hl : st.length ≤ 1000) : m_borne_by [S hs ws ls, lineD st] = .ok (.int (st.map (wOf ws)).sum) := by
  have hc := comp_w ws st hst [.sh (S hs ws ls), .sh (lineD st), .no, .no] 2 3 (sFld 1 "weights" (sLoc 0)) (fun w e => ⟨_, rfl, by simp [f_weights], rfl⟩)
  have hd := compR_ok (vs := [2, 3]) (env := [.sh (S hs ws ls), .sh (lineD st), .no, .no]) (by simp; omega) (by rfl) hc
  unfold m_borne_by b_borne_by runF env0
  have hs : cSum [.lst (st.map fun p => D.int (wOf ws p))] = some (.int (st.map (wOf ws)).sum) := by
    show (unInts _).map _ = _
    rw [unInts_map]; rfl
  have hi : itemsR (.ok (lineD st)) = .ok (.lst (st.map stepD)) := rfl
  simp [argE, hi, hd, hs]
theorem sum_ge (ws : List Int) (hw : ∀ w ∈ ws, 2 ≤ w ∧ w ≤ 3) : ∀ (st : List (PySem.Str × Int)), (∀ p ∈ st, 0 ≤ p.2 ∧ p.2 < ws.length) → 2 * (st.length : Int) ≤ (st.map (wOf ws)).sum
  | [], _ => by simp
  | p :: st, h => by
    have ih := sum_ge ws hw st fun q hq => h q (List.mem_cons_of_mem _ hq)
    obtain ⟨h0, h1⟩ := h p List.mem_cons_self
    have : p.2.toNat < ws.length := by omega
    have hp : 2 ≤ wOf ws p := by
      unfold wOf
      rw [List.getD_eq_getElem?_getD, List.getElem?_eq_getElem this]
      exact (hw _ (List.getElem_mem this)).1
    simp only [List.map_cons, List.sum_cons, List.length_cons]
    omega
def dbl (l : List (PySem.Str × Int)) (d o : Int) : List (PySem.Str × Int) := l.flatMap fun p => if p.2 = d then [p, (p.1, o)] else [p]
theorem dbl_len (d o : Int) : ∀ l : List (PySem.Str × Int), (dbl l d o).length ≤ 2 * l.length
  | [] => by simp [dbl]
  | p :: l => by
    have ih := dbl_len d o l
    unfold dbl at ih ⊢
    rw [List.flatMap_cons, List.length_append, List.length_cons]
    split <;> simp only [List.length_cons, List.length_nil] <;> omega
theorem dbl_ok (l : List (PySem.Str × Int)) (d o : Int) (hl : l.length ≤ 1000) : m_doubled [lineD l, .int d, .int o] = .ok (lineD (dbl l d o)) := by
  have key : ∀ (r acc : List (PySem.Str × Int)) (x4 x5 : Sl), canSet x4 = true → canSet x5 = true → acc.length + 2 * r.length ≤ 2000 → ∃ y4 y5, loopF (.tp [4, 5]) (ssSeq (ssApp 3 (sTup (aCons (sLoc 4) (aCons (sLoc 5) aNil)))) (ssIf (s2 dEq (sLoc 5) (sLoc 1)) (ssApp 3 (sTup (aCons (sLoc 4) (aCons (sLoc 2) aNil)))) ssNext))
      (r.map stepD) [.sh (lineD l), .sh (.int d), .sh (.int o), .ow (lineD acc), x4, x5] = .nx [.sh (lineD l), .sh (.int d), .sh (.int o), .ow (lineD (acc ++ dbl r d o)), y4, y5] := by
    intro r
    induction r with
    | nil => exact fun acc x4 x5 _ _ _ => ⟨x4, x5, by simp [dbl]⟩
    | cons p r ih =>
      intro acc x4 x5 c4 c5 hlen
      simp only [List.length_cons] at hlen
      have s1 : acc.length < PySem.sizeLine := by rw [PySem.sizeLine_eq]; omega
      have s2 : acc.length + 1 < PySem.sizeLine := by rw [PySem.sizeLine_eq]; omega
      by_cases hp : p.2 = d
      · obtain ⟨y4, y5, h⟩ := ih (acc ++ [p, (p.1, o)]) (.sh (.str p.1)) (.sh (.int p.2)) rfl rfl (by simp; omega)
        refine ⟨y4, y5, ?_⟩
        have e : acc ++ dbl (p :: r) d o = acc ++ [p, (p.1, o)] ++ dbl r d o := by
          unfold dbl; rw [List.flatMap_cons, if_pos hp, List.append_assoc]
        rw [e, ← h]
        rw [List.map_cons, loopF_cons]
        simp only [stepD, bindT_tp, bindL_cons, bindL_nil, setSl_eq, List.getElem?_cons_zero, List.getElem?_cons_succ, setS_can c4, Option.bind_some, List.set_cons_succ, List.set_cons_zero, setS_can c5]
        simp [lineD, s1, s2, hp, stepD]
      · obtain ⟨y4, y5, h⟩ := ih (acc ++ [p]) (.sh (.str p.1)) (.sh (.int p.2)) rfl rfl (by simp; omega)
        refine ⟨y4, y5, ?_⟩
        have e : acc ++ dbl (p :: r) d o = acc ++ [p] ++ dbl r d o := by
          unfold dbl; rw [List.flatMap_cons, if_neg hp, List.append_assoc]
        rw [e, ← h]
        rw [List.map_cons, loopF_cons]
        simp only [stepD, bindT_tp, bindL_cons, bindL_nil, setSl_eq, List.getElem?_cons_zero, List.getElem?_cons_succ, setS_can c4, Option.bind_some, List.set_cons_succ, List.set_cons_zero, setS_can c5]
        simp [lineD, s1, s2, hp, stepD]
  obtain ⟨y4, y5, h⟩ := key l [] .no .no rfl rfl (by simp; omega)
  unfold m_doubled b_doubled runF env0
  simp only [lineD, List.map_nil, List.nil_append] at h
  simp [argE, lineD, h]
end Lw

namespace Lw
open Ps
theorem comp_pick (l : List (PySem.Str × Int)) (ks : List Int) (b : Bool) (env : En) (i : Nat) (ft fe : SE) (h : ∀ k : Nat, k < l.length → ∃ en, bindT (.nm i) (.int k) env = some en ∧ ft en = .ok (.bl (decide ((k : Int) ∈ ks) == b)) ∧ fe en = .ok (stepD (l.getD k ("", 0)))) :
    compL (.nm i) env ft fe ((List.range l.length).map fun i => .int (i : Nat)) = some ((pick l ks b).map stepD) := by
  have := compL_filter (T := .nm i) (env := env) (ft := ft) (fe := fe) (fun d => match d with | .int k => decide (k ∈ ks) == b | _ => false) (fun d => match d with | .int k => stepD (l.getD k.toNat ("", 0)) | d => d)
    ((List.range l.length).map fun i => .int (i : Nat)) (fun d hd => by
      obtain ⟨k, rfl, hk⟩ := rng_mem hd
      obtain ⟨en, h1, h2, h3⟩ := h k hk
      exact ⟨en, h1, h2, fun _ => by rw [h3]; rfl⟩)
  rw [this]
  unfold pick
  rw [List.filter_map, List.map_map, List.map_map]
  rfl
theorem dIn_int (k : Int) (ks : List Int) : dIn (.int k) (.lst (ks.map .int)) = some (.bl (decide (k ∈ ks))) := by unfold dIn; rw [in_int]; rfl
theorem dNotIn_int (k : Int) (ks : List Int) : dNotIn (.int k) (.lst (ks.map .int)) = some (.bl (!decide (k ∈ ks))) := by unfold dNotIn; rw [in_int]; rfl
theorem ix_lines (ls : List (List (PySem.Str × Int))) (d : Int) (h0 : 0 ≤ d) (h1 : d < ls.length) : dIx (.lst (ls.map lineD)) (.int d) = some (lineD (ls.getD d.toNat [])) := by
  have h : d.toNat < ls.length := by omega
  rw [ix_lst _ d h0 (by rw [List.length_map]; omega)]
  simp [List.getD_eq_getElem?_getD, h]
theorem cLen_line (l : List (PySem.Str × Int)) : cLen [lineD l] = some (.int l.length) := by unfold lineD; rw [cLen_lst, List.length_map]
theorem items_line (l : List (PySem.Str × Int)) : itemsR (.ok (lineD l)) = .ok (.lst (l.map stepD)) := rfl
theorem cSum_w (ws : List Int) (st : List (PySem.Str × Int)) : cSum [.lst (st.map fun p => D.int (wOf ws p))] = some (.int (st.map (wOf ws)).sum) := by
  show (unInts _).map _ = _
  rw [unInts_map]; rfl
theorem lst_line (st : List (PySem.Str × Int)) : D.lst (st.map stepD) = lineD st := rfl
theorem part_ok (ls : List (List (PySem.Str × Int))) (ws : List Int) (d : Int) (ks : List Int) (h0 : 0 ≤ d) (h1 : d < ls.length) (hl : (ls.getD d.toNat []).length ≤ 1000) (he : ∀ p ∈ ls.getD d.toNat [], 0 ≤ p.2 ∧ p.2 < ws.length) :
    m_law_part [.lst (ls.map lineD), .lst (ws.map .int), .int d, .lst (ks.map .int)] = .ok (.tup [lineD (pick (ls.getD d.toNat []) ks true), lineD (pick (ls.getD d.toNat []) ks false),
      .lst [.int ((pick (ls.getD d.toNat []) ks true).map (wOf ws)).sum, .int ((pick (ls.getD d.toNat []) ks false).map (wOf ws)).sum]]) := by
  have hix := ix_lines ls d h0 h1
  generalize ls.getD d.toNat [] = l at *
  have pl : ∀ b, (pick l ks b).length ≤ 1000 := fun b => by
    unfold pick
    rw [List.length_map]
    exact Nat.le_trans (List.length_filter_le _ _) (by rw [List.length_range]; exact hl)
  have hr : rngR rng1 (.ok [.int l.length]) = .ok (.lst ((List.range l.length).map fun i => .int (i : Nat))) := by
    rw [rngR_1 (by omega) (by omega)]; simp
  have c1 := compR_ok (vs := [5]) (env := [.sh (.lst (ls.map lineD)), .sh (.lst (ws.map .int)), .sh (.int d), .sh (.lst (ks.map .int)), .no, .no, .no, .no, .no, .no, .no]) (by simp; omega) (by rfl)
    (comp_pick l ks true [.sh (.lst (ls.map lineD)), .sh (.lst (ws.map .int)), .sh (.int d), .sh (.lst (ks.map .int)), .no, .no, .no, .no, .no, .no, .no] 5 (s2 dIn (sLoc 5) (sLoc 3)) (s2 dIx (s2 dIx (sLoc 0) (sLoc 2)) (sLoc 5)) (fun k hk =>
      ⟨_, rfl, by simp [dIn_int], by simp [hix, ix_line l k hk]⟩))
  have c2 := compR_ok (vs := [5]) (env := [.sh (.lst (ls.map lineD)), .sh (.lst (ws.map .int)), .sh (.int d), .sh (.lst (ks.map .int)), .ow (lineD (pick l ks true)), .no, .no, .no, .no, .no, .no]) (by simp; omega) (by rfl)
    (comp_pick l ks false [.sh (.lst (ls.map lineD)), .sh (.lst (ws.map .int)), .sh (.int d), .sh (.lst (ks.map .int)), .ow (lineD (pick l ks true)), .no, .no, .no, .no, .no, .no] 5 (s2 dNotIn (sLoc 5) (sLoc 3)) (s2 dIx (s2 dIx (sLoc 0) (sLoc 2)) (sLoc 5)) (fun k hk =>
      ⟨_, rfl, by simp [dNotIn_int], by simp [hix, ix_line l k hk]⟩))
  have sums : ∀ b, ∀ x8 x9 : Sl, x8 = .no → x9 = .no → callR cSum (consA (compR (.tp [8, 9]) [8, 9] (itemsR (locR (some (.sh (lineD (pick l ks b)))))) (sC (.bl true)) (s2 dIx (sLoc 1) (sLoc 9)) [.sh (.lst (ls.map lineD)), .sh (.lst (ws.map .int)), .sh (.int d), .sh (.lst (ks.map .int)), .sh (lineD (pick l ks true)), .no, .sh (lineD (pick l ks false)), .no, x8, x9, .sh (lineD (pick l ks b))]) (.ok [])) = .ok (.int ((pick l ks b).map (wOf ws)).sum) := by
    intro b x8 x9 e8 e9
    subst e8 e9
    have hc := comp_w ws (pick l ks b) (fun p hp => he p (pick_mem hp)) [.sh (.lst (ls.map lineD)), .sh (.lst (ws.map .int)), .sh (.int d), .sh (.lst (ks.map .int)), .sh (lineD (pick l ks true)), .no, .sh (lineD (pick l ks false)), .no, .no, .no, .sh (lineD (pick l ks b))] 8 9 (sLoc 1) (fun w e => ⟨_, rfl, rfl, rfl⟩)
    have hd := compR_ok (vs := [8, 9]) (env := [.sh (.lst (ls.map lineD)), .sh (.lst (ws.map .int)), .sh (.int d), .sh (.lst (ks.map .int)), .sh (lineD (pick l ks true)), .no, .sh (lineD (pick l ks false)), .no, .no, .no, .sh (lineD (pick l ks b))]) (by simp; exact Nat.le_trans (pl b) (by decide)) (by rfl) hc
    rw [locR_sh, items_line, hd, consA_ok, callR_ok, cSum_w]; rfl
  have c3 := compR_ok (T := .nm 10) (vs := [10]) (ds := [lineD (pick l ks true), lineD (pick l ks false)]) (rs := [.int ((pick l ks true).map (wOf ws)).sum, .int ((pick l ks false).map (wOf ws)).sum]) (ft := sC (.bl true))
    (fe := (sCall cSum (aCons (sComp (.tp [8, 9]) [8, 9] (sItems (sLoc 10)) (sC (.bl true)) (s2 dIx (sLoc 1) (sLoc 9))) aNil)))
    (env := [.sh (.lst (ls.map lineD)), .sh (.lst (ws.map .int)), .sh (.int d), .sh (.lst (ks.map .int)), .sh (lineD (pick l ks true)), .no, .sh (lineD (pick l ks false)), .no, .no, .no, .no]) (by simp) (by rfl) (by
      have s1 := sums true .no .no rfl rfl
      have s2 := sums false .no .no rfl rfl
      simp only [locR_sh] at s1 s2
      simp [compL, wipeE, s1, s2])
  unfold m_law_part b_law_part runF env0
  simp [argE, hix, cLen_line, hr, c1, lst_line, c2, c3]
theorem sl_take (ds : List D) (d : Int) (h0 : 0 ≤ d) (h1 : d.toNat ≤ ds.length) : dSlU (.lst ds) none (some d) = some (.lst (ds.take d.toNat)) := by
  obtain ⟨k, rfl⟩ : ∃ k : Nat, d = k := ⟨d.toNat, by omega⟩
  show some (D.lst ((ds.drop (HT.sIx ds.length 0 none)).take (HT.sIx ds.length ds.length (some (k : Int)) - HT.sIx ds.length 0 none))) = _
  rw [HT.sIx_nat, HT.sIx_none, Nat.min_eq_left (by simpa using h1)]
  simp
theorem sl_drop (ds : List D) (d : Int) (h0 : 0 ≤ d) (h1 : d.toNat ≤ ds.length) : dSlU (.lst ds) (some d) none = some (.lst (ds.drop d.toNat)) := by
  obtain ⟨k, rfl⟩ : ∃ k : Nat, d = k := ⟨d.toNat, by omega⟩
  show some (D.lst ((ds.drop (HT.sIx ds.length 0 (some (k : Int)))).take (HT.sIx ds.length ds.length none - HT.sIx ds.length 0 (some (k : Int))))) = _
  rw [HT.sIx_nat, HT.sIx_none, Nat.min_eq_left (by simpa using h1)]
  congr 2
  rw [List.take_of_length_le (by simp)]
  simp
end Lw

namespace Lw
open Ps
theorem dPut_lst (ds : List D) (d : Int) (v : D) (h0 : 0 ≤ d) (h1 : d < ds.length) : dPut (.lst ds) (.int d) v = some (.lst (ds.set d.toNat v)) := by
  show (L2.ixN ds.length d).map (fun j => D.lst (ds.set j v)) = _
  unfold L2.ixN
  rw [if_pos h0, if_pos h1]; rfl
def IB : SS := (ssSeq (ssApp 12 (sTup (aCons (sLoc 13) (aCons (sLoc 14) aNil)))) (ssIf (s2 dEq (sLoc 14) (sLoc 3)) (ssApp 12 (sTup (aCons (sLoc 13) (aCons (sCall cLen (aCons (sLoc 2) aNil)) aNil)))) ssNext))
theorem IB_loop (ls : List (List (PySem.Str × Int))) (d : Int) (A0 A1 A4 A5 A6 A7 A8 A9 A10 : Sl) (f : D) : ∀ (r acc : List (PySem.Str × Int)) (x13 x14 : Sl), canSet x13 = true → canSet x14 = true → acc.length + 2 * r.length ≤ 4000 → ∃ y13 y14, canSet y13 = true ∧ canSet y14 = true ∧
    loopF (.tp [13, 14]) IB (r.map stepD) [A0, A1, .sh (.lst (ls.map lineD)), .sh (.int d), A4, A5, A6, A7, A8, A9, A10, .ow f, .ow (lineD acc), x13, x14, .no, .no] =
      .nx [A0, A1, .sh (.lst (ls.map lineD)), .sh (.int d), A4, A5, A6, A7, A8, A9, A10, .ow f, .ow (lineD (acc ++ dbl r d ls.length)), y13, y14, .no, .no] := by
  intro r
  induction r with
  | nil => exact fun acc x4 x5 c4 c5 _ => ⟨x4, x5, c4, c5, by simp [dbl]⟩
  | cons p r ih =>
    intro acc x4 x5 c4 c5 hlen
    simp only [List.length_cons] at hlen
    have s1 : acc.length < PySem.sizeLine := by rw [PySem.sizeLine_eq]; omega
    have s2 : acc.length + 1 < PySem.sizeLine := by rw [PySem.sizeLine_eq]; omega
    by_cases hp : p.2 = d
    · obtain ⟨y4, y5, g4, g5, h⟩ := ih (acc ++ [p, (p.1, (ls.length : Int))]) (.sh (.str p.1)) (.sh (.int p.2)) rfl rfl (by simp; omega)
      refine ⟨y4, y5, g4, g5, ?_⟩
      have e : acc ++ dbl (p :: r) d ls.length = acc ++ [p, (p.1, (ls.length : Int))] ++ dbl r d ls.length := by
        unfold dbl; rw [List.flatMap_cons, if_pos hp, List.append_assoc]
      rw [e, ← h]
      rw [List.map_cons, loopF_cons]
      simp only [stepD, bindT_tp, bindL_cons, bindL_nil, setSl_eq, List.getElem?_cons_zero, List.getElem?_cons_succ, setS_can c4, Option.bind_some, List.set_cons_succ, List.set_cons_zero, setS_can c5]
      unfold IB
      simp [lineD, s1, s2, hp, stepD]
    · obtain ⟨y4, y5, g4, g5, h⟩ := ih (acc ++ [p]) (.sh (.str p.1)) (.sh (.int p.2)) rfl rfl (by simp; omega)
      refine ⟨y4, y5, g4, g5, ?_⟩
      have e : acc ++ dbl (p :: r) d ls.length = acc ++ [p] ++ dbl r d ls.length := by
        unfold dbl; rw [List.flatMap_cons, if_neg hp, List.append_assoc]
      rw [e, ← h]
      rw [List.map_cons, loopF_cons]
      simp only [stepD, bindT_tp, bindL_cons, bindL_nil, setSl_eq, List.getElem?_cons_zero, List.getElem?_cons_succ, setS_can c4, Option.bind_some, List.set_cons_succ, List.set_cons_zero, setS_can c5]
      unfold IB
      simp [lineD, s1, s2, hp, stepD]
def OB : SS := (ssSeq (ssOwn 12 (sLst aNil)) (ssSeq (ssFor (.tp [13, 14]) (sItems (sLoc 10)) IB) (ssSeq (ssFrz 12) (ssApp 11 (sLoc 12)))))
theorem OB_loop (ls : List (List (PySem.Str × Int))) (d : Int) (A0 A1 A4 A5 A6 A7 A8 A9 : Sl) : ∀ (r acc : List (List (PySem.Str × Int))) (x10 x12 x13 x14 : Sl), canSet x10 = true → canSet x12 = true → canSet x13 = true → canSet x14 = true → acc.length + r.length ≤ 1000 → (∀ l ∈ r, l.length ≤ 1000) →
    ∃ y10 y12 y13 y14, (canSet y10 = true ∧ canSet y12 = true ∧ canSet y13 = true ∧ canSet y14 = true) ∧
    loopF (.nm 10) OB (r.map lineD) [A0, A1, .sh (.lst (ls.map lineD)), .sh (.int d), A4, A5, A6, A7, A8, A9, x10, .ow (.lst (acc.map lineD)), x12, x13, x14, .no, .no] =
      .nx [A0, A1, .sh (.lst (ls.map lineD)), .sh (.int d), A4, A5, A6, A7, A8, A9, y10, .ow (.lst ((acc ++ r.map fun l => dbl l d ls.length).map lineD)), y12, y13, y14, .no, .no] := by
  intro r
  induction r with
  | nil => exact fun acc x10 x12 x13 x14 c10 c12 c13 c14 _ _ => ⟨x10, x12, x13, x14, ⟨c10, c12, c13, c14⟩, by simp⟩
  | cons l r ih =>
    intro acc x10 x12 x13 x14 c10 c12 c13 c14 hlen hall
    simp only [List.length_cons] at hlen
    have hl := hall l List.mem_cons_self
    obtain ⟨z13, z14, d13, d14, hz⟩ := IB_loop ls d A0 A1 A4 A5 A6 A7 A8 A9 (.sh (lineD l)) (.lst (acc.map lineD)) l [] x13 x14 c13 c14 (by simp; omega)
    obtain ⟨y10, y12, y13, y14, g, h⟩ := ih (acc ++ [dbl l d ls.length]) (.sh (lineD l)) (.sh (lineD (dbl l d ls.length))) z13 z14 rfl rfl d13 d14 (by simp; omega) fun m hm => hall m (List.mem_cons_of_mem _ hm)
    refine ⟨y10, y12, y13, y14, g, ?_⟩
    have s1 : acc.length < PySem.sizeLine := by rw [PySem.sizeLine_eq]; omega
    have e : acc ++ (l :: r).map (fun l => dbl l d ls.length) = acc ++ [dbl l d ls.length] ++ r.map fun l => dbl l d ls.length := by simp
    rw [e, ← h, List.map_cons, loopF_cons]
    simp only [bindT_nm, setSl_eq, List.getElem?_cons_zero, List.getElem?_cons_succ, setS_can c10, List.set_cons_succ, List.set_cons_zero]
    simp only [show lineD [] = D.lst [] from rfl, List.nil_append] at hz
    unfold OB
    simp [setS_can c12, items_line, hz, s1]
def more (ls : List (List (PySem.Str × Int))) (d : Int) (x y : List (PySem.Str × Int)) : List (List (PySem.Str × Int)) := (ls.set d.toNat x ++ [y]).map fun l => dbl l d ls.length
def heavy (ws : List Int) (d w : Int) : List Int := ws.take d.toNat ++ [w] ++ ws.drop (d.toNat + 1) ++ [ws.getD d.toNat 0 - w]
theorem divided_ok (hs : List D) (ls : List (List (PySem.Str × Int))) (ws : List Int) (d w : Int) (ks : List Int) (h0 : 0 ≤ d) (h1 : d < ls.length) (lw : ws.length = ls.length) (lh : hs.length = ls.length) (hn : ls.length ≤ 100) (hl : ∀ l ∈ ls, l.length ≤ 1000) (he : ∀ l ∈ ls, ∀ p ∈ l, 0 ≤ p.2 ∧ p.2 < ws.length) :
    m_law_divided [.lst hs, .lst (ws.map .int), .lst (ls.map lineD), .int d, .lst (ks.map .int), .int w] =
      .ok (.tup [.lst (hs ++ [hs.getD d.toNat .non]), .lst ((heavy ws d w).map .int), .lst ((more ls d (pick (ls.getD d.toNat []) ks true) (pick (ls.getD d.toNat []) ks false)).map lineD)]) := by
  have hd : d.toNat < ls.length := by omega
  have gl : ls.getD d.toNat [] ∈ ls := by simp [List.getD_eq_getElem?_getD, hd]
  have hp := part_ok ls ws d ks h0 h1 (hl _ gl) (he _ gl)
  have plen : ∀ b, (pick (ls.getD d.toNat []) ks b).length ≤ 1000 := fun b => by
    unfold pick
    rw [List.length_map]
    exact Nat.le_trans (List.length_filter_le _ _) (by rw [List.length_range]; exact hl _ gl)
  have plx := plen true
  have ply := plen false
  clear plen
  generalize pick (ls.getD d.toNat []) ks true = x at *
  generalize pick (ls.getD d.toNat []) ks false = y at *
  generalize hsm : D.lst [D.int (x.map (wOf ws)).sum, D.int (y.map (wOf ws)).sum] = sm at *
  have c1 := compR_ok (vs := [10]) (env := [.sh (.lst hs), .sh (.lst (ws.map .int)), .sh (.lst (ls.map lineD)), .sh (.int d), .sh (.lst (ks.map .int)), .sh (.int w), .sh (lineD x), .sh (lineD y), .sh sm, .no, .no, .no, .no, .no, .no, .no, .no]) (by simp; omega) (by rfl)
    (comp_copy ls [.sh (.lst hs), .sh (.lst (ws.map .int)), .sh (.lst (ls.map lineD)), .sh (.int d), .sh (.lst (ks.map .int)), .sh (.int w), .sh (lineD x), .sh (lineD y), .sh sm, .no, .no, .no, .no, .no, .no, .no, .no] 10 (fun d => ⟨_, rfl, rfl⟩))
  have dp := dPut_lst (ls.map lineD) d (lineD x) h0 (by simpa using h1)
  obtain ⟨y10, y12, y13, y14, g, ho⟩ := OB_loop ls d (.sh (.lst hs)) (.sh (.lst (ws.map .int))) (.sh (.lst (ks.map .int))) (.sh (.int w)) (.sh (lineD x)) (.sh (lineD y)) (.sh sm) (.sh (.lst ((ls.set d.toNat x ++ [y]).map lineD))) (ls.set d.toNat x ++ [y]) [] .no .no .no .no rfl rfl rfl rfl (by simp; omega) (fun l hlm => by
    rcases List.mem_append.mp hlm with q | q
    · rcases List.mem_or_eq_of_mem_set q with q | q
      · exact hl l q
      · rw [q]; exact plx
    · rw [List.mem_singleton.mp q]; exact ply)
  have hset : (ls.map lineD).set d.toNat (lineD x) ++ [lineD y] = (ls.set d.toNat x ++ [y]).map lineD := by simp [List.map_set]
  have s1 : ls.length < PySem.sizeLine := by rw [PySem.sizeLine_eq]; omega
  have iw := ix_ints ws d h0 (by omega)
  have ih := ix_lst hs d h0 (by omega)
  rw [show hs[d.toNat] = hs.getD d.toNat .non by rw [List.getD_eq_getElem?_getD, List.getElem?_eq_getElem (by omega)]; rfl] at ih
  have t1 := sl_take (ws.map .int) d h0 (by simp; omega)
  have t2 := sl_drop (ws.map .int) (d + 1) (by omega) (by simp; omega)
  rw [show (d + 1).toNat = d.toNat + 1 by omega] at t2
  have l1 : ((ws.map D.int).take d.toNat).length ≤ 100 := by simp; omega
  have l2 : ((ws.map D.int).drop (d.toNat + 1)).length ≤ 100 := by simp; omega
  have hv : (heavy ws d w).map D.int = (ws.map D.int).take d.toNat ++ .int w :: ((ws.map D.int).drop (d.toNat + 1) ++ [.int (ws.getD d.toNat 0 - w)]) := by
    unfold heavy; simp [List.map_take, List.map_drop]
  have hm : more ls d x y = (ls.set d.toNat x ++ [y]).map fun l => dbl l d ls.length := rfl
  rw [hv]
  generalize (ws.map D.int).take d.toNat = T at *
  generalize (ws.map D.int).drop (d.toNat + 1) = U at *
  generalize ws.getD d.toNat 0 = wd at *
  generalize hs.getD d.toNat .non = hd' at *
  have a1 := dAddU_lst (xs := T) (ys := [.int w]) (by simp; omega)
  have a2 := dAddU_lst (xs := T ++ [.int w]) (ys := U) (by simp; omega)
  have a3 := dAddU_lst (xs := hs) (ys := [hd']) (by simp; omega)
  have a4 := dAddU_lst (xs := T ++ .int w :: U) (ys := [.int (wd - w)]) (by simp; omega)
  rw [List.nil_append, ← hm] at ho
  generalize (more ls d x y).map lineD = res at *
  generalize (ls.set d.toNat x ++ [y]).map lineD = MM at *
  unfold m_law_divided b_law_divided runF env0
  simp only [OB, IB, List.map_nil] at ho
  simp [argE, hp, c1, dp, hset, s1, ho, iw, ih, t1, t2, a1, a2, a3, a4]
end Lw

namespace Lw
open Ps
def gH : SE := sFld 1 "homes" (sLoc 0)
def gW : SE := sFld 1 "weights" (sLoc 0)
def gL : SE := sFld 1 "lines" (sLoc 0)
theorem gH_eq (hs : List D) (ws : List Int) (ls : List (List (PySem.Str × Int))) (env : En) : gH (.sh (S hs ws ls) :: env) = .ok (.lst hs) := f_homes hs ws ls
theorem gW_eq (hs : List D) (ws : List Int) (ls : List (List (PySem.Str × Int))) (env : En) : gW (.sh (S hs ws ls) :: env) = .ok (.lst (ws.map .int)) := f_weights hs ws ls
theorem gL_eq (hs : List D) (ws : List Int) (ls : List (List (PySem.Str × Int))) (env : En) : gL (.sh (S hs ws ls) :: env) = .ok (.lst (ls.map lineD)) := f_lines hs ws ls
def tl : SS := (ssSeq (ssIf (sOr (s2 dEq (sLocB 7) (sLst aNil)) (sOr (s2 dEq (sLocB 9) (sLst aNil)) (sOr (s2 dLt (sLoc 4) (sC (.int 1))) (s2 dLt (sLoc 10) (sC (.int 1)))))) (ssRaise 15) ssNext) (ssSeq (ssFrz 9) (ssSeq (ssFrz 7) (ssSeq (ssIf (sOr (s2 dLt (sFn m_borne_by (aCons (sLoc 0) (aCons (sLoc 7) aNil))) (s2 dMulU (sLoc 1) (sLoc 4))) (s2 dLt (sFn m_borne_by (aCons (sLoc 0) (aCons (sLoc 9) aNil))) (s2 dMulU (sLoc 1) (sLoc 10)))) (ssRaise 15) ssNext) (ssSeq (ssAsg (.nm 11) (s2 dAddU (s2 dAddU (s2 dAddU (sSl dSlU gW (sC .non) (sPart (sLoc 2))) (sLst (aCons (sLoc 4) aNil))) (sSl dSlU gW (sPart (s2 dAddU (sLoc 2) (sC (.int 1)))) (sC .non))) (sLst (aCons (sLoc 10) aNil)))) (ssSeq (ssAsg (.nm 12) (s2 dAddU (s2 dAddU (s2 dAddU (sSl dSlU gL (sC .non) (sPart (sLoc 2))) (sLst (aCons (sLoc 7) aNil))) (sSl dSlU gL (sPart (s2 dAddU (sLoc 2) (sC (.int 1)))) (sC .non))) (sLst (aCons (sLoc 9) aNil)))) (ssSeq (ssOwn 12 (sComp (.nm 5) [5] (sItems (sLoc 12)) (sC (.bl true)) (sFn m_doubled (aCons (sLoc 5) (aCons (sLoc 2) (aCons (sCall cLen (aCons gH aNil)) aNil)))))) (ssSeq (ssFrz 12) (ssRet (sMk 1 m_Sheet__init_ (aCons (s2 dAddU gH (sLst (aCons (s2 dIx gH (sLoc 2)) aNil))) (aCons (sLoc 11) (aCons (sLoc 12) aNil)))))))))))))
theorem b_split_eq : b_split = (ssSeq (ssIf (sOr (s2 dLt (sLoc 2) (sC (.int 0))) (s2 dGe (sLoc 2) (sCall cLen (aCons gH aNil)))) (ssRaise 15) ssNext) (ssSeq (ssAsg (.nm 5) (s2 dIx gL (sLoc 2))) (ssSeq (ssIf (sCall cAny (aCons (sComp (.nm 6) [6] (sItems (sLoc 3)) (sC (.bl true)) (sOr (s2 dLt (sLoc 6) (sC (.int 0))) (s2 dGe (sLoc 6) (sCall cLen (aCons (sLoc 5) aNil))))) aNil)) (ssRaise 15) ssNext) (ssSeq (ssOwn 7 (sComp (.nm 8) [8] (sRng rng1 (aCons (sCall cLen (aCons (sLoc 5) aNil)) aNil)) (s2 dIn (sLoc 8) (sLoc 3)) (s2 dIx (sLoc 5) (sLoc 8)))) (ssSeq (ssOwn 9 (sComp (.nm 8) [8] (sRng rng1 (aCons (sCall cLen (aCons (sLoc 5) aNil)) aNil)) (s2 dNotIn (sLoc 8) (sLoc 3)) (s2 dIx (sLoc 5) (sLoc 8)))) (ssSeq (ssAsg (.nm 10) (s2 dSub (s2 dIx gW (sLoc 2)) (sLoc 4))) tl)))))) := rfl
theorem split_far (hs : List D) (ws : List Int) (ls : List (List (PySem.Str × Int))) (many d w : Int) (k : D) (h : d < 0 ∨ (hs.length : Int) ≤ d) : m_split [S hs ws ls, .int many, .int d, k, .int w] = .er 15 [] := by
  unfold m_split runF env0
  rw [b_split_eq]
  rcases h with h | h
  · simp [argE, h]
  · have h2 : ¬ d < 0 := by omega
    simp [argE, h, h2, gH_eq]
theorem unBls_map {α : Type} (f : α → Bool) : ∀ l : List α, unBls (l.map fun a => D.bl (f a)) = some (l.map f)
  | [] => rfl
  | a :: l => by
    show (unBls (l.map fun a => D.bl (f a))).map _ = _
    rw [unBls_map f l]; rfl
theorem cAny_map {α : Type} (f : α → Bool) (l : List α) : cAny [.lst (l.map fun a => D.bl (f a))] = some (.bl (l.any f)) := by
  show (unBls _).map _ = _
  rw [unBls_map]
  show some (D.bl ((l.map f).any id)) = some (D.bl (l.any f))
  rw [List.any_map]; rfl
theorem cAll_map {α : Type} (f : α → Bool) (l : List α) : cAll [.lst (l.map fun a => D.bl (f a))] = some (.bl (l.all f)) := by
  show (unBls _).map _ = _
  rw [unBls_map]
  show some (D.bl ((l.map f).all id)) = some (D.bl (l.all f))
  rw [List.all_map]; rfl
def off (n : Nat) (k : Int) : Bool := decide (k < 0) || decide ((n : Int) ≤ k)
/-- the head of split: the line, and whether a number is off -/
theorem comp_off (hs : List D) (ws : List Int) (ls : List (List (PySem.Str × Int))) (l : List (PySem.Str × Int)) (many d w : Int) (ks : List Int) (hk : ks.length ≤ 1000) :
    compR (.nm 6) [6] (.ok (.lst (ks.map .int))) (sC (.bl true)) (sOr (s2 dLt (sLoc 6) (sC (.int 0))) (s2 dGe (sLoc 6) (sCall cLen (aCons (sLoc 5) aNil)))) [.sh (S hs ws ls), .sh (.int many), .sh (.int d), .sh (.lst (ks.map .int)), .sh (.int w), .sh (lineD l), .no, .no, .no, .no, .no, .no, .no] =
      .ok (.lst (ks.map fun k => D.bl (off l.length k))) := by
  refine compR_ok (by simp; omega) (by rfl) ?_
  have := compL_map (T := .nm 6) (env := [.sh (S hs ws ls), .sh (.int many), .sh (.int d), .sh (.lst (ks.map .int)), .sh (.int w), .sh (lineD l), .no, .no, .no, .no, .no, .no, .no])
    (fe := (sOr (s2 dLt (sLoc 6) (sC (.int 0))) (s2 dGe (sLoc 6) (sCall cLen (aCons (sLoc 5) aNil))))) (fun d => match d with | .int k => .bl (off l.length k) | d => d) (ks.map .int) (fun d hd => by
      obtain ⟨k, _, rfl⟩ := List.mem_map.mp hd
      refine ⟨_, rfl, ?_⟩
      by_cases h : k < 0
      · simp [h, off]
      · simp [h, off, cLen_line])
  rw [List.map_map] at this
  exact this
theorem split_off (hs : List D) (ws : List Int) (ls : List (List (PySem.Str × Int))) (many d w : Int) (ks : List Int) (h0 : 0 ≤ d) (h1 : d < hs.length) (lh : ls.length = hs.length) (hk : ks.length ≤ 1000) (h : ks.any (off (ls.getD d.toNat []).length) = true) :
    m_split [S hs ws ls, .int many, .int d, .lst (ks.map .int), .int w] = .er 15 [] := by
  have hix := ix_lines ls d h0 (by omega)
  generalize ls.getD d.toNat [] = l at *
  have c1 := comp_off hs ws ls l many d w ks hk
  have n1 : ¬ d < 0 := by omega
  have n2 : ¬ (hs.length : Int) ≤ d := by omega
  unfold m_split runF env0
  rw [b_split_eq]
  simp [argE, n1, n2, gH_eq, gL_eq, hix, c1, cAny_map, h]
theorem dEq_nil {ds : List D} (h : Sh 64 (.lst ds)) : dEq (.lst ds) (.lst []) = some (.bl (decide (ds = []))) := by
  obtain ⟨p, h1, h2, h3⟩ := h
  obtain ⟨ps, q1, q2⟩ := Option.map_eq_some_iff.mp (show (toPs ds).map .list = some p from h1)
  subst q2
  have e : dEq (.lst ds) (.lst []) = (if PySem.SeqAt.shaped (.list ps) && PySem.SeqAt.shaped (.list []) then some (.bl (PySem.PyData.eqv (.list ps) (.list []))) else none) := by
    unfold dEq; rw [h1]; rfl
  have s1 : PySem.SeqAt.shaped (.list ps) = true := by
    unfold PySem.SeqAt.shaped
    rw [h2, decide_eq_true h3]; rfl
  have s2 : PySem.SeqAt.shaped (.list []) = true := by simp [PySem.SeqAt.shaped, PySem.PyData.canLay0, PySem.PyData.canLayAll0, PySem.PyData.depth, PySem.PyData.depthAll]
  rw [e, if_pos (by rw [s1, s2]; rfl)]
  cases ds with
  | nil => cases q1; simp [PySem.PyData.eqv, PySem.PyData.eqvAll]
  | cons d ds =>
    obtain ⟨p, r1, r2⟩ := Option.bind_eq_some_iff.mp (show ((toP d).bind fun p => (toPs ds).map fun ps => p :: ps) = some ps from q1)
    obtain ⟨ps', _, rfl⟩ := Option.map_eq_some_iff.mp r2
    simp [PySem.PyData.eqv, PySem.PyData.eqvAll]
theorem sh_step {p : PySem.Str × Int} (h : PySem.PyData.strOk p.1 = true) : Sh 1 (stepD p) := sh_tup fun d hd => by
  rcases List.mem_cons.mp hd with rfl | hd
  · exact sh_str h
  · rw [List.mem_singleton.mp hd]; exact sh_int
theorem sh_line {l : List (PySem.Str × Int)} (h : ∀ p ∈ l, PySem.PyData.strOk p.1 = true) : Sh 2 (lineD l) := sh_lst fun d hd => by
  obtain ⟨p, hp, rfl⟩ := List.mem_map.mp hd
  exact sh_step (h p hp)
theorem line_nil {l : List (PySem.Str × Int)} : l.map stepD = [] ↔ l = [] := List.map_eq_nil_iff
theorem split_pre (hs : List D) (ws : List Int) (ls : List (List (PySem.Str × Int))) (many d w : Int) (ks : List Int) (h0 : 0 ≤ d) (h1 : d < hs.length) (lh : ls.length = hs.length) (lw : ws.length = hs.length) (hk : ks.length ≤ 1000) (h : ks.any (off (ls.getD d.toNat []).length) = false)
    (hl : (ls.getD d.toNat []).length ≤ 1000) :
    m_split [S hs ws ls, .int many, .int d, .lst (ks.map .int), .int w] = runR (tl [.sh (S hs ws ls), .sh (.int many), .sh (.int d), .sh (.lst (ks.map .int)), .sh (.int w), .sh (lineD (ls.getD d.toNat [])), .no, .ow (lineD (pick (ls.getD d.toNat []) ks true)), .no, .ow (lineD (pick (ls.getD d.toNat []) ks false)), .sh (.int (ws.getD d.toNat 0 - w)), .no, .no]) false := by
  have hix := ix_lines ls d h0 (by omega)
  have iw := ix_ints ws d h0 (by omega)
  generalize ls.getD d.toNat [] = l at *
  generalize ws.getD d.toNat 0 = wd at *
  have c1 := comp_off hs ws ls l many d w ks hk
  have n1 : ¬ d < 0 := by omega
  have n2 : ¬ (hs.length : Int) ≤ d := by omega
  have hr : rngR rng1 (.ok [.int l.length]) = .ok (.lst ((List.range l.length).map fun i => .int (i : Nat))) := by
    rw [rngR_1 (by omega) (by omega)]; simp
  have c2 := compR_ok (vs := [8]) (env := [.sh (S hs ws ls), .sh (.int many), .sh (.int d), .sh (.lst (ks.map .int)), .sh (.int w), .sh (lineD l), .no, .no, .no, .no, .no, .no, .no]) (by simp; omega) (by rfl)
    (comp_pick l ks true [.sh (S hs ws ls), .sh (.int many), .sh (.int d), .sh (.lst (ks.map .int)), .sh (.int w), .sh (lineD l), .no, .no, .no, .no, .no, .no, .no] 8 (s2 dIn (sLoc 8) (sLoc 3)) (s2 dIx (sLoc 5) (sLoc 8)) (fun k hk =>
      ⟨_, rfl, by simp [dIn_int], by simp [ix_line l k hk]⟩))
  have c3 := compR_ok (vs := [8]) (env := [.sh (S hs ws ls), .sh (.int many), .sh (.int d), .sh (.lst (ks.map .int)), .sh (.int w), .sh (lineD l), .no, .ow (lineD (pick l ks true)), .no, .no, .no, .no, .no]) (by simp; omega) (by rfl)
    (comp_pick l ks false [.sh (S hs ws ls), .sh (.int many), .sh (.int d), .sh (.lst (ks.map .int)), .sh (.int w), .sh (lineD l), .no, .ow (lineD (pick l ks true)), .no, .no, .no, .no, .no] 8 (s2 dNotIn (sLoc 8) (sLoc 3)) (s2 dIx (sLoc 5) (sLoc 8)) (fun k hk =>
      ⟨_, rfl, by simp [dNotIn_int], by simp [ix_line l k hk]⟩))
  have q0 : (ssIf (sOr (s2 dLt (sLoc 2) (sC (.int 0))) (s2 dGe (sLoc 2) (sCall cLen (aCons gH aNil)))) (ssRaise 15) ssNext) [.sh (S hs ws ls), .sh (.int many), .sh (.int d), .sh (.lst (ks.map .int)), .sh (.int w), .no, .no, .no, .no, .no, .no, .no, .no] = .nx [.sh (S hs ws ls), .sh (.int many), .sh (.int d), .sh (.lst (ks.map .int)), .sh (.int w), .no, .no, .no, .no, .no, .no, .no, .no] := by
    simp [n1, n2, gH_eq]
  have q1 : (ssAsg (.nm 5) (s2 dIx gL (sLoc 2))) [.sh (S hs ws ls), .sh (.int many), .sh (.int d), .sh (.lst (ks.map .int)), .sh (.int w), .no, .no, .no, .no, .no, .no, .no, .no] = .nx [.sh (S hs ws ls), .sh (.int many), .sh (.int d), .sh (.lst (ks.map .int)), .sh (.int w), .sh (lineD l), .no, .no, .no, .no, .no, .no, .no] := by
    simp [gL_eq, hix]
  have q2 : (ssIf (sCall cAny (aCons (sComp (.nm 6) [6] (sItems (sLoc 3)) (sC (.bl true)) (sOr (s2 dLt (sLoc 6) (sC (.int 0))) (s2 dGe (sLoc 6) (sCall cLen (aCons (sLoc 5) aNil))))) aNil)) (ssRaise 15) ssNext) [.sh (S hs ws ls), .sh (.int many), .sh (.int d), .sh (.lst (ks.map .int)), .sh (.int w), .sh (lineD l), .no, .no, .no, .no, .no, .no, .no] = .nx [.sh (S hs ws ls), .sh (.int many), .sh (.int d), .sh (.lst (ks.map .int)), .sh (.int w), .sh (lineD l), .no, .no, .no, .no, .no, .no, .no] := by
    simp [c1, cAny_map, h]
  have q3 : (ssOwn 7 (sComp (.nm 8) [8] (sRng rng1 (aCons (sCall cLen (aCons (sLoc 5) aNil)) aNil)) (s2 dIn (sLoc 8) (sLoc 3)) (s2 dIx (sLoc 5) (sLoc 8)))) [.sh (S hs ws ls), .sh (.int many), .sh (.int d), .sh (.lst (ks.map .int)), .sh (.int w), .sh (lineD l), .no, .no, .no, .no, .no, .no, .no] = .nx [.sh (S hs ws ls), .sh (.int many), .sh (.int d), .sh (.lst (ks.map .int)), .sh (.int w), .sh (lineD l), .no, .ow (lineD (pick l ks true)), .no, .no, .no, .no, .no] := by
    simp [cLen_line, hr, c2, lst_line]
  have q4 : (ssOwn 9 (sComp (.nm 8) [8] (sRng rng1 (aCons (sCall cLen (aCons (sLoc 5) aNil)) aNil)) (s2 dNotIn (sLoc 8) (sLoc 3)) (s2 dIx (sLoc 5) (sLoc 8)))) [.sh (S hs ws ls), .sh (.int many), .sh (.int d), .sh (.lst (ks.map .int)), .sh (.int w), .sh (lineD l), .no, .ow (lineD (pick l ks true)), .no, .no, .no, .no, .no] = .nx [.sh (S hs ws ls), .sh (.int many), .sh (.int d), .sh (.lst (ks.map .int)), .sh (.int w), .sh (lineD l), .no, .ow (lineD (pick l ks true)), .no, .ow (lineD (pick l ks false)), .no, .no, .no] := by
    simp [cLen_line, hr, c3, lst_line]
  have q5 : (ssAsg (.nm 10) (s2 dSub (s2 dIx gW (sLoc 2)) (sLoc 4))) [.sh (S hs ws ls), .sh (.int many), .sh (.int d), .sh (.lst (ks.map .int)), .sh (.int w), .sh (lineD l), .no, .ow (lineD (pick l ks true)), .no, .ow (lineD (pick l ks false)), .no, .no, .no] = .nx [.sh (S hs ws ls), .sh (.int many), .sh (.int d), .sh (.lst (ks.map .int)), .sh (.int w), .sh (lineD l), .no, .ow (lineD (pick l ks true)), .no, .ow (lineD (pick l ks false)), .sh (.int (wd - w)), .no, .no] := by
    simp [gW_eq, iw]
  unfold m_split runF
  rw [b_split_eq]
  show runR ((ssSeq (ssIf (sOr (s2 dLt (sLoc 2) (sC (.int 0))) (s2 dGe (sLoc 2) (sCall cLen (aCons gH aNil)))) (ssRaise 15) ssNext) (ssSeq (ssAsg (.nm 5) (s2 dIx gL (sLoc 2))) (ssSeq (ssIf (sCall cAny (aCons (sComp (.nm 6) [6] (sItems (sLoc 3)) (sC (.bl true)) (sOr (s2 dLt (sLoc 6) (sC (.int 0))) (s2 dGe (sLoc 6) (sCall cLen (aCons (sLoc 5) aNil))))) aNil)) (ssRaise 15) ssNext) (ssSeq (ssOwn 7 (sComp (.nm 8) [8] (sRng rng1 (aCons (sCall cLen (aCons (sLoc 5) aNil)) aNil)) (s2 dIn (sLoc 8) (sLoc 3)) (s2 dIx (sLoc 5) (sLoc 8)))) (ssSeq (ssOwn 9 (sComp (.nm 8) [8] (sRng rng1 (aCons (sCall cLen (aCons (sLoc 5) aNil)) aNil)) (s2 dNotIn (sLoc 8) (sLoc 3)) (s2 dIx (sLoc 5) (sLoc 8)))) (ssSeq (ssAsg (.nm 10) (s2 dSub (s2 dIx gW (sLoc 2)) (sLoc 4))) tl)))))) [.sh (S hs ws ls), .sh (.int many), .sh (.int d), .sh (.lst (ks.map .int)), .sh (.int w), .no, .no, .no, .no, .no, .no, .no, .no]) false = _
  rw [ssSeq_eq, q0, seqO_nx, ssSeq_eq, q1, seqO_nx, ssSeq_eq, q2, seqO_nx, ssSeq_eq, q3, seqO_nx, ssSeq_eq, q4, seqO_nx, ssSeq_eq, q5, seqO_nx]
theorem dEq_line {l : List (PySem.Str × Int)} (h : ∀ p ∈ l, PySem.PyData.strOk p.1 = true) : dEq (lineD l) (.lst []) = some (.bl (decide (l = []))) := by
  have := dEq_nil ((sh_line h).mono (by decide : 2 ≤ 64))
  rw [lst_line] at this
  rw [this]; simp [line_nil]
theorem tl_side (s : D) (many d w r : Int) (kd : D) (l x y : List (PySem.Str × Int)) (hx : ∀ p ∈ x, PySem.PyData.strOk p.1 = true) (hy : ∀ p ∈ y, PySem.PyData.strOk p.1 = true) (hb : x = [] ∨ y = [] ∨ w < 1 ∨ r < 1) :
    runR (tl [.sh s, .sh (.int many), .sh (.int d), .sh kd, .sh (.int w), .sh (lineD l), .no, .ow (lineD x), .no, .ow (lineD y), .sh (.int r), .no, .no]) false = .er 15 [] := by
  have ok1 := dEq_line hx
  have ok2 := dEq_line hy
  unfold tl
  by_cases e1 : x = []
  · rw [decide_eq_true e1] at ok1
    simp [ok1]
  · rw [decide_eq_false e1] at ok1
    by_cases e2 : y = []
    · rw [decide_eq_true e2] at ok2
      simp [ok1, ok2]
    · rw [decide_eq_false e2] at ok2
      by_cases e3 : w < 1
      · simp [ok1, ok2, e3]
      · have e4 : r < 1 := by
          rcases hb with q | q | q | q
          · exact absurd q e1
          · exact absurd q e2
          · exact absurd q e3
          · exact q
        simp [ok1, ok2, e3, e4]
theorem split_side (hs : List D) (ws : List Int) (ls : List (List (PySem.Str × Int))) (many d w : Int) (ks : List Int) (h0 : 0 ≤ d) (h1 : d < hs.length) (lh : ls.length = hs.length) (lw : ws.length = hs.length) (hk : ks.length ≤ 1000) (h : ks.any (off (ls.getD d.toNat []).length) = false)
    (hl : (ls.getD d.toNat []).length ≤ 1000) (hok : ∀ p ∈ ls.getD d.toNat [], PySem.PyData.strOk p.1 = true) (hb : pick (ls.getD d.toNat []) ks true = [] ∨ pick (ls.getD d.toNat []) ks false = [] ∨ w < 1 ∨ ws.getD d.toNat 0 - w < 1) :
    m_split [S hs ws ls, .int many, .int d, .lst (ks.map .int), .int w] = .er 15 [] := by
  rw [split_pre hs ws ls many d w ks h0 h1 lh lw hk h hl]
  exact tl_side _ _ _ _ _ _ _ _ _ (fun p hp => hok p (pick_mem hp)) (fun p hp => hok p (pick_mem hp)) hb
end Lw

namespace Lw
open Ps
def heavy2 (ws : List Int) (d w r : Int) : List Int := ws.take d.toNat ++ [w] ++ ws.drop (d.toNat + 1) ++ [r]
theorem set_split {α : Type} (l : List α) (i : Nat) (x : α) (h : i < l.length) : l.take i ++ x :: l.drop (i + 1) = l.set i x := by
  rw [List.set_eq_take_append_cons_drop, if_pos h]
theorem tl_good (hs : List D) (ws : List Int) (ls : List (List (PySem.Str × Int))) (many d w r : Int) (kd : D) (l x y : List (PySem.Str × Int)) (h0 : 0 ≤ d) (h1 : d < hs.length) (lh : ls.length = hs.length) (lw : ws.length = hs.length) (hn : hs.length ≤ 100) (hm : many ≤ 100 ∧ -100 ≤ many)
    (hx : ∀ p ∈ x, PySem.PyData.strOk p.1 = true ∧ 0 ≤ p.2 ∧ p.2 < ws.length) (hy : ∀ p ∈ y, PySem.PyData.strOk p.1 = true ∧ 0 ≤ p.2 ∧ p.2 < ws.length) (hall : ∀ l ∈ ls, l.length ≤ 1000) (lx : x.length ≤ 1000) (ly : y.length ≤ 1000)
    (e1 : x ≠ []) (e2 : y ≠ []) (hw : ¬ w < 1) (hr : ¬ r < 1) (hx1 : ¬ (x.map (wOf ws)).sum < many * w) (hy1 : ¬ (y.map (wOf ws)).sum < many * r) :
    runR (tl [.sh (S hs ws ls), .sh (.int many), .sh (.int d), .sh kd, .sh (.int w), .sh (lineD l), .no, .ow (lineD x), .no, .ow (lineD y), .sh (.int r), .no, .no]) false = .ok (S (hs ++ [hs.getD d.toNat .non]) (heavy2 ws d w r) (more ls d x y)) := by
  have ok1 := dEq_line fun p hp => (hx p hp).1
  have ok2 := dEq_line fun p hp => (hy p hp).1
  rw [decide_eq_false e1] at ok1
  rw [decide_eq_false e2] at ok2
  have b1 := borne_ok hs ws ls x (fun p hp => (hx p hp).2) lx
  have b2 := borne_ok hs ws ls y (fun p hp => (hy p hp).2) ly
  have mm1 : dMulU (.int many) (.int w) = some (.int (many * w)) := dMulU_int (.inl (by omega))
  have mm2 : dMulU (.int many) (.int r) = some (.int (many * r)) := dMulU_int (.inl (by omega))
  have ih := ix_lst hs d h0 (by omega)
  rw [show hs[d.toNat] = hs.getD d.toNat .non by rw [List.getD_eq_getElem?_getD, List.getElem?_eq_getElem (by omega)]; rfl] at ih
  have t1 := sl_take (ws.map .int) d h0 (by simp; omega)
  have t2 := sl_drop (ws.map .int) (d + 1) (by omega) (by simp; omega)
  have u1 := sl_take (ls.map lineD) d h0 (by simp; omega)
  have u2 := sl_drop (ls.map lineD) (d + 1) (by omega) (by simp; omega)
  rw [show (d + 1).toNat = d.toNat + 1 by omega] at t2 u2
  have l1 : ((ws.map D.int).take d.toNat).length ≤ 100 := by simp; omega
  have l2 : ((ws.map D.int).drop (d.toNat + 1)).length ≤ 100 := by simp; omega
  have l3 : ((ls.map lineD).take d.toNat).length ≤ 100 := by simp; omega
  have l4 : ((ls.map lineD).drop (d.toNat + 1)).length ≤ 100 := by simp; omega
  have hv : (ws.map D.int).take d.toNat ++ .int w :: ((ws.map D.int).drop (d.toNat + 1) ++ [.int r]) = (heavy2 ws d w r).map D.int := by
    unfold heavy2; simp [List.map_take, List.map_drop]
  have hset : (ls.map lineD).take d.toNat ++ lineD x :: ((ls.map lineD).drop (d.toNat + 1) ++ [lineD y]) = (ls.set d.toNat x ++ [y]).map lineD := by
    rw [← List.cons_append, ← List.append_assoc, set_split _ _ _ (by simp; omega), List.map_append, List.map_set]; rfl
  have hml : (more ls d x y).length ≤ 1000 := by unfold more; simp; omega
  have cc : compR (.nm 5) [5] (.ok (.lst ((ls.set d.toNat x ++ [y]).map lineD))) (sC (.bl true)) (sFn m_doubled (aCons (sLoc 5) (aCons (sLoc 2) (aCons (sCall cLen (aCons gH aNil)) aNil)))) [.sh (S hs ws ls), .sh (.int many), .sh (.int d), .sh kd, .sh (.int w), .sh (lineD l), .no, .sh (lineD x), .no, .sh (lineD y), .sh (.int r), .sh (.lst ((heavy2 ws d w r).map .int)), .sh (.lst ((ls.set d.toNat x ++ [y]).map lineD))] = .ok (.lst ((more ls d x y).map lineD)) := by
    refine compR_ok (by simp; omega) (by rfl) ?_
    have := compL_map (T := .nm 5) (env := [.sh (S hs ws ls), .sh (.int many), .sh (.int d), .sh kd, .sh (.int w), .no, .no, .sh (lineD x), .no, .sh (lineD y), .sh (.int r), .sh (.lst ((heavy2 ws d w r).map .int)), .sh (.lst ((ls.set d.toNat x ++ [y]).map lineD))]) (fe := (sFn m_doubled (aCons (sLoc 5) (aCons (sLoc 2) (aCons (sCall cLen (aCons gH aNil)) aNil))))) (fun z => match z with | .lst q => (match m_doubled [.lst q, .int d, .int hs.length] with | .ok z => z | _ => .non) | z => z) ((ls.set d.toNat x ++ [y]).map lineD) (fun z hz => by
      obtain ⟨q, hq, rfl⟩ := List.mem_map.mp hz
      have hql : q.length ≤ 1000 := by
        rcases List.mem_append.mp hq with q' | q'
        · rcases List.mem_or_eq_of_mem_set q' with q' | q'
          · exact hall q q'
          · rw [q']; exact lx
        · rw [List.mem_singleton.mp q']; exact ly
      have hd := dbl_ok q d hs.length hql
      refine ⟨_, rfl, ?_⟩
      unfold lineD at hd ⊢
      simp [gH_eq, hd])
    refine Eq.trans this ?_
    unfold more
    rw [List.map_map, List.map_map]
    congr 1
    refine List.map_congr_left fun q hq => ?_
    have hql : q.length ≤ 1000 := by
      rcases List.mem_append.mp hq with q' | q'
      · rcases List.mem_or_eq_of_mem_set q' with q' | q'
        · exact hall q q'
        · rw [q']; exact lx
      · rw [List.mem_singleton.mp q']; exact ly
    have hd := dbl_ok q d hs.length hql
    rw [← lh] at hd
    show (match m_doubled [.lst (q.map stepD), .int d, .int hs.length] with | .ok z => z | _ => .non) = lineD (dbl q d ls.length)
    rw [← lh, show D.lst (q.map stepD) = lineD q from rfl, hd]
  generalize hT : (ws.map D.int).take d.toNat = T at *
  generalize hU : (ws.map D.int).drop (d.toNat + 1) = U at *
  generalize hT2 : (ls.map lineD).take d.toNat = T2 at *
  generalize hU2 : (ls.map lineD).drop (d.toNat + 1) = U2 at *
  have a1 := dAddU_lst (xs := T) (ys := [.int w]) (by simp; omega)
  have a2 := dAddU_lst (xs := T ++ [.int w]) (ys := U) (by simp; omega)
  have a3 := dAddU_lst (xs := hs) (ys := [hs.getD d.toNat .non]) (by simp; omega)
  have a4 := dAddU_lst (xs := T ++ .int w :: U) (ys := [.int r]) (by simp; omega)
  have v1 := dAddU_lst (xs := T2) (ys := [lineD x]) (by simp; omega)
  have v2 := dAddU_lst (xs := T2 ++ [lineD x]) (ys := U2) (by simp; omega)
  have v4 := dAddU_lst (xs := T2 ++ lineD x :: U2) (ys := [lineD y]) (by simp; omega)
  rw [List.append_assoc, List.cons_append, hv] at a4
  rw [List.append_assoc, List.cons_append, hset] at v4
  generalize hMM : (ls.set d.toNat x ++ [y]).map lineD = MM at *
  generalize hHH : (heavy2 ws d w r).map D.int = HH at *
  have q0 : (ssIf (sOr (s2 dEq (sLocB 7) (sLst aNil)) (sOr (s2 dEq (sLocB 9) (sLst aNil)) (sOr (s2 dLt (sLoc 4) (sC (.int 1))) (s2 dLt (sLoc 10) (sC (.int 1)))))) (ssRaise 15) ssNext) [.sh (S hs ws ls), .sh (.int many), .sh (.int d), .sh kd, .sh (.int w), .sh (lineD l), .no, .ow (lineD x), .no, .ow (lineD y), .sh (.int r), .no, .no] = .nx [.sh (S hs ws ls), .sh (.int many), .sh (.int d), .sh kd, .sh (.int w), .sh (lineD l), .no, .ow (lineD x), .no, .ow (lineD y), .sh (.int r), .no, .no] := by
    simp [ok1, ok2, hw, hr]
  have q1 : (ssFrz 9) [.sh (S hs ws ls), .sh (.int many), .sh (.int d), .sh kd, .sh (.int w), .sh (lineD l), .no, .ow (lineD x), .no, .ow (lineD y), .sh (.int r), .no, .no] = .nx [.sh (S hs ws ls), .sh (.int many), .sh (.int d), .sh kd, .sh (.int w), .sh (lineD l), .no, .ow (lineD x), .no, .sh (lineD y), .sh (.int r), .no, .no] := by
    simp
  have q2 : (ssFrz 7) [.sh (S hs ws ls), .sh (.int many), .sh (.int d), .sh kd, .sh (.int w), .sh (lineD l), .no, .ow (lineD x), .no, .sh (lineD y), .sh (.int r), .no, .no] = .nx [.sh (S hs ws ls), .sh (.int many), .sh (.int d), .sh kd, .sh (.int w), .sh (lineD l), .no, .sh (lineD x), .no, .sh (lineD y), .sh (.int r), .no, .no] := by
    simp
  have q3 : (ssIf (sOr (s2 dLt (sFn m_borne_by (aCons (sLoc 0) (aCons (sLoc 7) aNil))) (s2 dMulU (sLoc 1) (sLoc 4))) (s2 dLt (sFn m_borne_by (aCons (sLoc 0) (aCons (sLoc 9) aNil))) (s2 dMulU (sLoc 1) (sLoc 10)))) (ssRaise 15) ssNext) [.sh (S hs ws ls), .sh (.int many), .sh (.int d), .sh kd, .sh (.int w), .sh (lineD l), .no, .sh (lineD x), .no, .sh (lineD y), .sh (.int r), .no, .no] = .nx [.sh (S hs ws ls), .sh (.int many), .sh (.int d), .sh kd, .sh (.int w), .sh (lineD l), .no, .sh (lineD x), .no, .sh (lineD y), .sh (.int r), .no, .no] := by
    simp [b1, b2, mm1, mm2, hx1, hy1]
  have q4 : (ssAsg (.nm 11) (s2 dAddU (s2 dAddU (s2 dAddU (sSl dSlU gW (sC .non) (sPart (sLoc 2))) (sLst (aCons (sLoc 4) aNil))) (sSl dSlU gW (sPart (s2 dAddU (sLoc 2) (sC (.int 1)))) (sC .non))) (sLst (aCons (sLoc 10) aNil)))) [.sh (S hs ws ls), .sh (.int many), .sh (.int d), .sh kd, .sh (.int w), .sh (lineD l), .no, .sh (lineD x), .no, .sh (lineD y), .sh (.int r), .no, .no] = .nx [.sh (S hs ws ls), .sh (.int many), .sh (.int d), .sh kd, .sh (.int w), .sh (lineD l), .no, .sh (lineD x), .no, .sh (lineD y), .sh (.int r), .sh (.lst HH), .no] := by
    simp [gW_eq, t1, t2, a1, a2, a4, hv]
  have q5 : (ssAsg (.nm 12) (s2 dAddU (s2 dAddU (s2 dAddU (sSl dSlU gL (sC .non) (sPart (sLoc 2))) (sLst (aCons (sLoc 7) aNil))) (sSl dSlU gL (sPart (s2 dAddU (sLoc 2) (sC (.int 1)))) (sC .non))) (sLst (aCons (sLoc 9) aNil)))) [.sh (S hs ws ls), .sh (.int many), .sh (.int d), .sh kd, .sh (.int w), .sh (lineD l), .no, .sh (lineD x), .no, .sh (lineD y), .sh (.int r), .sh (.lst HH), .no] = .nx [.sh (S hs ws ls), .sh (.int many), .sh (.int d), .sh kd, .sh (.int w), .sh (lineD l), .no, .sh (lineD x), .no, .sh (lineD y), .sh (.int r), .sh (.lst HH), .sh (.lst MM)] := by
    simp [gL_eq, u1, u2, v1, v2, v4, hset]
  have q6 : (ssOwn 12 (sComp (.nm 5) [5] (sItems (sLoc 12)) (sC (.bl true)) (sFn m_doubled (aCons (sLoc 5) (aCons (sLoc 2) (aCons (sCall cLen (aCons gH aNil)) aNil)))))) [.sh (S hs ws ls), .sh (.int many), .sh (.int d), .sh kd, .sh (.int w), .sh (lineD l), .no, .sh (lineD x), .no, .sh (lineD y), .sh (.int r), .sh (.lst HH), .sh (.lst MM)] = .nx [.sh (S hs ws ls), .sh (.int many), .sh (.int d), .sh kd, .sh (.int w), .sh (lineD l), .no, .sh (lineD x), .no, .sh (lineD y), .sh (.int r), .sh (.lst HH), .ow (.lst ((more ls d x y).map lineD))] := by
    simp [gH_eq, cc]
  have q7 : (ssFrz 12) [.sh (S hs ws ls), .sh (.int many), .sh (.int d), .sh kd, .sh (.int w), .sh (lineD l), .no, .sh (lineD x), .no, .sh (lineD y), .sh (.int r), .sh (.lst HH), .ow (.lst ((more ls d x y).map lineD))] = .nx [.sh (S hs ws ls), .sh (.int many), .sh (.int d), .sh kd, .sh (.int w), .sh (lineD l), .no, .sh (lineD x), .no, .sh (lineD y), .sh (.int r), .sh (.lst HH), .sh (.lst ((more ls d x y).map lineD))] := by
    simp
  have ql : (ssRet (sMk 1 m_Sheet__init_ (aCons (s2 dAddU gH (sLst (aCons (s2 dIx gH (sLoc 2)) aNil))) (aCons (sLoc 11) (aCons (sLoc 12) aNil))))) [.sh (S hs ws ls), .sh (.int many), .sh (.int d), .sh kd, .sh (.int w), .sh (lineD l), .no, .sh (lineD x), .no, .sh (lineD y), .sh (.int r), .sh (.lst HH), .sh (.lst ((more ls d x y).map lineD))] = .rt (S (hs ++ [hs.getD d.toNat .non]) (heavy2 ws d w r) (more ls d x y)) := by
    have mk := mk_S (hs ++ [hs.getD d.toNat .non]) (heavy2 ws d w r) (more ls d x y) hml
    rw [hHH] at mk
    simp only [List.getD_eq_getElem?_getD] at ih a3 mk ⊢
    simp [gH_eq, ih, a3, mk]
  unfold tl
  rw [ssSeq_eq, q0, seqO_nx, ssSeq_eq, q1, seqO_nx, ssSeq_eq, q2, seqO_nx, ssSeq_eq, q3, seqO_nx, ssSeq_eq, q4, seqO_nx, ssSeq_eq, q5, seqO_nx, ssSeq_eq, q6, seqO_nx, ssSeq_eq, q7, seqO_nx, ql, runR_rt]
end Lw

namespace Lw
open Ps
theorem i_sheet (hs : List D) (ws : List Int) (ls : List (List (PySem.Str × Int))) : isiR tb_Sheet (.ok (S hs ws ls)) = .ok (.bl true) := isiR_ok (show tb_Sheet (.own 1) = some true from rfl)
theorem i_list (ds : List D) : isiR tb_list (.ok (.lst ds)) = .ok (.bl true) := isiR_ok (show tb_list (.ty "list") = some true by decide +kernel)
theorem i_int (i : Int) : isiR tb_int (.ok (.int i)) = .ok (.bl true) := isiR_ok (show tb_int (.ty "int") = some true by decide +kernel)
theorem i_bool (i : Int) : isiR tb_bool (.ok (.int i)) = .ok (.bl false) := isiR_ok (show tb_bool (.ty "int") = some false by decide +kernel)
theorem b_is_eq : b_law_is_sheet = (ssSeq (ssIf (sOr (sNot (sIsi tb_Sheet (sLoc 0))) (sOr (sNot (sIsi tb_list gH)) (sNot (sIsi tb_list gW)))) (ssRet (sC (.bl false))) ssNext) (ssSeq (ssIf (sOr (sNot (sIsi tb_list gL)) (sNot (sCall cAll (aCons (sComp (.nm 2) [2] (sItems gL) (sC (.bl true)) (sIsi tb_list (sLoc 2))) aNil)))) (ssRet (sC (.bl false))) ssNext) (ssSeq (ssIf (sNot (sCall cAll (aCons (sComp (.nm 3) [3] (sItems gW) (sC (.bl true)) (sAnd (sIsi tb_int (sLoc 3)) (sNot (sIsi tb_bool (sLoc 3))))) aNil))) (ssRet (sC (.bl false))) ssNext) (ssRet (s2 dEq (sTup (aCons gH (aCons gW (aCons gL aNil)))) (sLoc 1)))))) := rfl
theorem is_sheet_ok (hs : List D) (ws : List Int) (ls : List (List (PySem.Str × Int))) (hh : ∀ h ∈ hs, Sh 0 h) (hl : ∀ l ∈ ls, ∀ p ∈ l, PySem.PyData.strOk p.1 = true) (n1 : ws.length ≤ 1000) (n2 : ls.length ≤ 1000) :
    m_law_is_sheet [S hs ws ls, .tup [.lst hs, .lst (ws.map .int), .lst (ls.map lineD)]] = .ok (.bl true) := by
  have hsh : Sh 64 (.tup [.lst hs, .lst (ws.map .int), .lst (ls.map lineD)]) := (sh_tup (n := 3) fun z hz => by
    rcases List.mem_cons.mp hz with rfl | hz
    · exact (sh_lst hh).mono (by decide)
    · rcases List.mem_cons.mp hz with rfl | hz
      · exact (sh_lst (n := 0) fun i hi => by obtain ⟨j, _, rfl⟩ := List.mem_map.mp hi; exact sh_int).mono (by decide)
      · rw [List.mem_singleton.mp hz]
        exact sh_lst fun i hi => by obtain ⟨j, hj, rfl⟩ := List.mem_map.mp hi; exact sh_line (hl j hj)).mono (by decide)
  have heq := dEq_refl hsh
  have k1 := compL_map (T := .nm 2) (env := [.sh (S hs ws ls), .sh (.tup [.lst hs, .lst (ws.map .int), .lst (ls.map lineD)]), .no, .no]) (fe := sIsi tb_list (sLoc 2)) (fun _ => .bl true) (ls.map lineD) (fun z hz => by
    obtain ⟨q, _, rfl⟩ := List.mem_map.mp hz
    exact ⟨_, rfl, i_list _⟩)
  rw [List.map_map] at k1
  have c1 := compR_ok (vs := [2]) (env := [.sh (S hs ws ls), .sh (.tup [.lst hs, .lst (ws.map .int), .lst (ls.map lineD)]), .no, .no]) (by simp; omega) (by rfl) k1
  have k2 := compL_map (T := .nm 3) (env := [.sh (S hs ws ls), .sh (.tup [.lst hs, .lst (ws.map .int), .lst (ls.map lineD)]), .no, .no]) (fe := sAnd (sIsi tb_int (sLoc 3)) (sNot (sIsi tb_bool (sLoc 3)))) (fun _ => .bl true) (ws.map .int) (fun z hz => by
    obtain ⟨q, _, rfl⟩ := List.mem_map.mp hz
    exact ⟨_, rfl, by simp [i_int, i_bool]⟩)
  rw [List.map_map] at k2
  have c2 := compR_ok (vs := [3]) (env := [.sh (S hs ws ls), .sh (.tup [.lst hs, .lst (ws.map .int), .lst (ls.map lineD)]), .no, .no]) (by simp; omega) (by rfl) k2
  have a1 : cAll [.lst (ls.map ((fun _ => D.bl true) ∘ lineD))] = some (.bl true) := by
    have := cAll_map (fun _ : List (PySem.Str × Int) => true) ls
    rw [List.all_eq_true.mpr fun _ _ => rfl] at this
    exact this
  have a2 : cAll [.lst (ws.map ((fun _ => D.bl true) ∘ D.int))] = some (.bl true) := by
    have := cAll_map (fun _ : Int => true) ws
    rw [List.all_eq_true.mpr fun _ _ => rfl] at this
    exact this
  have q0 : (ssIf (sOr (sNot (sIsi tb_Sheet (sLoc 0))) (sOr (sNot (sIsi tb_list gH)) (sNot (sIsi tb_list gW)))) (ssRet (sC (.bl false))) ssNext) [.sh (S hs ws ls), .sh (.tup [.lst hs, .lst (ws.map .int), .lst (ls.map lineD)]), .no, .no] = .nx [.sh (S hs ws ls), .sh (.tup [.lst hs, .lst (ws.map .int), .lst (ls.map lineD)]), .no, .no] := by
    simp [i_sheet, gH_eq, gW_eq, i_list]
  have q1 : (ssIf (sOr (sNot (sIsi tb_list gL)) (sNot (sCall cAll (aCons (sComp (.nm 2) [2] (sItems gL) (sC (.bl true)) (sIsi tb_list (sLoc 2))) aNil)))) (ssRet (sC (.bl false))) ssNext) [.sh (S hs ws ls), .sh (.tup [.lst hs, .lst (ws.map .int), .lst (ls.map lineD)]), .no, .no] = .nx [.sh (S hs ws ls), .sh (.tup [.lst hs, .lst (ws.map .int), .lst (ls.map lineD)]), .no, .no] := by
    simp only [ssIf_eq, sOr_eq, sNot_eq, sIsi_eq, gL_eq, i_list, notR_ok, Bool.not_true, orR_f, sCall_eq, aCons_eq, sComp_eq, sItems_eq, itemsR_lst, aNil_eq, c1, consA_ok, callR_ok, a1, ofO_some, ifO_f, ssNext_eq]
  have q2 : (ssIf (sNot (sCall cAll (aCons (sComp (.nm 3) [3] (sItems gW) (sC (.bl true)) (sAnd (sIsi tb_int (sLoc 3)) (sNot (sIsi tb_bool (sLoc 3))))) aNil))) (ssRet (sC (.bl false))) ssNext) [.sh (S hs ws ls), .sh (.tup [.lst hs, .lst (ws.map .int), .lst (ls.map lineD)]), .no, .no] = .nx [.sh (S hs ws ls), .sh (.tup [.lst hs, .lst (ws.map .int), .lst (ls.map lineD)]), .no, .no] := by
    simp only [ssIf_eq, sNot_eq, gW_eq, notR_ok, Bool.not_true, sCall_eq, aCons_eq, sComp_eq, sItems_eq, itemsR_lst, aNil_eq, c2, consA_ok, callR_ok, a2, ofO_some, ifO_f, ssNext_eq]
  have q3 : (ssRet (s2 dEq (sTup (aCons gH (aCons gW (aCons gL aNil)))) (sLoc 1))) [.sh (S hs ws ls), .sh (.tup [.lst hs, .lst (ws.map .int), .lst (ls.map lineD)]), .no, .no] = .rt (.bl true) := by
    simp only [ssRet_eq, s2_eq, sTup_eq, aCons_eq, gH_eq, gW_eq, gL_eq, aNil_eq, consA_ok, tupR_3, sLoc_eq, List.getElem?_cons_succ, List.getElem?_cons_zero, locR_sh, s2R_ok, heq, ofO_some, retO_ok]
  unfold m_law_is_sheet runF
  rw [b_is_eq]
  show runR ((ssSeq (ssIf (sOr (sNot (sIsi tb_Sheet (sLoc 0))) (sOr (sNot (sIsi tb_list gH)) (sNot (sIsi tb_list gW)))) (ssRet (sC (.bl false))) ssNext) (ssSeq (ssIf (sOr (sNot (sIsi tb_list gL)) (sNot (sCall cAll (aCons (sComp (.nm 2) [2] (sItems gL) (sC (.bl true)) (sIsi tb_list (sLoc 2))) aNil)))) (ssRet (sC (.bl false))) ssNext) (ssSeq (ssIf (sNot (sCall cAll (aCons (sComp (.nm 3) [3] (sItems gW) (sC (.bl true)) (sAnd (sIsi tb_int (sLoc 3)) (sNot (sIsi tb_bool (sLoc 3))))) aNil))) (ssRet (sC (.bl false))) ssNext) (ssRet (s2 dEq (sTup (aCons gH (aCons gW (aCons gL aNil)))) (sLoc 1)))))) [.sh (S hs ws ls), .sh (.tup [.lst hs, .lst (ws.map .int), .lst (ls.map lineD)]), .no, .no]) false = _
  rw [ssSeq_eq, q0, seqO_nx, ssSeq_eq, q1, seqO_nx, ssSeq_eq, q2, seqO_nx, q3, runR_rt]
theorem j_Barred : isiR tb_Barred (.ok (.exo 15 [])) = .ok (.bl false) := isiR_ok (show tb_Barred (.err 15) = some false from rfl)
theorem j_NoBand : isiR tb_NoBand (.ok (.exo 15 [])) = .ok (.bl false) := isiR_ok (show tb_NoBand (.err 15) = some false from rfl)
theorem j_NoData : isiR tb_NoData (.ok (.exo 15 [])) = .ok (.bl false) := isiR_ok (show tb_NoData (.err 15) = some false from rfl)
theorem j_NoForm : isiR tb_NoForm (.ok (.exo 15 [])) = .ok (.bl false) := isiR_ok (show tb_NoForm (.err 15) = some false from rfl)
theorem j_NoLength : isiR tb_NoLength (.ok (.exo 15 [])) = .ok (.bl false) := isiR_ok (show tb_NoLength (.err 15) = some false from rfl)
theorem j_NoNumber : isiR tb_NoNumber (.ok (.exo 15 [])) = .ok (.bl false) := isiR_ok (show tb_NoNumber (.err 15) = some false from rfl)
theorem j_NoPlace : isiR tb_NoPlace (.ok (.exo 15 [])) = .ok (.bl false) := isiR_ok (show tb_NoPlace (.err 15) = some false from rfl)
theorem j_NoRate : isiR tb_NoRate (.ok (.exo 15 [])) = .ok (.bl false) := isiR_ok (show tb_NoRate (.err 15) = some false from rfl)
theorem j_NoRow : isiR tb_NoRow (.ok (.exo 15 [])) = .ok (.bl false) := isiR_ok (show tb_NoRow (.err 15) = some false from rfl)
theorem j_NoSigns : isiR tb_NoSigns (.ok (.exo 15 [])) = .ok (.bl false) := isiR_ok (show tb_NoSigns (.err 15) = some false from rfl)
theorem j_NoWord : isiR tb_NoWord (.ok (.exo 15 [])) = .ok (.bl false) := isiR_ok (show tb_NoWord (.err 15) = some false from rfl)
theorem j_NoWriter : isiR tb_NoWriter (.ok (.exo 15 [])) = .ok (.bl false) := isiR_ok (show tb_NoWriter (.err 15) = some false from rfl)
theorem j_Open : isiR tb_Open (.ok (.exo 15 [])) = .ok (.bl false) := isiR_ok (show tb_Open (.err 15) = some false from rfl)
theorem j_Scarce : isiR tb_Scarce (.ok (.exo 15 [])) = .ok (.bl false) := isiR_ok (show tb_Scarce (.err 15) = some false from rfl)
theorem j_TooMany : isiR tb_TooMany (.ok (.exo 15 [])) = .ok (.bl false) := isiR_ok (show tb_TooMany (.err 15) = some false from rfl)
theorem j_NoSplit : isiR tb_NoSplit (.ok (.exo 15 [])) = .ok (.bl true) := isiR_ok (show tb_NoSplit (.err 15) = some true from rfl)
theorem j_ValueError : isiR tb_ValueError (.ok (.exo 15 [])) = .ok (.bl true) := isiR_ok (show tb_ValueError (.err 15) = some true from rfl)
theorem others_ok : m_law_others [.exo 15 []] = .ok (.bl false) := by
  unfold m_law_others b_law_others runF env0
  simp [argE, j_Barred, j_NoBand, j_NoData, j_NoForm, j_NoLength, j_NoNumber, j_NoPlace, j_NoRate, j_NoRow, j_NoSigns, j_NoWord, j_NoWriter, j_Open, j_Scarce, j_TooMany]
theorem refused_ok (s many d k w : D) (h : m_split [s, many, d, k, w] = .er 15 []) : m_law_is_refused [s, many, d, k, w] = .ok (.bl true) := by
  have ht : ssTry cat_BandError 6 (ssExpr (sFn m_split (aCons (sLoc 0) (aCons (sLoc 1) (aCons (sLoc 2) (aCons (sLoc 3) (aCons (sLoc 4) aNil))))))) (ssAsg (.nm 5) (sLoc 6)) [.sh s, .sh many, .sh d, .sh k, .sh w, .sh .non, .no] = .nx [.sh s, .sh many, .sh d, .sh k, .sh w, .sh (.exo 15 []), .no] := by
    have hb : (ssExpr (sFn m_split (aCons (sLoc 0) (aCons (sLoc 1) (aCons (sLoc 2) (aCons (sLoc 3) (aCons (sLoc 4) aNil)))))) : SS) [.sh s, .sh many, .sh d, .sh k, .sh w, .sh .non, .no] = .er 15 [] [.sh s, .sh many, .sh d, .sh k, .sh w, .sh .non, .no] := by
      simp [h]
    unfold ssTry
    rw [hb]
    rfl
  unfold m_law_is_refused b_law_is_refused runF env0
  simp [argE, ht, j_NoSplit, j_ValueError, others_ok]
end Lw

namespace Lw
open Ps
/-- what is turned is bad -/
def Bad (n : Nat) (l : List (PySem.Str × Int)) (wd d d' : Int) (ks' : List Int) (w' : Int) : Prop :=
  (d' < 0 ∨ (n : Int) ≤ d') ∨ (d' = d ∧ (ks'.any (off l.length) = true ∨ (ks'.any (off l.length) = false ∧ (pick l ks' true = [] ∨ pick l ks' false = [] ∨ w' < 1 ∨ wd - w' < 1))))
theorem pow9 : dPow (.int 10) (.int 9) = some (.int 1000000000) := by
  show (if (0 : Int) ≤ 9 ∧ (9 : Int) ≤ 1000000 ∧ (10 : Int).natAbs < 2 ^ 64 then some (D.int ((10 : Int) ^ (9 : Int).toNat)) else none) = _
  rw [if_pos ⟨by decide, by decide, by decide⟩]
  rfl
theorem ix3 (a b c : D) (t : Int) (h0 : 0 ≤ t) (h1 : t < 3) : dIx (.lst [a, b, c]) (.int t) = some (if t = 0 then a else if t = 1 then b else c) := by
  have : t = 0 ∨ t = 1 ∨ t = 2 := by omega
  rcases this with rfl | rfl | rfl <;> rfl
theorem cRg_ok (n : Nat) (h : n ≤ 1000) : cRg [.int n] = some (.lst (((List.range n).map fun i => ((i : Nat) : Int)).map .int)) := by
  show (if (0 : Int) ≤ n ∧ (n : Int) ≤ 16777216 then some (D.lst ((List.range (n : Int).toNat).map fun i => .int (i : Nat))) else none) = _
  rw [if_pos ⟨by omega, by omega⟩, Int.toNat_natCast, List.map_map]; rfl
theorem turned_ok (c : Int) (hs : List D) (ws : List Int) (ls : List (List (PySem.Str × Int))) (d : Int) (ks : List Int) (h0 : 0 ≤ d) (h1 : d < hs.length) (lh : ls.length = hs.length) (lw : ws.length = hs.length) (hn : hs.length ≤ 100) (hl : (ls.getD d.toNat []).length ≤ 1000)
    (kl : ks.length ≤ 100) (k2 : 2 ≤ ks.length) (hk : ks.any (off (ls.getD d.toNat []).length) = false) :
    ∃ d' ks' w', m_law_turned [.int c, .tup [.lst hs, .lst (ws.map .int), .lst (ls.map lineD)], .int d, .lst (ks.map .int)] = .ok (.tup [.int d', .lst (ks'.map .int), .int w']) ∧ ks'.length ≤ 1000 ∧ Bad hs.length (ls.getD d.toNat []) (ws.getD d.toNat 0) d d' ks' w' := by
  have hix := ix_lines ls d h0 (by omega)
  have iw := ix_ints ws d h0 (by omega)
  generalize ls.getD d.toNat [] = l at *
  generalize ws.getD d.toNat 0 = wd at *
  obtain ⟨a1, a2, a3⟩ := mx_ok c 2 4 (by decide) (by decide) (by decide)
  obtain ⟨b1, b2, b3⟩ := mx_ok c 3 3 (by decide) (by decide) (by decide)
  obtain ⟨e1, e2, e3⟩ := mx_ok c 4 1000000000 (by decide) (by decide) (by decide)
  obtain ⟨g1, g2, g3⟩ := mx_ok c 4 3 (by decide) (by decide) (by decide)
  generalize mx c 2 4 = way at *
  generalize mx c 3 3 = t at *
  generalize mx c 4 1000000000 = u at *
  generalize mx c 4 3 = v at *
  have hw : way = 0 ∨ way = 1 ∨ way = 2 ∨ way = 3 := by omega
  rcases hw with rfl | rfl | rfl | rfl
  · refine ⟨if t = 0 then -1 else if t = 1 then hs.length else hs.length + u, ks, 1, ?_, by omega, .inl ?_⟩
    · have i3 := ix3 (.int (-1)) (.int hs.length) (.int (hs.length + u)) t b2 b3
      have e : (if t = 0 then D.int (-1) else if t = 1 then D.int hs.length else D.int (hs.length + u)) = D.int (if t = 0 then -1 else if t = 1 then hs.length else hs.length + u) := by
        by_cases q0 : t = 0
        · rw [if_pos q0, if_pos q0]
        · rw [if_neg q0, if_neg q0]; split <;> rfl
      rw [e] at i3
      unfold m_law_turned b_law_turned runF env0
      simp [argE, a1, b1, e1, pow9, i3]
    · split
      · exact .inl (by decide)
      · split
        · exact .inr (Int.le_refl _)
        · exact .inr (by omega)
  · have tl : t.toNat ≤ ks.length := by omega
    have t1 := sl_take (ks.map .int) t b2 (by simpa using tl)
    have t2 := sl_drop (ks.map .int) t b2 (by simpa using tl)
    have i3 := ix3 (.int (-1)) (.int l.length) (.int (l.length + u)) t b2 b3
    have e : (if t = 0 then D.int (-1) else if t = 1 then D.int l.length else D.int (l.length + u)) = D.int (if t = 0 then -1 else if t = 1 then l.length else l.length + u) := by
      by_cases q0 : t = 0
      · rw [if_pos q0, if_pos q0]
      · rw [if_neg q0, if_neg q0]; split <;> rfl
    rw [e] at i3
    have ho : off l.length (if t = 0 then -1 else if t = 1 then (l.length : Int) else l.length + u) = true := by
      unfold off
      split
      · rfl
      · split
        · simp
        · have : (l.length : Int) ≤ l.length + u := by omega
          simp [this]
    generalize (if t = 0 then -1 else if t = 1 then (l.length : Int) else l.length + u) = m at *
    refine ⟨d, ks.take t.toNat ++ m :: ks.drop t.toNat, 1, ?_, by simp; omega, .inr ⟨rfl, .inl ?_⟩⟩
    · have x1 : ((ks.map D.int).take t.toNat).length ≤ 100 := by simp; omega
      have x2 : ((ks.map D.int).drop t.toNat).length ≤ 100 := by simp; omega
      have y1 := dAddU_lst (xs := (ks.map D.int).take t.toNat) (ys := [.int m]) (by simp; omega)
      have y2 := dAddU_lst (xs := (ks.map D.int).take t.toNat ++ [.int m]) (ys := (ks.map D.int).drop t.toNat) (by simp; omega)
      have hv : (ks.take t.toNat ++ m :: ks.drop t.toNat).map D.int = (ks.map D.int).take t.toNat ++ .int m :: (ks.map D.int).drop t.toNat := by simp [List.map_take, List.map_drop]
      rw [hv]
      generalize (ks.map D.int).take t.toNat = T at *
      generalize (ks.map D.int).drop t.toNat = U at *
      unfold m_law_turned b_law_turned runF env0
      simp [argE, a1, b1, e1, pow9, hix, cLen_line, i3, t1, t2, y1, y2]
    · simp [ho]
  · have i3 := ix3 (.lst []) (.lst (((List.range l.length).map fun i => ((i : Nat) : Int)).map .int)) (.lst []) t b2 b3
    have e : (if t = 0 then D.lst [] else if t = 1 then D.lst (((List.range l.length).map fun i => ((i : Nat) : Int)).map .int) else D.lst []) = D.lst ((if t = 1 then ((List.range l.length).map fun i => ((i : Nat) : Int)) else []).map .int) := by
      by_cases q0 : t = 0
      · rw [if_pos q0, if_neg (by omega)]; rfl
      · rw [if_neg q0]; split <;> rfl
    rw [e] at i3
    have hlen : (if t = 1 then ((List.range l.length).map fun i => ((i : Nat) : Int)) else []).length ≤ 1000 := by split <;> simp; omega
    have hb : Bad hs.length l wd d d (if t = 1 then ((List.range l.length).map fun i => ((i : Nat) : Int)) else []) 1 := by
      refine .inr ⟨rfl, .inr ?_⟩
      split
      · refine ⟨?_, .inr (.inl ?_)⟩
        · rw [List.any_map, List.any_eq_false]
          intro i hi
          have := List.mem_range.mp hi
          simp [off]; omega
        · unfold pick
          rw [List.map_eq_nil_iff, List.filter_eq_nil_iff]
          intro i hi
          have := List.mem_range.mp hi
          simp; exact ⟨i, this, rfl⟩
      · exact ⟨rfl, .inl (by unfold pick; simp)⟩
    generalize (if t = 1 then ((List.range l.length).map fun i => ((i : Nat) : Int)) else []) = kk at *
    refine ⟨d, kk, 1, ?_, hlen, hb⟩
    have cr := cRg_ok l.length hl
    generalize (((List.range l.length).map fun i => ((i : Nat) : Int)).map D.int) = RR at *
    unfold m_law_turned b_law_turned runF env0
    simp [argE, a1, b1, hix, cLen_line, cr, i3]
  · have i3 := ix3 (.int 0) (.int (-1)) (.int wd) t b2 b3
    have e : (if t = 0 then D.int 0 else if t = 1 then D.int (-1) else D.int wd) = D.int (if t = 0 then 0 else if t = 1 then -1 else wd) := by
      by_cases q0 : t = 0
      · rw [if_pos q0, if_pos q0]
      · rw [if_neg q0, if_neg q0]; split <;> rfl
    rw [e] at i3
    have hb : Bad hs.length l wd d d ks ((if t = 0 then 0 else if t = 1 then -1 else wd) + v * (if t = 2 then 1 else 0)) := by
      refine .inr ⟨rfl, .inr ⟨hk, .inr (.inr ?_)⟩⟩
      have : t = 0 ∨ t = 1 ∨ t = 2 := by omega
      rcases this with rfl | rfl | rfl
      · exact .inl (by simp)
      · exact .inl (by simp)
      · refine .inr ?_
        simp
        omega
    have mm : dMulU (.int v) (.int (if t = 2 then 1 else 0)) = some (.int (v * (if t = 2 then 1 else 0))) := dMulU_int (.inl (by omega))
    refine ⟨d, ks, _, ?_, by omega, hb⟩
    generalize (if t = 0 then (0 : Int) else if t = 1 then -1 else wd) = w1 at *
    unfold m_law_turned b_law_turned runF env0
    simp [argE, a1, b1, g1, iw, i3, mm]
end Lw

namespace Lw
open Ps
theorem dbl_str (d o : Int) (q : List (PySem.Str × Int)) (h : ∀ p ∈ q, PySem.PyData.strOk p.1 = true) : ∀ p ∈ dbl q d o, PySem.PyData.strOk p.1 = true := by
  intro p hp
  unfold dbl at hp
  obtain ⟨p', h1, h2⟩ := List.mem_flatMap.mp hp
  have := h p' h1
  split at h2
  · rcases List.mem_cons.mp h2 with rfl | h2
    · exact this
    · rw [List.mem_singleton.mp h2]; exact this
  · rw [List.mem_singleton.mp h2]; exact this
def bodyL : SS := (ssSeq (ssAsg (.nm 9) (sFn m_law_mixed (aCons (sLoc 8) (aCons (sC (.int 1)) (aCons (sCall cLen (aCons (sLoc 3) aNil)) aNil))))) (ssSeq (ssAsg (.nm 10) (sFn m_law_half (aCons (sLoc 8) (aCons (sLoc 1) aNil)))) (ssSeq (ssAsg (.nm 11) (sFn m_law_turned (aCons (sLoc 8) (aCons (sLoc 2) (aCons (sLoc 9) (aCons (sLoc 10) aNil)))))) (ssSeq (ssAsg (.nm 12) (sCall cList (aCons (s2 dIx (sLoc 11) (sC (.int 1))) aNil))) (ssSeq (ssIf (sOr (sNot (sFn m_law_is_refused (aCons (sLoc 6) (aCons (sLoc 1) (aCons (s2 dIx (sLoc 11) (sC (.int 0))) (aCons (sLoc 12) (aCons (s2 dIx (sLoc 11) (sC (.int 2))) aNil))))))) (s2 dNe (sLoc 12) (s2 dIx (sLoc 11) (sC (.int 1))))) (ssRet (sC (.bl false))) ssNext) (ssSeq (ssIf (sNot (sFn m_law_is_sheet (aCons (sLoc 6) (aCons (sLoc 2) aNil)))) (ssRet (sC (.bl false))) ssNext) (ssSeq (ssAsg (.nm 13) (sFn m_law_divided (aCons (sLoc 3) (aCons (sLoc 4) (aCons (sLoc 5) (aCons (sLoc 9) (aCons (sLoc 10) (aCons (sC (.int 1)) aNil)))))))) (ssIf (sNot (sFn m_law_is_sheet (aCons (sFn m_split (aCons (sLoc 6) (aCons (sLoc 1) (aCons (sLoc 9) (aCons (sLoc 10) (aCons (sC (.int 1)) aNil)))))) (aCons (sLoc 13) aNil)))) (ssRet (sC (.bl false))) ssNext))))))))
theorem body_ok (sc : D) (many : Int) (hs : List D) (ws : List Int) (ls : List (List (PySem.Str × Int))) (G : Good many hs ws ls) (m2 : 2 ≤ many) (m8 : many ≤ 8) (c : Int) (x9 x10 x11 x12 x13 : Sl) (c9 : canSet x9 = true) (c10 : canSet x10 = true) (c11 : canSet x11 = true) (c12 : canSet x12 = true) (c13 : canSet x13 = true) :
    ∃ y9 y10 y11 y12 y13, (canSet y9 = true ∧ canSet y10 = true ∧ canSet y11 = true ∧ canSet y12 = true ∧ canSet y13 = true) ∧ bodyL [.sh sc, .sh (.int many), .sh (.tup [.lst hs, .lst (ws.map .int), .lst (ls.map lineD)]), .sh (.lst hs), .sh (.lst (ws.map .int)), .sh (.lst (ls.map lineD)), .sh (S hs ws ls), .no, .sh (.int c), x9, x10, x11, x12, x13] = .nx [.sh sc, .sh (.int many), .sh (.tup [.lst hs, .lst (ws.map .int), .lst (ls.map lineD)]), .sh (.lst hs), .sh (.lst (ws.map .int)), .sh (.lst (ls.map lineD)), .sh (S hs ws ls), .no, .sh (.int c), y9, y10, y11, y12, y13] := by
  obtain ⟨n1, n5, lw, ll, hh, w2, sl⟩ := G
  obtain ⟨a1, a2, a3⟩ := mx_ok c 1 hs.length (by omega) (by omega) (by omega)
  generalize mx c 1 hs.length = d at *
  obtain ⟨ks, hh1, kl, knd, kr⟩ := half_ok c many m2 m8
  have hdl : d.toNat < ls.length := by omega
  have gl : ls.getD d.toNat [] ∈ ls := by simp [List.getD_eq_getElem?_getD, hdl]
  obtain ⟨sl1, sl2⟩ := sl _ gl
  have hall : ∀ l ∈ ls, l.length ≤ 1000 := fun l hl => by have := (sl l hl).1; omega
  have hoff : ks.any (off (ls.getD d.toNat []).length) = false := by
    rw [List.any_eq_false]
    intro k hk
    have := kr k hk
    unfold off
    rw [decide_eq_false (by omega), decide_eq_false (by omega)]
    decide
  obtain ⟨d', ks', w', ht, kl', hbad⟩ := turned_ok c hs ws ls d ks a2 a3 ll lw (by omega) (by omega) (by omega) (by omega) hoff
  have hstr : ∀ l ∈ ls, ∀ p ∈ l, PySem.PyData.strOk p.1 = true := fun l hl p hp => ((sl l hl).2 p hp).1
  have hspb : m_split [S hs ws ls, .int many, .int d', .lst (ks'.map .int), .int w'] = .er 15 [] := by
    rcases hbad with hb | ⟨rfl, hb | ⟨hb, hb2⟩⟩
    · exact split_far hs ws ls many d' w' _ hb
    · exact split_off hs ws ls many d' w' ks' a2 a3 ll kl' hb
    · exact split_side hs ws ls many d' w' ks' a2 a3 ll lw kl' hb (by omega) (hstr _ gl) hb2
  have hrf := refused_ok _ _ _ _ _ hspb
  have hne : dNe (.lst (ks'.map .int)) (.lst (ks'.map .int)) = some (.bl false) := dNe_refl ((sh_lst (n := 0) fun i hi => by obtain ⟨j, _, rfl⟩ := List.mem_map.mp hi; exact sh_int).mono (by decide))
  have hs1 := is_sheet_ok hs ws ls hh hstr (by omega) (by omega)
  have hdv := divided_ok hs ls ws d 1 ks a2 (by omega) (by omega) (by omega) (by omega) hall (fun l hl p hp => by have := (sl l hl).2 p hp; omega)
  have pk : ∀ b, ∀ p ∈ pick (ls.getD d.toNat []) ks b, PySem.PyData.strOk p.1 = true ∧ 0 ≤ p.2 ∧ p.2 < ws.length := fun b p hp => by
    have := sl2 p (pick_mem hp); exact ⟨this.1, this.2.1, by omega⟩
  obtain ⟨pl1, pl2⟩ := pick_len knd (l := ls.getD d.toNat []) fun k hk => by have := kr k hk; omega
  have hwd : 2 ≤ ws.getD d.toNat 0 ∧ ws.getD d.toNat 0 ≤ 3 := by
    have h : d.toNat < ws.length := by omega
    rw [List.getD_eq_getElem?_getD, List.getElem?_eq_getElem h]
    exact w2 _ (List.getElem_mem h)
  have g1 := sum_ge ws w2 (pick (ls.getD d.toNat []) ks true) fun p hp => (pk true p hp).2
  have g2 := sum_ge ws w2 (pick (ls.getD d.toNat []) ks false) fun p hp => (pk false p hp).2
  have hsp : m_split [S hs ws ls, .int many, .int d, .lst (ks.map .int), .int 1] = .ok (S (hs ++ [hs.getD d.toNat .non]) (heavy ws d 1) (more ls d (pick (ls.getD d.toNat []) ks true) (pick (ls.getD d.toNat []) ks false))) := by
    rw [split_pre hs ws ls many d 1 ks a2 a3 ll lw (by omega) hoff (by omega)]
    have hm : many * (ws.getD d.toNat 0 - 1) ≤ many * 2 := Int.mul_le_mul_of_nonneg_left (by omega) (by omega)
    have hy1 : ¬ ((pick (ls.getD d.toNat []) ks false).map (wOf ws)).sum < many * (ws.getD d.toNat 0 - 1) := by
      refine Int.not_lt.mpr (Int.le_trans hm ?_)
      omega
    exact tl_good hs ws ls many d 1 (ws.getD d.toNat 0 - 1) _ _ _ _ a2 a3 ll lw (by omega) (by omega) (pk true) (pk false) hall (by omega) (by omega) (fun z => by rw [z, List.length_nil] at pl1; omega) (fun z => by rw [z, List.length_nil] at pl2; omega) (by omega) (by omega) (by omega) hy1
  generalize hX : pick (ls.getD d.toNat []) ks true = X at *
  generalize hY : pick (ls.getD d.toNat []) ks false = Y at *
  have hs2 := is_sheet_ok (hs ++ [hs.getD d.toNat .non]) (heavy ws d 1) (more ls d X Y) (fun h hm => by
      rcases List.mem_append.mp hm with q | q
      · exact hh h q
      · have h : d.toNat < hs.length := by omega
        rw [List.mem_singleton.mp q, List.getD_eq_getElem?_getD, List.getElem?_eq_getElem h]
        exact hh _ (List.getElem_mem h)) (fun q hq p hp => by
      unfold more at hq
      obtain ⟨q', h1, rfl⟩ := List.mem_map.mp hq
      refine dbl_str d _ q' (fun r hr => ?_) p hp
      rcases List.mem_append.mp h1 with z | z
      · rcases List.mem_or_eq_of_mem_set z with z | z
        · exact hstr _ z r hr
        · rw [z] at hr; exact (pk true r (by rw [hX]; exact hr)).1
      · rw [List.mem_singleton.mp z] at hr; exact (pk false r (by rw [hY]; exact hr)).1) (by unfold heavy; simp; omega) (by unfold more; simp; omega)
  have ib0 : dIx (.tup [.int d', .lst (ks'.map .int), .int w']) (.int 0) = some (.int d') := rfl
  have ib1 : dIx (.tup [.int d', .lst (ks'.map .int), .int w']) (.int 1) = some (.lst (ks'.map .int)) := rfl
  have ib2 : dIx (.tup [.int d', .lst (ks'.map .int), .int w']) (.int 2) = some (.int w') := rfl
  generalize hs.getD d.toNat .non = hd' at *
  have q0 : (ssAsg (.nm 9) (sFn m_law_mixed (aCons (sLoc 8) (aCons (sC (.int 1)) (aCons (sCall cLen (aCons (sLoc 3) aNil)) aNil))))) [.sh sc, .sh (.int many), .sh (.tup [.lst hs, .lst (ws.map .int), .lst (ls.map lineD)]), .sh (.lst hs), .sh (.lst (ws.map .int)), .sh (.lst (ls.map lineD)), .sh (S hs ws ls), .no, .sh (.int c), x9, x10, x11, x12, x13] = .nx [.sh sc, .sh (.int many), .sh (.tup [.lst hs, .lst (ws.map .int), .lst (ls.map lineD)]), .sh (.lst hs), .sh (.lst (ws.map .int)), .sh (.lst (ls.map lineD)), .sh (S hs ws ls), .no, .sh (.int c), .sh (.int d), x10, x11, x12, x13] := by
    simp [a1, setS_can c9]
  have q1 : (ssAsg (.nm 10) (sFn m_law_half (aCons (sLoc 8) (aCons (sLoc 1) aNil)))) [.sh sc, .sh (.int many), .sh (.tup [.lst hs, .lst (ws.map .int), .lst (ls.map lineD)]), .sh (.lst hs), .sh (.lst (ws.map .int)), .sh (.lst (ls.map lineD)), .sh (S hs ws ls), .no, .sh (.int c), .sh (.int d), x10, x11, x12, x13] = .nx [.sh sc, .sh (.int many), .sh (.tup [.lst hs, .lst (ws.map .int), .lst (ls.map lineD)]), .sh (.lst hs), .sh (.lst (ws.map .int)), .sh (.lst (ls.map lineD)), .sh (S hs ws ls), .no, .sh (.int c), .sh (.int d), .sh (.lst (ks.map .int)), x11, x12, x13] := by
    simp [hh1, setS_can c10]
  have q2 : (ssAsg (.nm 11) (sFn m_law_turned (aCons (sLoc 8) (aCons (sLoc 2) (aCons (sLoc 9) (aCons (sLoc 10) aNil)))))) [.sh sc, .sh (.int many), .sh (.tup [.lst hs, .lst (ws.map .int), .lst (ls.map lineD)]), .sh (.lst hs), .sh (.lst (ws.map .int)), .sh (.lst (ls.map lineD)), .sh (S hs ws ls), .no, .sh (.int c), .sh (.int d), .sh (.lst (ks.map .int)), x11, x12, x13] = .nx [.sh sc, .sh (.int many), .sh (.tup [.lst hs, .lst (ws.map .int), .lst (ls.map lineD)]), .sh (.lst hs), .sh (.lst (ws.map .int)), .sh (.lst (ls.map lineD)), .sh (S hs ws ls), .no, .sh (.int c), .sh (.int d), .sh (.lst (ks.map .int)), .sh (.tup [.int d', .lst (ks'.map .int), .int w']), x12, x13] := by
    simp [ht, setS_can c11]
  have q3 : (ssAsg (.nm 12) (sCall cList (aCons (s2 dIx (sLoc 11) (sC (.int 1))) aNil))) [.sh sc, .sh (.int many), .sh (.tup [.lst hs, .lst (ws.map .int), .lst (ls.map lineD)]), .sh (.lst hs), .sh (.lst (ws.map .int)), .sh (.lst (ls.map lineD)), .sh (S hs ws ls), .no, .sh (.int c), .sh (.int d), .sh (.lst (ks.map .int)), .sh (.tup [.int d', .lst (ks'.map .int), .int w']), x12, x13] = .nx [.sh sc, .sh (.int many), .sh (.tup [.lst hs, .lst (ws.map .int), .lst (ls.map lineD)]), .sh (.lst hs), .sh (.lst (ws.map .int)), .sh (.lst (ls.map lineD)), .sh (S hs ws ls), .no, .sh (.int c), .sh (.int d), .sh (.lst (ks.map .int)), .sh (.tup [.int d', .lst (ks'.map .int), .int w']), .sh (.lst (ks'.map .int)), x13] := by
    simp [ib1, setS_can c12]
  have q4 : (ssIf (sOr (sNot (sFn m_law_is_refused (aCons (sLoc 6) (aCons (sLoc 1) (aCons (s2 dIx (sLoc 11) (sC (.int 0))) (aCons (sLoc 12) (aCons (s2 dIx (sLoc 11) (sC (.int 2))) aNil))))))) (s2 dNe (sLoc 12) (s2 dIx (sLoc 11) (sC (.int 1))))) (ssRet (sC (.bl false))) ssNext) [.sh sc, .sh (.int many), .sh (.tup [.lst hs, .lst (ws.map .int), .lst (ls.map lineD)]), .sh (.lst hs), .sh (.lst (ws.map .int)), .sh (.lst (ls.map lineD)), .sh (S hs ws ls), .no, .sh (.int c), .sh (.int d), .sh (.lst (ks.map .int)), .sh (.tup [.int d', .lst (ks'.map .int), .int w']), .sh (.lst (ks'.map .int)), x13] = .nx [.sh sc, .sh (.int many), .sh (.tup [.lst hs, .lst (ws.map .int), .lst (ls.map lineD)]), .sh (.lst hs), .sh (.lst (ws.map .int)), .sh (.lst (ls.map lineD)), .sh (S hs ws ls), .no, .sh (.int c), .sh (.int d), .sh (.lst (ks.map .int)), .sh (.tup [.int d', .lst (ks'.map .int), .int w']), .sh (.lst (ks'.map .int)), x13] := by
    simp [ib0, ib1, ib2, hrf, hne]
  have q5 : (ssIf (sNot (sFn m_law_is_sheet (aCons (sLoc 6) (aCons (sLoc 2) aNil)))) (ssRet (sC (.bl false))) ssNext) [.sh sc, .sh (.int many), .sh (.tup [.lst hs, .lst (ws.map .int), .lst (ls.map lineD)]), .sh (.lst hs), .sh (.lst (ws.map .int)), .sh (.lst (ls.map lineD)), .sh (S hs ws ls), .no, .sh (.int c), .sh (.int d), .sh (.lst (ks.map .int)), .sh (.tup [.int d', .lst (ks'.map .int), .int w']), .sh (.lst (ks'.map .int)), x13] = .nx [.sh sc, .sh (.int many), .sh (.tup [.lst hs, .lst (ws.map .int), .lst (ls.map lineD)]), .sh (.lst hs), .sh (.lst (ws.map .int)), .sh (.lst (ls.map lineD)), .sh (S hs ws ls), .no, .sh (.int c), .sh (.int d), .sh (.lst (ks.map .int)), .sh (.tup [.int d', .lst (ks'.map .int), .int w']), .sh (.lst (ks'.map .int)), x13] := by
    simp [hs1]
  have q6 : (ssAsg (.nm 13) (sFn m_law_divided (aCons (sLoc 3) (aCons (sLoc 4) (aCons (sLoc 5) (aCons (sLoc 9) (aCons (sLoc 10) (aCons (sC (.int 1)) aNil)))))))) [.sh sc, .sh (.int many), .sh (.tup [.lst hs, .lst (ws.map .int), .lst (ls.map lineD)]), .sh (.lst hs), .sh (.lst (ws.map .int)), .sh (.lst (ls.map lineD)), .sh (S hs ws ls), .no, .sh (.int c), .sh (.int d), .sh (.lst (ks.map .int)), .sh (.tup [.int d', .lst (ks'.map .int), .int w']), .sh (.lst (ks'.map .int)), x13] = .nx [.sh sc, .sh (.int many), .sh (.tup [.lst hs, .lst (ws.map .int), .lst (ls.map lineD)]), .sh (.lst hs), .sh (.lst (ws.map .int)), .sh (.lst (ls.map lineD)), .sh (S hs ws ls), .no, .sh (.int c), .sh (.int d), .sh (.lst (ks.map .int)), .sh (.tup [.int d', .lst (ks'.map .int), .int w']), .sh (.lst (ks'.map .int)), .sh (.tup [.lst (hs ++ [hd']), .lst ((heavy ws d 1).map .int), .lst ((more ls d X Y).map lineD)])] := by
    simp [hdv, setS_can c13]
  have q7 : (ssIf (sNot (sFn m_law_is_sheet (aCons (sFn m_split (aCons (sLoc 6) (aCons (sLoc 1) (aCons (sLoc 9) (aCons (sLoc 10) (aCons (sC (.int 1)) aNil)))))) (aCons (sLoc 13) aNil)))) (ssRet (sC (.bl false))) ssNext) [.sh sc, .sh (.int many), .sh (.tup [.lst hs, .lst (ws.map .int), .lst (ls.map lineD)]), .sh (.lst hs), .sh (.lst (ws.map .int)), .sh (.lst (ls.map lineD)), .sh (S hs ws ls), .no, .sh (.int c), .sh (.int d), .sh (.lst (ks.map .int)), .sh (.tup [.int d', .lst (ks'.map .int), .int w']), .sh (.lst (ks'.map .int)), .sh (.tup [.lst (hs ++ [hd']), .lst ((heavy ws d 1).map .int), .lst ((more ls d X Y).map lineD)])] = .nx [.sh sc, .sh (.int many), .sh (.tup [.lst hs, .lst (ws.map .int), .lst (ls.map lineD)]), .sh (.lst hs), .sh (.lst (ws.map .int)), .sh (.lst (ls.map lineD)), .sh (S hs ws ls), .no, .sh (.int c), .sh (.int d), .sh (.lst (ks.map .int)), .sh (.tup [.int d', .lst (ks'.map .int), .int w']), .sh (.lst (ks'.map .int)), .sh (.tup [.lst (hs ++ [hd']), .lst ((heavy ws d 1).map .int), .lst ((more ls d X Y).map lineD)])] := by
    simp [hsp, hs2]
  refine ⟨.sh (.int d), .sh (.lst (ks.map .int)), .sh (.tup [.int d', .lst (ks'.map .int), .int w']), .sh (.lst (ks'.map .int)), .sh (.tup [.lst (hs ++ [hd']), .lst ((heavy ws d 1).map .int), .lst ((more ls d X Y).map lineD)]), ⟨rfl, rfl, rfl, rfl, rfl⟩, ?_⟩
  unfold bodyL
  rw [ssSeq_eq, q0, seqO_nx, ssSeq_eq, q1, seqO_nx, ssSeq_eq, q2, seqO_nx, ssSeq_eq, q3, seqO_nx, ssSeq_eq, q4, seqO_nx, ssSeq_eq, q5, seqO_nx, ssSeq_eq, q6, seqO_nx, q7]
theorem loop_ok (sc : D) (many : Int) (hs : List D) (ws : List Int) (ls : List (List (PySem.Str × Int))) (G : Good many hs ws ls) (m2 : 2 ≤ many) (m8 : many ≤ 8) : ∀ (cs : List Int) (x8 x9 x10 x11 x12 x13 : Sl), canSet x8 = true → canSet x9 = true → canSet x10 = true → canSet x11 = true → canSet x12 = true → canSet x13 = true →
    ∃ e, loopF (.nm 8) bodyL (cs.map .int) [.sh sc, .sh (.int many), .sh (.tup [.lst hs, .lst (ws.map .int), .lst (ls.map lineD)]), .sh (.lst hs), .sh (.lst (ws.map .int)), .sh (.lst (ls.map lineD)), .sh (S hs ws ls), .no, x8, x9, x10, x11, x12, x13] = .nx e := by
  intro cs
  induction cs with
  | nil => exact fun x8 x9 x10 x11 x12 x13 _ _ _ _ _ _ => ⟨_, rfl⟩
  | cons c cs ih =>
    intro x8 x9 x10 x11 x12 x13 c8 c9 c10 c11 c12 c13
    obtain ⟨y9, y10, y11, y12, y13, ⟨g9, g10, g11, g12, g13⟩, hb⟩ := body_ok sc many hs ws ls G m2 m8 c x9 x10 x11 x12 x13 c9 c10 c11 c12 c13
    obtain ⟨e, he⟩ := ih (.sh (.int c)) y9 y10 y11 y12 y13 rfl g9 g10 g11 g12 g13
    refine ⟨e, ?_⟩
    rw [List.map_cons, loopF_cons]
    simp only [bindT_nm, setSl_eq, List.getElem?_cons_zero, List.getElem?_cons_succ, setS_can c8, List.set_cons_succ, List.set_cons_zero]
    rw [hb, stepL_nx, he]
theorem law_true : ∀ (ns : List Int), ns.length ≤ 63 → m_law [.scr ns] = .ok (.bl true) := by
  intro ns hl
  have e0 : m_law_nth [.scr ns, .int 0] = .ok (.int (ns.getD 0 0)) := nth_ok ns 0
  have e1 : m_law_nth [.scr ns, .int 1] = .ok (.int (ns.getD 1 0)) := nth_ok ns 1
  have e2 : m_law_nth [.scr ns, .int 2] = .ok (.int (ns.getD 2 0)) := nth_ok ns 2
  generalize ns.getD 0 0 = s0 at *
  generalize ns.getD 1 0 = s1 at *
  generalize ns.getD 2 0 = s2 at *
  have m2 : 2 ≤ 2 + s1 % 7 := by have := Int.emod_nonneg s1 (show (7 : Int) ≠ 0 by decide); omega
  have m8 : 2 + s1 % 7 ≤ 8 := by have := Int.emod_lt_of_pos s1 (show (0 : Int) < 7 by decide); omega
  generalize hmany : 2 + s1 % 7 = many at *
  obtain ⟨hs, ws, ls, hsh, G⟩ := sheet_ok s0 many m2 m8
  have hsl : dSlU (.scr ns) (some 3) (some 18) = some (.lst (((ns.drop 3).take (18 - 3)).map .int)) := dSl_scr ns 3 18 (by decide)
  have hql : ((ns.drop 3).take (18 - 3)).length ≤ 15 := by simp; omega
  generalize (ns.drop 3).take (18 - 3) = qs at *
  have ha := dAddU_lst (xs := [D.int s2]) (ys := qs.map .int) (by simp; omega)
  have hcopy := compR_ok (vs := [7]) (env := [.sh (.scr ns), .sh (.int many), .sh (.tup [.lst hs, .lst (ws.map .int), .lst (ls.map lineD)]), .sh (.lst hs), .sh (.lst (ws.map .int)), .sh (.lst (ls.map lineD)), .no, .no, .no, .no, .no, .no, .no, .no]) (by simp; have := G.ll; have := G.n5; omega) (by rfl) (comp_copy ls [.sh (.scr ns), .sh (.int many), .sh (.tup [.lst hs, .lst (ws.map .int), .lst (ls.map lineD)]), .sh (.lst hs), .sh (.lst (ws.map .int)), .sh (.lst (ls.map lineD)), .no, .no, .no, .no, .no, .no, .no, .no] 7 (fun d => ⟨_, rfl, rfl⟩))
  have hmk := mk_S hs ws ls (by have := G.ll; have := G.n5; omega)
  obtain ⟨e, he⟩ := loop_ok (.scr ns) many hs ws ls G m2 m8 (s2 :: qs) .no .no .no .no .no .no rfl rfl rfl rfl rfl rfl
  rw [List.map_cons] at he
  unfold m_law b_law runF env0
  simp only [bodyL] at he
  have hmod : dMod (.int s1) (.int 7) = some (.int (s1 % 7)) := dMod_int (by decide)
  simp [argE, e0, e1, e2, hmod, hmany, hsh, hsl, ha, hcopy, hmk, he]
end Lw

namespace Lw
open PySem PySem.Spec PyProof.Rows L2 Ps
def spLaw (K : PySem.W.Frag) : Sp := fun vs H Q _ => ∃ (a : Addr) (ns : List Int), vs = [.ref a] ∧ SqL K H a (ns.map V.int) ∧ ns.length ≤ 63 ∧ ∀ H', Q (.bl true) H'
theorem law_sp2 {K : PySem.W.Frag} {ct : Nat → Addr} {m : List D → R} {H : Hp} {a : Addr} {ns : List Int} {Q : VK} {E : XK} (hS : SqL K H a (ns.map V.int)) (hm : m [.scr ns] = .ok (.bl true)) (k : ∀ H', Q (.bl true) H') : spP K ct [false] false m [.ref a] H Q E := by
  refine ⟨H, [.scr ns], Ex.refl H, ⟨_, _, _, _, rfl, rfl, ⟨a, rfl, hS⟩, rfl, rfl⟩, ?_⟩
  rw [hm]
  intro v F' H' g r
  cases (show v = .bl true from r)
  exact k H'

theorem all_mk {l : PySem.W.OpenLaw} {w : World} {K : PySem.W.Frag} {h : Heap} {mg : Str → Option Value} (X : K.In h) (G : h.Ns mainGlobals mg) {C1 C6 C7 C8 C9 C10 C11 C12 C13 C14 C15 C16 C17 C18 C19 C20 C21 C22 f0 f1 f2 f3 f4 f5 f6 f7 f8 f9 f10 f11 f12 f13 f14 fL : Addr} {od0 an0 od1 an1 od2 an2 od4 an4 od5 an5 od8 an8 od10 an10 od12 an12 od6 an6 od7 an7 od9 an9 od11 an11 od3 an3 od13 an13 od14 an14 : Option Addr} {sl0 sl1 sl2 sl4 sl5 sl8 sl10 sl12 sl6 sl7 sl9 sl11 sl3 sl13 sl14 : Array (Option Value)} {oc0 kV0 dc0 pm0 cd0 ct0 oc1 kV1 dc1 pm1 cd1 ct1 oc2 kV2 dc2 pm2 cd2 ct2 oc4 kV4 dc4 pm4 cd4 ct4 oc5 kV5 dc5 pm5 cd5 ct5 oc8 kV8 dc8 pm8 cd8 ct8 oc10 kV10 dc10 pm10 cd10 ct10 oc12 kV12 dc12 pm12 cd12 ct12 oc6 kV6 dc6 pm6 cd6 ct6 oc7 kV7 dc7 pm7 cd7 ct7 oc9 kV9 dc9 pm9 cd9 ct9 oc11 kV11 dc11 pm11 cd11 ct11 oc3 kV3 dc3 pm3 cd3 ct3 oc13 kV13 dc13 pm13 cd13 ct13 oc14 kV14 dc14 pm14 cd14 ct14 : Value} (hfa : mg "law" = some (.ref fL))
    (aC1 : PySem.W.nsIn K mainGlobals "Sheet" = some (some (.ref C1)))
    (aC6 : PySem.W.nsIn K mainGlobals "BandError" = some (some (.ref C6)))
    (aC7 : PySem.W.nsIn K mainGlobals "NoSigns" = some (some (.ref C7)))
    (aC8 : PySem.W.nsIn K mainGlobals "TooMany" = some (some (.ref C8)))
    (aC9 : PySem.W.nsIn K mainGlobals "NoWord" = some (some (.ref C9)))
    (aC10 : PySem.W.nsIn K mainGlobals "NoRow" = some (some (.ref C10)))
    (aC11 : PySem.W.nsIn K mainGlobals "Barred" = some (some (.ref C11)))
    (aC12 : PySem.W.nsIn K mainGlobals "NoPlace" = some (some (.ref C12)))
    (aC13 : PySem.W.nsIn K mainGlobals "NoNumber" = some (some (.ref C13)))
    (aC14 : PySem.W.nsIn K mainGlobals "NoRate" = some (some (.ref C14)))
    (aC15 : PySem.W.nsIn K mainGlobals "NoSplit" = some (some (.ref C15)))
    (aC16 : PySem.W.nsIn K mainGlobals "NoLength" = some (some (.ref C16)))
    (aC17 : PySem.W.nsIn K mainGlobals "Scarce" = some (some (.ref C17)))
    (aC18 : PySem.W.nsIn K mainGlobals "Open" = some (some (.ref C18)))
    (aC19 : PySem.W.nsIn K mainGlobals "NoData" = some (some (.ref C19)))
    (aC20 : PySem.W.nsIn K mainGlobals "NoForm" = some (some (.ref C20)))
    (aC21 : PySem.W.nsIn K mainGlobals "NoBand" = some (some (.ref C21)))
    (aC22 : PySem.W.nsIn K mainGlobals "NoWriter" = some (some (.ref C22)))
    (a0 : PySem.W.findIn K (.ref C1) "__init__" = some (some (.ref f0)))
    (i0 : PySem.W.isFn K (.ref f0) = true)
    (l0 : K.lookup f0 = some ⟨oc0, od0, .func (PySem.W.fnOf "__init__" "Sheet.__init__" (L2.defArgs s_Sheet__init_) (L2.defBody s_Sheet__init_) (L2.defScope s_Sheet__init_) .none kV0 dc0 pm0 an0 cd0 ct0), sl0⟩)
    (c0 : PySem.W.codeIn K cd0 "Sheet.__init__" = true)
    (k0 : PySem.W.keepIn K (.ref f0) = true)
    (a1 : PySem.W.nsIn K mainGlobals "borne_by" = some (some (.ref f1)))
    (l1 : K.lookup f1 = some ⟨oc1, od1, .func (PySem.W.fnOf "borne_by" "borne_by" (L2.defArgs s_borne_by) (L2.defBody s_borne_by) (L2.defScope s_borne_by) .none kV1 dc1 pm1 an1 cd1 ct1), sl1⟩)
    (c1 : PySem.W.codeIn K cd1 "borne_by" = true)
    (k1 : PySem.W.keepIn K (.ref f1) = true)
    (a2 : PySem.W.nsIn K mainGlobals "doubled" = some (some (.ref f2)))
    (l2 : K.lookup f2 = some ⟨oc2, od2, .func (PySem.W.fnOf "doubled" "doubled" (L2.defArgs s_doubled) (L2.defBody s_doubled) (L2.defScope s_doubled) .none kV2 dc2 pm2 an2 cd2 ct2), sl2⟩)
    (c2 : PySem.W.codeIn K cd2 "doubled" = true)
    (k2 : PySem.W.keepIn K (.ref f2) = true)
    (a4 : PySem.W.nsIn K mainGlobals "_law_nth" = some (some (.ref f4)))
    (l4 : K.lookup f4 = some ⟨oc4, od4, .func (PySem.W.fnOf "_law_nth" "_law_nth" (L2.defArgs s_law_nth) (L2.defBody s_law_nth) (L2.defScope s_law_nth) .none kV4 dc4 pm4 an4 cd4 ct4), sl4⟩)
    (c4 : PySem.W.codeIn K cd4 "_law_nth" = true)
    (k4 : PySem.W.keepIn K (.ref f4) = true)
    (a5 : PySem.W.nsIn K mainGlobals "_law_mixed" = some (some (.ref f5)))
    (l5 : K.lookup f5 = some ⟨oc5, od5, .func (PySem.W.fnOf "_law_mixed" "_law_mixed" (L2.defArgs s_law_mixed) (L2.defBody s_law_mixed) (L2.defScope s_law_mixed) .none kV5 dc5 pm5 an5 cd5 ct5), sl5⟩)
    (c5 : PySem.W.codeIn K cd5 "_law_mixed" = true)
    (k5 : PySem.W.keepIn K (.ref f5) = true)
    (a8 : PySem.W.nsIn K mainGlobals "_law_part" = some (some (.ref f8)))
    (l8 : K.lookup f8 = some ⟨oc8, od8, .func (PySem.W.fnOf "_law_part" "_law_part" (L2.defArgs s_law_part) (L2.defBody s_law_part) (L2.defScope s_law_part) .none kV8 dc8 pm8 an8 cd8 ct8), sl8⟩)
    (c8 : PySem.W.codeIn K cd8 "_law_part" = true)
    (k8 : PySem.W.keepIn K (.ref f8) = true)
    (a10 : PySem.W.nsIn K mainGlobals "_law_is_sheet" = some (some (.ref f10)))
    (l10 : K.lookup f10 = some ⟨oc10, od10, .func (PySem.W.fnOf "_law_is_sheet" "_law_is_sheet" (L2.defArgs s_law_is_sheet) (L2.defBody s_law_is_sheet) (L2.defScope s_law_is_sheet) .none kV10 dc10 pm10 an10 cd10 ct10), sl10⟩)
    (c10 : PySem.W.codeIn K cd10 "_law_is_sheet" = true)
    (k10 : PySem.W.keepIn K (.ref f10) = true)
    (a12 : PySem.W.nsIn K mainGlobals "_law_others" = some (some (.ref f12)))
    (l12 : K.lookup f12 = some ⟨oc12, od12, .func (PySem.W.fnOf "_law_others" "_law_others" (L2.defArgs s_law_others) (L2.defBody s_law_others) (L2.defScope s_law_others) .none kV12 dc12 pm12 an12 cd12 ct12), sl12⟩)
    (c12 : PySem.W.codeIn K cd12 "_law_others" = true)
    (k12 : PySem.W.keepIn K (.ref f12) = true)
    (a6 : PySem.W.nsIn K mainGlobals "_law_sheet" = some (some (.ref f6)))
    (l6 : K.lookup f6 = some ⟨oc6, od6, .func (PySem.W.fnOf "_law_sheet" "_law_sheet" (L2.defArgs s_law_sheet) (L2.defBody s_law_sheet) (L2.defScope s_law_sheet) .none kV6 dc6 pm6 an6 cd6 ct6), sl6⟩)
    (c6 : PySem.W.codeIn K cd6 "_law_sheet" = true)
    (k6 : PySem.W.keepIn K (.ref f6) = true)
    (a7 : PySem.W.nsIn K mainGlobals "_law_half" = some (some (.ref f7)))
    (l7 : K.lookup f7 = some ⟨oc7, od7, .func (PySem.W.fnOf "_law_half" "_law_half" (L2.defArgs s_law_half) (L2.defBody s_law_half) (L2.defScope s_law_half) .none kV7 dc7 pm7 an7 cd7 ct7), sl7⟩)
    (c7 : PySem.W.codeIn K cd7 "_law_half" = true)
    (k7 : PySem.W.keepIn K (.ref f7) = true)
    (a9 : PySem.W.nsIn K mainGlobals "_law_divided" = some (some (.ref f9)))
    (l9 : K.lookup f9 = some ⟨oc9, od9, .func (PySem.W.fnOf "_law_divided" "_law_divided" (L2.defArgs s_law_divided) (L2.defBody s_law_divided) (L2.defScope s_law_divided) .none kV9 dc9 pm9 an9 cd9 ct9), sl9⟩)
    (c9 : PySem.W.codeIn K cd9 "_law_divided" = true)
    (k9 : PySem.W.keepIn K (.ref f9) = true)
    (a11 : PySem.W.nsIn K mainGlobals "_law_turned" = some (some (.ref f11)))
    (l11 : K.lookup f11 = some ⟨oc11, od11, .func (PySem.W.fnOf "_law_turned" "_law_turned" (L2.defArgs s_law_turned) (L2.defBody s_law_turned) (L2.defScope s_law_turned) .none kV11 dc11 pm11 an11 cd11 ct11), sl11⟩)
    (c11 : PySem.W.codeIn K cd11 "_law_turned" = true)
    (k11 : PySem.W.keepIn K (.ref f11) = true)
    (a3 : PySem.W.nsIn K mainGlobals "split" = some (some (.ref f3)))
    (l3 : K.lookup f3 = some ⟨oc3, od3, .func (PySem.W.fnOf "split" "split" (L2.defArgs s_split) (L2.defBody s_split) (L2.defScope s_split) .none kV3 dc3 pm3 an3 cd3 ct3), sl3⟩)
    (c3 : PySem.W.codeIn K cd3 "split" = true)
    (k3 : PySem.W.keepIn K (.ref f3) = true)
    (a13 : PySem.W.nsIn K mainGlobals "_law_is_refused" = some (some (.ref f13)))
    (l13 : K.lookup f13 = some ⟨oc13, od13, .func (PySem.W.fnOf "_law_is_refused" "_law_is_refused" (L2.defArgs s_law_is_refused) (L2.defBody s_law_is_refused) (L2.defScope s_law_is_refused) .none kV13 dc13 pm13 an13 cd13 ct13), sl13⟩)
    (c13 : PySem.W.codeIn K cd13 "_law_is_refused" = true)
    (k13 : PySem.W.keepIn K (.ref f13) = true)
    (a14 : PySem.W.nsIn K mainGlobals "law" = some (some (.ref f14)))
    (l14 : K.lookup f14 = some ⟨oc14, od14, .func (PySem.W.fnOf "law" "law" (L2.defArgs s_law) (L2.defBody s_law) (L2.defScope s_law) .none kV14 dc14 pm14 an14 cd14 ct14), sl14⟩)
    (c14 : PySem.W.codeIn K cd14 "law" = true)
    (k14 : PySem.W.keepIn K (.ref f14) = true)
    (pg1 : PySem.W.plainGet K C1 Str.empty = true)
    (hd1 : PySem.W.hasDictIn K C1 = true)
    (po1 : PySem.W.plainOver K C1 = true)
    (sa1 : PySem.W.findIn K (.ref C1) "__setattr__" = some (some (.builtin "object.__setattr__")))
    (mk1 : PySem.W.makesIn K C1 = true)
    (kc1 : PySem.W.keepIn K (.ref C1) = true)
    (ha1 : PySem.W.findIn K (.ref C1) "__class__" = some (some (.builtin "object.__class__")))
    (hm1 : PySem.W.mroIn K C1 (.type "object") = some true)
    (na1_homes : PySem.W.findIn K (.ref C1) "homes" = some none)
    (na1_weights : PySem.W.findIn K (.ref C1) "weights" = some none)
    (na1_lines : PySem.W.findIn K (.ref C1) "lines" = some none)
    (hn0 : PySem.W.specialIn K (.builtin "object.__class__") "__get__" = some (some (.builtin "getset_descriptor.__get__")))
    (ht0 : PySem.W.takesIn K (.builtin "object.__class__") = some true)
    (ek15 : PySem.W.keepIn K (.ref C15) = true)
    (eq15 : PySem.W.excIn K C15 [.type "ValueError", .type "Exception", .type "BaseException", .type "object"] "ValueError.__new__" = true)
    (eb15 : PySem.W.subIn K (.ref C15) (.type "BaseException") = some true)
    (et15 : PySem.W.typeIn K (.ref C15) = some (.type "type"))
    (eg15 : PySem.W.findIn K (.ref C15) "__getattribute__" = some (some (.builtin "BaseException.__getattribute__")))
    (eh15 : PySem.W.findIn K (.ref C15) "__getattr__" = some none)
    (ed15 : PySem.W.hasDictIn K C15 = true)
    (ea15 : PySem.W.findIn K (.ref C15) "__class__" = some (some (.builtin "object.__class__")))
    (em15 : PySem.W.mroIn K C15 (.type "object") = some true)
    (xb6 : PySem.W.subIn K (.ref C6) (.type "BaseException") = some true)
    (xd6 : PySem.W.hasDictIn K C6 = true)
    (xt6 : PySem.W.typeIn K (.ref C6) = some (.type "type"))
    (xs6_15 : PySem.W.subIn K (.ref C15) (.ref C6) = some true)
    (ks_Barred_tyNoneType : PySem.W.kitOne K (.type "NoneType") (.ref C11) = some false)
    (ks_Barred_err15 : PySem.W.kitOne K (.ref C15) (.ref C11) = some false)
    (ks_NoBand_tyNoneType : PySem.W.kitOne K (.type "NoneType") (.ref C21) = some false)
    (ks_NoBand_err15 : PySem.W.kitOne K (.ref C15) (.ref C21) = some false)
    (ks_NoData_tyNoneType : PySem.W.kitOne K (.type "NoneType") (.ref C19) = some false)
    (ks_NoData_err15 : PySem.W.kitOne K (.ref C15) (.ref C19) = some false)
    (ks_NoForm_tyNoneType : PySem.W.kitOne K (.type "NoneType") (.ref C20) = some false)
    (ks_NoForm_err15 : PySem.W.kitOne K (.ref C15) (.ref C20) = some false)
    (ks_NoLength_tyNoneType : PySem.W.kitOne K (.type "NoneType") (.ref C16) = some false)
    (ks_NoLength_err15 : PySem.W.kitOne K (.ref C15) (.ref C16) = some false)
    (ks_NoNumber_tyNoneType : PySem.W.kitOne K (.type "NoneType") (.ref C13) = some false)
    (ks_NoNumber_err15 : PySem.W.kitOne K (.ref C15) (.ref C13) = some false)
    (ks_NoPlace_tyNoneType : PySem.W.kitOne K (.type "NoneType") (.ref C12) = some false)
    (ks_NoPlace_err15 : PySem.W.kitOne K (.ref C15) (.ref C12) = some false)
    (ks_NoRate_tyNoneType : PySem.W.kitOne K (.type "NoneType") (.ref C14) = some false)
    (ks_NoRate_err15 : PySem.W.kitOne K (.ref C15) (.ref C14) = some false)
    (ks_NoRow_tyNoneType : PySem.W.kitOne K (.type "NoneType") (.ref C10) = some false)
    (ks_NoRow_err15 : PySem.W.kitOne K (.ref C15) (.ref C10) = some false)
    (ks_NoSigns_tyNoneType : PySem.W.kitOne K (.type "NoneType") (.ref C7) = some false)
    (ks_NoSigns_err15 : PySem.W.kitOne K (.ref C15) (.ref C7) = some false)
    (ks_NoSplit_tyNoneType : PySem.W.kitOne K (.type "NoneType") (.ref C15) = some false)
    (ks_NoSplit_err15 : PySem.W.kitOne K (.ref C15) (.ref C15) = some true)
    (ks_NoWord_tyNoneType : PySem.W.kitOne K (.type "NoneType") (.ref C9) = some false)
    (ks_NoWord_err15 : PySem.W.kitOne K (.ref C15) (.ref C9) = some false)
    (ks_NoWriter_tyNoneType : PySem.W.kitOne K (.type "NoneType") (.ref C22) = some false)
    (ks_NoWriter_err15 : PySem.W.kitOne K (.ref C15) (.ref C22) = some false)
    (ks_Open_tyNoneType : PySem.W.kitOne K (.type "NoneType") (.ref C18) = some false)
    (ks_Open_err15 : PySem.W.kitOne K (.ref C15) (.ref C18) = some false)
    (ks_Scarce_tyNoneType : PySem.W.kitOne K (.type "NoneType") (.ref C17) = some false)
    (ks_Scarce_err15 : PySem.W.kitOne K (.ref C15) (.ref C17) = some false)
    (ks_Sheet_own1 : PySem.W.kitOne K (.ref C1) (.ref C1) = some true)
    (ks_TooMany_tyNoneType : PySem.W.kitOne K (.type "NoneType") (.ref C8) = some false)
    (ks_TooMany_err15 : PySem.W.kitOne K (.ref C15) (.ref C8) = some false)
    (ks_ValueError_err15 : PySem.W.kitOne K (.ref C15) (.type "ValueError") = some true)
    (ks_bool_err15 : PySem.W.kitOne K (.ref C15) (.type "bool") = some false)
    (ks_int_err15 : PySem.W.kitOne K (.ref C15) (.type "int") = some false)
    (ks_list_err15 : PySem.W.kitOne K (.ref C15) (.type "list") = some false)
    (z_ValueError : PySem.W.nsIn K mainGlobals "ValueError" = some none)
    (z_abs : PySem.W.nsIn K mainGlobals "abs" = some none)
    (z_all : PySem.W.nsIn K mainGlobals "all" = some none)
    (z_any : PySem.W.nsIn K mainGlobals "any" = some none)
    (z_bool : PySem.W.nsIn K mainGlobals "bool" = some none)
    (z_int : PySem.W.nsIn K mainGlobals "int" = some none)
    (z_isinstance : PySem.W.nsIn K mainGlobals "isinstance" = some none)
    (z_len : PySem.W.nsIn K mainGlobals "len" = some none)
    (z_list : PySem.W.nsIn K mainGlobals "list" = some none)
    (z_range : PySem.W.nsIn K mainGlobals "range" = some none)
    (z_sum : PySem.W.nsIn K mainGlobals "sum" = some none)
    : ∃ fd : FuncData, (∀ (s : Shared) (v : Value), BindsTo s fd ⟨[v], []⟩ [("_law_script", v)]) ∧ ∀ base : Heap, K.In base → base.Ns mainGlobals mg → FnOk l.prog w K mg base (L2.CX l.prog w) 5 fL fd ["_law_script"] (spLaw K) := by
  have e := hfa.symm.trans (PySem.W.mg_of X G a14)
  cases e
  have F0 := fun_mk (st := s_Sheet__init_) l0 c0 k0
  have F1 := fun_mk (st := s_borne_by) l1 c1 k1
  have F2 := fun_mk (st := s_doubled) l2 c2 k2
  have F4 := fun_mk (st := s_law_nth) l4 c4 k4
  have F5 := fun_mk (st := s_law_mixed) l5 c5 k5
  have F8 := fun_mk (st := s_law_part) l8 c8 k8
  have F10 := fun_mk (st := s_law_is_sheet) l10 c10 k10
  have F12 := fun_mk (st := s_law_others) l12 c12 k12
  have F6 := fun_mk (st := s_law_sheet) l6 c6 k6
  have F7 := fun_mk (st := s_law_half) l7 c7 k7
  have F9 := fun_mk (st := s_law_divided) l9 c9 k9
  have F11 := fun_mk (st := s_law_turned) l11 c11 k11
  have F3 := fun_mk (st := s_split) l3 c3 k3
  have F13 := fun_mk (st := s_law_is_refused) l13 c13 k13
  have F14 := fun_mk (st := s_law) l14 c14 k14
  have T : Txt K mg (ctL [0, C1, 0, 0, 0, 0, C6, C7, C8, C9, C10, C11, C12, C13, C14, C15, C16, C17, C18, C19, C20, C21, C22]) (ctL [f0, f1, f2, f3, f4, f5, f6, f7, f8, f9, f10, f11, f12, f13, f14]) := {
    F_Sheet__init_ := ⟨_, F0⟩
    F_borne_by := ⟨_, F1⟩
    g_borne_by := PySem.W.mg_of X G a1
    F_doubled := ⟨_, F2⟩
    g_doubled := PySem.W.mg_of X G a2
    F_law_nth := ⟨_, F4⟩
    g_law_nth := PySem.W.mg_of X G a4
    F_law_mixed := ⟨_, F5⟩
    g_law_mixed := PySem.W.mg_of X G a5
    F_law_part := ⟨_, F8⟩
    g_law_part := PySem.W.mg_of X G a8
    F_law_is_sheet := ⟨_, F10⟩
    g_law_is_sheet := PySem.W.mg_of X G a10
    F_law_others := ⟨_, F12⟩
    g_law_others := PySem.W.mg_of X G a12
    F_law_sheet := ⟨_, F6⟩
    g_law_sheet := PySem.W.mg_of X G a6
    F_law_half := ⟨_, F7⟩
    g_law_half := PySem.W.mg_of X G a7
    F_law_divided := ⟨_, F9⟩
    g_law_divided := PySem.W.mg_of X G a9
    F_law_turned := ⟨_, F11⟩
    g_law_turned := PySem.W.mg_of X G a11
    F_split := ⟨_, F3⟩
    g_split := PySem.W.mg_of X G a3
    F_law_is_refused := ⟨_, F13⟩
    g_law_is_refused := PySem.W.mg_of X G a13
    F_law := ⟨_, F14⟩
    g_law := PySem.W.mg_of X G a14
    g_Sheet := PySem.W.mg_of X G aC1
    cl_1 := ⟨pg1, hd1, po1, sa1⟩
    ow_1 := ⟨⟨pg1, hd1, po1, sa1⟩, ha1, hn0, ht0, hm1⟩
    na_1_homes := na1_homes
    na_1_weights := na1_weights
    na_1_lines := na1_lines
    mk_1 := ⟨mk1, a0, i0, kc1⟩
    g_BandError := PySem.W.mg_of X G aC6
    g_NoSigns := PySem.W.mg_of X G aC7
    g_TooMany := PySem.W.mg_of X G aC8
    g_NoWord := PySem.W.mg_of X G aC9
    g_NoRow := PySem.W.mg_of X G aC10
    g_Barred := PySem.W.mg_of X G aC11
    g_NoPlace := PySem.W.mg_of X G aC12
    g_NoNumber := PySem.W.mg_of X G aC13
    g_NoRate := PySem.W.mg_of X G aC14
    g_NoSplit := PySem.W.mg_of X G aC15
    g_NoLength := PySem.W.mg_of X G aC16
    g_Scarce := PySem.W.mg_of X G aC17
    g_Open := PySem.W.mg_of X G aC18
    g_NoData := PySem.W.mg_of X G aC19
    g_NoForm := PySem.W.mg_of X G aC20
    g_NoBand := PySem.W.mg_of X G aC21
    g_NoWriter := PySem.W.mg_of X G aC22
    er_NoSplit := ⟨PySem.W.mg_of X G aC15, ek15, eq15, eb15, et15⟩
    ec_NoSplit := ⟨eg15, eh15, eb15, ed15, ea15, hn0, ht0, em15⟩
    xm_NoSplit_BandError := PySem.W.exm_ref xb6 xd6 xt6 xs6_15
    ks_Barred_tyNoneType := ks_Barred_tyNoneType
    ks_Barred_err15 := ks_Barred_err15
    ks_NoBand_tyNoneType := ks_NoBand_tyNoneType
    ks_NoBand_err15 := ks_NoBand_err15
    ks_NoData_tyNoneType := ks_NoData_tyNoneType
    ks_NoData_err15 := ks_NoData_err15
    ks_NoForm_tyNoneType := ks_NoForm_tyNoneType
    ks_NoForm_err15 := ks_NoForm_err15
    ks_NoLength_tyNoneType := ks_NoLength_tyNoneType
    ks_NoLength_err15 := ks_NoLength_err15
    ks_NoNumber_tyNoneType := ks_NoNumber_tyNoneType
    ks_NoNumber_err15 := ks_NoNumber_err15
    ks_NoPlace_tyNoneType := ks_NoPlace_tyNoneType
    ks_NoPlace_err15 := ks_NoPlace_err15
    ks_NoRate_tyNoneType := ks_NoRate_tyNoneType
    ks_NoRate_err15 := ks_NoRate_err15
    ks_NoRow_tyNoneType := ks_NoRow_tyNoneType
    ks_NoRow_err15 := ks_NoRow_err15
    ks_NoSigns_tyNoneType := ks_NoSigns_tyNoneType
    ks_NoSigns_err15 := ks_NoSigns_err15
    ks_NoSplit_tyNoneType := ks_NoSplit_tyNoneType
    ks_NoSplit_err15 := ks_NoSplit_err15
    ks_NoWord_tyNoneType := ks_NoWord_tyNoneType
    ks_NoWord_err15 := ks_NoWord_err15
    ks_NoWriter_tyNoneType := ks_NoWriter_tyNoneType
    ks_NoWriter_err15 := ks_NoWriter_err15
    ks_Open_tyNoneType := ks_Open_tyNoneType
    ks_Open_err15 := ks_Open_err15
    ks_Scarce_tyNoneType := ks_Scarce_tyNoneType
    ks_Scarce_err15 := ks_Scarce_err15
    ks_Sheet_own1 := ks_Sheet_own1
    ks_TooMany_tyNoneType := ks_TooMany_tyNoneType
    ks_TooMany_err15 := ks_TooMany_err15
    ks_ValueError_err15 := ks_ValueError_err15
    ks_bool_err15 := ks_bool_err15
    ks_int_err15 := ks_int_err15
    ks_list_err15 := ks_list_err15
    z_ValueError := PySem.W.mg_none_of X G z_ValueError
    z_abs := PySem.W.mg_none_of X G z_abs
    z_all := PySem.W.mg_none_of X G z_all
    z_any := PySem.W.mg_none_of X G z_any
    z_bool := PySem.W.mg_none_of X G z_bool
    z_int := PySem.W.mg_none_of X G z_int
    z_isinstance := PySem.W.mg_none_of X G z_isinstance
    z_len := PySem.W.mg_none_of X G z_len
    z_list := PySem.W.mg_none_of X G z_list
    z_range := PySem.W.mg_none_of X G z_range
    z_sum := PySem.W.mg_none_of X G z_sum
  }
  exact ⟨_, fun s v => .of_eq rfl, fun base _ _ => (ok_law T F14).imp fun vs H Q E ⟨a, ns, e, hS, hl, k⟩ => by subst e; exact law_sp2 hS (law_true ns hl) k⟩
theorem walk {l : PySem.W.OpenLaw} {q : Program} {loose : List Str} {XP : (Str → Option Value) → Heap → Prop} {YP : World → Heap → Prop} {d : DefRec} {K : Params → PySem.W.Frag} (hn : l.most = some 63) (hdf : d.params.defaults = [])
    (hY : ∀ (w : World) (h : Heap), YP w h → (K w.params).In h)
    (F : ∀ (w : World) (mg : Str → Option Value) (fa : Addr) (h : Heap), (K w.params).In h → h.Ns mainGlobals mg → mg d.name = some (.ref fa) →
      ∃ fd : FuncData, (∀ (s : Shared) (u : Value), BindsTo s fd ⟨[u], []⟩ [("_law_script", u)]) ∧ ∀ base : Heap, (K w.params).In base → base.Ns mainGlobals mg → FnOk l.prog w (K w.params) mg base (L2.CX l.prog w) 5 fa fd ["_law_script"] (spLaw (K w.params))) :
    PySem.W.WalkO q loose XP YP l.row.toRowW d [] (fun f vs => PySem.call f vs) :=
  L2.walk_of (n := 63) (k := 5) (x := "_law_script") (CX := fun w => L2.CX l.prog w) (sp := fun w => spLaw (K w.params)) hn (by decide) hdf ⟨rfl, by decide, by decide⟩ hY F (fun _ _ a ns hl _ hS => ⟨a, ns, rfl, hS, hl, fun _ => rfl⟩) fun _ _ _ _ _ z => cx_false z
end Lw
open PySem PySem.W PyProof.Rows
set_option maxRecDepth 100000 in
set_option maxHeartbeats 0 in
theorem PySem.Challenge.cw_bandscribe_k32_no_split_holds : PySem.Challenge.rw_bandscribe_k32_no_split.Holds := by
  w_on; o_law; k_head; (case hw => w_witness2)
  k_fill
  refine Lw.walk (l := PySem.Challenge.rw_bandscribe_k32_no_split) rfl rfl (fun w h Y => PySem.W.kIn_of Y) ?F
  case F =>
    intro w mg fa h KX G hmg
    refine' Lw.all_mk KX G hmg ?aC1 ?aC6 ?aC7 ?aC8 ?aC9 ?aC10 ?aC11 ?aC12 ?aC13 ?aC14 ?aC15 ?aC16 ?aC17 ?aC18 ?aC19 ?aC20 ?aC21 ?aC22 ?a0 ?i0 ?l0 ?c0 ?k0 ?a1 ?l1 ?c1 ?k1 ?a2 ?l2 ?c2 ?k2 ?a4 ?l4 ?c4 ?k4 ?a5 ?l5 ?c5 ?k5 ?a8 ?l8 ?c8 ?k8 ?a10 ?l10 ?c10 ?k10 ?a12 ?l12 ?c12 ?k12 ?a6 ?l6 ?c6 ?k6 ?a7 ?l7 ?c7 ?k7 ?a9 ?l9 ?c9 ?k9 ?a11 ?l11 ?c11 ?k11 ?a3 ?l3 ?c3 ?k3 ?a13 ?l13 ?c13 ?k13 ?a14 ?l14 ?c14 ?k14 ?pg1 ?hd1 ?po1 ?sa1 ?mk1 ?kc1 ?ha1 ?hm1 ?na1_homes ?na1_weights ?na1_lines ?hn0 ?ht0 ?ek15 ?eq15 ?eb15 ?et15 ?eg15 ?eh15 ?ed15 ?ea15 ?em15 ?xb6 ?xd6 ?xt6 ?xs6_15 ?ks_Barred_tyNoneType ?ks_Barred_err15 ?ks_NoBand_tyNoneType ?ks_NoBand_err15 ?ks_NoData_tyNoneType ?ks_NoData_err15 ?ks_NoForm_tyNoneType ?ks_NoForm_err15 ?ks_NoLength_tyNoneType ?ks_NoLength_err15 ?ks_NoNumber_tyNoneType ?ks_NoNumber_err15 ?ks_NoPlace_tyNoneType ?ks_NoPlace_err15 ?ks_NoRate_tyNoneType ?ks_NoRate_err15 ?ks_NoRow_tyNoneType ?ks_NoRow_err15 ?ks_NoSigns_tyNoneType ?ks_NoSigns_err15 ?ks_NoSplit_tyNoneType ?ks_NoSplit_err15 ?ks_NoWord_tyNoneType ?ks_NoWord_err15 ?ks_NoWriter_tyNoneType ?ks_NoWriter_err15 ?ks_Open_tyNoneType ?ks_Open_err15 ?ks_Scarce_tyNoneType ?ks_Scarce_err15 ?ks_Sheet_own1 ?ks_TooMany_tyNoneType ?ks_TooMany_err15 ?ks_ValueError_err15 ?ks_bool_err15 ?ks_int_err15 ?ks_list_err15 ?z_ValueError ?z_abs ?z_all ?z_any ?z_bool ?z_int ?z_isinstance ?z_len ?z_list ?z_range ?z_sum
    (case aC1 => k_is)
    (case aC6 => k_is)
    (case aC7 => k_is)
    (case aC8 => k_is)
    (case aC9 => k_is)
    (case aC10 => k_is)
    (case aC11 => k_is)
    (case aC12 => k_is)
    (case aC13 => k_is)
    (case aC14 => k_is)
    (case aC15 => k_is)
    (case aC16 => k_is)
    (case aC17 => k_is)
    (case aC18 => k_is)
    (case aC19 => k_is)
    (case aC20 => k_is)
    (case aC21 => k_is)
    (case aC22 => k_is)
    (case a0 => k_is)
    (case i0 => k_is)
    (case l0 => k_is)
    (case c0 => k_is)
    (case k0 => k_is)
    (case a1 => k_is)
    (case l1 => k_is)
    (case c1 => k_is)
    (case k1 => k_is)
    (case a2 => k_is)
    (case l2 => k_is)
    (case c2 => k_is)
    (case k2 => k_is)
    (case a4 => k_is)
    (case l4 => k_is)
    (case c4 => k_is)
    (case k4 => k_is)
    (case a5 => k_is)
    (case l5 => k_is)
    (case c5 => k_is)
    (case k5 => k_is)
    (case a8 => k_is)
    (case l8 => k_is)
    (case c8 => k_is)
    (case k8 => k_is)
    (case a10 => k_is)
    (case l10 => k_is)
    (case c10 => k_is)
    (case k10 => k_is)
    (case a12 => k_is)
    (case l12 => k_is)
    (case c12 => k_is)
    (case k12 => k_is)
    (case a6 => k_is)
    (case l6 => k_is)
    (case c6 => k_is)
    (case k6 => k_is)
    (case a7 => k_is)
    (case l7 => k_is)
    (case c7 => k_is)
    (case k7 => k_is)
    (case a9 => k_is)
    (case l9 => k_is)
    (case c9 => k_is)
    (case k9 => k_is)
    (case a11 => k_is)
    (case l11 => k_is)
    (case c11 => k_is)
    (case k11 => k_is)
    (case a3 => k_is)
    (case l3 => k_is)
    (case c3 => k_is)
    (case k3 => k_is)
    (case a13 => k_is)
    (case l13 => k_is)
    (case c13 => k_is)
    (case k13 => k_is)
    (case a14 => k_is)
    (case l14 => k_is)
    (case c14 => k_is)
    (case k14 => k_is)
    (case pg1 => k_is)
    (case hd1 => k_is)
    (case po1 => k_is)
    (case sa1 => k_is)
    (case mk1 => k_is)
    (case kc1 => k_is)
    (case ha1 => k_is)
    (case hm1 => k_is)
    (case na1_homes => k_is)
    (case na1_weights => k_is)
    (case na1_lines => k_is)
    (case hn0 => k_is)
    (case ht0 => k_is)
    (case ek15 => k_is)
    (case eq15 => k_exc)
    (case eb15 => k_is)
    (case et15 => k_is)
    (case eg15 => k_is)
    (case eh15 => k_is)
    (case ed15 => k_is)
    (case ea15 => k_is)
    (case em15 => k_is)
    (case xb6 => k_is)
    (case xd6 => k_is)
    (case xt6 => k_is)
    (case xs6_15 => k_is)
    (case ks_Barred_tyNoneType => first | k_is | rfl | decide +kernel)
    (case ks_Barred_err15 => first | k_is | rfl | decide +kernel)
    (case ks_NoBand_tyNoneType => first | k_is | rfl | decide +kernel)
    (case ks_NoBand_err15 => first | k_is | rfl | decide +kernel)
    (case ks_NoData_tyNoneType => first | k_is | rfl | decide +kernel)
    (case ks_NoData_err15 => first | k_is | rfl | decide +kernel)
    (case ks_NoForm_tyNoneType => first | k_is | rfl | decide +kernel)
    (case ks_NoForm_err15 => first | k_is | rfl | decide +kernel)
    (case ks_NoLength_tyNoneType => first | k_is | rfl | decide +kernel)
    (case ks_NoLength_err15 => first | k_is | rfl | decide +kernel)
    (case ks_NoNumber_tyNoneType => first | k_is | rfl | decide +kernel)
    (case ks_NoNumber_err15 => first | k_is | rfl | decide +kernel)
    (case ks_NoPlace_tyNoneType => first | k_is | rfl | decide +kernel)
    (case ks_NoPlace_err15 => first | k_is | rfl | decide +kernel)
    (case ks_NoRate_tyNoneType => first | k_is | rfl | decide +kernel)
    (case ks_NoRate_err15 => first | k_is | rfl | decide +kernel)
    (case ks_NoRow_tyNoneType => first | k_is | rfl | decide +kernel)
    (case ks_NoRow_err15 => first | k_is | rfl | decide +kernel)
    (case ks_NoSigns_tyNoneType => first | k_is | rfl | decide +kernel)
    (case ks_NoSigns_err15 => first | k_is | rfl | decide +kernel)
    (case ks_NoSplit_tyNoneType => first | k_is | rfl | decide +kernel)
    (case ks_NoSplit_err15 => first | k_is | rfl | decide +kernel)
    (case ks_NoWord_tyNoneType => first | k_is | rfl | decide +kernel)
    (case ks_NoWord_err15 => first | k_is | rfl | decide +kernel)
    (case ks_NoWriter_tyNoneType => first | k_is | rfl | decide +kernel)
    (case ks_NoWriter_err15 => first | k_is | rfl | decide +kernel)
    (case ks_Open_tyNoneType => first | k_is | rfl | decide +kernel)
    (case ks_Open_err15 => first | k_is | rfl | decide +kernel)
    (case ks_Scarce_tyNoneType => first | k_is | rfl | decide +kernel)
    (case ks_Scarce_err15 => first | k_is | rfl | decide +kernel)
    (case ks_Sheet_own1 => first | k_is | rfl | decide +kernel)
    (case ks_TooMany_tyNoneType => first | k_is | rfl | decide +kernel)
    (case ks_TooMany_err15 => first | k_is | rfl | decide +kernel)
    (case ks_ValueError_err15 => first | k_is | rfl | decide +kernel)
    (case ks_bool_err15 => first | k_is | rfl | decide +kernel)
    (case ks_int_err15 => first | k_is | rfl | decide +kernel)
    (case ks_list_err15 => first | k_is | rfl | decide +kernel)
    (case z_ValueError => k_is)
    (case z_abs => k_is)
    (case z_all => k_is)
    (case z_any => k_is)
    (case z_bool => k_is)
    (case z_int => k_is)
    (case z_isinstance => k_is)
    (case z_len => k_is)
    (case z_list => k_is)
    (case z_range => k_is)
    (case z_sum => k_is)
#print axioms PySem.Challenge.cw_bandscribe_k32_no_split_holds

