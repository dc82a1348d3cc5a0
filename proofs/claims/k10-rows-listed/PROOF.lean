import PyProof.Rows.All
import Wide.All
import OpenK.AllK
import Wide.FinOn
import HandS.ForMost
import HandS.Walk
import HandS.Exc
import HandS.ExcOwn
import HandS.TryOnly
import HandS.WordsExc
import HandS.CallSlots
import HandS.IsInst
import HandS.More
import HandS.Conv
import HandS.ExcIs
import HandS.Small
import HandS.RaiseMore
import KE.KExcIs
import HandS.Style
import HandS.NoneIn
import PyProof.ListStr
import HandS.Replace
import HandS.ExcInit
import HandS.ExcField
import PyProof.Draws
import HandS.Deep
import PyProof.EqKinds
import PyProof.ListRange
import HandS.Wide
import PyProof.Rows.StrStrike
import PySem.Challenge.RW_bandscribe_k10_rows_listed
set_option Elab.async false
set_option linter.all false
set_option maxRecDepth 100000
set_option maxHeartbeats 4000000
namespace Ps
open PySem L2

/-- pure data -/
inductive D where
  | non | bl (b : Bool) | int (i : Int) | str (x : Str)
  | lst (xs : List D) | tup (xs : List D)
  | scr (ns : List Int)
  | dk (kvs : List (Key × D)) | dt (kvs : List (List Key × D))
  | obj (c : Nat) (fs : List (Str × D))
  /-- a caught error of an own class -/
  | exo (c : Nat) (fs : List (Str × D))

/-- the attributes of the program's classes -/
def clsF : Nat → List Str
  | 0 => ["signs", "barred", "known", "ways"]
  | 1 => ["homes", "weights", "lines"]
  | 2 => ["weights", "splits", "kept", "last"]
  | 3 => ["strip", "choices", "width", "made", "stands", "moves", "first", "opening"]
  | 4 => ["strip", "width", "tail", "head", "room", "opened", "stands", "moves"]
  | 5 => ["strip", "pen", "glass"]
  | _ => []
def Nms (c : Nat) (fvs : List (Str × V)) : Prop := ∀ n v, fvs.lookup n = some v → n ∈ clsF c

/-- an error's object at a: its class, its dict -/
def ExV (cls : Value) (d : Option Addr) (a : Addr) : HO := .ext fun h => ∃ (oe : Obj) (vs : Array Value), h.get? a = some oe ∧ Zc cls d oe ∧ oe.data = .fields vs
section
variable (K : PySem.W.Frag) (ct : Nat → Addr) (F : Hp)
mutual
def Rep : D → V → Prop
  | .non, v => v = .non
  | .bl b, v => v = .bl b
  | .int i, v => v = .int i
  | .str x, v => v = .str x
  | .lst ds, v => ∃ a vs, v = .ref a ∧ F a = some (.lst vs) ∧ Reps ds vs
  | .tup ds, v => ∃ a vs, v = .ref a ∧ F a = some (.tup vs) ∧ Reps ds vs
  | .scr ns, v => ∃ a, v = .ref a ∧ SqL K F a (ns.map V.int)
  | .dk kvs, v => ∃ a vs, v = .ref a ∧ Rd F a (.dK vs) ∧ RepK kvs vs
  | .dt kvs, v => ∃ a vs, v = .ref a ∧ Rd F a (.dT vs) ∧ RepT kvs vs
  | .obj c fs, v => ∃ a dx fvs, v = .ref a ∧ F a = some (.ins (ct c) dx fvs) ∧ Nms c fvs ∧ RepF fs fvs
  | .exo c fs, v => ∃ a dx, v = .ref a ∧ F a = some (ExV (.ref (ct c)) dx a) ∧ ((fs = [] ∧ dx = none) ∨ fs ≠ [] ∧ ∃ d fvs, dx = some d ∧ F d = some (.xd fvs) ∧ RepF fs fvs)
def Reps : List D → List V → Prop
  | [], vs => vs = []
  | d :: ds, vs => ∃ v r, vs = v :: r ∧ Rep d v ∧ Reps ds r
def RepK : List (Key × D) → List (Key × V) → Prop
  | [], vs => vs = []
  | (k, d) :: ds, vs => ∃ v r, vs = (k, v) :: r ∧ Rep d v ∧ RepK ds r
def RepT : List (List Key × D) → List (List Key × V) → Prop
  | [], vs => vs = []
  | (k, d) :: ds, vs => ∃ v r, vs = (k, v) :: r ∧ Rep d v ∧ RepT ds r
def RepF : List (Str × D) → List (Str × V) → Prop
  | [], _ => True
  | (f, d) :: fs, fvs => (∃ v, fvs.lookup f = some v ∧ Rep d v) ∧ RepF fs fvs
end
end

/-- what reading leans on is kept -/
structure Le (F F' : Hp) : Prop where
  rd : ∀ a u, (∀ o v, u ≠ .frz o v) → Rd F a u → Rd F' a u
  l : ∀ a vs, F a = some (.lst vs) → F' a = some (.lst vs)
  t : ∀ a vs, F a = some (.tup vs) → F' a = some (.tup vs)
  i : ∀ a C dx fs, F a = some (.ins C dx fs) → F' a = some (.ins C dx fs)
  x : ∀ a c d, F a = some (ExV c d a) → F' a = some (ExV c d a)
  y : ∀ a fs, F a = some (.xd fs) → F' a = some (.xd fs)
abbrev Ex (F F' : Hp) : Prop := ∀ a o, F a = some o → F' a = some o
theorem Ex.refl (F : Hp) : Ex F F := fun _ _ h => h
theorem Ex.trans {F F1 F2 : Hp} (a : Ex F F1) (b : Ex F1 F2) : Ex F F2 := fun x o h => b x o (a x o h)
theorem Ex.new {H : Hp} {p : Addr} {o : HO} (h : H p = none) : Ex H (upd H p o) := fun a u e => by
  rw [upd_ne (ne_of_none e h)]; exact e
theorem Ex.rd {F F' : Hp} (e : Ex F F') {a : Addr} {u : HO} (h : Rd F a u) : Rd F' a u := by
  rcases h with h | ⟨o, h⟩
  · exact .inl (e a _ h)
  · exact .inr ⟨o, e a _ h⟩
theorem Ex.le {F F' : Hp} (e : Ex F F') : Le F F' := ⟨fun _ _ _ h => Ex.rd e h, fun a _ h => e a _ h, fun a _ h => e a _ h, fun a _ _ _ h => e a _ h, fun a _ _ h => e a _ h, fun a _ h => e a _ h⟩
theorem Ex.free {F F' : Hp} (e : Ex F F') {a : Addr} (h : F' a = none) : F a = none := by
  cases q : F a with
  | none => rfl
  | some o => rw [e a o q] at h; cases h

section
variable {K : PySem.W.Frag} {ct : Nat → Addr} {F F' : Hp}
mutual
theorem Rep.mono (e : Le F F') : ∀ (d : D) (v : V), Rep K ct F d v → Rep K ct F' d v
  | .non, _, h => h
  | .bl _, _, h => h
  | .int _, _, h => h
  | .str _, _, h => h
  | .lst ds, v, h => by
    obtain ⟨a, vs, e1, e2, e3⟩ := h
    exact ⟨a, vs, e1, e.l _ _ e2, Reps.mono e ds vs e3⟩
  | .tup ds, v, h => by
    obtain ⟨a, vs, e1, e2, e3⟩ := h
    exact ⟨a, vs, e1, e.t _ _ e2, Reps.mono e ds vs e3⟩
  | .scr ns, v, h => by
    obtain ⟨a, e1, e2⟩ := h
    refine ⟨a, e1, ?_⟩
    rcases e2 with h | h
    · exact .inl (e.rd _ _ (fun _ _ z => nomatch z) h)
    · exact .inr h
  | .dk kvs, v, h => by
    obtain ⟨a, vs, e1, e2, e3⟩ := h
    exact ⟨a, vs, e1, e.rd _ _ (fun _ _ z => nomatch z) e2, RepK.mono e kvs vs e3⟩
  | .dt kvs, v, h => by
    obtain ⟨a, vs, e1, e2, e3⟩ := h
    exact ⟨a, vs, e1, e.rd _ _ (fun _ _ z => nomatch z) e2, RepT.mono e kvs vs e3⟩
  | .obj c fs, v, h => by
    obtain ⟨a, dx, fvs, e1, e2, en, e3⟩ := h
    exact ⟨a, dx, fvs, e1, e.i _ _ _ _ e2, en, RepF.mono e fs fvs e3⟩
  | .exo c fs, v, h => by
    obtain ⟨a, dx, e1, e2, e3⟩ := h
    refine ⟨a, dx, e1, e.x _ _ _ e2, ?_⟩
    rcases e3 with e3 | ⟨hne, d, fvs, h1, h2, h3⟩
    · exact .inl e3
    · exact .inr ⟨hne, d, fvs, h1, e.y _ _ h2, RepF.mono e fs fvs h3⟩
theorem Reps.mono (e : Le F F') : ∀ (ds : List D) (vs : List V), Reps K ct F ds vs → Reps K ct F' ds vs
  | [], _, h => h
  | d :: ds, vs, h => by
    obtain ⟨v, r, e1, e2, e3⟩ := h
    exact ⟨v, r, e1, Rep.mono e d v e2, Reps.mono e ds r e3⟩
theorem RepK.mono (e : Le F F') : ∀ (ds : List (Key × D)) (vs : List (Key × V)), RepK K ct F ds vs → RepK K ct F' ds vs
  | [], _, h => h
  | (k, d) :: ds, vs, h => by
    obtain ⟨v, r, e1, e2, e3⟩ := h
    exact ⟨v, r, e1, Rep.mono e d v e2, RepK.mono e ds r e3⟩
theorem RepT.mono (e : Le F F') : ∀ (ds : List (List Key × D)) (vs : List (List Key × V)), RepT K ct F ds vs → RepT K ct F' ds vs
  | [], _, h => h
  | (k, d) :: ds, vs, h => by
    obtain ⟨v, r, e1, e2, e3⟩ := h
    exact ⟨v, r, e1, Rep.mono e d v e2, RepT.mono e ds r e3⟩
theorem RepF.mono (e : Le F F') : ∀ (fs : List (Str × D)) (fvs : List (Str × V)), RepF K ct F fs fvs → RepF K ct F' fs fvs
  | [], _, _ => True.intro
  | (f, d) :: fs, fvs, h => by
    obtain ⟨⟨v, e1, e2⟩, e3⟩ := h
    exact ⟨⟨v, e1, Rep.mono e d v e2⟩, RepF.mono e fs fvs e3⟩
end
theorem Reps.length : ∀ {ds : List D} {vs : List V}, Reps K ct F ds vs → vs.length = ds.length
  | [], _, h => by rw [show _ = [] from h]; rfl
  | d :: ds, vs, h => by
    obtain ⟨v, r, e1, e2, e3⟩ := h
    rw [e1, List.length_cons, List.length_cons, Reps.length e3]
theorem Reps.get : ∀ {ds : List D} {vs : List V} {i : Nat} {d : D}, Reps K ct F ds vs → ds[i]? = some d → ∃ v, vs[i]? = some v ∧ Rep K ct F d v
  | [], _, _, _, _, e => by simp at e
  | d :: ds, vs, 0, d', h, e => by
    obtain ⟨v, r, e1, e2, e3⟩ := h
    simp at e; subst e e1
    exact ⟨v, rfl, e2⟩
  | d :: ds, vs, i + 1, d', h, e => by
    obtain ⟨v, r, e1, e2, e3⟩ := h
    subst e1
    obtain ⟨v', h1, h2⟩ := Reps.get e3 (i := i) (d := d') (by simpa using e)
    exact ⟨v', by simpa using h1, h2⟩
theorem Reps.append : ∀ {ds es : List D} {vs us : List V}, Reps K ct F ds vs → Reps K ct F es us → Reps K ct F (ds ++ es) (vs ++ us)
  | [], _, _, _, h, q => by rw [show _ = [] from h]; exact q
  | d :: ds, es, vs, us, h, q => by
    obtain ⟨v, r, e1, e2, e3⟩ := h
    subst e1
    exact ⟨v, r ++ us, rfl, e2, Reps.append e3 q⟩
theorem Reps.one {d : D} {v : V} (h : Rep K ct F d v) : Reps K ct F [d] [v] := ⟨v, [], rfl, h, rfl⟩
theorem Reps.take : ∀ {ds : List D} {vs : List V} (n : Nat), Reps K ct F ds vs → Reps K ct F (ds.take n) (vs.take n)
  | _, _, 0, _ => rfl
  | [], _, n + 1, h => by rw [show _ = [] from h]; rfl
  | d :: ds, vs, n + 1, h => by
    obtain ⟨v, r, e1, e2, e3⟩ := h
    subst e1
    exact ⟨v, r.take n, rfl, e2, Reps.take n e3⟩
theorem Reps.drop : ∀ {ds : List D} {vs : List V} (n : Nat), Reps K ct F ds vs → Reps K ct F (ds.drop n) (vs.drop n)
  | _, _, 0, h => h
  | [], _, n + 1, h => by rw [show _ = [] from h]; rfl
  | d :: ds, vs, n + 1, h => by
    obtain ⟨v, r, e1, e2, e3⟩ := h
    subst e1
    exact Reps.drop n e3
theorem Reps.set {d : D} {v : V} (q : Rep K ct F d v) : ∀ {ds : List D} {vs : List V} (i : Nat), Reps K ct F ds vs → Reps K ct F (ds.set i d) (vs.set i v)
  | [], _, _, h => by rw [show _ = [] from h]; rfl
  | d' :: ds, vs, 0, h => by
    obtain ⟨v', r, e1, e2, e3⟩ := h
    subst e1
    exact ⟨v, r, rfl, q, e3⟩
  | d' :: ds, vs, i + 1, h => by
    obtain ⟨v', r, e1, e2, e3⟩ := h
    subst e1
    exact ⟨v', r.set i v, rfl, e2, Reps.set q i e3⟩
theorem Reps.ints : ∀ {ns : List Int}, Reps K ct F (ns.map D.int) (ns.map V.int)
  | [] => rfl
  | n :: ns => ⟨.int n, ns.map V.int, rfl, rfl, Reps.ints⟩
end

/-! ### slots -/
def noScr : D → Bool
  | .scr _ => false
  | _ => true
inductive Sl where
  | no | sh (d : D) | ow (d : D) | bo (d : D)
  /-- an instance that is being made: its attributes, and those whose things stand in other slots -/
  | oo (c : Nat) (fs : List (Str × D)) (gs : List (Str × Nat))
  /-- a thing of such an instance -/
  | gh (d : D)
  /-- a list with one item alone, the thing of slot g -/
  | ln (g : Nat)
def isOw : Sl → Bool
  | .ow _ => true
  | .gh _ => true
  | .oo _ _ _ => true
  | .ln _ => true
  | _ => false
abbrev En := List Sl

/-- the top cell at H, what is below in F -/
def RepB (K : PySem.W.Frag) (ct : Nat → Addr) (F H : Hp) : D → V → Prop
  | .lst ds, v => ∃ a vs, v = .ref a ∧ H a = some (.lst vs) ∧ Reps K ct F ds vs
  | .dk kvs, v => ∃ a vs, v = .ref a ∧ Rd H a (.dK vs) ∧ RepK K ct F kvs vs
  | .dt kvs, v => ∃ a vs, v = .ref a ∧ Rd H a (.dT vs) ∧ RepT K ct F kvs vs
  | .obj c fs, v => ∃ a dx fvs, v = .ref a ∧ H a = some (.ins (ct c) dx fvs) ∧ Nms c fvs ∧ RepF K ct F fs fvs
  | d, v => Rep K ct F d v
theorem Rep.b {K : PySem.W.Frag} {ct : Nat → Addr} {F H : Hp} (e : Ex F H) : ∀ {d : D} {v : V}, Rep K ct F d v → RepB K ct F H d v
  | .lst ds, v, h => by
    obtain ⟨a, vs, e1, e2, e3⟩ := h
    exact ⟨a, vs, e1, e _ _ e2, e3⟩
  | .dk ds, v, h => by
    obtain ⟨a, vs, e1, e2, e3⟩ := h
    exact ⟨a, vs, e1, Ex.rd e e2, e3⟩
  | .dt ds, v, h => by
    obtain ⟨a, vs, e1, e2, e3⟩ := h
    exact ⟨a, vs, e1, Ex.rd e e2, e3⟩
  | .obj c fs, v, h => by
    obtain ⟨a, dx, fvs, e1, e2, en, e3⟩ := h
    exact ⟨a, dx, fvs, e1, e _ _ e2, en, e3⟩
  | .non, _, h => h
  | .bl _, _, h => h
  | .int _, _, h => h
  | .str _, _, h => h
  | .tup _, _, h => h
  | .scr _, _, h => h
  | .exo _ _, _, h => h
/-- .. as read in the whole heap -/
theorem RepB.all {K : PySem.W.Frag} {ct : Nat → Addr} {F H : Hp} (e : Ex F H) : ∀ {d : D} {v : V}, RepB K ct F H d v → Rep K ct H d v
  | .lst ds, v, h => by
    obtain ⟨a, vs, e1, e2, e3⟩ := h
    exact ⟨a, vs, e1, e2, Reps.mono (Ex.le e) _ _ e3⟩
  | .dk ds, v, h => by
    obtain ⟨a, vs, e1, e2, e3⟩ := h
    exact ⟨a, vs, e1, e2, RepK.mono (Ex.le e) _ _ e3⟩
  | .dt ds, v, h => by
    obtain ⟨a, vs, e1, e2, e3⟩ := h
    exact ⟨a, vs, e1, e2, RepT.mono (Ex.le e) _ _ e3⟩
  | .obj c fs, v, h => by
    obtain ⟨a, dx, fvs, e1, e2, en, e3⟩ := h
    exact ⟨a, dx, fvs, e1, e2, en, RepF.mono (Ex.le e) _ _ e3⟩
  | .non, _, h => h
  | .bl _, _, h => h
  | .int _, _, h => h
  | .str _, _, h => h
  | .tup _, _, h => Rep.mono (Ex.le e) _ _ h
  | .scr _, _, h => Rep.mono (Ex.le e) _ _ h
  | .exo _ _, _, h => Rep.mono (Ex.le e) _ _ h
/-- owned: at a, not in F -/
def OwnAt (K : PySem.W.Frag) (ct : Nat → Addr) (F H : Hp) (a : Addr) : D → Prop
  | .lst ds => F a = none ∧ ∃ vs, H a = some (.lst vs) ∧ Reps K ct F ds vs
  | .dk kvs => F a = none ∧ ∃ vs, H a = some (.dK vs) ∧ RepK K ct F kvs vs
  | .dt kvs => F a = none ∧ ∃ vs, H a = some (.dT vs) ∧ RepT K ct F kvs vs
  | _ => False
theorem OwnAt.b {K : PySem.W.Frag} {ct : Nat → Addr} {F H : Hp} {a : Addr} : ∀ {d : D}, OwnAt K ct F H a d → RepB K ct F H d (.ref a)
  | .lst ds, h => by
    obtain ⟨_, vs, e2, e3⟩ := h
    exact ⟨a, vs, rfl, e2, e3⟩
  | .dk ds, h => by
    obtain ⟨_, vs, e2, e3⟩ := h
    exact ⟨a, vs, rfl, .inl e2, e3⟩
  | .dt ds, h => by
    obtain ⟨_, vs, e2, e3⟩ := h
    exact ⟨a, vs, rfl, .inl e2, e3⟩
  | .obj _ _, h => h.elim
  | .non, h => h.elim
  | .bl _, h => h.elim
  | .int _, h => h.elim
  | .str _, h => h.elim
  | .tup _, h => h.elim
  | .scr _, h => h.elim
  | .exo _ _, h => h.elim
theorem OwnAt.free {K : PySem.W.Frag} {ct : Nat → Addr} {F H : Hp} {a : Addr} : ∀ {d : D}, OwnAt K ct F H a d → F a = none
  | .lst ds, h => h.1
  | .dk ds, h => h.1
  | .dt ds, h => h.1
  | .obj _ _, h => h.elim
  | .non, h => h.elim
  | .bl _, h => h.elim
  | .int _, h => h.elim
  | .str _, h => h.elim
  | .tup _, h => h.elim
  | .scr _, h => h.elim
  | .exo _ _, h => h.elim
theorem OwnAt.there {K : PySem.W.Frag} {ct : Nat → Addr} {F H : Hp} {a : Addr} : ∀ {d : D}, OwnAt K ct F H a d → ∃ o, H a = some o
  | .lst ds, h => let ⟨_, _, e, _⟩ := h; ⟨_, e⟩
  | .dk ds, h => let ⟨_, _, e, _⟩ := h; ⟨_, e⟩
  | .dt ds, h => let ⟨_, _, e, _⟩ := h; ⟨_, e⟩
  | .obj _ _, h => h.elim
  | .non, h => h.elim
  | .bl _, h => h.elim
  | .int _, h => h.elim
  | .str _, h => h.elim
  | .tup _, h => h.elim
  | .scr _, h => h.elim
  | .exo _ _, h => h.elim
/-- its cell stands, F grows elsewhere -/
theorem OwnAt.mono {K : PySem.W.Frag} {ct : Nat → Addr} {F H F' H' : Hp} {a : Addr} (e : Ex F F') (hf : F' a = none) (hh : H' a = H a) : ∀ {d : D}, OwnAt K ct F H a d → OwnAt K ct F' H' a d
  | .lst ds, h => by
    obtain ⟨_, vs, e2, e3⟩ := h
    exact ⟨hf, vs, hh.trans e2, Reps.mono (Ex.le e) _ _ e3⟩
  | .dk ds, h => by
    obtain ⟨_, vs, e2, e3⟩ := h
    exact ⟨hf, vs, hh.trans e2, RepK.mono (Ex.le e) _ _ e3⟩
  | .dt ds, h => by
    obtain ⟨_, vs, e2, e3⟩ := h
    exact ⟨hf, vs, hh.trans e2, RepT.mono (Ex.le e) _ _ e3⟩
  | .obj _ _, h => h.elim
  | .non, h => h.elim
  | .bl _, h => h.elim
  | .int _, h => h.elim
  | .str _, h => h.elim
  | .tup _, h => h.elim
  | .scr _, h => h.elim
  | .exo _ _, h => h.elim
/-- owned things are let go into F -/
theorem OwnAt.freeze {K : PySem.W.Frag} {ct : Nat → Addr} {F H : Hp} {a : Addr} {o : HO} (ho : H a = some o) : ∀ {d : D}, OwnAt K ct F H a d → Rep K ct (upd F a o) d (.ref a)
  | .lst ds, h => by
    obtain ⟨e1, vs, e2, e3⟩ := h
    rw [ho] at e2; cases e2
    exact ⟨a, vs, rfl, upd_same, Reps.mono (Ex.le (Ex.new e1)) _ _ e3⟩
  | .dk ds, h => by
    obtain ⟨e1, vs, e2, e3⟩ := h
    rw [ho] at e2; cases e2
    exact ⟨a, vs, rfl, .inl upd_same, RepK.mono (Ex.le (Ex.new e1)) _ _ e3⟩
  | .dt ds, h => by
    obtain ⟨e1, vs, e2, e3⟩ := h
    rw [ho] at e2; cases e2
    exact ⟨a, vs, rfl, .inl upd_same, RepT.mono (Ex.le (Ex.new e1)) _ _ e3⟩
  | .obj _ _, h => h.elim
  | .non, h => h.elim
  | .bl _, h => h.elim
  | .int _, h => h.elim
  | .str _, h => h.elim
  | .tup _, h => h.elim
  | .scr _, h => h.elim
  | .exo _ _, h => h.elim

/-- slot i holds an owned thing at a -/
def Owns (env : En) (σ : L2.St) (a : Addr) : Prop := ∃ (i : Nat) (s : Sl), env[i]? = some s ∧ isOw s = true ∧ σ[i]? = some (some (V.ref a))
structure EnvOk (K : PySem.W.Frag) (ct : Nat → Addr) (F H : Hp) (env : En) (σ : L2.St) : Prop where
  ex : Ex F H
  len : env.length = σ.length
  sh : ∀ (i : Nat) (d : D), env[i]? = some (.sh d) → ∃ v, σ[i]? = some (some v) ∧ Rep K ct F d v
  ow : ∀ (i : Nat) (d : D), env[i]? = some (.ow d) → ∃ a, σ[i]? = some (some (.ref a)) ∧ OwnAt K ct F H a d
  bo : ∀ (i : Nat) (d : D), env[i]? = some (.bo d) → ∃ v, σ[i]? = some (some v) ∧ RepB K ct F H d v ∧ ∀ a, noScr d = true → v = .ref a → ¬ Owns env σ a
  oo : ∀ (i : Nat) (c : Nat) (fs : List (Str × D)) (gs : List (Str × Nat)), env[i]? = some (.oo c fs gs) → ∃ a dx fvs, σ[i]? = some (some (.ref a)) ∧ F a = none ∧ H a = some (.ins (ct c) dx fvs) ∧ Nms c fvs ∧ fvs.length ≤ fs.length + gs.length ∧ RepF K ct F fs fvs ∧
    ∀ n g, (n, g) ∈ gs → ∃ v d, fvs.lookup n = some v ∧ σ[g]? = some (some v) ∧ env[g]? = some (.gh d)
  gh : ∀ (i : Nat) (d : D), env[i]? = some (.gh d) → ∃ a, σ[i]? = some (some (.ref a)) ∧ OwnAt K ct F H a d
  ln : ∀ (i g : Nat), env[i]? = some (.ln g) → ∃ (a b : Addr) (d : D), σ[i]? = some (some (.ref a)) ∧ F a = none ∧ H a = some (.lst [.ref b]) ∧ σ[g]? = some (some (.ref b)) ∧ env[g]? = some (.gh d)
  ap : ∀ (i j : Nat) (s t : Sl) (a : Addr), env[i]? = some s → env[j]? = some t → isOw s = true → isOw t = true → σ[i]? = some (some (.ref a)) → σ[j]? = some (some (.ref a)) → i = j

/-- evaluation: things are added -/
structure Gr (F H F' H' : Hp) : Prop where
  f : Ex F F'
  h : Ex H H'
  e : Ex F' H'
  n : ∀ a o, F' a = some o → F a = some o ∨ H a = none
theorem Gr.refl {F H : Hp} (e : Ex F H) : Gr F H F H := ⟨Ex.refl _, Ex.refl _, e, fun _ _ h => .inl h⟩
theorem Gr.trans {F H F1 H1 F2 H2 : Hp} (a : Gr F H F1 H1) (b : Gr F1 H1 F2 H2) : Gr F H F2 H2 :=
  ⟨a.f.trans b.f, a.h.trans b.h, b.e, fun x o q => by
    rcases b.n x o q with q | q
    · exact a.n x o q
    · exact .inr (Ex.free a.h q)⟩
/-- a new object, shared at once -/
theorem Gr.new {F H : Hp} (e : Ex F H) {p : Addr} {o : HO} (hp : H p = none) : Gr F H (upd F p o) (upd H p o) :=
  ⟨Ex.new (Ex.free e hp), Ex.new hp, fun a u q => by
    by_cases ha : a = p
    · subst ha; rw [upd_same] at q ⊢; exact q
    · rw [upd_ne ha] at q ⊢; exact e a u q, fun a u q => by
    by_cases ha : a = p
    · subst ha; exact .inr hp
    · rw [upd_ne ha] at q; exact .inl q⟩
/-- a new object, not shared -/
theorem Gr.own {F H : Hp} (e : Ex F H) {p : Addr} {o : HO} (hp : H p = none) : Gr F H F (upd H p o) :=
  ⟨Ex.refl _, Ex.new hp, e.trans (Ex.new hp), fun _ _ q => .inl q⟩
theorem Gr.share {F H F' H' : Hp} (g : Gr F H F' H') (e0 : Ex F H) {p : Addr} {o : HO} (hp : H p = none) (ho : H' p = some o) : Gr F H (upd F' p o) H' :=
  ⟨fun a u q => by
    by_cases ha : a = p
    · subst ha
      rw [Ex.free e0 hp] at q; cases q
    · rw [upd_ne ha]; exact g.f a u q, g.h, fun a u q => by
    by_cases ha : a = p
    · subst ha; rw [upd_same] at q; cases q; exact ho
    · rw [upd_ne ha] at q; exact g.e a u q, fun a u q => by
    by_cases ha : a = p
    · subst ha; exact .inr hp
    · rw [upd_ne ha] at q; exact g.n a u q⟩
theorem RepB.mono2 {K : PySem.W.Frag} {ct : Nat → Addr} {F H F' H' : Hp} (gf : Ex F F') (gh : Ex H H') : ∀ {d : D} {v : V}, RepB K ct F H d v → RepB K ct F' H' d v
  | .lst ds, v, h => by
    obtain ⟨a, vs, e1, e2, e3⟩ := h
    exact ⟨a, vs, e1, gh _ _ e2, Reps.mono (Ex.le gf) _ _ e3⟩
  | .dk ds, v, h => by
    obtain ⟨a, vs, e1, e2, e3⟩ := h
    exact ⟨a, vs, e1, Ex.rd gh e2, RepK.mono (Ex.le gf) _ _ e3⟩
  | .dt ds, v, h => by
    obtain ⟨a, vs, e1, e2, e3⟩ := h
    exact ⟨a, vs, e1, Ex.rd gh e2, RepT.mono (Ex.le gf) _ _ e3⟩
  | .obj c fs, v, h => by
    obtain ⟨a, dx, fvs, e1, e2, en, e3⟩ := h
    exact ⟨a, dx, fvs, e1, gh _ _ e2, en, RepF.mono (Ex.le gf) _ _ e3⟩
  | .non, _, h => h
  | .bl _, _, h => h
  | .int _, _, h => h
  | .str _, _, h => h
  | .tup _, _, h => Rep.mono (Ex.le gf) _ _ h
  | .scr _, _, h => Rep.mono (Ex.le gf) _ _ h
  | .exo _ _, _, h => Rep.mono (Ex.le gf) _ _ h
theorem RepB.gr {K : PySem.W.Frag} {ct : Nat → Addr} {F H F' H' : Hp} (g : Gr F H F' H') {d : D} {v : V} (h : RepB K ct F H d v) : RepB K ct F' H' d v := RepB.mono2 g.f g.h h
theorem Gr.none {F H F' H' : Hp} (g : Gr F H F' H') {a : Addr} {o : HO} (h1 : F a = none) (h2 : H a = some o) : F' a = none := by
  cases q : F' a with
  | none => rfl
  | some u =>
    rcases g.n a u q with z | z
    · rw [h1] at z; cases z
    · rw [h2] at z; cases z
theorem EnvOk.gr {K : PySem.W.Frag} {ct : Nat → Addr} {F H F' H' : Hp} {env : En} {σ : L2.St} (E : EnvOk K ct F H env σ) (g : Gr F H F' H') : EnvOk K ct F' H' env σ where
  ex := g.e
  len := E.len
  sh := fun i d h => let ⟨v, e1, e2⟩ := E.sh i d h; ⟨v, e1, Rep.mono (Ex.le g.f) _ _ e2⟩
  ow := fun i d h => by
    obtain ⟨a, e1, e2⟩ := E.ow i d h
    obtain ⟨o, ho⟩ := e2.there
    exact ⟨a, e1, e2.mono g.f (g.none e2.free ho) ((g.h a o ho).trans ho.symm)⟩
  bo := fun i d h => by
    obtain ⟨v, e1, e2, e3⟩ := E.bo i d h
    exact ⟨v, e1, RepB.gr g e2, e3⟩
  oo := fun i c fs gs h => by
    obtain ⟨a, dx, fvs, e1, e2, e3, e4, e5, e6, e7⟩ := E.oo i c fs gs h
    exact ⟨a, dx, fvs, e1, g.none e2 e3, g.h _ _ e3, e4, e5, RepF.mono (Ex.le g.f) _ _ e6, e7⟩
  gh := fun i d h => by
    obtain ⟨a, e1, e2⟩ := E.gh i d h
    obtain ⟨o, ho⟩ := e2.there
    exact ⟨a, e1, e2.mono g.f (g.none e2.free ho) ((g.h a o ho).trans ho.symm)⟩
  ln := fun i g' h => let ⟨a, b, d, e1, e2, e3, e4, e5⟩ := E.ln i g' h; ⟨a, b, d, e1, g.none e2 e3, g.h _ _ e3, e4, e5⟩
  ap := E.ap
end Ps

namespace Ps
open PySem L2

/-- what an expression comes to; class c's exception with fields; nothing told -/
inductive R where
  | ok (d : D) | er (c : Nat) (fs : List (Str × D)) | st
inductive RA where
  | ok (ds : List D) | er (c : Nat) (fs : List (Str × D)) | st
inductive O where
  | nx (e : En) | bk (e : En) | ct (e : En) | rt (d : D) | rn (d : D) | er (c : Nat) (fs : List (Str × D)) (e : En) | st
abbrev SE := En → R
abbrev SA := En → RA
abbrev SS := En → O

def ExcOk (K : PySem.W.Frag) (ct : Nat → Addr) (F : Hp) (dx : Option Addr) (fs : List (Str × D)) : Prop :=
  (fs = [] ∧ dx = none) ∨ fs ≠ [] ∧ ∃ d fvs, dx = some d ∧ F d = some (.xd fvs) ∧ RepF K ct F fs fvs
theorem ExcOk.mono {K : PySem.W.Frag} {ct : Nat → Addr} {F F' : Hp} {dx : Option Addr} {fs : List (Str × D)} (e : Ex F F') (h : ExcOk K ct F dx fs) : ExcOk K ct F' dx fs := by
  rcases h with h | ⟨hne, d, fvs, h1, h2, h3⟩
  · exact .inl h
  · exact .inr ⟨hne, d, fvs, h1, e _ _ h2, RepF.mono (Ex.le e) _ _ h3⟩

abbrev Md := Hp → Hp → Hp → D → V → Prop
section
variable (K : PySem.W.Frag) (ct : Nat → Addr) (W : WX)
def mR : Md := fun _ F' _ d v => Rep K ct F' d v
def mB : Md := fun _ F' H' d v => RepB K ct F' H' d v
def mN : Md := fun H F' H' d v => ∃ p, v = .ref p ∧ H p = none ∧ OwnAt K ct F' H' p d
def Fin (M : Md) (F H : Hp) (σ : L2.St) (r : R) (Q : VK) : Prop := match r with
  | .ok d => ∀ v F' H', Gr F H F' H' → M H F' H' d v → Q v H'
  | .er c fs => ∀ dx F' H', Gr F H F' H' → ExcOk K ct F' dx fs → W (.ref (ct c)) dx σ H'
  | .st => False
def tM (M : Md) (f : SE) : TE := fun σ H Q => ∃ env F, EnvOk K ct F H env σ ∧ Fin K ct W M F H σ (f env) Q
abbrev ER (f : SE) : TE := tM K ct W (mR K ct) f
abbrev EB (f : SE) : TE := tM K ct W (mB K ct) f
abbrev EN (f : SE) : TE := tM K ct W (mN K ct) f
/-- a test -/
def TT1 (f : SE) : TT := fun σ H Q => ∃ env F, EnvOk K ct F H env σ ∧ match f env with
  | .ok (.bl b) => ∀ F' H', Gr F H F' H' → Q b H'
  | .ok _ => False
  | .er c fs => ∀ dx F' H', Gr F H F' H' → ExcOk K ct F' dx fs → W (.ref (ct c)) dx σ H'
  | .st => False
def ArgsRep (F H : Hp) : List Bool → List D → List V → Prop
  | [], ds, vs => ds = [] ∧ vs = []
  | m :: ms, ds, vs => ∃ d ds' v vs', ds = d :: ds' ∧ vs = v :: vs' ∧ (if m then RepB K ct F H d v else Rep K ct F d v) ∧ ArgsRep F H ms ds' vs'
def tA (ms : List Bool) (f : SA) : TA := fun σ H Q => ∃ env F, EnvOk K ct F H env σ ∧ match f env with
  | .ok ds => ∀ vs F' H', Gr F H F' H' → ArgsRep K ct F' H' ms ds vs → Q vs H'
  | .er c fs => ∀ dx F' H', Gr F H F' H' → ExcOk K ct F' dx fs → W (.ref (ct c)) dx σ H'
  | .st => False
end

theorem _root_.L2.PE.imp {X : Cx} {e : Expr} {t t' : TE} (p : PE X e t) (h : ∀ σ H Q, t' σ H Q → t σ H Q) : PE X e t' := ⟨fun pins s σ H Q I q => p.run pins s σ H Q I (h σ H Q q)⟩
theorem _root_.L2.PT.imp {X : Cx} {e : Expr} {t t' : TT} (p : PT X e t) (h : ∀ σ H Q, t' σ H Q → t σ H Q) : PT X e t' := ⟨fun pins s σ H Q I q => p.run pins s σ H Q I (h σ H Q q)⟩
theorem _root_.L2.PW.imp {X : Cx} {e : Expr} {t t' : TT} (p : PW X e t) (h : ∀ σ H Q, t' σ H Q → t σ H Q) : PW X e t' := ⟨fun w pins s σ H Q I q => p.run w pins s σ H Q I (h σ H Q q)⟩
theorem _root_.L2.PA.imp {X : Cx} {e : List Expr} {t t' : TA} (p : PA X e t) (h : ∀ σ H Q, t' σ H Q → t σ H Q) : PA X e t' := ⟨fun pos pins s σ H Q I q => p.run pos pins s σ H Q I (h σ H Q q)⟩
theorem _root_.L2.PS.imp {X : Cx} {e : Stmt} {t t' : TS} (p : PS X e t) (h : ∀ D σ H, t' D σ H → t D σ H) : PS X e t' := ⟨fun pins s σ H D I q => p.run pins s σ H D I (h D σ H q)⟩
theorem _root_.L2.PSs.imp {X : Cx} {e : List Stmt} {t t' : TS} (p : PSs X e t) (h : ∀ D σ H, t' D σ H → t D σ H) : PSs X e t' := ⟨fun pins s σ H D I q => p.run pins s σ H D I (h D σ H q)⟩

section
variable {K : PySem.W.Frag} {ct : Nat → Addr} {W : WX} {M : Md} {F H F' H' : Hp} {σ : L2.St} {r : R} {Q : VK} {env : En}
/-- what follows, behind a growth -/
theorem fin_after (g : Gr F H F' H') (hM : ∀ F2 H2 d v, M H' F2 H2 d v → M H F2 H2 d v) (h : Fin K ct W M F H σ r Q) : Fin K ct W M F' H' σ r Q := by
  cases r with
  | ok d => exact fun v F2 H2 g2 m => h v F2 H2 (g.trans g2) (hM _ _ _ _ m)
  | er c fs => exact fun dx F2 H2 g2 x => h dx F2 H2 (g.trans g2) x
  | st => exact h
/-- one expression, then what is left -/
def bnd (r : R) (k : D → R) : R := match r with
  | .ok d => k d
  | .er c fs => .er c fs
  | .st => .st
def bndA (r : RA) (k : List D → R) : R := match r with
  | .ok d => k d
  | .er c fs => .er c fs
  | .st => .st
theorem fin_bind {M1 : Md} {f : SE} {k : D → R} (E : EnvOk K ct F H env σ) (h : Fin K ct W M F H σ (bnd (f env) k) Q) {t : TE} (ht : t = tM K ct W M1 f)
    {Q1 : VK} (hk : ∀ d v F1 H1, f env = .ok d → Gr F H F1 H1 → M1 H F1 H1 d v → EnvOk K ct F1 H1 env σ → Fin K ct W M F H σ (k d) Q → Q1 v H1) : t σ H Q1 := by
  subst ht
  refine ⟨env, F, E, ?_⟩
  cases e : f env with
  | ok d =>
    rw [e] at h
    exact fun v F1 H1 g m => hk d v F1 H1 e g m (E.gr g) h
  | er c fs =>
    rw [e] at h
    exact h
  | st =>
    rw [e] at h
    exact h
end

/-! ### expressions -/
section
variable {X : Cx} {ct : Nat → Addr} {W : WX} {a b e : Expr} {f g : SE} {pos : Pos}

def sLoc (i : Nat) : SE := fun env => match env[i]? with
  | some (.sh d) => .ok d
  | _ => .st
def sLocB (i : Nat) : SE := fun env => match env[i]? with
  | some (.sh d) => .ok d
  | some (.ow d) => .ok d
  | some (.bo d) => .ok d
  | some (.oo c fs _) => .ok (.obj c fs)
  | _ => .st
theorem e_loc (i : Nat) {x : Str} (hN : X.N[i]? = some x := by rfl) (hv : Vis X.env.scope x := by first | exact Or.inl rfl | exact Or.inr (Or.inl rfl) | exact Or.inr (Or.inr rfl)) (hd : (x == ("__debug__" : Str)) = false := by decide)
    (hcd : (x == ("__classdict__" : Str)) = false := by decide) : PE X (.Name x pos) (ER X.K ct W (sLoc i)) := by
  refine (pe_var hN hv hd hcd).imp fun σ H Q ⟨env, F, E, h⟩ => ?_
  unfold sLoc at h
  split at h
  · rename_i d q
    obtain ⟨v, e1, e2⟩ := E.sh i d q
    exact ⟨v, e1, h v F H (Gr.refl E.ex) e2⟩
  · exact h.elim
theorem e_locB (i : Nat) {x : Str} (hN : X.N[i]? = some x := by rfl) (hv : Vis X.env.scope x := by first | exact Or.inl rfl | exact Or.inr (Or.inl rfl) | exact Or.inr (Or.inr rfl)) (hd : (x == ("__debug__" : Str)) = false := by decide)
    (hcd : (x == ("__classdict__" : Str)) = false := by decide) : PE X (.Name x pos) (EB X.K ct W (sLocB i)) := by
  refine (pe_var hN hv hd hcd).imp fun σ H Q ⟨env, F, E, h⟩ => ?_
  unfold sLocB at h
  split at h
  · rename_i d q
    obtain ⟨v, e1, e2⟩ := E.sh i d q
    exact ⟨v, e1, h v F H (Gr.refl E.ex) (e2.b E.ex)⟩
  · rename_i d q
    obtain ⟨v, e1, e2⟩ := E.ow i d q
    exact ⟨_, e1, h _ F H (Gr.refl E.ex) e2.b⟩
  · rename_i d q
    obtain ⟨v, e1, e2, _⟩ := E.bo i d q
    exact ⟨v, e1, h v F H (Gr.refl E.ex) e2⟩
  · rename_i c fs gs q
    obtain ⟨a, dx, fvs, e1, e2, e3, e4, e5, e6, _⟩ := E.oo i c fs gs q
    exact ⟨_, e1, h _ F H (Gr.refl E.ex) ⟨a, dx, fvs, rfl, e3, e4, e6⟩⟩
  · exact h.elim
theorem e_b (h : PE X e (ER X.K ct W f)) : PE X e (EB X.K ct W f) := by
  refine PE.imp h fun σ H Q ⟨env, F, E, h⟩ => ⟨env, F, E, ?_⟩
  cases q : f env with
  | ok d =>
    rw [q] at h
    exact fun v F' H' g m => h v F' H' g (Rep.b g.e m)
  | er c fs => rw [q] at h; exact h
  | st => rw [q] at h; exact h
/-- a new thing is shared -/
theorem e_n (h : PE X e (EN X.K ct W f)) : PE X e (ER X.K ct W f) := by
  refine PE.imp h fun σ H Q ⟨env, F, E, h⟩ => ⟨env, F, E, ?_⟩
  cases q : f env with
  | ok d =>
    rw [q] at h
    refine fun v F' H' g ⟨p, e1, e2, e3⟩ => ?_
    obtain ⟨o, ho⟩ := e3.there
    subst e1
    exact h _ _ H' (g.share E.ex e2 ho) (e3.freeze ho)
  | er c fs => rw [q] at h; exact h
  | st => rw [q] at h; exact h
def sC (d : D) : SE := fun _ => .ok d
theorem e_int {i j} : PE X (.Constant (.int i) j pos) (ER X.K ct W (sC (.int i))) := pe_int.imp fun σ H Q ⟨env, F, E, h⟩ => h _ F H (Gr.refl E.ex) rfl
theorem e_bl {i j} : PE X (.Constant (.bool i) j pos) (ER X.K ct W (sC (.bl i))) := pe_bl.imp fun σ H Q ⟨env, F, E, h⟩ => h _ F H (Gr.refl E.ex) rfl
theorem e_non {j} : PE X (.Constant .none j pos) (ER X.K ct W (sC .non)) := pe_non.imp fun σ H Q ⟨env, F, E, h⟩ => h _ F H (Gr.refl E.ex) rfl
theorem e_str {x j} : PE X (.Constant (.str x) j pos) (ER X.K ct W (sC (.str x))) := pe_str.imp fun σ H Q ⟨env, F, E, h⟩ => h _ F H (Gr.refl E.ex) rfl
/-- a module's constant: a text, an int -/
def cV : D → Option V
  | .int i => some (.int i)
  | .str x => some (.str x)
  | .bl b => some (.bl b)
  | .non => some .non
  | _ => none
theorem e_glob {x : Str} {d : D} {v : V} {u : Value} (hg : Gl X x) (hm : X.mg x = some u) (r : RelV v u) (hd : cV d = some v) (hdb : (x == ("__debug__" : Str)) = false := by decide) : PE X (.Name x pos) (ER X.K ct W (sC d)) := by
  refine (pe_glob hg hm r hdb).imp fun σ H Q ⟨env, F, E, h⟩ => h _ F H (Gr.refl E.ex) ?_
  cases d <;> first | (cases hd; done) | (injection hd with hd; subst hd; rfl)

/-- two operands, by values -/
def Sp2 (K : PySem.W.Frag) (ct : Nat → Addr) (m1 m2 : Bool) (M : Md) (r : R2) (op : D → D → Option D) : Prop := ∀ F H x y d e z Q, Ex F H → (if m1 then RepB K ct F H d x else Rep K ct F d x) → (if m2 then RepB K ct F H e y else Rep K ct F e y) → op d e = some z →
  (∀ v F' H', Gr F H F' H' → M H F' H' z v → Q v H') → r x y H Q
def ofO : Option D → R
  | some d => .ok d
  | none => .st
def s2 (op : D → D → Option D) (f g : SE) : SE := fun env => bnd (f env) fun d => bnd (g env) fun e => ofO (op d e)
def mX (K : PySem.W.Frag) (ct : Nat → Addr) (m : Bool) : Md := if m then mB K ct else mR K ct
theorem mX_gr {K : PySem.W.Frag} {m : Bool} {H0 F H F' H' : Hp} {d : D} {v : V} (g : Gr F H F' H') (h : mX K ct m H0 F H d v) : if m then RepB K ct F' H' d v else Rep K ct F' d v := by
  cases m with
  | true => exact RepB.gr g h
  | false => exact Rep.mono (Ex.le g.f) _ _ h
theorem mX_if {K : PySem.W.Frag} {m : Bool} {H0 F H : Hp} {d : D} {v : V} (h : mX K ct m H0 F H d v) : if m then RepB K ct F H d v else Rep K ct F d v := by
  cases m with
  | true => exact h
  | false => exact h
/-- where what is new at the end is new at the start -/
def MdOk (M : Md) : Prop := ∀ (H H1 F2 H2 : Hp) d v, Ex H H1 → M H1 F2 H2 d v → M H F2 H2 d v
theorem mR_ok {K : PySem.W.Frag} : MdOk (mR K ct) := fun _ _ _ _ _ _ _ h => h
theorem mB_ok {K : PySem.W.Frag} : MdOk (mB K ct) := fun _ _ _ _ _ _ _ h => h
theorem mN_ok {K : PySem.W.Frag} : MdOk (mN K ct) := fun _ _ _ _ _ _ e ⟨p, h1, h2, h3⟩ => ⟨p, h1, Ex.free e h2, h3⟩
theorem t2 {K : PySem.W.Frag} {M : Md} (hM : MdOk M) {m1 m2 : Bool} {r : R2} {op : D → D → Option D} (hs : Sp2 K ct m1 m2 M r op) {σ : L2.St} {H : Hp} {Q : VK} (h : tM K ct W M (s2 op f g) σ H Q) :
    tOp r (tM K ct W (mX K ct m1) f) (tM K ct W (mX K ct m2) g) σ H Q := by
  obtain ⟨env, F, E, h⟩ := h
  refine fin_bind (Q1 := fun x H1 => tM K ct W (mX K ct m2) g σ H1 fun y H2 => r x y H2 Q) E h rfl fun d x F1 H1 e1 g1 r1 E1 h => ?_
  have h1 : Fin K ct W M F1 H1 σ (bnd (g env) fun e => ofO (op d e)) Q := fin_after g1 (fun _ _ _ _ m => hM _ _ _ _ _ _ g1.h m) h
  refine fin_bind E1 h1 rfl fun e y F2 H2 e2 g2 r2 E2 h => ?_
  cases q : op d e with
  | none => rw [q] at h; exact h.elim
  | some z =>
    rw [q] at h
    exact hs F2 H2 x y d e z Q E2.ex (mX_gr g2 r1) (mX_if r2) q fun v F' H' g3 m => h v F' H' (g2.trans g3) (hM _ _ _ _ _ _ g2.h m)
theorem e_op {op : Operator} {r : R2} {M : Md} {m1 m2 : Bool} {o2 : D → D → Option D} (ho : OpR X (binaryOp op) r) (hM : MdOk M) (hs : Sp2 X.K ct m1 m2 M r o2) (ha : PE X a (tM X.K ct W (mX X.K ct m1) f)) (hb : PE X b (tM X.K ct W (mX X.K ct m2) g)) :
    PE X (.BinOp a op b pos) (tM X.K ct W M (s2 o2 f g)) := (pe_op ho ha hb).imp fun _ _ _ h => t2 hM hs h
theorem e_cmp {op : CmpOp} {r : R2} {m1 m2 : Bool} {o2 : D → D → Option D} (ho : OpR X (compareOp op) r) (hs : Sp2 X.K ct m1 m2 (mR X.K ct) r o2) (ha : PE X a (tM X.K ct W (mX X.K ct m1) f)) (hb : PE X b (tM X.K ct W (mX X.K ct m2) g))
    (hm : behindInMarks op b = false := by first | exact nomark _ | rfl) : PE X (.Compare a [op] [b] pos) (ER X.K ct W (s2 o2 f g)) := (pe_cmpR ho ha hb hm).imp fun _ _ _ h => t2 mR_ok hs h
theorem tt_of {K : PySem.W.Frag} {t : TE} {f : SE} {σ : L2.St} {H : Hp} {Q : Bool → Hp → Prop} (ht : ∀ Q', tM K ct W (mR K ct) f σ H Q' → t σ H Q') (h : TT1 K ct W f σ H Q) : t σ H fun x H1 => ∃ c, x = .bl c ∧ Q c H1 := by
  obtain ⟨env, F, E, h⟩ := h
  refine ht _ ⟨env, F, E, ?_⟩
  split at h
  · rename_i b q
    rw [q]
    exact fun v F' H' g m => ⟨b, m, h F' H' g⟩
  · exact h.elim
  · rename_i c fs q
    rw [q]; exact h
  · exact h.elim
theorem t_cmp {op : CmpOp} {r : R2} {m1 m2 : Bool} {o2 : D → D → Option D} (ho : OpR X (compareOp op) r) (hs : Sp2 X.K ct m1 m2 (mR X.K ct) r o2) (ha : PE X a (tM X.K ct W (mX X.K ct m1) f)) (hb : PE X b (tM X.K ct W (mX X.K ct m2) g))
    (hm : behindInMarks op b = false := by first | exact nomark _ | rfl) : PT X (.Compare a [op] [b] pos) (TT1 X.K ct W (s2 o2 f g)) := (pt_cmpR ho ha hb hm).imp fun _ _ _ h => tt_of (fun _ q => t2 mR_ok hs q) h
theorem t_val (h : PE X e (ER X.K ct W f)) (he : ∀ whole, isTrue e X.env whole = (do let v ← whole; standAt e.pos; holding [v] (truthy v)) := by intro _; rfl) : PT X e (TT1 X.K ct W f) := (pt_val h he).imp fun _ _ _ h => tt_of (fun _ q => q) h
def sNot (f : SE) : SE := fun env => bnd (f env) fun d => match d with
  | .bl b => .ok (.bl (!b))
  | _ => .st
def sAnd (f g : SE) : SE := fun env => bnd (f env) fun d => match d with
  | .bl true => g env
  | .bl false => .ok (.bl false)
  | _ => .st
def sOr (f g : SE) : SE := fun env => bnd (f env) fun d => match d with
  | .bl true => .ok (.bl true)
  | .bl false => g env
  | _ => .st
def sIf (c f g : SE) : SE := fun env => bnd (c env) fun d => match d with
  | .bl true => f env
  | .bl false => g env
  | _ => .st
def FinT (K : PySem.W.Frag) (ct : Nat → Addr) (W : WX) (F H : Hp) (σ : L2.St) (r : R) (Q : Bool → Hp → Prop) : Prop := match r with
  | .ok (.bl b) => ∀ F' H', Gr F H F' H' → Q b H'
  | .ok _ => False
  | .er c fs => ∀ dx F' H', Gr F H F' H' → ExcOk K ct F' dx fs → W (.ref (ct c)) dx σ H'
  | .st => False
theorem TT1_eq {K : PySem.W.Frag} {f : SE} {σ : L2.St} {H : Hp} {Q : Bool → Hp → Prop} : TT1 K ct W f σ H Q = ∃ env F, EnvOk K ct F H env σ ∧ FinT K ct W F H σ (f env) Q := rfl
theorem finT_after {K : PySem.W.Frag} {F H F' H' : Hp} {σ : L2.St} {r : R} {Q : Bool → Hp → Prop} (g : Gr F H F' H') (h : FinT K ct W F H σ r Q) : FinT K ct W F' H' σ r Q := by
  cases r with
  | ok d => cases d <;> first | exact h.elim | exact fun F2 H2 g2 => h F2 H2 (g.trans g2)
  | er c fs => exact fun dx F2 H2 g2 x => h dx F2 H2 (g.trans g2) x
  | st => exact h
theorem tt_bind {K : PySem.W.Frag} {F H : Hp} {σ : L2.St} {env : En} {f : SE} {C : Prop} {Q1 : Bool → Hp → Prop} (E : EnvOk K ct F H env σ)
    (hb : ∀ b, f env = .ok (.bl b) → ∀ F1 H1, Gr F H F1 H1 → EnvOk K ct F1 H1 env σ → Q1 b H1)
    (he : ∀ c fs, f env = .er c fs → ∀ dx F' H', Gr F H F' H' → ExcOk K ct F' dx fs → W (.ref (ct c)) dx σ H')
    (hs : (∀ b, f env ≠ .ok (.bl b)) → (∀ c fs, f env ≠ .er c fs) → False) : TT1 K ct W f σ H Q1 := by
  refine ⟨env, F, E, ?_⟩
  cases e : f env with
  | ok d =>
    cases d with
    | bl b => exact fun F1 H1 g => hb b e F1 H1 g (E.gr g)
    | _ => exact hs (fun b q => by rw [e] at q; cases q) (fun c fs q => by rw [e] at q; cases q)
  | er c fs => exact he c fs e
  | st => exact hs (fun b q => by rw [e] at q; cases q) (fun c fs q => by rw [e] at q; cases q)
theorem t_not (h : PT X a (TT1 X.K ct W f)) : PT X (.UnaryOp .Not a pos) (TT1 X.K ct W (sNot f)) := by
  refine (pt_not h).imp fun σ H Q ⟨env, F, E, h⟩ => ?_
  refine tt_bind (C := True) E (fun b e F1 H1 g _ => ?_) (fun c fs e => ?_) (fun n1 n2 => ?_)
  · rw [show sNot f env = .ok (.bl (!b)) from by unfold sNot; rw [e]; rfl] at h
    exact h F1 H1 g
  · rw [show sNot f env = .er c fs from by unfold sNot; rw [e]; rfl] at h
    exact h
  · unfold sNot at h
    cases e : f env with
    | ok d => rw [e] at h; cases d <;> first | exact n1 _ e | exact h.elim
    | er c fs => exact n2 _ _ e
    | st => rw [e] at h; exact h.elim
theorem t_and1 (ha : PT X a (TT1 X.K ct W f)) : PW X (.BoolOp .And [a] pos) (TT1 X.K ct W f) := pw_and1 ha
theorem t_or1 (ha : PT X a (TT1 X.K ct W f)) : PW X (.BoolOp .Or [a] pos) (TT1 X.K ct W f) := pw_or1 ha
theorem t_and {rest : List Expr} (ha : PT X a (TT1 X.K ct W f)) (hb : PW X (.BoolOp .And (b :: rest) pos) (TT1 X.K ct W g)) : PW X (.BoolOp .And (a :: b :: rest) pos) (TT1 X.K ct W (sAnd f g)) := by
  refine (pw_and ha hb).imp fun σ H Q ⟨env, F, E, h⟩ => ?_
  refine tt_bind (C := True) E (fun b e F1 H1 g1 E1 => ?_) (fun c fs e => ?_) (fun n1 n2 => ?_)
  · have hh : FinT X.K ct W F H σ (sAnd f g env) Q := h
    unfold sAnd at hh
    rw [e] at hh
    cases b with
    | true =>
      show TT1 X.K ct W g σ H1 Q
      exact ⟨env, F1, E1, finT_after g1 hh⟩
    | false => exact hh F1 H1 g1
  · rw [show sAnd f g env = .er c fs from by unfold sAnd; rw [e]; rfl] at h
    exact h
  · unfold sAnd at h
    cases e : f env with
    | ok d => rw [e] at h; cases d <;> first | exact n1 _ e | exact h.elim
    | er c fs => exact n2 _ _ e
    | st => rw [e] at h; exact h.elim
theorem t_or {rest : List Expr} (ha : PT X a (TT1 X.K ct W f)) (hb : PW X (.BoolOp .Or (b :: rest) pos) (TT1 X.K ct W g)) : PW X (.BoolOp .Or (a :: b :: rest) pos) (TT1 X.K ct W (sOr f g)) := by
  refine (pw_or ha hb).imp fun σ H Q ⟨env, F, E, h⟩ => ?_
  refine tt_bind (C := True) E (fun b e F1 H1 g1 E1 => ?_) (fun c fs e => ?_) (fun n1 n2 => ?_)
  · have hh : FinT X.K ct W F H σ (sOr f g env) Q := h
    unfold sOr at hh
    rw [e] at hh
    cases b with
    | true => exact hh F1 H1 g1
    | false =>
      show TT1 X.K ct W g σ H1 Q
      exact ⟨env, F1, E1, finT_after g1 hh⟩
  · rw [show sOr f g env = .er c fs from by unfold sOr; rw [e]; rfl] at h
    exact h
  · unfold sOr at h
    cases e : f env with
    | ok d => rw [e] at h; cases d <;> first | exact n1 _ e | exact h.elim
    | er c fs => exact n2 _ _ e
    | st => rw [e] at h; exact h.elim
/-- the same as values -/
theorem e_one {op} (h : PE X a (ER X.K ct W f)) : PE X (.BoolOp op [a] pos) (ER X.K ct W f) := pe_one h
theorem e_not (h : PE X a (ER X.K ct W f)) : PE X (.UnaryOp .Not a pos) (ER X.K ct W (sNot f)) := by
  refine (pe_not h).imp fun σ H Q ⟨env, F, E, h⟩ => ?_
  refine fin_bind E h rfl fun d v F1 H1 e1 g1 r1 E1 h => ?_
  cases d <;> first | exact h.elim | skip
  exact ⟨_, r1, h _ F1 H1 g1 rfl⟩
theorem e_and {rest : List Expr} (ha : PE X a (ER X.K ct W f)) (hb : PE X (.BoolOp .And (b :: rest) pos) (ER X.K ct W g)) : PE X (.BoolOp .And (a :: b :: rest) pos) (ER X.K ct W (sAnd f g)) := by
  refine (pe_and ha hb).imp fun σ H Q ⟨env, F, E, h⟩ => ?_
  refine fin_bind E h rfl fun d v F1 H1 e1 g1 r1 E1 h => ?_
  cases d <;> first | exact h.elim | skip
  rename_i b
  refine ⟨_, r1, ?_⟩
  cases b with
  | true => exact ⟨env, F1, E1, fin_after g1 (fun _ _ _ _ m => m) h⟩
  | false => exact h _ F1 H1 g1 rfl
theorem e_or {rest : List Expr} (ha : PE X a (ER X.K ct W f)) (hb : PE X (.BoolOp .Or (b :: rest) pos) (ER X.K ct W g)) : PE X (.BoolOp .Or (a :: b :: rest) pos) (ER X.K ct W (sOr f g)) := by
  refine (pe_or ha hb).imp fun σ H Q ⟨env, F, E, h⟩ => ?_
  refine fin_bind E h rfl fun d v F1 H1 e1 g1 r1 E1 h => ?_
  cases d <;> first | exact h.elim | skip
  rename_i b
  refine ⟨_, r1, ?_⟩
  cases b with
  | true => exact h _ F1 H1 g1 rfl
  | false => exact ⟨env, F1, E1, fin_after g1 (fun _ _ _ _ m => m) h⟩

/-! ### arguments -/
def aNil : SA := fun _ => .ok []
def aCons (f : SE) (g : SA) : SA := fun env => match f env with
  | .ok d => (match g env with
    | .ok ds => .ok (d :: ds)
    | .er c fs => .er c fs
    | .st => .st)
  | .er c fs => .er c fs
  | .st => .st
theorem ArgsRep.gr {K : PySem.W.Frag} {F H F' H' : Hp} (g : Gr F H F' H') : ∀ {ms : List Bool} {ds : List D} {vs : List V}, ArgsRep K ct F H ms ds vs → ArgsRep K ct F' H' ms ds vs
  | [], _, _, h => h
  | m :: ms, _, _, ⟨d, ds', v, vs', e1, e2, h, r⟩ => ⟨d, ds', v, vs', e1, e2, by
      cases m with
      | true => exact RepB.gr g h
      | false => exact Rep.mono (Ex.le g.f) _ _ h, ArgsRep.gr g r⟩
theorem ArgsRep.length {K : PySem.W.Frag} {F H : Hp} : ∀ {ms : List Bool} {ds : List D} {vs : List V}, ArgsRep K ct F H ms ds vs → vs.length = ms.length
  | [], _, _, h => by rw [h.2]; rfl
  | m :: ms, _, _, ⟨d, ds', v, vs', e1, e2, h, r⟩ => by rw [e2, List.length_cons, List.length_cons, ArgsRep.length r]
theorem a_nil : PA X [] (tA X.K ct W [] aNil) := pa_nil.imp fun σ H Q ⟨env, F, E, h⟩ => h [] F H (Gr.refl E.ex) ⟨rfl, rfl⟩
theorem a_cons {m : Bool} {ms : List Bool} {es : List Expr} {fs : SA} (ha : PE X e (tM X.K ct W (mX X.K ct m) f)) (hr : PA X es (tA X.K ct W ms fs)) (hs : starEach (e :: es) X.env = (false, eval e X.env) :: starEach es X.env := by rfl) : PA X (e :: es) (tA X.K ct W (m :: ms) (aCons f fs)) := by
  refine (pa_cons ha hr hs).imp fun σ H Q ⟨env, F, E, h⟩ => ⟨env, F, E, ?_⟩
  unfold aCons at h
  cases e1 : f env with
  | ok d =>
    rw [e1] at h
    refine fun v F1 H1 g1 r1 => ⟨env, F1, E.gr g1, ?_⟩
    cases e2 : fs env with
    | ok ds =>
      rw [e2] at h
      exact fun vs F2 H2 g2 r2 => h (v :: vs) F2 H2 (g1.trans g2) ⟨d, ds, v, vs, rfl, rfl, mX_gr g2 r1, r2⟩
    | er c fs =>
      rw [e2] at h
      exact fun dx F2 H2 g2 x => h dx F2 H2 (g1.trans g2) x
    | st => rw [e2] at h; exact h.elim
  | er c fs => rw [e1] at h; exact h
  | st => rw [e1] at h; exact h.elim
theorem fin_bindA {K : PySem.W.Frag} {M : Md} {F H : Hp} {σ : L2.St} {Q : VK} {env : En} {ms : List Bool} {f : SA} {k : List D → R} (E : EnvOk K ct F H env σ) (h : Fin K ct W M F H σ (bndA (f env) k) Q)
    {Q1 : List V → Hp → Prop} (hk : ∀ ds vs F1 H1, Gr F H F1 H1 → ArgsRep K ct F1 H1 ms ds vs → EnvOk K ct F1 H1 env σ → Fin K ct W M F H σ (k ds) Q → Q1 vs H1) : tA K ct W ms f σ H Q1 := by
  refine ⟨env, F, E, ?_⟩
  cases e : f env with
  | ok d =>
    rw [e] at h
    exact fun vs F1 H1 g m => hk d vs F1 H1 g m (E.gr g) h
  | er c fs =>
    rw [e] at h
    exact h
  | st =>
    rw [e] at h
    exact h
end
end Ps

namespace Ps
open PySem L2

/-! ### operators on data -/
def dAdd : D → D → Option D
  | .int i, .int j => some (.int (i + j))
  | .str x, .str y => if x.length + y.length ≤ sizeLine then some (.str (x ++ y)) else none
  | _, _ => none
def dCat : D → D → Option D
  | .lst xs, .lst ys => if xs.length + ys.length ≤ sizeLine then some (.lst (xs ++ ys)) else none
  | _, _ => none
def dSub : D → D → Option D
  | .int i, .int j => some (.int (i - j))
  | _, _ => none
def dMul : D → D → Option D
  | .int i, .int j => if (-(2 ^ 64) < i ∧ i < 2 ^ 64) ∨ (-(2 ^ 64) < j ∧ j < 2 ^ 64) then some (.int (i * j)) else none
  | _, _ => none
def dFdiv : D → D → Option D
  | .int i, .int j => if 0 < j ∧ j < 1073741824 then some (.int (i / j)) else none
  | _, _ => none
def dMod : D → D → Option D
  | .int i, .int j => if 0 < j then some (.int (i % j)) else none
  | _, _ => none
def dPow : D → D → Option D
  | .int i, .int j => if 0 ≤ j ∧ j ≤ 1000000 ∧ i.natAbs < 2 ^ 64 then some (.int (i ^ j.toNat)) else none
  | _, _ => none
def dLt : D → D → Option D
  | .int i, .int j => some (.bl (decide (i < j)))
  | _, _ => none
def dLe : D → D → Option D
  | .int i, .int j => some (.bl (decide (i ≤ j)))
  | _, _ => none
def dGt : D → D → Option D
  | .int i, .int j => some (.bl (decide (j < i)))
  | _, _ => none
def dGe : D → D → Option D
  | .int i, .int j => some (.bl (decide (j ≤ i)))
  | _, _ => none
def isNonD : D → Bool
  | .non => true
  | _ => false
def dIs : D → D → Option D
  | d, .non => some (.bl (isNonD d))
  | _, _ => none
def dIsNot : D → D → Option D
  | d, .non => some (.bl (!isNonD d))
  | _, _ => none
mutual
def toP : D → Option PyData
  | .non => some .none
  | .bl b => some (.bool b)
  | .int i => some (.int i)
  | .str x => some (.str x)
  | .lst ds => (toPs ds).map .list
  | .tup ds => (toPs ds).map .tuple
  | .scr ns => some (.list (ns.map .int))
  | _ => none
def toPs : List D → Option (List PyData)
  | [] => some []
  | d :: ds => (toP d).bind fun p => (toPs ds).map fun ps => p :: ps
end
def dEq (d e : D) : Option D := (toP d).bind fun p => (toP e).bind fun q => if SeqAt.shaped p && SeqAt.shaped q then some (.bl (PyData.eqv p q)) else none
def dNe (d e : D) : Option D := (toP d).bind fun p => (toP e).bind fun q => if SeqAt.shaped p && SeqAt.shaped q then some (.bl (!PyData.eqv p q)) else none

section
variable {K : PySem.W.Frag} {ct : Nat → Addr} {F H : Hp}
theorem dpAll_ints : ∀ (ns : List Int), DpAll K H (ns.map V.int) (ns.map PyData.int)
  | [] => .nil
  | n :: ns => .cons (.int n) (dpAll_ints ns)
mutual
theorem Rep.dp : ∀ (d : D) (v : V) (p : PyData), Rep K ct F d v → toP d = some p → Dp K F v p
  | .non, v, p, h, e => by cases e; rw [show v = .non from h]; exact .non
  | .bl b, v, p, h, e => by cases e; rw [show v = .bl b from h]; exact .bl b
  | .int i, v, p, h, e => by cases e; rw [show v = .int i from h]; exact .int i
  | .str x, v, p, h, e => by cases e; rw [show v = .str x from h]; exact .str x
  | .lst ds, v, p, h, e => by
    obtain ⟨a, vs, e1, e2, e3⟩ := h
    obtain ⟨ps, q1, q2⟩ := Option.map_eq_some_iff.mp (show (toPs ds).map .list = some p from e)
    subst e1 q2
    exact .lst (.inl (.inl e2)) (Reps.dp ds vs ps e3 q1)
  | .tup ds, v, p, h, e => by
    obtain ⟨a, vs, e1, e2, e3⟩ := h
    obtain ⟨ps, q1, q2⟩ := Option.map_eq_some_iff.mp (show (toPs ds).map .tuple = some p from e)
    subst e1 q2
    exact .tup (.inl (.inl e2)) (Reps.dp ds vs ps e3 q1)
  | .scr ns, v, p, h, e => by
    obtain ⟨a, e1, e2⟩ := h
    cases e; subst e1
    exact .lst e2 (dpAll_ints ns)
  | .dk _, _, _, _, e => by cases e
  | .dt _, _, _, _, e => by cases e
  | .obj _ _, _, _, _, e => by cases e
  | .exo _ _, _, _, _, e => by cases e
theorem Reps.dp : ∀ (ds : List D) (vs : List V) (ps : List PyData), Reps K ct F ds vs → toPs ds = some ps → DpAll K F vs ps
  | [], vs, ps, h, e => by cases e; rw [show vs = [] from h]; exact .nil
  | d :: ds, vs, ps, h, e => by
    obtain ⟨v, r, e1, e2, e3⟩ := h
    obtain ⟨p, q1, q2⟩ := Option.bind_eq_some_iff.mp (show ((toP d).bind fun p => (toPs ds).map fun ps => p :: ps) = some ps from e)
    obtain ⟨ps', q3, q4⟩ := Option.map_eq_some_iff.mp q2
    subst e1 q4
    exact .cons (Rep.dp d v p e2 q1) (Reps.dp ds r ps' e3 q3)
end
end

section
variable {K : PySem.W.Frag} {ct : Nat → Addr}
/-- two ints, a flat answer -/
theorem sp_int {m1 m2 : Bool} {r : R2} {op : D → D → Option D} (ho : ∀ d e z, op d e = some z → ∃ i j w, d = .int i ∧ e = .int j ∧ cV z = some w ∧ ∀ (H : Hp) (Q : VK), Q w H → r (.int i) (.int j) H Q) : Sp2 K ct m1 m2 (mR K ct) r op := by
  intro F H x y d e z Q ex hx hy hz hQ
  obtain ⟨i, j, w, rfl, rfl, hw, hr⟩ := ho d e z hz
  have ex1 : x = .int i := by cases m1 <;> exact hx
  have ey1 : y = .int j := by cases m2 <;> exact hy
  subst ex1 ey1
  refine hr H Q (hQ w F H (Gr.refl ex) ?_)
  cases z <;> first | (cases hw; done) | (injection hw with hw; subst hw; rfl)
def rAdd1 : R2 := fun x y H Q => (rI0 (fun i j => .int (i + j)) x y H Q) ∨ (∃ i j, x = .str i ∧ y = .str j ∧ i.length + j.length ≤ sizeLine ∧ Q (.str (i ++ j)) H)
theorem op_add1 {X : Cx} : OpR X (binaryOp .Add) rAdd1 := op_add.or op_add_str
theorem sp_add {m1 m2 : Bool} : Sp2 K ct m1 m2 (mR K ct) rAdd1 dAdd := by
  intro F H x y d e z Q ex hx hy hz hQ
  cases d <;> cases e <;> first | (cases hz; done) | skip
  · rename_i i j
    have ex1 : x = .int i := by cases m1 <;> exact hx
    have ey1 : y = .int j := by cases m2 <;> exact hy
    subst ex1 ey1
    cases hz
    exact .inl ⟨i, j, rfl, rfl, hQ _ F H (Gr.refl ex) rfl⟩
  · rename_i i j
    have ex1 : x = .str i := by cases m1 <;> exact hx
    have ey1 : y = .str j := by cases m2 <;> exact hy
    subst ex1 ey1
    simp only [dAdd] at hz
    split at hz
    · rename_i hl
      cases hz
      exact .inr ⟨i, j, rfl, rfl, hl, hQ _ F H (Gr.refl ex) rfl⟩
    · cases hz
theorem mb_lst {m : Bool} {F H : Hp} {ds : List D} {x : V} (ex : Ex F H) (h : if m then RepB K ct F H (.lst ds) x else Rep K ct F (.lst ds) x) : ∃ a vs, x = .ref a ∧ H a = some (.lst vs) ∧ Reps K ct F ds vs := by
  cases m with
  | true => exact h
  | false => exact Rep.b ex (d := .lst ds) h
theorem sp_cat {m1 m2 : Bool} : Sp2 K ct m1 m2 (mN K ct) rCat dCat := by
  intro F H x y d e z Q ex hx hy hz hQ
  cases d <;> cases e <;> first | (cases hz; done) | skip
  rename_i ds es
  obtain ⟨a, vs, rfl, h1, r1⟩ := mb_lst ex hx
  obtain ⟨b, us, rfl, h2, r2⟩ := mb_lst ex hy
  simp only [dCat] at hz
  split at hz
  · rename_i hl
    cases hz
    refine ⟨a, b, vs, us, rfl, rfl, h1, h2, by rw [r1.length, r2.length]; exact hl, fun p hp => hQ _ F _ (Gr.own ex hp) ⟨p, rfl, hp, Ex.free ex hp, vs ++ us, upd_same, r1.append r2⟩⟩
  · cases hz
theorem sp_sub {m1 m2 : Bool} : Sp2 K ct m1 m2 (mR K ct) (rI0 fun i j => .int (i - j)) dSub := sp_int fun d e z h => by
  cases d <;> cases e <;> cases h
  exact ⟨_, _, _, rfl, rfl, rfl, fun H Q q => ⟨_, _, rfl, rfl, q⟩⟩
theorem sp_mul {m1 m2 : Bool} : Sp2 K ct m1 m2 (mR K ct) (rI CMul fun i j => .int (i * j)) dMul := sp_int fun d e z h => by
  cases d <;> cases e <;> first | (cases h; done) | skip
  simp only [dMul] at h
  split at h
  · rename_i hc
    cases h
    exact ⟨_, _, _, rfl, rfl, rfl, fun H Q q => ⟨_, _, rfl, rfl, hc, q⟩⟩
  · cases h
theorem sp_fdiv {m1 m2 : Bool} : Sp2 K ct m1 m2 (mR K ct) (rI CDiv fun i j => .int (i / j)) dFdiv := sp_int fun d e z h => by
  cases d <;> cases e <;> first | (cases h; done) | skip
  simp only [dFdiv] at h
  split at h
  · rename_i hc
    cases h
    exact ⟨_, _, _, rfl, rfl, rfl, fun H Q q => ⟨_, _, rfl, rfl, hc, q⟩⟩
  · cases h
theorem sp_mod {m1 m2 : Bool} : Sp2 K ct m1 m2 (mR K ct) (rI (fun _ j => 0 < j) fun i j => .int (i % j)) dMod := sp_int fun d e z h => by
  cases d <;> cases e <;> first | (cases h; done) | skip
  simp only [dMod] at h
  split at h
  · rename_i hc
    cases h
    exact ⟨_, _, _, rfl, rfl, rfl, fun H Q q => ⟨_, _, rfl, rfl, hc, q⟩⟩
  · cases h
theorem sp_pow {m1 m2 : Bool} : Sp2 K ct m1 m2 (mR K ct) (rI CPow fun i j => .int (i ^ j.toNat)) dPow := sp_int fun d e z h => by
  cases d <;> cases e <;> first | (cases h; done) | skip
  simp only [dPow] at h
  split at h
  · rename_i hc
    cases h
    exact ⟨_, _, _, rfl, rfl, rfl, fun H Q q => ⟨_, _, rfl, rfl, hc, q⟩⟩
  · cases h
theorem sp_lt {m1 m2 : Bool} : Sp2 K ct m1 m2 (mR K ct) (rI0 fun i j => .bl (decide (i < j))) dLt := sp_int fun d e z h => by
  cases d <;> cases e <;> cases h
  exact ⟨_, _, _, rfl, rfl, rfl, fun H Q q => ⟨_, _, rfl, rfl, q⟩⟩
theorem sp_le {m1 m2 : Bool} : Sp2 K ct m1 m2 (mR K ct) (rI0 fun i j => .bl (decide (i ≤ j))) dLe := sp_int fun d e z h => by
  cases d <;> cases e <;> cases h
  exact ⟨_, _, _, rfl, rfl, rfl, fun H Q q => ⟨_, _, rfl, rfl, q⟩⟩
theorem sp_gt {m1 m2 : Bool} : Sp2 K ct m1 m2 (mR K ct) (rI0 fun i j => .bl (decide (j < i))) dGt := sp_int fun d e z h => by
  cases d <;> cases e <;> cases h
  exact ⟨_, _, _, rfl, rfl, rfl, fun H Q q => ⟨_, _, rfl, rfl, q⟩⟩
theorem sp_ge {m1 m2 : Bool} : Sp2 K ct m1 m2 (mR K ct) (rI0 fun i j => .bl (decide (j ≤ i))) dGe := sp_int fun d e z h => by
  cases d <;> cases e <;> cases h
  exact ⟨_, _, _, rfl, rfl, rfl, fun H Q q => ⟨_, _, rfl, rfl, q⟩⟩
theorem rep_all {m : Bool} {F H : Hp} {d : D} {x : V} (ex : Ex F H) (h : if m then RepB K ct F H d x else Rep K ct F d x) : Rep K ct H d x := by
  cases m with
  | true => exact RepB.all ex h
  | false => exact Rep.mono (Ex.le ex) _ _ h
theorem sp_eq {m1 m2 : Bool} : Sp2 K ct m1 m2 (mR K ct) (rEqD K) dEq := by
  intro F H x y d e z Q ex hx hy hz hQ
  obtain ⟨p, q1, hz⟩ := Option.bind_eq_some_iff.mp hz
  obtain ⟨q, q2, hz⟩ := Option.bind_eq_some_iff.mp hz
  split at hz
  · rename_i hs
    obtain ⟨s1, s2⟩ := Bool.and_eq_true_iff.mp hs
    cases hz
    exact ⟨p, q, Rep.dp _ _ _ (rep_all ex hx) q1, Rep.dp _ _ _ (rep_all ex hy) q2, s1, s2, hQ _ F H (Gr.refl ex) rfl⟩
  · cases hz
theorem sp_ne {m1 m2 : Bool} : Sp2 K ct m1 m2 (mR K ct) (rNeD K) dNe := by
  intro F H x y d e z Q ex hx hy hz hQ
  obtain ⟨p, q1, hz⟩ := Option.bind_eq_some_iff.mp hz
  obtain ⟨q, q2, hz⟩ := Option.bind_eq_some_iff.mp hz
  split at hz
  · rename_i hs
    obtain ⟨s1, s2⟩ := Bool.and_eq_true_iff.mp hs
    cases hz
    exact ⟨p, q, Rep.dp _ _ _ (rep_all ex hx) q1, Rep.dp _ _ _ (rep_all ex hy) q2, s1, s2, hQ _ F H (Gr.refl ex) rfl⟩
  · cases hz
theorem isNon_of {m : Bool} {F H : Hp} {d : D} {x : V} (h : if m then RepB K ct F H d x else Rep K ct F d x) : decide (x = .non) = isNonD d := by
  cases d with
  | non => have e : x = .non := by cases m <;> exact h
           subst e; rfl
  | bl b => have e : x = .bl b := by cases m <;> exact h
            subst e; rfl
  | int i => have e : x = .int i := by cases m <;> exact h
             subst e; rfl
  | str i => have e : x = .str i := by cases m <;> exact h
             subst e; rfl
  | lst ds => obtain ⟨a, e⟩ : ∃ a, x = .ref a := by cases m <;> exact let ⟨a, _, e, _⟩ := h; ⟨a, e⟩
              subst e; rfl
  | tup ds => obtain ⟨a, e⟩ : ∃ a, x = .ref a := by cases m <;> exact let ⟨a, _, e, _⟩ := h; ⟨a, e⟩
              subst e; rfl
  | scr ds => obtain ⟨a, e⟩ : ∃ a, x = .ref a := by cases m <;> exact let ⟨a, e, _⟩ := h; ⟨a, e⟩
              subst e; rfl
  | dk ds => obtain ⟨a, e⟩ : ∃ a, x = .ref a := by cases m <;> exact let ⟨a, _, e, _⟩ := h; ⟨a, e⟩
             subst e; rfl
  | dt ds => obtain ⟨a, e⟩ : ∃ a, x = .ref a := by cases m <;> exact let ⟨a, _, e, _⟩ := h; ⟨a, e⟩
             subst e; rfl
  | obj c fs => obtain ⟨a, e⟩ : ∃ a, x = .ref a := by cases m <;> exact let ⟨a, _, _, e, _⟩ := h; ⟨a, e⟩
                subst e; rfl
  | exo c fs => obtain ⟨a, e⟩ : ∃ a, x = .ref a := by cases m <;> exact let ⟨a, _, e, _⟩ := h; ⟨a, e⟩
                subst e; rfl
theorem sp_is {m1 m2 : Bool} : Sp2 K ct m1 m2 (mR K ct) (fun x y H Q => y = .non ∧ Q (.bl (decide (x = .non))) H) dIs := by
  intro F H x y d e z Q ex hx hy hz hQ
  cases e <;> first | (cases d <;> cases hz; done) | skip
  have hz' : z = .bl (isNonD d) := by cases d <;> cases hz <;> rfl
  subst hz'
  refine ⟨by cases m2 <;> exact hy, ?_⟩
  rw [isNon_of hx]
  exact hQ _ F H (Gr.refl ex) rfl
theorem sp_isNot {m1 m2 : Bool} : Sp2 K ct m1 m2 (mR K ct) (fun x y H Q => y = .non ∧ Q (.bl (!decide (x = .non))) H) dIsNot := by
  intro F H x y d e z Q ex hx hy hz hQ
  cases e <;> first | (cases d <;> cases hz; done) | skip
  have hz' : z = .bl (!isNonD d) := by cases d <;> cases hz <;> rfl
  subst hz'
  refine ⟨by cases m2 <;> exact hy, ?_⟩
  rw [isNon_of hx]
  exact hQ _ F H (Gr.refl ex) rfl
end

/-! ### membership -/
def dFlat : D → Bool
  | .non => true | .bl _ => true | .int _ => true | .str _ => true | _ => false
def keyD : D → Option Key
  | .int i => some (.inl i)
  | .str x => some (.inr x)
  | _ => none
def keysD : List D → Option (List Key)
  | [] => some []
  | d :: ds => (keyD d).bind fun k => (keysD ds).map fun ks => k :: ks
def eqF : D → D → Bool
  | .non, .non => true
  | .bl a, .bl b => a == b
  | .int a, .int b => a == b
  | .str a, .str b => decide (a = b)
  | .bl a, .int b => (if a then 1 else 0) == b
  | .int a, .bl b => a == (if b then 1 else 0)
  | _, _ => false
def toV : D → V
  | .non => .non | .bl b => .bl b | .int i => .int i | .str x => .str x | _ => .non
def valD {κ : Type} [DecidableEq κ] (kvs : List (κ × D)) (k : κ) : Option D := (kvs.find? fun kv => decide (kv.1 = k)).map (·.2)
/-- x in y; text in text, flat thing in a list or tuple of flat ones, key in a dict -/
def inD (d e : D) : Option Bool := match e with
  | .str y => (match d with
    | .str x => some (!(Builtin.Str.occurrences y x 0 y.length 1).isEmpty)
    | _ => none)
  | .lst ds => if dFlat d && ds.all dFlat then some (inV (toV d) (ds.map toV)) else none
  | .tup ds => if dFlat d && ds.all dFlat then some (inV (toV d) (ds.map toV)) else none
  | .dk kvs => (keyD d).map fun k => (valD kvs k).isSome
  | .dt kvs => (match d with
    | .tup ds => (keysD ds).map fun k => (valD kvs k).isSome
    | _ => none)
  | _ => none
def dIn (d e : D) : Option D := (inD d e).map .bl
def dNotIn (d e : D) : Option D := (inD d e).map fun b => .bl (!b)
def rInD : R2 := fun x y H Q => ∃ a o, y = .ref a ∧ DGet H a x o ∧ Q (.bl o.isSome) H
def rNotInD : R2 := fun x y H Q => ∃ a o, y = .ref a ∧ DGet H a x o ∧ Q (.bl (!o.isSome)) H
theorem op_inD {X : Cx} (hu : X.A.units + 1 < cLine) : OpR X (compareOp .In) rInD := by
  intro pins s σ H x y v u Q I rx ry h
  obtain ⟨a, o, rfl, g, q⟩ := h
  obtain rfl : u = Value.ref a := ry
  exact d_in hu I g rx fun s' I' => ⟨.bl o.isSome, H, I', rfl, q⟩
theorem op_notInD {X : Cx} (hu : X.A.units + 1 < cLine) : OpR X (compareOp .NotIn) rNotInD := by
  intro pins s σ H x y v u Q I rx ry h
  obtain ⟨a, o, rfl, g, q⟩ := h
  obtain rfl : u = Value.ref a := ry
  exact d_notIn hu I g rx fun s' I' => ⟨.bl (!o.isSome), H, I', rfl, q⟩
abbrev rIn1 (K : PySem.W.Frag) : R2 := fun x y H Q => (∃ i j, x = .str i ∧ y = .str j ∧ Q (.bl (!(Builtin.Str.occurrences j i 0 j.length 1).isEmpty)) H) ∨ (rIn K false x y H Q ∨ rInD x y H Q)
abbrev rNotIn1 (K : PySem.W.Frag) : R2 := fun x y H Q => (∃ i j, x = .str i ∧ y = .str j ∧ Q (.bl (!(!(Builtin.Str.occurrences j i 0 j.length 1).isEmpty))) H) ∨ (rIn K true x y H Q ∨ rNotInD x y H Q)
theorem op_in1 {X : Cx} (hu : X.A.units + 1 < cLine) : OpR X (compareOp .In) (rIn1 X.K) := op_in_str.or (op_in_seq.or (op_inD hu))
theorem op_notIn1 {X : Cx} (hu : X.A.units + 1 < cLine) : OpR X (compareOp .NotIn) (rNotIn1 X.K) := op_notin_str.or (op_notIn_seq.or (op_notInD hu))

section
variable {K : PySem.W.Frag} {ct : Nat → Addr} {F H : Hp}
theorem rep_flat {d : D} {v : V} (h : Rep K ct F d v) (f : dFlat d = true) : v = toV d ∧ flatV v = true := by
  cases d <;> first | (cases f; done) | (rw [show v = _ from h]; exact ⟨rfl, rfl⟩)
theorem reps_flat : ∀ {ds : List D} {vs : List V}, Reps K ct F ds vs → ds.all dFlat = true → vs = ds.map toV ∧ vs.all flatV = true
  | [], vs, h, _ => by rw [show vs = [] from h]; exact ⟨rfl, rfl⟩
  | d :: ds, vs, h, f => by
    obtain ⟨v, r, e1, e2, e3⟩ := h
    obtain ⟨f1, f2⟩ := Bool.and_eq_true_iff.mp (by rw [List.all_cons] at f; exact f)
    obtain ⟨g1, g2⟩ := rep_flat e2 f1
    obtain ⟨g3, g4⟩ := reps_flat e3 f2
    subst e1
    exact ⟨by rw [List.map_cons, ← g1, ← g3], by rw [List.all_cons, g2, g4]; rfl⟩
theorem rep_key {d : D} {v : V} {k : Key} (h : Rep K ct F d v) (f : keyD d = some k) : v = kV k := by
  cases d <;> first | (cases f; done) | (cases f; exact h)
theorem reps_keys : ∀ {ds : List D} {vs : List V} {ks : List Key}, Reps K ct F ds vs → keysD ds = some ks → vs = ks.map kV
  | [], vs, ks, h, f => by cases f; exact h
  | d :: ds, vs, ks, h, f => by
    obtain ⟨v, r, e1, e2, e3⟩ := h
    obtain ⟨k, q1, q2⟩ := Option.bind_eq_some_iff.mp (show ((keyD d).bind fun k => (keysD ds).map fun ks => k :: ks) = some ks from f)
    obtain ⟨ks', q3, q4⟩ := Option.map_eq_some_iff.mp q2
    subst e1 q4
    rw [rep_key e2 q1, reps_keys e3 q3]; rfl
theorem repK_val : ∀ {kvs : List (Key × D)} {vs : List (Key × V)} (k : Key), RepK K ct F kvs vs → (valD kvs k = none ∧ valV vs k = none) ∨ ∃ d v, valD kvs k = some d ∧ valV vs k = some v ∧ Rep K ct F d v
  | [], vs, k, h => by rw [show vs = [] from h]; exact .inl ⟨rfl, rfl⟩
  | (k', d) :: kvs, vs, k, h => by
    obtain ⟨v, r, e1, e2, e3⟩ := h
    subst e1
    by_cases e : k' = k
    · subst e
      exact .inr ⟨d, v, by simp [valD, List.find?_cons], by rw [valV_pos rfl], e2⟩
    · have h1 : valD ((k', d) :: kvs) k = valD kvs k := by simp [valD, List.find?_cons, e]
      rw [h1, valV_neg (p := (k', v)) e]
      exact repK_val k e3
theorem repT_val : ∀ {kvs : List (List Key × D)} {vs : List (List Key × V)} (k : List Key), RepT K ct F kvs vs → (valD kvs k = none ∧ valV vs k = none) ∨ ∃ d v, valD kvs k = some d ∧ valV vs k = some v ∧ Rep K ct F d v
  | [], vs, k, h => by rw [show vs = [] from h]; exact .inl ⟨rfl, rfl⟩
  | (k', d) :: kvs, vs, k, h => by
    obtain ⟨v, r, e1, e2, e3⟩ := h
    subst e1
    by_cases e : k' = k
    · subst e
      exact .inr ⟨d, v, by simp [valD, List.find?_cons], by rw [valV_pos rfl], e2⟩
    · have h1 : valD ((k', d) :: kvs) k = valD kvs k := by simp [valD, List.find?_cons, e]
      rw [h1, valV_neg (p := (k', v)) e]
      exact repT_val k e3
theorem repK_some {kvs : List (Key × D)} {vs : List (Key × V)} (k : Key) (h : RepK K ct F kvs vs) : (valD kvs k).isSome = (valV vs k).isSome := by
  rcases repK_val k h with ⟨e1, e2⟩ | ⟨d, v, e1, e2, _⟩ <;> rw [e1, e2] <;> rfl
theorem repT_some {kvs : List (List Key × D)} {vs : List (List Key × V)} (k : List Key) (h : RepT K ct F kvs vs) : (valD kvs k).isSome = (valV vs k).isSome := by
  rcases repT_val k h with ⟨e1, e2⟩ | ⟨d, v, e1, e2, _⟩ <;> rw [e1, e2] <;> rfl
/-- the key d of the dict: what DGet tells -/
theorem dget_k {a : Addr} {vs : List (Key × V)} {x : V} {d : D} {k : Key} (e : Rd H a (.dK vs)) (hx : Rep K ct H d x) (hk : keyD d = some k) : DGet H a x (valV vs k) := .inl ⟨vs, k, e, rep_key hx hk, rfl⟩
theorem dget_t {a : Addr} {vs : List (List Key × V)} {x : V} {ds : List D} {k : List Key} (e : Rd H a (.dT vs)) (hx : Rep K ct H (.tup ds) x) (hk : keysD ds = some k) : DGet H a x (valV vs k) := by
  obtain ⟨b, us, rfl, h1, h2⟩ := hx
  rw [reps_keys h2 hk] at h1
  exact .inr ⟨vs, k, b, e, rfl, h1, rfl⟩
theorem sp_inG {m1 m2 : Bool} {op : D → D → Option D} {r : R2} {g : Bool → Bool} (hop : ∀ d e, op d e = (inD d e).map fun b => .bl (g b))
    (hr : ∀ x y H Q, ((∃ i j, x = .str i ∧ y = .str j ∧ Q (.bl (g (!(Builtin.Str.occurrences j i 0 j.length 1).isEmpty))) H) ∨ ((∃ p xs, y = .ref p ∧ (SqL K H p xs ∨ SqT K H p xs) ∧ flatV x = true ∧ xs.all flatV = true ∧ Q (.bl (g (inV x xs))) H) ∨ (∃ a o, y = .ref a ∧ DGet H a x o ∧ Q (.bl (g o.isSome)) H))) → r x y H Q) :
    Sp2 K ct m1 m2 (mR K ct) r op := by
  intro F H x y d e z Q ex hx hy hz hQ
  rw [hop] at hz
  obtain ⟨b, hb, rfl⟩ := Option.map_eq_some_iff.mp hz
  have hq : Q (.bl (g b)) H := hQ _ F H (Gr.refl ex) rfl
  have hx' := rep_all ex hx
  have hy' := rep_all ex hy
  apply hr
  cases e <;> first | (cases hb; done) | skip
  · rename_i y'
    cases d <;> first | (cases hb; done) | skip
    cases hb
    rw [show y = .str y' from hy', show x = .str _ from hx']
    exact .inl ⟨_, _, rfl, rfl, hq⟩
  · rename_i ds
    simp only [inD] at hb
    split at hb
    · rename_i hf
      obtain ⟨f1, f2⟩ := Bool.and_eq_true_iff.mp hf
      cases hb
      obtain ⟨a, vs, rfl, h1, h2⟩ := hy'
      obtain ⟨g1, g2⟩ := rep_flat hx' f1
      obtain ⟨g3, g4⟩ := reps_flat h2 f2
      rw [← g1, ← g3] at hq
      exact .inr (.inl ⟨a, vs, rfl, .inl (SqL.of h1), g2, g4, hq⟩)
    · cases hb
  · rename_i ds
    simp only [inD] at hb
    split at hb
    · rename_i hf
      obtain ⟨f1, f2⟩ := Bool.and_eq_true_iff.mp hf
      cases hb
      obtain ⟨a, vs, rfl, h1, h2⟩ := hy'
      obtain ⟨g1, g2⟩ := rep_flat hx' f1
      obtain ⟨g3, g4⟩ := reps_flat h2 f2
      rw [← g1, ← g3] at hq
      exact .inr (.inl ⟨a, vs, rfl, .inr (SqT.of h1), g2, g4, hq⟩)
    · cases hb
  · rename_i kvs
    obtain ⟨k, hk, rfl⟩ := Option.map_eq_some_iff.mp (show ((keyD d).map fun k => (valD kvs k).isSome) = some b from hb)
    obtain ⟨a, vs, rfl, h1, h2⟩ := hy'
    rw [repK_some k h2] at hq
    exact .inr (.inr ⟨a, _, rfl, dget_k h1 hx' hk, hq⟩)
  · rename_i kvs
    cases d <;> first | (cases hb; done) | skip
    rename_i ds
    obtain ⟨k, hk, rfl⟩ := Option.map_eq_some_iff.mp (show ((keysD ds).map fun k => (valD kvs k).isSome) = some b from hb)
    obtain ⟨a, vs, rfl, h1, h2⟩ := hy'
    rw [repT_some k h2] at hq
    exact .inr (.inr ⟨a, _, rfl, dget_t h1 hx' hk, hq⟩)
theorem sp_in {m1 m2 : Bool} : Sp2 K ct m1 m2 (mR K ct) (rIn1 K) dIn := sp_inG (g := fun b => b) (fun d e => rfl) fun x y H Q h => by
  rcases h with h | ⟨p, xs, h1, h2, h3, h4, h5⟩ | h
  · exact .inl h
  · exact .inr (.inl ⟨p, xs, h1, h2, h3, h4, h5⟩)
  · exact .inr (.inr h)
theorem sp_notIn {m1 m2 : Bool} : Sp2 K ct m1 m2 (mR K ct) (rNotIn1 K) dNotIn := sp_inG (g := fun b => !b) (fun d e => rfl) fun x y H Q h => by
  rcases h with h | ⟨p, xs, h1, h2, h3, h4, h5⟩ | h
  · exact .inl h
  · exact .inr (.inl ⟨p, xs, h1, h2, h3, h4, h5⟩)
  · exact .inr (.inr h)
end
end Ps

namespace Ps
open PySem PySem.Spec PyProof.Rows L2

/-! ### items -/
def dIx (d e : D) : Option D := match d, e with
  | .lst ds, .int i => atI ds i
  | .tup ds, .int i => atI ds i
  | .str x, .int i => if x.length ≤ sizeLine then (atI x.cps.toList i).map fun c => .str ⟨#[c]⟩ else none
  | .scr ns, .int i => (atI ns i).map .int
  | .dk kvs, k => (keyD k).bind fun k => valD kvs k
  | .dt kvs, .tup ds => (keysD ds).bind fun k => valD kvs k
  | _, _ => none
def rIxDt : R2 := fun x y H Q => ∃ a v, x = .ref a ∧ DGet H a y (some v) ∧ Q v H
theorem ix_dt {X : Cx} (hu : X.A.units + 1 < cLine) : IxR X rIxDt := by
  intro value slice pins s σ H x y v u Q I rx ry h hs
  obtain ⟨a, w, rfl, g, q⟩ := h
  obtain rfl : v = Value.ref a := rx
  have hT := dict_typeIs I g
  have hg : wpAny (model X.prog X.w) X.A (getItem (.ref a) u) (EP X pins σ Q) X.xe s := d_getItem hu I g ry fun w' s3 I3 rw' => ⟨w, H, I3, rw', q⟩
  unfold subscriptTail
  refine wpAny_bind ?_
  rw [getitemInPython_of_ne hT.not_modules]
  refine wpAny_bind (wpAny_specialOf hT PySem.F.slot_dict_getitem.lookup ?_)
  have fin : wpAny (model X.prog X.w) X.A (subscripted slice false (.ref a) u) (fun r s₃ => wpAny (model X.prog X.w) X.A (letTemporaryGo value (.ref a) r >>= fun _ => pure r) (EP X pins σ Q) X.xe s₃) X.xe s := by
    rw [hs]
    exact wpAny_operating (wpAny_mono hg (fun r s₃ h₃ => wpAny_bind (wpAny_letTemporaryGo (wpAny_pure h₃))) fun _ _ x => x)
  first
    | exact wpAny_pure (wpAny_bind fin)
    | exact wpAny_bind (wpAny_pure (wpAny_bind fin))
    | exact wpAny_bind fin
abbrev rIx1 (K : PySem.W.Frag) : R2 := fun x y H Q => rIx K x y H Q ∨ rIxDt x y H Q
theorem ix1 {X : Cx} (hu : X.A.units + 1 < cLine) : IxR X (rIx1 X.K) := ix_seq.or (ix_dt hu)
section
variable {K : PySem.W.Frag} {ct : Nat → Addr} {F H : Hp}
theorem reps_at {ds : List D} {vs : List V} {i : Int} {d : D} (h : Reps K ct F ds vs) (e : atI ds i = some d) : ∃ v, atI vs i = some v ∧ Rep K ct F d v := by
  unfold atI at e ⊢
  rw [h.length]
  obtain ⟨j, e1, e2⟩ := Option.bind_eq_some_iff.mp e
  obtain ⟨v, h1, h2⟩ := h.get e2
  exact ⟨v, by rw [e1]; exact h1, h2⟩
theorem atI_map {α β : Type} (f : α → β) (xs : List α) (i : Int) : atI (xs.map f) i = (atI xs i).map f := by
  unfold atI
  rw [List.length_map]
  cases ixN xs.length i with
  | none => rfl
  | some j => simp
theorem sp_ix : Sp2 K ct true false (mR K ct) (rIx1 K) dIx := by
  intro F H x y d e z Q ex hx hy hz hQ
  replace hy : Rep K ct F e y := hy
  have fin : ∀ v, Rep K ct F z v → Q v H := fun v r => hQ v F H (Gr.refl ex) r
  cases d with
  | lst ds =>
    cases e <;> first | (cases hz; done) | skip
    rename_i i
    obtain ⟨a, vs, rfl, h1, h2⟩ := hx
    obtain ⟨v, q1, q2⟩ := reps_at h2 (show atI ds i = some z from hz)
    cases (show y = .int i from hy)
    exact .inl (.inl ⟨a, vs, i, v, rfl, rfl, SqL.of h1, q1, fin v q2⟩)
  | tup ds =>
    cases e <;> first | (cases hz; done) | skip
    rename_i i
    obtain ⟨a, vs, rfl, h1, h2⟩ := hx
    obtain ⟨v, q1, q2⟩ := reps_at h2 (show atI ds i = some z from hz)
    cases (show y = .int i from hy)
    exact .inl (.inr (.inl ⟨a, vs, i, v, rfl, rfl, SqT.of (ex _ _ h1), q1, fin v q2⟩))
  | str w =>
    cases e <;> first | (cases hz; done) | skip
    rename_i i
    cases (show x = .str w from hx)
    cases (show y = .int i from hy)
    simp only [dIx] at hz
    split at hz
    · rename_i hl
      obtain ⟨c, q1, rfl⟩ := Option.map_eq_some_iff.mp hz
      exact .inl (.inr (.inr ⟨w, i, c, rfl, rfl, hl, q1, fin _ rfl⟩))
    · cases hz
  | scr ns =>
    cases e <;> first | (cases hz; done) | skip
    rename_i i
    obtain ⟨a, rfl, h1⟩ := hx
    cases (show y = .int i from hy)
    obtain ⟨n, q1, rfl⟩ := Option.map_eq_some_iff.mp (show (atI ns i).map .int = some z from hz)
    have h2 : SqL K H a (ns.map V.int) := by
      rcases h1 with h | h
      · exact .inl (Ex.rd ex h)
      · exact .inr h
    exact .inl (.inl ⟨a, _, i, .int n, rfl, rfl, h2, by rw [atI_map, q1]; rfl, fin _ rfl⟩)
  | dk kvs =>
    obtain ⟨k, hk, hv⟩ := Option.bind_eq_some_iff.mp (show ((keyD e).bind fun k => valD kvs k) = some z from by cases e <;> exact hz)
    obtain ⟨a, vs, rfl, h1, h2⟩ := hx
    rcases repK_val k h2 with ⟨e1, _⟩ | ⟨d', v, e1, e2, e3⟩
    · rw [hv] at e1; cases e1
    · rw [hv] at e1; cases e1
      exact .inr ⟨a, v, rfl, by rw [← e2]; exact dget_k h1 (Rep.mono (Ex.le ex) _ _ hy) hk, fin v e3⟩
  | dt kvs =>
    cases e <;> first | (cases hz; done) | skip
    rename_i ds
    obtain ⟨k, hk, hv⟩ := Option.bind_eq_some_iff.mp (show ((keysD ds).bind fun k => valD kvs k) = some z from hz)
    obtain ⟨a, vs, rfl, h1, h2⟩ := hx
    rcases repT_val k h2 with ⟨e1, _⟩ | ⟨d', v, e1, e2, e3⟩
    · rw [hv] at e1; cases e1
    · rw [hv] at e1; cases e1
      exact .inr ⟨a, v, rfl, by rw [← e2]; exact dget_t h1 (Rep.mono (Ex.le ex) _ _ hy) hk, fin v e3⟩
  | _ => cases e <;> cases hz
end
section
variable {X : Cx} {ct : Nat → Addr} {W : WX} {a b e : Expr} {f g : SE} {pos : Pos}
theorem e_ix (hu : X.A.units + 1 < cLine) (ha : PE X a (EB X.K ct W f)) (hb : PE X b (ER X.K ct W g)) (hs : PlainIx b := by intro _ _; rfl) : PE X (.Subscript a b pos) (ER X.K ct W (s2 dIx f g)) :=
  (pe_ix (ix1 hu) ha hb hs).imp fun _ _ _ h => t2 (m1 := true) (m2 := false) mR_ok sp_ix h

/-! ### parts -/
def sPart (f : SE) : SE := fun env => bnd (f env) fun d => match d with
  | .int i => .ok (.int i)
  | _ => .st
def oI : D → Option (Option Int)
  | .int i => some (some i)
  | .non => some none
  | _ => none
def tO (K : PySem.W.Frag) (ct : Nat → Addr) (W : WX) (f : SE) : TO := fun σ H Q => ∃ env F, EnvOk K ct F H env σ ∧ match f env with
  | .ok d => (match oI d with
    | some o => ∀ F' H', Gr F H F' H' → Q o H'
    | none => False)
  | .er c fs => ∀ dx F' H', Gr F H F' H' → ExcOk K ct F' dx fs → W (.ref (ct c)) dx σ H'
  | .st => False
theorem _root_.L2.PO.imp {X : Cx} {e : Option Expr} {t t' : TO} (p : PO X e t) (h : ∀ σ H Q, t' σ H Q → t σ H Q) : PO X e t' := ⟨fun pins s σ H Q I q => p.run pins s σ H Q I (h σ H Q q)⟩
theorem o_none : PO X none (tO X.K ct W (sC .non)) := po_none.imp fun σ H Q ⟨env, F, E, h⟩ => h F H (Gr.refl E.ex)
theorem o_some (ha : PE X a (ER X.K ct W f)) : PO X (some a) (tO X.K ct W (sPart f)) := by
  refine (po_some ha).imp fun σ H Q ⟨env, F, E, h⟩ => ⟨env, F, E, ?_⟩
  unfold sPart at h
  cases e : f env with
  | ok d =>
    rw [e] at h
    intro v F' H' g m
    cases d <;> first | exact h.elim | skip
    exact ⟨_, m, h F' H' g⟩
  | er c fs => rw [e] at h; exact h
  | st => rw [e] at h; exact h.elim
def dSlN (d : D) (lo hi : Option Int) : Option D := match d with
  | .lst ds => some (.lst ((ds.drop (HT.sIx ds.length 0 lo)).take (HT.sIx ds.length ds.length hi - HT.sIx ds.length 0 lo)))
  | .scr ns => some (.lst (((ns.drop (HT.sIx ns.length 0 lo)).take (HT.sIx ns.length ns.length hi - HT.sIx ns.length 0 lo)).map .int))
  | _ => none
def dSlS (d : D) (lo hi : Option Int) : Option D := match d with
  | .str z => if z.length ≤ sizeLine then some (.str (cutS z lo hi)) else none
  | _ => none
def sSl (op : D → Option Int → Option Int → Option D) (f lo hi : SE) : SE := fun env => bnd (f env) fun d => bnd (lo env) fun l => match oI l with
  | some l => bnd (hi env) fun u => (match oI u with
    | some u => ofO (op d l u)
    | none => .st)
  | none => .st
def SpS (K : PySem.W.Frag) (ct : Nat → Addr) (M : Md) (r : V → Option Int → Option Int → Hp → VK → Prop) (op : D → Option Int → Option Int → Option D) : Prop :=
  ∀ F H x d lo hi z Q, Ex F H → RepB K ct F H d x → op d lo hi = some z → (∀ v F' H', Gr F H F' H' → M H F' H' z v → Q v H') → r x lo hi H Q
theorem reps_cut {K : PySem.W.Frag} {F : Hp} {ds : List D} {vs : List V} (h : Reps K ct F ds vs) (lo hi : Option Int) : Reps K ct F ((ds.drop (HT.sIx ds.length 0 lo)).take (HT.sIx ds.length ds.length hi - HT.sIx ds.length 0 lo)) (cutV vs lo hi) := by
  unfold cutV
  rw [h.length]
  exact (h.drop _).take _
theorem sps_n {K : PySem.W.Frag} : SpS K ct (mN K ct) (rSlL K) dSlN := by
  intro F H x d lo hi z Q ex hx hz hQ
  cases d <;> first | (cases hz; done) | skip
  · rename_i ds
    obtain ⟨a, vs, rfl, h1, h2⟩ := hx
    cases hz
    exact ⟨a, vs, rfl, SqL.of h1, fun p hp => hQ _ F _ (Gr.own ex hp) ⟨p, rfl, hp, Ex.free ex hp, _, upd_same, reps_cut h2 lo hi⟩⟩
  · rename_i ns
    obtain ⟨a, rfl, h1⟩ := hx
    cases hz
    have h2 : SqL K H a (ns.map V.int) := by
      rcases h1 with h | h
      · exact .inl (Ex.rd ex h)
      · exact .inr h
    refine ⟨a, _, rfl, h2, fun p hp => hQ _ F _ (Gr.own ex hp) ⟨p, rfl, hp, Ex.free ex hp, _, upd_same, ?_⟩⟩
    have e : cutV (ns.map V.int) lo hi = ((ns.drop (HT.sIx ns.length 0 lo)).take (HT.sIx ns.length ns.length hi - HT.sIx ns.length 0 lo)).map V.int := by
      unfold cutV
      rw [List.length_map, ← List.map_drop, ← List.map_take]
    rw [e]
    exact Reps.ints
theorem sps_s {K : PySem.W.Frag} : SpS K ct (mR K ct) rSlS dSlS := by
  intro F H x d lo hi z Q ex hx hz hQ
  cases d <;> first | (cases hz; done) | skip
  rename_i w
  cases (show x = .str w from hx)
  simp only [dSlS] at hz
  split at hz
  · rename_i hl
    cases hz
    exact ⟨w, rfl, hl, hQ _ F H (Gr.refl ex) rfl⟩
  · cases hz
theorem fin_bindO {K : PySem.W.Frag} {M : Md} {F H : Hp} {σ : L2.St} {Q : VK} {env : En} {f : SE} {k : D → R} (E : EnvOk K ct F H env σ) (h : Fin K ct W M F H σ (bnd (f env) k) Q)
    {Q1 : Option Int → Hp → Prop} (hn : ∀ d, oI d = none → k d = .st) (hk : ∀ d o F1 H1, oI d = some o → Gr F H F1 H1 → EnvOk K ct F1 H1 env σ → Fin K ct W M F H σ (k d) Q → Q1 o H1) : tO K ct W f σ H Q1 := by
  refine ⟨env, F, E, ?_⟩
  cases e : f env with
  | ok d =>
    rw [e] at h
    have h : Fin K ct W M F H σ (k d) Q := h
    show (match oI d with | some o => ∀ F' H', Gr F H F' H' → Q1 o H' | none => False)
    cases q : oI d with
    | some o => exact fun F1 H1 g => hk d o F1 H1 q g (E.gr g) h
    | none => rw [hn d q] at h; exact h.elim
  | er c fs => rw [e] at h; exact h
  | st => rw [e] at h; exact h
theorem e_sl {lo hi : Option Expr} {fl fh : SE} {p2 : Pos} {M : Md} {r : V → Option Int → Option Int → Hp → VK → Prop} {op : D → Option Int → Option Int → Option D} (hr : SlR X r) (hM : MdOk M) (hs : SpS X.K ct M r op)
    (he : PE X e (EB X.K ct W f)) (hl : PO X lo (tO X.K ct W fl)) (hh : PO X hi (tO X.K ct W fh)) : PE X (.Subscript e (.Slice lo hi none p2) pos) (tM X.K ct W M (sSl op f fl fh)) := by
  refine (pe_slice hr he hl hh).imp fun σ H Q ⟨env, F, E, h⟩ => ?_
  refine fin_bind E h rfl fun d x F1 H1 e1 g1 r1 E1 h => ?_
  have h1 := fin_after (M := M) g1 (fun _ _ _ _ m => hM _ _ _ _ _ _ g1.h m) h
  refine fin_bindO E1 h1 (fun l hl => by rw [hl]) fun l o F2 H2 ol g2 E2 h2 => ?_
  rw [ol] at h2
  have h3 := fin_after (M := M) g2 (fun _ _ _ _ m => hM _ _ _ _ _ _ g2.h m) h2
  refine fin_bindO E2 h3 (fun u hu => by rw [hu]) fun u o2 F3 H3 ou g3 E3 h4 => ?_
  rw [ou] at h4
  have h4 : Fin X.K ct W M F2 H2 σ (ofO (op d o o2)) Q := h4
  cases q : op d o o2 with
  | none => rw [q] at h4; exact h4.elim
  | some z =>
    rw [q] at h4
    exact hs F3 H3 x d o o2 z Q E3.ex (RepB.gr g3 (RepB.gr g2 r1)) q fun v F' H' g m => h4 v F' H' (g3.trans g) (hM _ _ _ _ _ _ g3.h m)
end
end Ps

namespace Ps
open PySem PySem.Spec PyProof.Rows L2

section
variable {X : Cx} {ct : Nat → Addr} {W : WX} {a b e : Expr} {es : List Expr} {f g : SE} {fs : SA} {pos p : Pos}

/-! ### fields -/
def sFld (c : Nat) (n : Str) (f : SE) : SE := fun env => bnd (f env) fun d => match d with
  | .obj c' fs => if c' = c then ofO (fs.lookup n) else .st
  | _ => .st
theorem repF_get {K : PySem.W.Frag} {F : Hp} {n : Str} {d : D} : ∀ {fs : List (Str × D)} {fvs : List (Str × V)}, RepF K ct F fs fvs → fs.lookup n = some d → ∃ v, fvs.lookup n = some v ∧ Rep K ct F d v
  | [], _, _, e => by cases e
  | (g, d') :: fs, fvs, h, e => by
    obtain ⟨⟨v, e1, e2⟩, e3⟩ := h
    rw [List.lookup_cons] at e
    cases q : (n == g) with
    | true =>
      rw [q] at e
      cases e
      have : n = g := eq_of_beq q
      subst this
      exact ⟨v, e1, e2⟩
    | false =>
      rw [q] at e
      exact repF_get e3 e
theorem e_fld (c : Nat) {n : Str} (hc : Cls X.K (ct c)) (hn : NoAttr X.K (ct c) n) (he : PE X e (EB X.K ct W f)) (hb : attributeBase e n X.env (eval e X.env) = eval e X.env := by rfl) : PE X (.Attribute e n pos) (ER X.K ct W (sFld c n f)) := by
  refine (pe_fld he hb).imp fun σ H Q ⟨env, F, E, h⟩ => ?_
  refine fin_bind E h rfl fun d x F1 H1 e1 g1 r1 E1 h => ?_
  cases d <;> first | exact h.elim | skip
  rename_i c' gs
  by_cases hcc : c' = c
  · subst hcc
    have h : Fin X.K ct W (mR X.K ct) F H σ (ofO (gs.lookup n)) Q := by simpa using h
    obtain ⟨a, dx, fvs, rfl, ea, _, hf⟩ := r1
    cases q : gs.lookup n with
    | none => rw [q] at h; exact h.elim
    | some z =>
      rw [q] at h
      obtain ⟨v, l, r⟩ := repF_get hf q
      exact ⟨a, _, dx, fvs, v, rfl, ea, hc, hn, l, h v F1 H1 g1 r⟩
  · have h : Fin X.K ct W (mR X.K ct) F H σ (if c' = c then ofO (gs.lookup n) else .st) Q := h
    rw [if_neg hcc] at h
    exact h.elim

/-! ### built-ins by their names -/
def SpC (K : PySem.W.Frag) (ct : Nat → Addr) (ms : List Bool) (M : Md) (r : List V → Hp → VK → Prop) (op : List D → Option D) : Prop := ∀ F H vs ds z Q, Ex F H → ArgsRep K ct F H ms ds vs → op ds = some z → (∀ v F' H', Gr F H F' H' → M H F' H' z v → Q v H') → r vs H Q
def sCall (op : List D → Option D) (fs : SA) : SE := fun env => bndA (fs env) fun ds => ofO (op ds)
theorem tcb {K : PySem.W.Frag} {M : Md} (hM : MdOk M) {ms : List Bool} {r : List V → Hp → VK → Prop} {op : List D → Option D} (hs : SpC K ct ms M r op) {σ : L2.St} {H : Hp} {Q : VK} (h : tM K ct W M (sCall op fs) σ H Q) :
    tA K ct W ms fs σ H fun vs H1 => r vs H1 Q := by
  obtain ⟨env, F, E, h⟩ := h
  refine fin_bindA E h fun ds vs F1 H1 g1 r1 E1 h => ?_
  cases q : op ds with
  | none => rw [q] at h; exact h.elim
  | some z =>
    rw [q] at h
    exact hs F1 H1 vs ds z Q E1.ex r1 q fun v F' H' g m => h v F' H' (g1.trans g) (hM _ _ _ _ _ _ g1.h m)
theorem e_callB {id : String} {x : Str} {M : Md} {ms : List Bool} {r : List V → Hp → VK → Prop} {op : List D → Option D} (hc : CallR X (.builtin id) r) (hM : MdOk M) (hs : SpC X.K ct ms M r op) (hg : Gl X x) (hm : X.mg x = none) (hv : bootBuiltins x = some (.builtin id))
    (ha : PA X (e :: es) (tA X.K ct W ms fs)) (hn : x ≠ "__name__" := by decide) (hdb : (x == ("__debug__" : Str)) = false := by decide) (he : starEach (e :: es) X.env = (false, eval e X.env) :: starEach es X.env := by rfl) (hpl : (backTo pos (starEach es X.env)).any (·.1) = false := by rfl) :
    PE X (.Call (.Name x p) (e :: es) [] pos) (tM X.K ct W M (sCall op fs)) := (pe_callB hc hg hm hv ha hn hdb he hpl).imp fun _ _ _ h => tcb hM hs h
theorem e_callTy {T : String} {x : Str} {M : Md} {ms : List Bool} {r : List V → Hp → VK → Prop} {op : List D → Option D} (hc : CallR X (.type T) r) (hM : MdOk M) (hs : SpC X.K ct ms M r op) (hg : Gl X x) (hm : X.mg x = none) (hv : bootBuiltins x = some (.type T))
    (ha : PA X (e :: es) (tA X.K ct W ms fs)) (hn : x ≠ "__name__" := by decide) (hdb : (x == ("__debug__" : Str)) = false := by decide) (he : starEach (e :: es) X.env = (false, eval e X.env) :: starEach es X.env := by rfl) (hpl : (backTo pos (starEach es X.env)).any (·.1) = false := by rfl) :
    PE X (.Call (.Name x p) (e :: es) [] pos) (tM X.K ct W M (sCall op fs)) := (pe_callTy hc hg hm hv ha hn hdb he hpl).imp fun _ _ _ h => tcb hM hs h
end

section
variable {X : Cx} {K : PySem.W.Frag} {ct : Nat → Addr}
theorem args1 {F H : Hp} {m : Bool} {ds : List D} {vs : List V} (h : ArgsRep K ct F H [m] ds vs) : ∃ d v, ds = [d] ∧ vs = [v] ∧ (if m then RepB K ct F H d v else Rep K ct F d v) := by
  obtain ⟨d, ds', v, vs', rfl, rfl, h, h1, h2⟩ := h
  subst h1 h2
  exact ⟨d, v, rfl, rfl, h⟩
theorem args2 {F H : Hp} {m1 m2 : Bool} {ds : List D} {vs : List V} (h : ArgsRep K ct F H [m1, m2] ds vs) : ∃ d e v w, ds = [d, e] ∧ vs = [v, w] ∧ (if m1 then RepB K ct F H d v else Rep K ct F d v) ∧ (if m2 then RepB K ct F H e w else Rep K ct F e w) := by
  obtain ⟨d, ds', v, vs', rfl, rfl, h, r⟩ := h
  obtain ⟨e, w, rfl, rfl, h2⟩ := args1 r
  exact ⟨d, e, v, w, rfl, rfl, h, h2⟩
/-- len -/
def cLen : List D → Option D
  | [.str x] => if x.length ≤ sizeLine then some (.int x.length) else none
  | [.lst ds] => some (.int ds.length)
  | [.tup ds] => some (.int ds.length)
  | [.scr ns] => some (.int ns.length)
  | [.dk kvs] => some (.int kvs.length)
  | _ => none
theorem call_lenDr : CallR X (.builtin "len") (fun xs H Q => ∃ a kvs, xs = [V.ref a] ∧ Rd H a (.dK kvs) ∧ Q (.int kvs.length) H) := by
  intro pins s σ H xs us Q I r h
  obtain ⟨a, kvs, rfl, ha, q⟩ := h
  obtain ⟨u, rfl, ru⟩ := vals1 r
  cases ru
  exact d_len I ha fun t s' I' => ⟨.int kvs.length, H, I', ⟨t, rfl⟩, q⟩
abbrev rLen1 (K : PySem.W.Frag) : List V → Hp → VK → Prop := fun xs H Q => (∃ p ys, xs = [.ref p] ∧ (SqL K H p ys ∨ SqT K H p ys) ∧ Q (.int ys.length) H) ∨ ((∃ z, xs = [.str z] ∧ z.length ≤ sizeLine ∧ Q (.int z.length) H) ∨ (∃ a kvs, xs = [V.ref a] ∧ Rd H a (.dK kvs) ∧ Q (.int kvs.length) H))
theorem call_len1 : CallR X (.builtin "len") (rLen1 X.K) := call_len_seq.or (call_len_str.or call_lenDr)
theorem repK_len {F : Hp} : ∀ {kvs : List (Key × D)} {vs : List (Key × V)}, RepK K ct F kvs vs → vs.length = kvs.length
  | [], vs, h => by rw [show vs = [] from h]; rfl
  | (k, d) :: kvs, vs, h => by
    obtain ⟨v, r, e1, e2, e3⟩ := h
    rw [e1, List.length_cons, List.length_cons, repK_len e3]
theorem scr_sq {F H : Hp} (ex : Ex F H) {ns : List Int} {x : V} (h : Rep K ct F (.scr ns) x) : ∃ a, x = .ref a ∧ SqL K H a (ns.map V.int) := by
  obtain ⟨a, rfl, h1⟩ := h
  refine ⟨a, rfl, ?_⟩
  rcases h1 with h | h
  · exact .inl (Ex.rd ex h)
  · exact .inr h
theorem spc_len : SpC K ct [true] (mR K ct) (rLen1 K) cLen := by
  intro F H vs ds z Q ex hA hz hQ
  obtain ⟨d, v, rfl, rfl, h⟩ := args1 hA
  replace h : RepB K ct F H d v := h
  cases d <;> first | (cases hz; done) | skip
  · rename_i x
    cases (show v = .str x from h)
    simp only [cLen] at hz
    split at hz
    · rename_i hl
      cases hz
      exact .inr (.inl ⟨x, rfl, hl, hQ _ F H (Gr.refl ex) rfl⟩)
    · cases hz
  · rename_i ds
    obtain ⟨a, vs, rfl, h1, h2⟩ := h
    cases hz
    exact .inl ⟨a, vs, rfl, .inl (SqL.of h1), by rw [h2.length]; exact hQ _ F H (Gr.refl ex) rfl⟩
  · rename_i ds
    obtain ⟨a, vs, rfl, h1, h2⟩ := h
    cases hz
    exact .inl ⟨a, vs, rfl, .inr (SqT.of (ex _ _ h1)), by rw [h2.length]; exact hQ _ F H (Gr.refl ex) rfl⟩
  · rename_i ns
    obtain ⟨a, rfl, h1⟩ := scr_sq (ct := ct) ex h
    cases hz
    exact .inl ⟨a, _, rfl, .inl h1, by rw [List.length_map]; exact hQ _ F H (Gr.refl ex) rfl⟩
  · rename_i kvs
    obtain ⟨a, vs, rfl, h1, h2⟩ := h
    cases hz
    exact .inr (.inr ⟨a, vs, rfl, h1, by rw [repK_len h2]; exact hQ _ F H (Gr.refl ex) rfl⟩)
def cMax2 : List D → Option D
  | [.int i, .int j] => some (.int (if j > i then j else i))
  | _ => none
def cMin2 : List D → Option D
  | [.int i, .int j] => some (.int (if j < i then j else i))
  | _ => none
theorem spc_int2 {m1 m2 : Bool} {op : List D → Option D} {g : Int → Int → Int} (hop : ∀ ds z, op ds = some z → ∃ i j, ds = [.int i, .int j] ∧ z = .int (g i j)) : SpC K ct [m1, m2] (mR K ct) (fun xs H Q => ∃ i j, xs = [.int i, .int j] ∧ Q (.int (g i j)) H) op := by
  intro F H vs ds z Q ex hA hz hQ
  obtain ⟨i, j, rfl, rfl⟩ := hop ds z hz
  obtain ⟨d, e, v, w, q, rfl, h1, h2⟩ := args2 hA
  cases q
  have e1 : v = .int i := by cases m1 <;> exact h1
  have e2 : w = .int j := by cases m2 <;> exact h2
  subst e1 e2
  exact ⟨i, j, rfl, hQ _ F H (Gr.refl ex) rfl⟩
theorem spc_max2 {m1 m2 : Bool} : SpC K ct [m1, m2] (mR K ct) (fun xs H Q => ∃ i j, xs = [.int i, .int j] ∧ Q (.int (if j > i then j else i)) H) cMax2 := spc_int2 fun ds z h => by
  unfold cMax2 at h
  split at h
  · cases h; exact ⟨_, _, rfl, rfl⟩
  · cases h
theorem spc_min2 {m1 m2 : Bool} : SpC K ct [m1, m2] (mR K ct) (fun xs H Q => ∃ i j, xs = [.int i, .int j] ∧ Q (.int (if j < i then j else i)) H) cMin2 := spc_int2 fun ds z h => by
  unfold cMin2 at h
  split at h
  · cases h; exact ⟨_, _, rfl, rfl⟩
  · cases h
def cAbs : List D → Option D
  | [.int i] => some (.int (if i < 0 then -i else i))
  | _ => none
theorem spc_abs {m : Bool} : SpC K ct [m] (mR K ct) (fun xs H Q => ∃ i, xs = [.int i] ∧ Q (.int (if i < 0 then -i else i)) H) cAbs := by
  intro F H vs ds z Q ex hA hz hQ
  obtain ⟨d, v, rfl, rfl, h⟩ := args1 hA
  cases d <;> first | (cases hz; done) | skip
  rename_i i
  have e : v = .int i := by cases m <;> exact h
  subst e
  cases hz
  exact ⟨i, rfl, hQ _ F H (Gr.refl ex) rfl⟩
def cInt : List D → Option D
  | [.int i] => some (.int i)
  | [.bl b] => some (.int (if b then 1 else 0))
  | _ => none
theorem spc_int {m : Bool} : SpC K ct [m] (mR K ct) (fun xs H Q => (∃ i, xs = [.int i] ∧ Q (.int i) H) ∨ ∃ k, xs = [.bl k] ∧ Q (.int (if k then 1 else 0)) H) cInt := by
  intro F H vs ds z Q ex hA hz hQ
  obtain ⟨d, v, rfl, rfl, h⟩ := args1 hA
  cases d <;> first | (cases hz; done) | skip
  · rename_i i
    have e : v = .bl i := by cases m <;> exact h
    subst e
    cases hz
    exact .inr ⟨i, rfl, hQ _ F H (Gr.refl ex) rfl⟩
  · rename_i i
    have e : v = .int i := by cases m <;> exact h
    subst e
    cases hz
    exact .inl ⟨i, rfl, hQ _ F H (Gr.refl ex) rfl⟩
/-- lists of flat things of one kind -/
def unInts : List D → Option (List Int)
  | [] => some []
  | .int i :: ds => (unInts ds).map fun r => i :: r
  | _ => none
def unBls : List D → Option (List Bool)
  | [] => some []
  | .bl i :: ds => (unBls ds).map fun r => i :: r
  | _ => none
def unStrs : List D → Option (List Str)
  | [] => some []
  | .str i :: ds => (unStrs ds).map fun r => i :: r
  | _ => none
theorem reps_ints {F : Hp} : ∀ {ds : List D} {vs : List V} {ns : List Int}, Reps K ct F ds vs → unInts ds = some ns → vs = ns.map V.int
  | [], vs, ns, h, e => by cases e; exact h
  | d :: ds, vs, ns, h, e => by
    obtain ⟨v, r, e1, e2, e3⟩ := h
    cases d <;> first | (cases e; done) | skip
    obtain ⟨r', q1, q2⟩ := Option.map_eq_some_iff.mp (show (unInts ds).map _ = some ns from e)
    subst e1 q2
    rw [reps_ints e3 q1, show v = _ from e2]; rfl
theorem reps_bls {F : Hp} : ∀ {ds : List D} {vs : List V} {ns : List Bool}, Reps K ct F ds vs → unBls ds = some ns → vs = ns.map V.bl
  | [], vs, ns, h, e => by cases e; exact h
  | d :: ds, vs, ns, h, e => by
    obtain ⟨v, r, e1, e2, e3⟩ := h
    cases d <;> first | (cases e; done) | skip
    obtain ⟨r', q1, q2⟩ := Option.map_eq_some_iff.mp (show (unBls ds).map _ = some ns from e)
    subst e1 q2
    rw [reps_bls e3 q1, show v = _ from e2]; rfl
theorem reps_strs {F : Hp} : ∀ {ds : List D} {vs : List V} {ns : List Str}, Reps K ct F ds vs → unStrs ds = some ns → vs = ns.map V.str
  | [], vs, ns, h, e => by cases e; exact h
  | d :: ds, vs, ns, h, e => by
    obtain ⟨v, r, e1, e2, e3⟩ := h
    cases d <;> first | (cases e; done) | skip
    obtain ⟨r', q1, q2⟩ := Option.map_eq_some_iff.mp (show (unStrs ds).map _ = some ns from e)
    subst e1 q2
    rw [reps_strs e3 q1, show v = _ from e2]; rfl
theorem reps_of_strs {F : Hp} : ∀ (ys : List Str), Reps K ct F (ys.map D.str) (ys.map V.str)
  | [] => rfl
  | y :: ys => ⟨.str y, ys.map V.str, rfl, rfl, reps_of_strs ys⟩
def cSum : List D → Option D
  | [.lst ds] => (unInts ds).map fun ns => .int ns.sum
  | _ => none
theorem spc_sum : SpC K ct [true] (mR K ct) (rSum K) cSum := by
  intro F H vs ds z Q ex hA hz hQ
  obtain ⟨d, v, rfl, rfl, h⟩ := args1 hA
  cases d <;> first | (cases hz; done) | skip
  rename_i ds
  obtain ⟨ns, q1, rfl⟩ := Option.map_eq_some_iff.mp (show (unInts ds).map _ = some z from hz)
  obtain ⟨a, vs, rfl, h1, h2⟩ := (show RepB K ct F H (.lst ds) v from h)
  have e := reps_ints h2 q1
  subst e
  exact ⟨a, ns, rfl, SqL.of h1, hQ _ F H (Gr.refl ex) rfl⟩
def cAny : List D → Option D
  | [.lst ds] => (unBls ds).map fun ns => .bl (ns.any id)
  | _ => none
def cAll : List D → Option D
  | [.lst ds] => (unBls ds).map fun ns => .bl (ns.all id)
  | _ => none
theorem spc_any : SpC K ct [true] (mR K ct) (rAny K) cAny := by
  intro F H vs ds z Q ex hA hz hQ
  obtain ⟨d, v, rfl, rfl, h⟩ := args1 hA
  cases d <;> first | (cases hz; done) | skip
  rename_i ds
  obtain ⟨ns, q1, rfl⟩ := Option.map_eq_some_iff.mp (show (unBls ds).map _ = some z from hz)
  obtain ⟨a, vs, rfl, h1, h2⟩ := (show RepB K ct F H (.lst ds) v from h)
  have e := reps_bls h2 q1
  subst e
  exact ⟨a, ns, rfl, SqL.of h1, hQ _ F H (Gr.refl ex) rfl⟩
theorem spc_all : SpC K ct [true] (mR K ct) (rAll K) cAll := by
  intro F H vs ds z Q ex hA hz hQ
  obtain ⟨d, v, rfl, rfl, h⟩ := args1 hA
  cases d <;> first | (cases hz; done) | skip
  rename_i ds
  obtain ⟨ns, q1, rfl⟩ := Option.map_eq_some_iff.mp (show (unBls ds).map _ = some z from hz)
  obtain ⟨a, vs, rfl, h1, h2⟩ := (show RepB K ct F H (.lst ds) v from h)
  have e := reps_bls h2 q1
  subst e
  exact ⟨a, ns, rfl, SqL.of h1, hQ _ F H (Gr.refl ex) rfl⟩
/-- list(..) of a list, a tuple, the script -/
def cList : List D → Option D
  | [.lst ds] => some (.lst ds)
  | [.tup ds] => some (.lst ds)
  | [.scr ns] => some (.lst (ns.map .int))
  | _ => none
theorem spc_list : SpC K ct [true] (mN K ct) (fun xs H Q => ∃ p ys, xs = [.ref p] ∧ (SqL K H p ys ∨ SqT K H p ys) ∧ ∀ l, H l = none → Q (.ref l) (upd H l (.lst ys))) cList := by
  intro F H vs ds z Q ex hA hz hQ
  obtain ⟨d, v, rfl, rfl, h⟩ := args1 hA
  replace h : RepB K ct F H d v := h
  cases d <;> first | (cases hz; done) | skip
  · rename_i ds
    obtain ⟨a, vs, rfl, h1, h2⟩ := h
    cases hz
    exact ⟨a, vs, rfl, .inl (SqL.of h1), fun p hp => hQ _ F _ (Gr.own ex hp) ⟨p, rfl, hp, Ex.free ex hp, vs, upd_same, h2⟩⟩
  · rename_i ds
    obtain ⟨a, vs, rfl, h1, h2⟩ := h
    cases hz
    exact ⟨a, vs, rfl, .inr (SqT.of (ex _ _ h1)), fun p hp => hQ _ F _ (Gr.own ex hp) ⟨p, rfl, hp, Ex.free ex hp, vs, upd_same, h2⟩⟩
  · rename_i ns
    obtain ⟨a, rfl, h1⟩ := scr_sq (ct := ct) ex h
    cases hz
    exact ⟨a, _, rfl, .inl h1, fun p hp => hQ _ F _ (Gr.own ex hp) ⟨p, rfl, hp, Ex.free ex hp, _, upd_same, Reps.ints⟩⟩
/-- texts in their order -/
def leS (x y : Str) : Bool := !ltCps y.cps.toList x.cps.toList
def srt (xs : List Str) : List Str := xs.mergeSort leS
theorem leS_iff {x y : Str} : leS x y = true ↔ x.cps.toList ≤ y.cps.toList := by
  unfold leS
  rw [ltCps_eq, Bool.not_eq_true', decide_eq_false_iff_not]
  exact List.not_lt
theorem leS_trans {x y z : Str} (h1 : leS x y = true) (h2 : leS y z = true) : leS x z = true := leS_iff.mpr (List.le_trans (leS_iff.mp h1) (leS_iff.mp h2))
theorem leS_total (x y : Str) : (leS x y || leS y x) = true := by
  rcases List.le_total x.cps.toList y.cps.toList with h | h
  · rw [leS_iff.mpr h]; rfl
  · rw [leS_iff.mpr h, Bool.or_true]
theorem leS_antisymm {x y : Str} (h1 : leS x y = true) (h2 : leS y x = true) : x = y := TL.ext_tl (List.le_antisymm (leS_iff.mp h1) (leS_iff.mp h2))
theorem rising_pw : ∀ {r : List Str} {p : Str}, risingS p r = true → (p :: r).Pairwise fun a b => leS a b = true
  | [], p, _ => by simp
  | x :: r, p, h => by
    obtain ⟨h1, h2⟩ := Bool.and_eq_true_iff.mp (show (!ltCps x.cps.toList p.cps.toList && risingS x r) = true from h)
    have ih := rising_pw h2
    refine List.pairwise_cons.mpr ⟨fun y hy => ?_, ih⟩
    rcases List.mem_cons.mp hy with rfl | hy
    · exact h1
    · exact leS_trans (show leS p x = true from h1) ((List.pairwise_cons.mp ih).1 y hy)
theorem sortedS_pw : ∀ {ys : List Str}, sortedS ys = true → ys.Pairwise fun a b => leS a b = true
  | [], _ => .nil
  | x :: r, h => rising_pw h
theorem srt_eq {ys xs : List Str} (hp : ys.Perm xs) (h : sortedS ys = true) : ys = srt xs :=
  List.Perm.eq_of_pairwise (fun x y _ _ h1 h2 => leS_antisymm h1 h2) (sortedS_pw h) (List.pairwise_mergeSort (le := leS) (fun _ _ _ => leS_trans) leS_total xs) (hp.trans (List.mergeSort_perm xs leS).symm)
def unKeys {β : Type} : List (Key × β) → Option (List Str)
  | [] => some []
  | (.inr x, _) :: r => (unKeys r).map fun ks => x :: ks
  | _ => none
theorem repK_keys {F : Hp} : ∀ {kvs : List (Key × D)} {vs : List (Key × V)} {ks : List Str}, RepK K ct F kvs vs → unKeys kvs = some ks → vs.map (·.1) = ks.map Sum.inr
  | [], vs, ks, h, e => by cases e; rw [show vs = [] from h]; rfl
  | (.inl _, d) :: kvs, vs, ks, h, e => by cases e
  | (.inr x, d) :: kvs, vs, ks, h, e => by
    obtain ⟨v, r, e1, e2, e3⟩ := h
    obtain ⟨ks', q1, q2⟩ := Option.map_eq_some_iff.mp (show (unKeys kvs).map _ = some ks from e)
    subst e1 q2
    rw [List.map_cons, List.map_cons, repK_keys e3 q1]
/-- sorted of a list of texts, of a dict with text keys -/
def cSorted : List D → Option D
  | [.lst ds] => (unStrs ds).bind fun xs => if xs.length < 64 then some (.lst ((srt xs).map .str)) else none
  | [.dk kvs] => (unKeys kvs).bind fun xs => if xs.length < 64 then some (.lst ((srt xs).map .str)) else none
  | _ => none
abbrev rSorted1 (K : PySem.W.Frag) : List V → Hp → VK → Prop := fun xs H Q => rSortedS K xs H Q ∨ (∃ (a : Addr) (kvs : List (Key × V)) (ks : List Str), xs = [.ref a] ∧ Rd H a (.dK kvs) ∧ kvs.map (·.1) = ks.map Sum.inr ∧ ks.length < 64 ∧
    ∀ ys p, ys.Perm ks → sortedS ys = true → H p = none → Q (.ref p) (upd H p (.lst (ys.map V.str))))
theorem call_sorted1 (hc : X.calm = true) : CallR X (.builtin "sorted") (rSorted1 X.K) := cr_sortedS.or (call_sortedD hc)
theorem spc_sorted : SpC K ct [true] (mN K ct) (rSorted1 K) cSorted := by
  intro F H vs ds z Q ex hA hz hQ
  obtain ⟨d, v, rfl, rfl, h⟩ := args1 hA
  replace h : RepB K ct F H d v := h
  have fin : ∀ (xs : List Str) (ys : List Str) (p : Addr), z = .lst ((srt xs).map .str) → ys.Perm xs → sortedS ys = true → H p = none → Q (.ref p) (upd H p (.lst (ys.map V.str))) := fun xs ys p ez h1 h2 hp => by
    rw [srt_eq h1 h2]
    exact hQ _ F _ (Gr.own ex hp) (by rw [ez]; exact ⟨p, rfl, hp, Ex.free ex hp, _, upd_same, reps_of_strs _⟩)
  cases d <;> first | (cases hz; done) | skip
  · rename_i ds
    obtain ⟨xs, q1, q2⟩ := Option.bind_eq_some_iff.mp (show ((unStrs ds).bind fun xs => if xs.length < 64 then some (D.lst ((srt xs).map .str)) else none) = some z from hz)
    split at q2
    · rename_i hl
      obtain ⟨a, vs, rfl, h1, h2⟩ := h
      have e := reps_strs h2 q1
      subst e
      cases q2
      exact .inl ⟨a, xs, rfl, SqL.of h1, hl, fun ys p hp hs hn => fin xs ys p rfl hp hs hn⟩
    · cases q2
  · rename_i kvs
    obtain ⟨xs, q1, q2⟩ := Option.bind_eq_some_iff.mp (show ((unKeys kvs).bind fun xs => if xs.length < 64 then some (D.lst ((srt xs).map .str)) else none) = some z from hz)
    split at q2
    · rename_i hl
      obtain ⟨a, vs, rfl, h1, h2⟩ := h
      cases q2
      exact .inr ⟨a, vs, xs, rfl, h1, repK_keys h2 q1, hl, fun ys p hp hs hn => fin xs ys p rfl hp hs hn⟩
    · cases q2
end

/-! ### displays -/
section
variable {X : Cx} {ct : Nat → Addr} {W : WX} {a b e : Expr} {es : List Expr} {f g : SE} {fs : SA} {pos p : Pos}
def sTup (fs : SA) : SE := fun env => bndA (fs env) fun ds => if ds.length ≤ sizeLine then .ok (.tup ds) else .st
def sLst (fs : SA) : SE := fun env => bndA (fs env) fun ds => if ds.length ≤ sizeLine then .ok (.lst ds) else .st
theorem args_reps {K : PySem.W.Frag} {F H : Hp} : ∀ {n : Nat} {ds : List D} {vs : List V}, ArgsRep K ct F H (List.replicate n false) ds vs → Reps K ct F ds vs
  | 0, _, _, h => by rw [h.1, h.2]; exact rfl
  | n + 1, _, _, ⟨d, ds', v, vs', e1, e2, h, r⟩ => by
    subst e1 e2
    exact ⟨v, vs', rfl, h, args_reps (n := n) r⟩
theorem e_tup {k : Nat} (n : Nat) (h : PA X es (tA X.K ct W (List.replicate n false) fs)) : PE X (.Tuple es k pos) (ER X.K ct W (sTup fs)) := by
  refine (pe_tup h).imp fun σ H Q ⟨env, F, E, h⟩ => ?_
  refine fin_bindA E h fun ds vs F1 H1 g1 r1 E1 h => ?_
  have rr := args_reps r1
  have h : Fin X.K ct W (mR X.K ct) F H σ (if ds.length ≤ sizeLine then .ok (.tup ds) else .st) Q := h
  split at h
  · rename_i hl
    refine ⟨by rw [rr.length]; exact hl, fun p hp => ?_⟩
    have g2 := Gr.new E1.ex (o := .tup vs) hp
    exact h _ _ _ (g1.trans g2) ⟨p, vs, rfl, upd_same, Reps.mono (Ex.le g2.f) _ _ rr⟩
  · exact h.elim
theorem e_lst {k : Nat} (n : Nat) (h : PA X es (tA X.K ct W (List.replicate n false) fs)) : PE X (.List es pos) (EN X.K ct W (sLst fs)) := by
  refine (pe_lst h).imp fun σ H Q ⟨env, F, E, h⟩ => ?_
  refine fin_bindA E h fun ds vs F1 H1 g1 r1 E1 h => ?_
  have rr := args_reps r1
  have h : Fin X.K ct W (mN X.K ct) F H σ (if ds.length ≤ sizeLine then .ok (.lst ds) else .st) Q := h
  split at h
  · rename_i hl
    refine ⟨by rw [rr.length]; exact hl, fun p hp => ?_⟩
    have g2 := Gr.own E1.ex (o := .lst vs) hp
    exact h _ _ _ (g1.trans g2) ⟨p, rfl, Ex.free g1.h hp, Ex.free E1.ex hp, vs, upd_same, rr⟩
  · exact h.elim
theorem e_dnewK : PE X (.Dict [] [] pos) (EN X.K ct W (sC (.dk []))) := pe_dnewK.imp fun σ H Q ⟨env, F, E, h⟩ p hp => h _ F _ (Gr.own E.ex hp) ⟨p, rfl, hp, Ex.free E.ex hp, [], upd_same, rfl⟩
theorem e_dnewT : PE X (.Dict [] [] pos) (EN X.K ct W (sC (.dt []))) := pe_dnewT.imp fun σ H Q ⟨env, F, E, h⟩ p hp => h _ F _ (Gr.own E.ex hp) ⟨p, rfl, hp, Ex.free E.ex hp, [], upd_same, rfl⟩
/-- {k: v} -/
def sDisp1 (f g : SE) : SE := fun env => bnd (f env) fun k => bnd (g env) fun v => match keyD k with
  | some k => .ok (.dk [(k, v)])
  | none => .st
theorem e_disp1 (ha : PE X a (ER X.K ct W f)) (hb : PE X b (ER X.K ct W g)) : PE X (.Dict [some a] [b] pos) (EN X.K ct W (sDisp1 f g)) := by
  refine (pe_disp (pps_cons ha hb pps_nil) rfl rfl (by simp) (by simp)).imp fun σ H Q ⟨env, F, E, h⟩ p hp => ?_
  have g0 : Gr F H F (upd H p (.dK [])) := Gr.own E.ex hp
  have E0 := E.gr g0
  have hp0 : F p = none := Ex.free E.ex hp
  refine ⟨env, F, E0, ?_⟩
  unfold sDisp1 at h
  cases e1 : f env with
  | er c fs => rw [e1] at h; exact fun dx F' H' g' x => h dx F' H' (g0.trans g') x
  | st => rw [e1] at h; exact h.elim
  | ok k =>
    rw [e1] at h
    intro x F1 H1 g1 r1
    refine ⟨env, F1, E0.gr g1, ?_⟩
    cases e2 : g env with
    | er c fs => rw [e2] at h; exact fun dx F' H' g' x => h dx F' H' ((g0.trans g1).trans g') x
    | st => rw [e2] at h; exact h.elim
    | ok v =>
      rw [e2] at h
      intro y F2 H2 g2 r2
      have h : Fin X.K ct W (mN X.K ct) F H σ (match keyD k with | some k => .ok (.dk [(k, v)]) | none => .st) Q := h
      cases q : keyD k with
      | none => rw [q] at h; exact h.elim
      | some kk =>
        rw [q] at h
        have hpe : H2 p = some (.dK []) := g2.h _ _ (g1.h _ _ upd_same)
        have ek : x = kV kk := rep_key r1 q
        subst ek
        have g3 := (g0.trans g1).trans g2
        have hp2 : F2 p = none := by
          cases z : F2 p with
          | none => rfl
          | some o =>
            rcases g2.n p o z with z | z
            · rcases g1.n p o z with z | z
              · rw [hp0] at z; cases z
              · rw [upd_same] at z; cases z
            · rw [g1.h _ _ upd_same] at z; cases z
        have em : mergeK [] [(kk, y)] = [(kk, y)] := by simp [mergeK, putK]
        refine ⟨hpe, [(kk, y)], rfl, by simp, ?_⟩
        rw [em]
        refine h _ F2 _ ⟨g3.f, fun a o z => by rw [upd_ne (ne_of_none z hp)]; exact g3.h a o z, fun a o z => by rw [upd_ne (ne_of_none z hp2)]; exact g3.e a o z, g3.n⟩ ⟨p, rfl, hp, hp2, _, upd_same, y, [], rfl, r2, rfl⟩
end
end Ps

namespace Ps
open PySem PySem.Spec PyProof.Rows L2

section
variable {X : Cx} {ct : Nat → Addr} {W : WX} {a b e o : Expr} {es : List Expr} {f g : SE} {fs : SA} {pos p apos cpos : Pos}

/-! ### a text's methods with one argument -/
/-- T.m(e): the receiver a text, the argument read where it stands -/
def SpM (K : PySem.W.Frag) (ct : Nat → Addr) (r : V → List V → Hp → VK → Prop) (op : D → D → Option D) : Prop := ∀ F H x y d e z Q, Ex F H → RepB K ct F H d x → RepB K ct F H e y → op d e = some z → (∃ s, x = .str s) ∧ ((∀ v F' H', Gr F H F' H' → Rep K ct F' z v → Q v H') → r x [y] H Q)
/-- the receiver must be a text -/
def isStrD : D → Bool
  | .str _ => true
  | _ => false
def sM1 (op : D → D → Option D) (f g : SE) : SE := fun env => bnd (f env) fun d => if isStrD d then bnd (g env) fun e => ofO (op d e) else .st
theorem e_m1 {id : String} {name : Str} {r : V → List V → Hp → VK → Prop} {op : D → D → Option D} (slot : Slot "str" name id) (ty : typeOf (.builtin id) = pure (.type "method_descriptor")) (rule : MtR X id r) (hs : SpM X.K ct r op)
    (ho : PE X o (EB X.K ct W f)) (he : PE X e (EB X.K ct W g)) (h1 : starEach [e] X.env = [(false, eval e X.env)] := by rfl) (hbase : attributeBase o name X.env (eval o X.env) = eval o X.env := by rfl) (hline : (apos.endLine == pos.line) = true := by rfl) :
    PE X (.Call (.Attribute o name apos) [e] [] pos) (ER X.K ct W (sM1 op f g)) := by
  refine (pe_m1 slot ty rule ho he h1 hbase hline).imp fun σ H Q ⟨env, F, E, h⟩ => ?_
  refine fin_bind E h rfl fun d x F1 H1 e1 g1 r1 E1 h => ?_
  cases d <;> first | exact h.elim | skip
  rename_i z
  refine ⟨⟨z, r1⟩, ?_⟩
  have h1 := fin_after (M := mR X.K ct) g1 (fun _ _ _ _ m => m) h
  refine fin_bind (k := fun e => ofO (op (.str z) e)) E1 h1 rfl fun e y F2 H2 e2 g2 r2 E2 h => ?_
  cases q : op (.str z) e with
  | none => rw [q] at h; exact h.elim
  | some w =>
    rw [q] at h
    exact (hs F2 H2 x y (.str z) e w Q E2.ex r1 r2 q).2 fun v F' H' g3 m => h v F' H' (g2.trans g3) m
def mJoin : D → D → Option D
  | .str a, .lst ds => (unStrs ds).bind fun ys => if (ys.map (·.length)).sum + ys.length * a.length ≤ 16777216 then some (.str (Txt.join a ys)) else none
  | _, _ => none
theorem spm_join {K : PySem.W.Frag} : SpM K ct (fun x xs H Q => ∃ a p, ∃ ys : List Str, x = .str a ∧ xs = [.ref p] ∧ (SqL K H p (ys.map V.str) ∨ SqT K H p (ys.map V.str)) ∧
    (ys.map (·.length)).sum + ys.length * a.length ≤ 16777216 ∧ Q (.str (Txt.join a ys)) H) mJoin := by
  intro F H x y d e z Q ex hx hy hz
  cases d <;> cases e <;> first | (cases hz; done) | skip
  rename_i s ds
  cases (show x = .str s from hx)
  refine ⟨⟨s, rfl⟩, fun hQ => ?_⟩
  obtain ⟨ys, q1, q2⟩ := Option.bind_eq_some_iff.mp (show ((unStrs ds).bind fun ys => if (ys.map (·.length)).sum + ys.length * s.length ≤ 16777216 then some (D.str (Txt.join s ys)) else none) = some z from hz)
  split at q2
  · rename_i hl
    obtain ⟨a, vs, rfl, h1, h2⟩ := (show RepB K ct F H (.lst ds) y from hy)
    have ev := reps_strs h2 q1
    subst ev
    cases q2
    exact ⟨s, a, ys, rfl, rfl, .inl (SqL.of h1), hl, hQ _ F H (Gr.refl ex) rfl⟩
  · cases q2
theorem spm_str2 {K : PySem.W.Frag} {g2 : Str → Str → V} {op : D → D → Option D} (hop : ∀ d e z, op d e = some z → ∃ a b, d = .str a ∧ e = .str b ∧ cV z = some (g2 a b)) :
    SpM K ct (fun x xs H Q => ∃ a b, x = .str a ∧ xs = [.str b] ∧ Q (g2 a b) H) op := by
  intro F H x y d e z Q ex hx hy hz
  obtain ⟨a, b, rfl, rfl, hv⟩ := hop d e z hz
  cases (show x = .str a from hx)
  cases (show y = .str b from hy)
  refine ⟨⟨a, rfl⟩, fun hQ => ⟨a, b, rfl, rfl, hQ _ F H (Gr.refl ex) ?_⟩⟩
  cases z <;> first | (cases hv; done) | (injection hv with hv; exact hv.symm)
def mCount : D → D → Option D
  | .str a, .str b => some (.int (Txt.count a b))
  | _, _ => none
def mStartswith : D → D → Option D
  | .str a, .str b => some (.bl (Txt.startswith a b))
  | _, _ => none
def mEndswith : D → D → Option D
  | .str a, .str b => some (.bl (Txt.endswith a b))
  | _, _ => none
def mFind : D → D → Option D
  | .str a, .str b => some (.int (Txt.find a b))
  | _, _ => none
theorem spm_count {K : PySem.W.Frag} : SpM K ct (fun x xs H Q => ∃ a b, x = .str a ∧ xs = [.str b] ∧ Q (.int (Txt.count a b)) H) mCount := spm_str2 (g2 := fun a b => .int (Txt.count a b)) fun d e z h => by
  cases d <;> cases e <;> cases h; exact ⟨_, _, rfl, rfl, rfl⟩
theorem spm_startswith {K : PySem.W.Frag} : SpM K ct (fun x xs H Q => ∃ a b, x = .str a ∧ xs = [.str b] ∧ Q (.bl (Txt.startswith a b)) H) mStartswith := spm_str2 (g2 := fun a b => .bl (Txt.startswith a b)) fun d e z h => by
  cases d <;> cases e <;> cases h; exact ⟨_, _, rfl, rfl, rfl⟩
theorem spm_endswith {K : PySem.W.Frag} : SpM K ct (fun x xs H Q => ∃ a b, x = .str a ∧ xs = [.str b] ∧ Q (.bl (Txt.endswith a b)) H) mEndswith := spm_str2 (g2 := fun a b => .bl (Txt.endswith a b)) fun d e z h => by
  cases d <;> cases e <;> cases h; exact ⟨_, _, rfl, rfl, rfl⟩
theorem spm_find {K : PySem.W.Frag} : SpM K ct (fun x xs H Q => ∃ a b, x = .str a ∧ xs = [.str b] ∧ Q (.int (Txt.find a b)) H) mFind := spm_str2 (g2 := fun a b => .int (Txt.find a b)) fun d e z h => by
  cases d <;> cases e <;> cases h; exact ⟨_, _, rfl, rfl, rfl⟩

/-! ### calls of own defs -/
def mF (K : PySem.W.Frag) (ct : Nat → Addr) (fr : Bool) : Md := if fr then mN K ct else mR K ct
theorem mF_ok {K : PySem.W.Frag} {fr : Bool} : MdOk (mF K ct fr) := by
  cases fr with
  | true => exact mN_ok
  | false => exact mR_ok
def spP (K : PySem.W.Frag) (ct : Nat → Addr) (ms : List Bool) (fr : Bool) (m : List D → R) : Sp := fun vs H Q E => ∃ F ds, Ex F H ∧ ArgsRep K ct F H ms ds vs ∧ match m ds with
  | .ok d => ∀ v F' H', Gr F H F' H' → mF K ct fr H F' H' d v → Q v H'
  | .er c fs => ∀ dx F' H', Gr F H F' H' → ExcOk K ct F' dx fs → E (.ref (ct c)) dx H'
  | .st => False
theorem spP_len {K : PySem.W.Frag} {ms : List Bool} {fr : Bool} {m : List D → R} {vs : List V} {H : Hp} {Q : VK} {E : XK} (h : spP K ct ms fr m vs H Q E) : vs.length = ms.length := by
  obtain ⟨F, ds, _, h, _⟩ := h
  exact h.length
/-- a def of the text, for calls -/
structure Cal (P : Program) (w : World) (K : PySem.W.Frag) (mg : Str → Option Value) (base : Heap) (k : Nat) (f : Addr) (sp : Sp) : Prop where
  ex : ∃ fd ps, FnOk P w K mg base (L2.CX P w) k f fd ps sp ∧ Binds K fd ps []
  kp : PySem.W.keepIn K (.ref f) = true
def sFn (m : List D → R) (fs : SA) : SE := fun env => bndA (fs env) m
theorem tcall {K : PySem.W.Frag} {ms : List Bool} {fr : Bool} {m : List D → R} {σ : L2.St} {H : Hp} {Q : VK} (h : tM K ct W (mF K ct fr) (sFn m fs) σ H Q) :
    tA K ct W ms fs σ H fun vs H1 => spP K ct ms fr m vs H1 Q (WE W σ) := by
  obtain ⟨env, F, E, h⟩ := h
  refine fin_bindA E h fun ds vs F1 H1 g1 r1 E1 h => ⟨F1, ds, E1.ex, r1, ?_⟩
  cases q : m ds with
  | ok d => rw [q] at h; exact fun v F' H' g r => h v F' H' (g1.trans g) (mF_ok _ _ _ _ _ _ g1.h r)
  | er c fs => rw [q] at h; exact fun dx F' H' g x => h dx F' H' (g1.trans g) x
  | st => rw [q] at h; exact h
theorem e_call {k j : Nat} {x : Str} {fa : Addr} {ms : List Bool} {fr : Bool} {m : List D → R} (c : Cal X.prog X.w X.K X.mg X.base k fa (spP X.K ct ms fr m)) (hm : X.mg x = some (.ref fa)) (tk : Takes X W) (hr : Room j X.A) (hk : k ≤ j) (hg : Gl X x)
    (ha : PA X (e :: es) (tA X.K ct W ms fs)) (hdb : (x == ("__debug__" : Str)) = false := by decide) (he : starEach (e :: es) X.env = (false, eval e X.env) :: starEach es X.env := by rfl) (hpl : (backTo pos (starEach es X.env)).any (·.1) = false := by rfl) :
    PE X (.Call (.Name x p) (e :: es) [] pos) (tM X.K ct W (mF X.K ct fr) (sFn m fs)) := by
  obtain ⟨⟨fd, ps, F, b⟩, kp⟩ := c
  exact (pe_callSD F (hr.mono hk) hg hm kp b .nil (fun σ => passAt tk σ) ha hdb he hpl).imp fun σ H Q h => by
    have q := tcall (ms := ms) h
    show tA X.K ct W ms fs σ H fun vs H1 => spP X.K ct ms fr m (vs ++ []) H1 Q (WE W σ)
    simpa using q
/-! ### a new instance -/
/-- what an __init__ comes to: the attributes -/
inductive RI where
  | ok (fs : List (Str × D)) | er (c : Nat) (fs : List (Str × D)) | st
/-- __init__ of class c: the new instance first -/
def spI (K : PySem.W.Frag) (ct : Nat → Addr) (c : Nat) (ms : List Bool) (m : List D → RI) : Sp := fun vs H Q E => ∃ F ds x dx vs', vs = .ref x :: vs' ∧ Ex F H ∧ F x = none ∧ H x = some (.ins (ct c) dx []) ∧ ArgsRep K ct F H ms ds vs' ∧ (∀ v ∈ vs', v ≠ .ref x) ∧ match m ds with
  | .ok fs => ∀ F' H' dx' fvs, Ex F F' → Ex F' H' → (∀ a o, H a = some o → a ≠ x → H' a = some o) → (∀ a o, F' a = some o → F a = some o ∨ H a = none) → H' x = some (.ins (ct c) dx' fvs) → Nms c fvs → RepF K ct F' fs fvs → Q .non H'
  | .er c fs => ∀ dx F' H', Ex F F' → Ex F' H' → (∀ a o, H a = some o → a ≠ x → H' a = some o) → (∀ a o, F' a = some o → F a = some o ∨ H a = none) → ExcOk K ct F' dx fs → E (.ref (ct c)) dx H'
  | .st => False
theorem spI_len {K : PySem.W.Frag} {c : Nat} {ms : List Bool} {m : List D → RI} {vs : List V} {H : Hp} {Q : VK} {E : XK} (h : spI K ct c ms m vs H Q E) : vs.length = ms.length + 1 := by
  obtain ⟨F, ds, x, dx, vs', rfl, _, _, _, h, _⟩ := h
  rw [List.length_cons, h.length]
def sMk (c : Nat) (m : List D → RI) (fs : SA) : SE := fun env => bndA (fs env) fun ds => if ds.all noScr then (match m ds with
  | .ok gs => .ok (.obj c gs)
  | .er _ _ => .st
  | .st => .st) else .st
theorem rd_there {H : Hp} {a : Addr} {u : HO} (h : Rd H a u) : ∃ o, H a = some o := by
  rcases h with h | ⟨o, h⟩
  · exact ⟨_, h⟩
  · exact ⟨_, h⟩
theorem repB_there {K : PySem.W.Frag} {F H : Hp} (ex : Ex F H) {d : D} {a : Addr} (n : noScr d = true) (h : RepB K ct F H d (.ref a)) : ∃ o, H a = some o := by
  cases d <;> first | (cases h; done) | (cases n; done) | skip
  · obtain ⟨b, vs, e, h1, _⟩ := h; cases e; exact ⟨_, h1⟩
  · obtain ⟨b, vs, e, h1, _⟩ := h; cases e; exact ⟨_, ex _ _ h1⟩
  · obtain ⟨b, vs, e, h1, _⟩ := h; cases e; exact rd_there h1
  · obtain ⟨b, vs, e, h1, _⟩ := h; cases e; exact rd_there h1
  · obtain ⟨b, dx, vs, e, h1, _⟩ := h; cases e; exact ⟨_, h1⟩
  · obtain ⟨b, dx, e, h1, _⟩ := h; cases e; exact ⟨_, ex _ _ h1⟩
theorem args_ne {K : PySem.W.Frag} {F H : Hp} {x : Addr} (ex : Ex F H) (hx : H x = none) : ∀ {ms : List Bool} {ds : List D} {vs : List V}, ds.all noScr = true → ArgsRep K ct F H ms ds vs → ∀ v ∈ vs, v ≠ .ref x
  | [], _, _, _, h => by rw [h.2]; simp
  | m :: ms, _, _, n, ⟨d, ds', v, vs', e1, e2, h, r⟩ => by
    subst e1 e2
    obtain ⟨n1, n2⟩ := Bool.and_eq_true_iff.mp (by rw [List.all_cons] at n; exact n)
    intro w hw
    rcases List.mem_cons.mp hw with rfl | hw
    · intro e
      subst e
      have hb : RepB K ct F H d (.ref x) := by
        cases m with
        | true => exact h
        | false => exact Rep.b ex h
      obtain ⟨o, ho⟩ := repB_there ex n1 hb
      rw [hx] at ho; cases ho
    · exact args_ne ex hx n2 r w hw
theorem RepB.ext {K : PySem.W.Frag} {F H H' : Hp} (e : ∀ a o, H a = some o → H' a = some o) : ∀ {d : D} {v : V}, RepB K ct F H d v → RepB K ct F H' d v
  | .lst ds, v, h => by
    obtain ⟨a, vs, e1, e2, e3⟩ := h
    exact ⟨a, vs, e1, e _ _ e2, e3⟩
  | .dk ds, v, h => by
    obtain ⟨a, vs, e1, e2, e3⟩ := h
    exact ⟨a, vs, e1, Ex.rd e e2, e3⟩
  | .dt ds, v, h => by
    obtain ⟨a, vs, e1, e2, e3⟩ := h
    exact ⟨a, vs, e1, Ex.rd e e2, e3⟩
  | .obj c fs, v, h => by
    obtain ⟨a, dx, fvs, e1, e2, en, e3⟩ := h
    exact ⟨a, dx, fvs, e1, e _ _ e2, en, e3⟩
  | .non, _, h => h
  | .bl _, _, h => h
  | .int _, _, h => h
  | .str _, _, h => h
  | .tup _, _, h => h
  | .scr _, _, h => h
  | .exo _ _, _, h => h
theorem ArgsRep.ext {K : PySem.W.Frag} {F H H' : Hp} (e : ∀ a o, H a = some o → H' a = some o) : ∀ {ms : List Bool} {ds : List D} {vs : List V}, ArgsRep K ct F H ms ds vs → ArgsRep K ct F H' ms ds vs
  | [], _, _, h => h
  | m :: ms, _, _, ⟨d, ds', v, vs', e1, e2, h, r⟩ => ⟨d, ds', v, vs', e1, e2, by
      cases m with
      | true => exact RepB.ext e h
      | false => exact h, ArgsRep.ext e r⟩
theorem e_mk {k j : Nat} {x : Str} {fa : Addr} {ms : List Bool} {m : List D → RI} (c : Nat) (M : Mk X.K (ct c) fa) (cal : Cal X.prog X.w X.K X.mg X.base k fa (spI X.K ct c ms m)) (hm : X.mg x = some (.ref (ct c))) (tk : Takes X W) (hr : Room j X.A) (hk : k + 1 ≤ j) (hg : Gl X x)
    (ha : PA X (e :: es) (tA X.K ct W ms fs)) (hdb : (x == ("__debug__" : Str)) = false := by decide) (he : starEach (e :: es) X.env = (false, eval e X.env) :: starEach es X.env := by rfl) (hpl : (backTo pos (starEach es X.env)).any (·.1) = false := by rfl) :
    PE X (.Call (.Name x p) (e :: es) [] pos) (ER X.K ct W (sMk c m fs)) := by
  obtain ⟨⟨fd, ps, F, b⟩, kp⟩ := cal
  have base := pe_make (p := p) (E := E0) (ds := []) (dvs := []) M F (hr.mono hk) hg hm b .nil passL ha hdb he hpl
  refine base.imp fun σ H Q ⟨env, F0, E, h⟩ => ?_
  refine fin_bindA E h fun ds vs F1 H1 g1 r1 E1 h y dx hy hdx hne => ?_
  have h : Fin X.K ct W (mR X.K ct) F0 H σ (if ds.all noScr then (match m ds with | .ok gs => .ok (.obj c gs) | .er _ _ => .st | .st => .st) else .st) Q := h
  split at h
  · rename_i hns
    have hF : F1 y = none := Ex.free E1.ex hy
    have e2 : ∀ a o, H1 a = some o → (upd (upd H1 dx (.own y)) y (.ins (ct c) dx [])) a = some o := fun a o q => by
      rw [upd_ne (ne_of_none q hy), upd_ne (ne_of_none q hdx)]; exact q
    have e3 : Ex F1 (upd (upd H1 dx (.own y)) y (.ins (ct c) dx [])) := fun a o q => e2 a o (E1.ex a o q)
    refine ⟨F1, ds, y, dx, vs, by rw [List.append_nil], e3, hF, upd_same, r1.ext e2, args_ne E1.ex hy hns r1, ?_⟩
    have keep : ∀ {F' H' : Hp}, Ex F1 F' → Ex F' H' → (∀ a o, (upd (upd H1 dx (.own y)) y (.ins (ct c) dx [])) a = some o → a ≠ y → H' a = some o) → (∀ a o, F' a = some o → F1 a = some o ∨ (upd (upd H1 dx (.own y)) y (.ins (ct c) dx [])) a = none) → Gr F0 H F' H' := fun {F' H'} a1 a2 a3 a4 => by
      refine g1.trans ⟨a1, fun a o q => a3 a o (e2 a o q) (ne_of_none q hy), a2, fun a o q => ?_⟩
      rcases a4 a o q with z | z
      · exact .inl z
      · refine .inr ?_
        cases q2 : H1 a with
        | none => rfl
        | some u => rw [e2 a u q2] at z; cases z
    cases q : m ds with
    | ok gs =>
      rw [q] at h
      intro F' H' dx' fvs a1 a2 a3 a4 a5 a6 a7
      refine ⟨rfl, ?_⟩
      have g2 := keep a1 a2 a3 a4
      have hyH : H y = none := Ex.free g1.h hy
      exact h _ _ _ (g2.share E.ex hyH a5) ⟨y, dx', fvs, rfl, upd_same, a6, RepF.mono (Ex.le (Ex.new (by
        cases z : F' y with
        | none => rfl
        | some o =>
          rcases a4 y o z with z | z
          · rw [hF] at z; cases z
          · rw [upd_same] at z; cases z))) _ _ a7⟩
    | er c' fs' => rw [q] at h; exact h.elim
    | st => rw [q] at h; exact h
  · exact h.elim
end
end Ps

namespace Ps
open PySem PySem.Spec PyProof.Rows L2

/-! ### what is walked -/
def ItOk (K : PySem.W.Frag) (ct : Nat → Addr) (J : It) (ds : List D) (O : Addr → Prop) (F H : Hp) : Prop := ∃ (G : Hp → Prop) (Y : Nat → Hp → V → Hp → Prop), Walk J ds.length G Y ∧ (∀ H2, (∀ b o, H b = some o → ¬ O b → H2 b = some o) → G H2) ∧
  ∀ (i : Nat) d F1 H1 x H1', ds[i]? = some d → Ex F F1 → Ex F1 H1 → Y i H1 x H1' → ∃ F1', Gr F1 H1 F1' H1' ∧ Rep K ct F1' d x
theorem ItOk.mono {K : PySem.W.Frag} {ct : Nat → Addr} {J : It} {ds : List D} {O O' : Addr → Prop} {F H : Hp} (h : ItOk K ct J ds O F H) (hO : ∀ a, O' a → O a) : ItOk K ct J ds O' F H := by
  obtain ⟨G, Y, h1, h2, h3⟩ := h
  exact ⟨G, Y, h1, fun H2 k => h2 H2 fun b o q n => k b o q fun z => n (hO b z), h3⟩
abbrev OW := En → L2.St → Addr → Prop
def O1 : OW := Owns
def O0 : OW := fun _ _ _ => False
def tI (K : PySem.W.Frag) (ct : Nat → Addr) (W : WX) (O : OW) (f : SE) : TI := fun σ H R => ∃ env F, EnvOk K ct F H env σ ∧ match f env with
  | .ok (.lst ds) => ∀ J F' H', Gr F H F' H' → ItOk K ct J ds (O env σ) F' H' → R J H'
  | .ok _ => False
  | .er c fs => ∀ dx F' H', Gr F H F' H' → ExcOk K ct F' dx fs → W (.ref (ct c)) dx σ H'
  | .st => False
theorem _root_.L2.PI.imp {X : Cx} {tg e : Expr} {t t' : TI} (p : PI X tg e t) (h : ∀ σ H R, t' σ H R → t σ H R) : PI X tg e t' := ⟨fun pins s σ H R I q => p.run pins s σ H R I (h σ H R q)⟩
theorem _root_.L2.PI.or {X : Cx} {tg e : Expr} {t t' : TI} (p : PI X tg e t) (p' : PI X tg e t') : PI X tg e (fun σ H R => t σ H R ∨ t' σ H R) := ⟨fun pins s σ H R I q => by
  rcases q with q | q
  · exact p.run pins s σ H R I q
  · exact p'.run pins s σ H R I q⟩
section
variable {K : PySem.W.Frag} {ct : Nat → Addr} {W : WX} {F H : Hp} {env : En} {σ : L2.St} {O : OW}
theorem own_free (E : EnvOk K ct F H env σ) {a : Addr} (h : Owns env σ a) : F a = none ∧ ∃ o, H a = some o := by
  obtain ⟨i, s, e1, e2, e3⟩ := h
  cases s <;> first | (cases e2; done) | skip
  · obtain ⟨b, q1, q2⟩ := E.ow _ _ e1
    rw [e3] at q1; cases q1
    exact ⟨q2.free, q2.there⟩
  · obtain ⟨b, dx, fvs, q1, q2, q3, _⟩ := E.oo _ _ _ _ e1
    rw [e3] at q1; cases q1
    exact ⟨q2, _, q3⟩
  · obtain ⟨b, q1, q2⟩ := E.gh _ _ e1
    rw [e3] at q1; cases q1
    exact ⟨q2.free, q2.there⟩
  · obtain ⟨b, b2, d, q1, q2, q3, _⟩ := E.ln _ _ e1
    rw [e3] at q1; cases q1
    exact ⟨q2, _, q3⟩
theorem itok_sq {a : Addr} {vs : List V} {ds : List D} {O : Addr → Prop} (hs : ∀ H2, (∀ b o, H b = some o → ¬ O b → H2 b = some o) → SqL K H2 a vs) (hr : Reps K ct F ds vs) : ItOk K ct (Itl K a) ds O F H := by
  have w := walk_list (K := K) (a := a) (xs := vs)
  rw [hr.length] at w
  refine ⟨_, _, w, hs, fun i d F1 H1 x H1' e1 e2 e3 y => ?_⟩
  obtain ⟨rfl, y2⟩ := y
  obtain ⟨v, h1, h2⟩ := hr.get e1
  rw [y2] at h1; cases h1
  exact ⟨F1, Gr.refl e3, Rep.mono (Ex.le e2) _ _ h2⟩
theorem itok_tup {a : Addr} {vs : List V} {ds : List D} {O : Addr → Prop} (hs : ∀ H2, (∀ b o, H b = some o → ¬ O b → H2 b = some o) → SqT K H2 a vs) (hr : Reps K ct F ds vs) : ItOk K ct (Itt K a) ds O F H := by
  have w := walk_tup (K := K) (a := a) (xs := vs)
  rw [hr.length] at w
  refine ⟨_, _, w, hs, fun i d F1 H1 x H1' e1 e2 e3 y => ?_⟩
  obtain ⟨rfl, y2⟩ := y
  obtain ⟨v, h1, h2⟩ := hr.get e1
  rw [y2] at h1; cases h1
  exact ⟨F1, Gr.refl e3, Rep.mono (Ex.le e2) _ _ h2⟩
def sgn (c : Nat) : D := .str ⟨#[c]⟩
theorem itok_str {z : Str} {O : Addr → Prop} : ItOk K ct (Its z) (z.cps.toList.map sgn) O F H := by
  have w := walk_str (z := z)
  have e : z.cps.size = (z.cps.toList.map sgn).length := by simp
  rw [e] at w
  refine ⟨_, _, w, fun _ _ => True.intro, fun i d F1 H1 x H1' e1 e2 e3 y => ?_⟩
  obtain ⟨rfl, c, y2, rfl⟩ := y
  have : d = sgn c := by
    rw [List.getElem?_map] at e1
    obtain ⟨c', q1, q2⟩ := Option.map_eq_some_iff.mp e1
    have : z.cps.toList[i]? = some c := by simpa using y2
    rw [this] at q1; cases q1; exact q2.symm
  subst this
  exact ⟨F1, Gr.refl e3, rfl⟩
theorem itok_range {lo : Int} {n : Nat} {O : Addr → Prop} : ItOk K ct (Itr lo n) ((List.range n).map fun (i : Nat) => D.int (lo + (i : Int))) O F H := by
  have w := walk_range (lo := lo) (n := n)
  have e : n = ((List.range n).map fun (i : Nat) => D.int (lo + (i : Int))).length := by simp
  refine ⟨_, _, by rw [← e]; exact w, fun _ _ => True.intro, fun i d F1 H1 x H1' e1 e2 e3 y => ?_⟩
  obtain ⟨rfl, rfl⟩ := y
  rw [List.getElem?_map] at e1
  obtain ⟨c', q1, q2⟩ := Option.map_eq_some_iff.mp e1
  obtain ⟨hlt, q1⟩ := List.getElem?_eq_some_iff.mp q1
  rw [List.getElem_range] at q1
  subst q1 q2
  exact ⟨F1, Gr.refl e3, rfl⟩
theorem itok_rangeC {lo c : Int} {n : Nat} {O : Addr → Prop} : ItOk K ct (Itc lo c n) ((List.range n).map fun (i : Nat) => D.int (lo + (i : Int) * c)) O F H := by
  have w := walk_rangeC (lo := lo) (c := c) (n := n)
  have e : n = ((List.range n).map fun (i : Nat) => D.int (lo + (i : Int) * c)).length := by simp
  refine ⟨_, _, by rw [← e]; exact w, fun _ _ => True.intro, fun i d F1 H1 x H1' e1 e2 e3 y => ?_⟩
  obtain ⟨rfl, rfl⟩ := y
  rw [List.getElem?_map] at e1
  obtain ⟨c', q1, q2⟩ := Option.map_eq_some_iff.mp e1
  obtain ⟨hlt, q1⟩ := List.getElem?_eq_some_iff.mp q1
  rw [List.getElem_range] at q1
  subst q1 q2
  exact ⟨F1, Gr.refl e3, rfl⟩
def enumD : Nat → List D → List D
  | _, [] => []
  | k, d :: ds => .tup [.int k, d] :: enumD (k + 1) ds
theorem enumD_length : ∀ (k : Nat) (ds : List D), (enumD k ds).length = ds.length
  | _, [] => rfl
  | k, d :: ds => by unfold enumD; rw [List.length_cons, List.length_cons, enumD_length (k + 1) ds]
theorem enumD_get : ∀ (k : Nat) (ds : List D) (i : Nat), (enumD k ds)[i]? = (ds[i]?).map fun d => .tup [.int ((k + i : Nat) : Int), d]
  | _, [], i => by simp [enumD]
  | k, d :: ds, 0 => by simp [enumD]
  | k, d :: ds, i + 1 => by
    show (enumD (k + 1) ds)[i]? = _
    rw [enumD_get (k + 1) ds i]
    have : k + 1 + i = k + (i + 1) := by omega
    rw [this]; simp
theorem gr_tup2 {F1 H1 : Hp} {x y : V} {d e : D} {T : Addr} (ex : Ex F1 H1) (hT : H1 T = none) (hd : Rep K ct F1 d x) (he : Rep K ct F1 e y) : ∃ F1', Gr F1 H1 F1' (upd H1 T (.tup [x, y])) ∧ Rep K ct F1' (.tup [d, e]) (.ref T) := by
  have g := Gr.new ex (o := .tup [x, y]) hT
  exact ⟨_, g, T, [x, y], rfl, upd_same, x, [y], rfl, Rep.mono (Ex.le g.f) _ _ hd, y, [], rfl, Rep.mono (Ex.le g.f) _ _ he, rfl⟩
theorem itok_enum {a : Addr} {vs : List V} {ds : List D} {O : Addr → Prop} (hs : ∀ H2, (∀ b o, H b = some o → ¬ O b → H2 b = some o) → SqL K H2 a vs) (hr : Reps K ct F ds vs) : ItOk K ct (Ite K a) (enumD 0 ds) O F H := by
  have w := walk_enum (K := K) (a := a) (xs := vs)
  rw [hr.length, ← enumD_length 0 ds] at w
  refine ⟨_, _, w, hs, fun i d F1 H1 x H1' e1 e2 e3 y => ?_⟩
  obtain ⟨T, x1, x2, rfl, hT, rfl, y1, y2⟩ := y
  cases y1
  rw [enumD_get] at e1
  obtain ⟨d', q1, q2⟩ := Option.map_eq_some_iff.mp e1
  obtain ⟨v, h1, h2⟩ := hr.get q1
  have h1 : vs[i]? = some v := h1
  have y2 : vs[i]? = some x2 := y2
  rw [y2] at h1; cases h1
  subst q2
  exact gr_tup2 e3 hT (by show V.int (i : Int) = V.int ((0 + i : Nat) : Int); rw [Nat.zero_add]) (Rep.mono (Ex.le e2) _ _ h2)
end

section
variable {X : Cx} {ct : Nat → Addr} {W : WX} {a b e tg : Expr} {es : List Expr} {f : SE} {fs : SA} {pos p : Pos} {O : OW}
def itemsD : D → Option (List D)
  | .lst ds => some ds
  | .tup ds => some ds
  | .scr ns => some (ns.map .int)
  | .str z => some (z.cps.toList.map sgn)
  | _ => none
def sItems (f : SE) : SE := fun env => bnd (f env) fun d => match itemsD d with
  | some ds => .ok (.lst ds)
  | none => .st
/-- where the container is shared, its cell isn't owned; in a comprehension nothing is changed -/
def Fit (m : Bool) (O : OW) : Prop := m = true → ∀ env σ a, ¬ O env σ a
theorem fit1 : Fit false O1 := fun h => nomatch h
theorem fit0 : Fit true O0 := fun _ _ _ _ z => z
theorem keepL {K : PySem.W.Frag} {H0 F H : Hp} {env : En} {σ : L2.St} {m : Bool} {O : OW} (hO : ∀ env σ a, O env σ a → Owns env σ a) (fit : Fit m O) (E : EnvOk K ct F H env σ) {d : D} {x : V} {a : Addr} (hx : x = .ref a) (r : mX K ct m H0 F H d x) {o : HO} (ho : H a = some o) (hF : m = false → F a = some o) :
    ∀ H2 : Hp, (∀ b o, H b = some o → ¬ O env σ b → H2 b = some o) → H2 a = some o := fun H2 k => k a o ho fun z => by
  cases m with
  | true => exact fit rfl _ _ _ z
  | false =>
    have := (own_free E (hO _ _ _ z)).1
    rw [hF rfl] at this; cases this
theorem o1_own : ∀ env σ a, O1 env σ a → Owns env σ a := fun _ _ _ h => h
theorem o0_own : ∀ env σ a, O0 env σ a → Owns env σ a := fun _ _ _ h => h.elim
theorem i_any {m : Bool} (hO : ∀ env σ a, O env σ a → Owns env σ a) (fit : Fit m O) (he : PE X e (tM X.K ct W (mX X.K ct m) f)) : PI X tg e (tI X.K ct W O (sItems f)) := by
  refine ((pi_list he).or ((pi_tup he).or (pi_str he))).imp fun σ H RR ⟨env, F, E, h⟩ => ?_
  have er : ∀ {t : TE} {Q1 : VK}, t = tM X.K ct W (mX X.K ct m) f → (∀ d, f env = .ok d → ∀ v F' H', Gr F H F' H' → mX X.K ct m H F' H' d v → Q1 v H') → t σ H Q1 := fun {t Q1} et k => by
    subst et
    refine ⟨env, F, E, ?_⟩
    unfold sItems at h
    cases q : f env with
    | ok d => exact fun v F' H' g r => k d q v F' H' g r
    | er c fs => rw [q] at h; exact h
    | st => rw [q] at h; exact h.elim
  have go : ∀ d ds, f env = .ok d → itemsD d = some ds → ∀ J F' H', Gr F H F' H' → ItOk X.K ct J ds (O env σ) F' H' → RR J H' := fun d ds q1 q2 => by
    have h2 : (match sItems f env with | .ok (.lst ds) => ∀ J F' H', Gr F H F' H' → ItOk X.K ct J ds (O env σ) F' H' → RR J H' | .ok _ => False | .er c fs => ∀ dx F' H', Gr F H F' H' → ExcOk X.K ct F' dx fs → W (.ref (ct c)) dx σ H' | .st => False) := h
    have e : sItems f env = .ok (.lst ds) := by unfold sItems; rw [q1]; show (match itemsD d with | some ds => Ps.R.ok (D.lst ds) | none => Ps.R.st) = _; rw [q2]
    rw [e] at h2
    exact h2
  have hsh : ∀ {d : D} {v : V} {F' H' : Hp}, mX X.K ct m H F' H' d v → Ex F' H' → RepB X.K ct F' H' d v := fun {d v F' H'} r ex => by
    cases m with
    | true => exact r
    | false => exact Rep.b ex r
  cases q : f env with
  | er c fs => exact .inl (er rfl fun d e => by rw [q] at e; cases e)
  | st => exact .inl (er rfl fun d e => by rw [q] at e; cases e)
  | ok d =>
    have no : itemsD d = none → False := fun hn => by
      have h2 : (match sItems f env with | .ok (.lst ds) => ∀ J F' H', Gr F H F' H' → ItOk X.K ct J ds (O env σ) F' H' → RR J H' | .ok _ => False | .er c fs => ∀ dx F' H', Gr F H F' H' → ExcOk X.K ct F' dx fs → W (.ref (ct c)) dx σ H' | .st => False) := h
      have e : sItems f env = .st := by unfold sItems; rw [q]; show (match itemsD d with | some ds => Ps.R.ok (D.lst ds) | none => Ps.R.st) = _; rw [hn]
      rw [e] at h2
      exact h2
    cases d <;> first | exact (no rfl).elim | skip
    · rename_i z
      refine .inr (.inr (er rfl fun d e v F' H' g r => ?_))
      rw [q] at e; cases e
      have hv : v = .str z := by cases m <;> exact r
      subst hv
      exact ⟨z, rfl, go _ _ q rfl _ F' H' g itok_str⟩
    · rename_i ds
      refine .inl (er rfl fun d e v F' H' g r => ?_)
      rw [q] at e; cases e
      obtain ⟨a, vs, rfl, h1, h2⟩ := hsh r g.e
      have kp := keepL hO fit (E.gr g) rfl r h1 (fun hm => by
        subst hm
        obtain ⟨b, us, e1, e2, _⟩ := (show Rep X.K ct F' (.lst ds) (.ref a) from r)
        cases e1
        have := g.e _ _ e2
        rw [h1] at this; cases this; exact e2)
      exact ⟨a, rfl, ⟨vs, SqL.of h1⟩, go _ _ q rfl _ F' H' g (itok_sq (fun H2 k => SqL.of (kp H2 k)) h2)⟩
    · rename_i ds
      refine .inr (.inl (er rfl fun d e v F' H' g r => ?_))
      rw [q] at e; cases e
      have r2 : Rep X.K ct F' (.tup ds) v := by cases m <;> exact r
      obtain ⟨a, vs, rfl, h1, h2⟩ := r2
      refine ⟨a, rfl, ⟨vs, SqT.of (g.e _ _ h1)⟩, go _ _ q rfl _ F' H' g (itok_tup (fun H2 k => SqT.of (k a _ (g.e _ _ h1) fun z => ?_)) h2)⟩
      have := (own_free (E.gr g) (hO _ _ _ z)).1
      rw [h1] at this; cases this
    · rename_i ns
      refine .inl (er rfl fun d e v F' H' g r => ?_)
      rw [q] at e; cases e
      have r2 : Rep X.K ct F' (.scr ns) v := by cases m <;> exact r
      obtain ⟨a, rfl, h1⟩ := r2
      have st : ∀ H2, (∀ b o, H' b = some o → ¬ O env σ b → H2 b = some o) → SqL X.K H2 a (ns.map V.int) := fun H2 k => by
        rcases h1 with h1 | h1
        · have : ∀ o, F' a = some o → H2 a = some o := fun o ho => k a o (g.e _ _ ho) fun z => by
            have := (own_free (E.gr g) (hO _ _ _ z)).1
            rw [ho] at this; cases this
          rcases h1 with h1 | ⟨o, h1⟩
          · exact .inl (.inl (this _ h1))
          · exact .inl (.inr ⟨o, this _ h1⟩)
        · exact .inr h1
      refine ⟨a, rfl, ⟨_, st H' fun _ _ q _ => q⟩, go _ _ q rfl _ F' H' g (itok_sq st Reps.ints)⟩
/-- range -/
def inR (i : Int) : Bool := decide (-(2 ^ 62) ≤ i) && decide (i < 2 ^ 62)
def rng1 : List D → Option (List D)
  | [.int j] => if inR j then some ((List.range j.toNat).map fun (i : Nat) => D.int (0 + (i : Int))) else none
  | _ => none
def rng2 : List D → Option (List D)
  | [.int i, .int j] => if inR i && inR j then some ((List.range (j - i).toNat).map fun (k : Nat) => D.int (i + (k : Int))) else none
  | _ => none
def rng3 : List D → Option (List D)
  | [.int i, .int j, .int c] => if c ≠ 0 ∧ c.natAbs < 1073741824 ∧ Builtin.Range.small i j c = true ∧ 0 ≤ Builtin.Range.rangeSize i j c then some ((List.range (Builtin.Range.rangeSize i j c).toNat).map fun (k : Nat) => D.int (i + (k : Int) * c)) else none
  | _ => none
def sRng (r : List D → Option (List D)) (fs : SA) : SE := fun env => bndA (fs env) fun ds => match r ds with
  | some xs => .ok (.lst xs)
  | none => .st
theorem tI_args {ms : List Bool} {r : List D → Option (List D)} {σ : L2.St} {H : Hp} {RR : It → Hp → Prop} (h : tI X.K ct W O (sRng r fs) σ H RR) {Q1 : List V → Hp → Prop}
    (k : ∀ ds xs vs F' H', r ds = some xs → Ex F' H' → ArgsRep X.K ct F' H' ms ds vs → (∀ J, (∀ O, ItOk X.K ct J xs O F' H') → RR J H') → Q1 vs H') : tA X.K ct W ms fs σ H Q1 := by
  obtain ⟨env, F, E, h⟩ := h
  refine ⟨env, F, E, ?_⟩
  unfold sRng at h
  cases q : fs env with
  | er c fs => rw [q] at h; exact h
  | st => rw [q] at h; exact h.elim
  | ok ds =>
    rw [q] at h
    intro vs F' H' g ra
    cases q2 : r ds with
    | none =>
      have h2 : (match (match r ds with | some xs => Ps.R.ok (D.lst xs) | none => Ps.R.st) with | .ok (.lst ds) => ∀ J F' H', Gr F H F' H' → ItOk X.K ct J ds (O env σ) F' H' → RR J H' | .ok _ => False | .er c fs => ∀ dx F' H', Gr F H F' H' → ExcOk X.K ct F' dx fs → W (.ref (ct c)) dx σ H' | .st => False) := h
      rw [q2] at h2
      exact h2.elim
    | some xs =>
      have h2 : (match (match r ds with | some xs => Ps.R.ok (D.lst xs) | none => Ps.R.st) with | .ok (.lst ds) => ∀ J F' H', Gr F H F' H' → ItOk X.K ct J ds (O env σ) F' H' → RR J H' | .ok _ => False | .er c fs => ∀ dx F' H', Gr F H F' H' → ExcOk X.K ct F' dx fs → W (.ref (ct c)) dx σ H' | .st => False) := h
      rw [q2] at h2
      exact k ds xs vs F' H' q2 g.e ra fun J hJ => h2 J F' H' g (hJ _)
theorem inR_iff {i : Int} (h : inR i = true) : -(2 ^ 62) ≤ i ∧ i < 2 ^ 62 := by
  obtain ⟨h1, h2⟩ := Bool.and_eq_true_iff.mp h
  exact ⟨of_decide_eq_true h1, of_decide_eq_true h2⟩
theorem i_rng1 (hg : Gl X "range") (hm : X.mg "range" = none) (ha : PA X [a] (tA X.K ct W [false] fs)) (hs : starEach [a] X.env = [(false, eval a X.env)] := by rfl) : PI X tg (.Call (.Name "range" p) [a] [] pos) (tI X.K ct W O (sRng rng1 fs)) := by
  refine (pi_range1 hg hm ha hs).imp fun σ H R h => tI_args h fun ds xs vs F' H' q ex ra k => ?_
  obtain ⟨d, v, rfl, rfl, r⟩ := args1 ra
  cases d <;> first | (cases q; done) | skip
  rename_i j
  cases (show v = .int j from r)
  simp only [rng1] at q
  split at q
  · rename_i hj
    cases q
    exact ⟨j, rfl, (inR_iff hj).1, (inR_iff hj).2, k _ fun O => itok_range⟩
  · cases q
theorem i_rng2 (hg : Gl X "range") (hm : X.mg "range" = none) (ha : PA X [a, b] (tA X.K ct W [false, false] fs)) (hs : starEach [a, b] X.env = [(false, eval a X.env), (false, eval b X.env)] := by rfl) (hs2 : starEach [b] X.env = [(false, eval b X.env)] := by rfl) :
    PI X tg (.Call (.Name "range" p) [a, b] [] pos) (tI X.K ct W O (sRng rng2 fs)) := by
  refine (pi_range2 hg hm ha hs hs2).imp fun σ H R h => tI_args h fun ds xs vs F' H' q ex ra k => ?_
  obtain ⟨d, e, v, w, rfl, rfl, r1, r2⟩ := args2 ra
  cases d <;> cases e <;> first | (cases q; done) | skip
  rename_i i j
  cases (show v = .int i from r1)
  cases (show w = .int j from r2)
  simp only [rng2] at q
  split at q
  · rename_i hj
    obtain ⟨h1, h2⟩ := Bool.and_eq_true_iff.mp hj
    cases q
    exact ⟨i, j, rfl, ⟨(inR_iff h1).1, (inR_iff h1).2, (inR_iff h2).1, (inR_iff h2).2⟩, k _ fun O => itok_range⟩
  · cases q
theorem i_rng3 {c : Expr} (hg : Gl X "range") (hm : X.mg "range" = none) (ha : PA X [a, b, c] (tA X.K ct W [false, false, false] fs))
    (hs : starEach [a, b, c] X.env = (false, eval a X.env) :: starEach [b, c] X.env := by rfl) (hpl : (backTo pos (starEach [b, c] X.env)).any (·.1) = false := by rfl) :
    PI X tg (.Call (.Name "range" p) [a, b, c] [] pos) (tI X.K ct W O (sRng rng3 fs)) := by
  refine (pi_range3 hg hm ha hs hpl).imp fun σ H R h => tI_args h fun ds xs vs F' H' q ex ra k => ?_
  obtain ⟨d, ds', v, vs', rfl, rfl, r1, ra⟩ := ra
  obtain ⟨e, g, w, u, rfl, rfl, r2, r3⟩ := args2 ra
  cases d <;> cases e <;> cases g <;> first | (cases q; done) | skip
  rename_i i j c
  cases (show v = .int i from r1)
  cases (show w = .int j from r2)
  cases (show u = .int c from r3)
  simp only [rng3] at q
  split at q
  · rename_i hj
    cases q
    refine ⟨i, j, c, (Builtin.Range.rangeSize i j c).toNat, rfl, ⟨hj.1, hj.2.1, hj.2.2.1, ?_⟩, k _ fun O => itok_rangeC⟩
    exact (Int.toNat_of_nonneg hj.2.2.2).symm
  · cases q
end
end Ps

namespace Ps
open PySem PySem.Spec PyProof.Rows L2

/-! ### what a step does to the state -/
structure Sr (F H : Hp) (env : En) (σ : L2.St) (F' H' : Hp) : Prop where
  f : Ex F F'
  e : Ex F' H'
  k : ∀ a o, H a = some o → ¬ Owns env σ a → H' a = some o
  t : ∀ a o, H a = some o → ∃ o', H' a = some o'
  n : ∀ a o, F' a = some o → F a = some o ∨ H a = none ∨ Owns env σ a
structure Sx (F H : Hp) (env : En) (σ : L2.St) (F' H' : Hp) (env' : En) (σ' : L2.St) : Prop extends Sr F H env σ F' H' where
  o : ∀ a, Owns env' σ' a → Owns env σ a ∨ H a = none
  b : ∀ (i : Nat) (d : D), env[i]? = some (.bo d) → env'[i]? = some (.bo d) ∧ σ'[i]? = σ[i]?
  q : ∀ (i c : Nat) (fs : List (Str × D)) (gs : List (Str × Nat)), env[i]? = some (.oo c fs gs) → (∃ fs' gs', env'[i]? = some (.oo c fs' gs')) ∧ σ'[i]? = σ[i]?
section
variable {F H F1 H1 F2 H2 : Hp} {env e1 e2 : En} {σ σ1 σ2 : L2.St}
theorem Gr.sr (g : Gr F H F1 H1) : Sr F H env σ F1 H1 := ⟨g.f, g.e, fun a o q _ => g.h a o q, fun a o q => ⟨o, g.h a o q⟩, fun a o q => (g.n a o q).imp id .inl⟩
theorem Gr.sx (g : Gr F H F1 H1) : Sx F H env σ F1 H1 env σ := ⟨g.sr, fun _ h => .inl h, fun _ _ h => ⟨h, rfl⟩, fun _ _ fs gs h => ⟨⟨fs, gs, h⟩, rfl⟩⟩
theorem t_none (t : ∀ a o, H a = some o → ∃ o', H1 a = some o') {a : Addr} (h : H1 a = none) : H a = none := by
  cases q : H a with
  | none => rfl
  | some o => obtain ⟨o', q'⟩ := t a o q; rw [h] at q'; cases q'
theorem Sx.sr_trans (x : Sx F H env σ F1 H1 e1 σ1) (y : Sr F1 H1 e1 σ1 F2 H2) : Sr F H env σ F2 H2 where
  f := x.f.trans y.f
  e := y.e
  k := fun a o q n => y.k a o (x.k a o q n) fun z => by
    rcases x.o a z with z | z
    · exact n z
    · rw [q] at z; cases z
  t := fun a o q => let ⟨o1, q1⟩ := x.t a o q; y.t a o1 q1
  n := fun a o q => by
    rcases y.n a o q with z | z | z
    · exact x.n a o z
    · exact .inr (.inl (t_none x.t z))
    · rcases x.o a z with z | z
      · exact .inr (.inr z)
      · exact .inr (.inl z)
theorem Sx.trans (x : Sx F H env σ F1 H1 e1 σ1) (y : Sx F1 H1 e1 σ1 F2 H2 e2 σ2) : Sx F H env σ F2 H2 e2 σ2 where
  toSr := x.sr_trans y.toSr
  o := fun a z => by
    rcases y.o a z with z | z
    · exact x.o a z
    · exact .inr (t_none x.t z)
  b := fun i d h => by
    obtain ⟨h1, h2⟩ := x.b i d h
    obtain ⟨h3, h4⟩ := y.b i d h1
    exact ⟨h3, h4.trans h2⟩
  q := fun i c fs gs h => by
    obtain ⟨⟨fs1, gs1, h1⟩, h2⟩ := x.q i c fs gs h
    obtain ⟨h3, h4⟩ := y.q i c fs1 gs1 h1
    exact ⟨h3, h4.trans h2⟩
end

/-! ### slots set -/
def canSet : Sl → Bool
  | .bo _ => false
  | .oo _ _ _ => false
  | .gh _ => false
  | .ln _ => false
  | _ => true
def setSl (env : En) (i : Nat) (s : Sl) : Option En := match env[i]? with
  | some t => if canSet t then some (env.set i s) else none
  | none => none
theorem setSl_some {env env' : En} {i : Nat} {s : Sl} (h : setSl env i s = some env') : ∃ t, env[i]? = some t ∧ canSet t = true ∧ env' = env.set i s := by
  unfold setSl at h
  split at h
  · rename_i t q
    split at h
    · rename_i hc
      cases h
      exact ⟨t, q, hc, rfl⟩
    · cases h
  · cases h
section
variable {K : PySem.W.Frag} {ct : Nat → Addr} {F H : Hp} {env env' : En} {σ : L2.St} {i : Nat}
theorem get_set_self {α : Type} {l : List α} {i : Nat} {x t : α} (h : l[i]? = some t) : (l.set i x)[i]? = some x := by
  obtain ⟨hl, _⟩ := List.getElem?_eq_some_iff.mp h
  simp [hl]
theorem get_set_ne {α : Type} {l : List α} {i j : Nat} {x : α} (h : j ≠ i) : (l.set i x)[j]? = l[j]? := List.getElem?_set_ne (Ne.symm h)
/-- slot i set to a thing that isn't owned -/
theorem owns_set {s t : Sl} {x : Option V} (hi : env[i]? = some t) (hs : isOw s = false) {a : Addr} (h : Owns (env.set i s) (σ.set i x) a) : Owns env σ a := by
  obtain ⟨j, u, e1, e2, e3⟩ := h
  by_cases hj : j = i
  · subst hj
    rw [get_set_self hi] at e1
    cases e1; rw [hs] at e2; cases e2
  · rw [get_set_ne hj] at e1 e3
    exact ⟨j, u, e1, e2, e3⟩
theorem set_ok (E : EnvOk K ct F H env σ) {t s : Sl} {x : Option V} (hi : env[i]? = some t) (hc : canSet t = true) (hs : isOw s = false) (hb : ∀ d, s ≠ .bo d) (hsh : ∀ d, s = .sh d → ∃ v, x = some v ∧ Rep K ct F d v) :
    EnvOk K ct F H (env.set i s) (σ.set i x) ∧ Sx F H env σ F H (env.set i s) (σ.set i x) := by
  have hl : i < σ.length := by
    obtain ⟨h1, _⟩ := List.getElem?_eq_some_iff.mp hi
    rw [← E.len]; exact h1
  have hσ : (σ.set i x)[i]? = some x := by simp [hl]
  refine ⟨⟨E.ex, by simp [E.len], fun j d h => ?_, fun j d h => ?_, fun j d h => ?_, fun j c fs gs h => ?_, fun j d h => ?_, fun j g h => ?_, fun j k u w a h1 h2 h3 h4 h5 h6 => ?_⟩, ⟨(Gr.refl E.ex).sr, fun a h => .inl (owns_set hi hs h), fun j d h => ?_, fun j c fs gs h => ?_⟩⟩
  · by_cases hj : j = i
    · subst hj
      rw [get_set_self hi] at h; cases h
      obtain ⟨v, rfl, r⟩ := hsh d rfl
      exact ⟨v, hσ, r⟩
    · rw [get_set_ne hj] at h ⊢
      exact E.sh j d h
  · by_cases hj : j = i
    · subst hj; rw [get_set_self hi] at h; cases h; cases hs
    · rw [get_set_ne hj] at h ⊢
      exact E.ow j d h
  · by_cases hj : j = i
    · subst hj; rw [get_set_self hi] at h; cases h; exact absurd rfl (hb d)
    · rw [get_set_ne hj] at h ⊢
      obtain ⟨v, e1, e2, e3⟩ := E.bo j d h
      exact ⟨v, e1, e2, fun a hn ha z => e3 a hn ha (owns_set hi hs z)⟩
  · by_cases hj : j = i
    · subst hj; rw [get_set_self hi] at h; cases h; cases hs
    · rw [get_set_ne hj] at h ⊢
      obtain ⟨a, dx, fvs, e1, e2, e3, e4, e5, e6, e7⟩ := E.oo j c fs gs h
      refine ⟨a, dx, fvs, e1, e2, e3, e4, e5, e6, fun n g hg => ?_⟩
      obtain ⟨v, d, q1, q2, q3⟩ := e7 n g hg
      have hgi : g ≠ i := fun z => by subst z; rw [hi] at q3; cases q3; cases hc
      exact ⟨v, d, q1, by rw [get_set_ne hgi]; exact q2, by rw [get_set_ne hgi]; exact q3⟩
  · by_cases hj : j = i
    · subst hj; rw [get_set_self hi] at h; cases h; cases hs
    · rw [get_set_ne hj] at h ⊢
      exact E.gh j d h
  · by_cases hj : j = i
    · subst hj; rw [get_set_self hi] at h; cases h; cases hs
    · rw [get_set_ne hj] at h ⊢
      obtain ⟨a, b, d, e1, e2, e3, e4, e5⟩ := E.ln j g h
      have hgi : g ≠ i := fun z => by subst z; rw [hi] at e5; cases e5; cases hc
      exact ⟨a, b, d, e1, e2, e3, by rw [get_set_ne hgi]; exact e4, by rw [get_set_ne hgi]; exact e5⟩
  · have hj : j ≠ i := fun z => by subst z; rw [get_set_self hi] at h1; cases h1; rw [hs] at h3; cases h3
    have hk : k ≠ i := fun z => by subst z; rw [get_set_self hi] at h2; cases h2; rw [hs] at h4; cases h4
    rw [get_set_ne hj] at h1 h5
    rw [get_set_ne hk] at h2 h6
    exact E.ap j k u w a h1 h2 h3 h4 h5 h6
  · have hj : j ≠ i := fun z => by subst z; rw [hi] at h; cases h; cases hc
    rw [get_set_ne hj, get_set_ne hj]
    exact ⟨h, rfl⟩
  · have hj : j ≠ i := fun z => by subst z; rw [hi] at h; cases h; cases hc
    rw [get_set_ne hj, get_set_ne hj]
    exact ⟨⟨fs, gs, h⟩, rfl⟩
end

/-! ### targets -/
inductive Tgt where
  | nm (i : Nat) | tp (is : List Nat)
def slotsT : Tgt → List Nat
  | .nm i => [i]
  | .tp is => is
def bindL : List Nat → List D → En → Option En
  | [], [], env => some env
  | i :: is, d :: ds, env => (setSl env i (.sh d)).bind fun e => bindL is ds e
  | _, _, _ => none
def bindT : Tgt → D → En → Option En
  | .nm i, d, env => setSl env i (.sh d)
  | .tp is, .tup ds, env => bindL is ds env
  | _, _, _ => none
/-- a target's reading does what bindT says -/
def TgOk (K : PySem.W.Frag) (ct : Nat → Addr) (g : TG) (T : Tgt) : Prop := ∀ (v : V) (σ : L2.St) (F H : Hp) (env env' : En) (d : D) (Q : L2.St → Hp → Prop), EnvOk K ct F H env σ → Rep K ct F d v → bindT T d env = some env' →
  (∀ σ', EnvOk K ct F H env' σ' → Sx F H env σ F H env' σ' → (∀ (k : Nat), k ∉ slotsT T → σ'[k]? = σ[k]?) → σ'.length = σ.length → Q σ' H) → g v σ H Q
section
variable {K : PySem.W.Frag} {ct : Nat → Addr}
theorem tg_nm (i : Nat) : TgOk K ct (gName i) (.nm i) := by
  intro v σ F H env env' d Q E r hb hQ
  obtain ⟨t, h1, h2, rfl⟩ := setSl_some hb
  obtain ⟨E', S⟩ := set_ok (s := .sh d) (x := some v) E h1 h2 rfl (fun _ z => nomatch z) fun d' q => by cases q; exact ⟨v, rfl, r⟩
  exact hQ _ E' S (fun k hk => get_set_ne fun z => hk (by rw [z]; exact List.mem_singleton.mpr rfl)) (by simp)
def gNames : List Nat → TGs
  | [] => gNil
  | i :: is => gCons (gName i) (gNames is)
theorem tg_names : ∀ (is : List Nat) (ds : List D) (vs : List V) (σ : L2.St) (F H : Hp) (env env' : En) (Q : L2.St → Hp → Prop), EnvOk K ct F H env σ → Reps K ct F ds vs → bindL is ds env = some env' →
    (∀ σ', EnvOk K ct F H env' σ' → Sx F H env σ F H env' σ' → (∀ (k : Nat), k ∉ is → σ'[k]? = σ[k]?) → σ'.length = σ.length → Q σ' H) → gNames is vs σ H Q
  | [], [], vs, σ, F, H, env, env', Q, E, r, hb, hQ => by
    cases hb
    exact ⟨r, hQ σ E (Gr.refl E.ex).sx (fun _ _ => rfl) rfl⟩
  | [], _ :: _, _, _, _, _, _, _, _, _, _, hb, _ => by cases hb
  | _ :: _, [], _, _, _, _, _, _, _, _, _, hb, _ => by cases hb
  | i :: is, d :: ds, vs, σ, F, H, env, env', Q, E, r, hb, hQ => by
    obtain ⟨v, vr, rfl, r1, r2⟩ := r
    obtain ⟨e1, q1, q2⟩ := Option.bind_eq_some_iff.mp (show ((setSl env i (.sh d)).bind fun e => bindL is ds e) = some env' from hb)
    refine ⟨v, vr, rfl, tg_nm i v σ F H env e1 d _ E r1 q1 fun σ1 E1 S1 k1 l1 => ?_⟩
    refine tg_names is ds vr σ1 F H e1 env' Q E1 r2 q2 fun σ2 E2 S2 k2 l2 => ?_
    exact hQ σ2 E2 (S1.trans S2) (fun k hk => by
      rw [k2 k fun z => hk (List.mem_cons_of_mem _ z), k1 k fun z => hk (by rw [List.mem_singleton.mp z]; exact List.mem_cons_self)]) (l2.trans l1)
theorem bindL_len : ∀ (is : List Nat) (ds : List D) (env env' : En), bindL is ds env = some env' → is.length = ds.length
  | [], [], _, _, _ => rfl
  | [], _ :: _, _, _, h => by cases h
  | _ :: _, [], _, _, h => by cases h
  | i :: is, d :: ds, env, env', h => by
    obtain ⟨e1, _, q2⟩ := Option.bind_eq_some_iff.mp (show ((setSl env i (.sh d)).bind fun e => bindL is ds e) = some env' from h)
    rw [List.length_cons, List.length_cons, bindL_len is ds e1 env' q2]
theorem tg_tp (is : List Nat) : TgOk K ct (gTup K is.length (gNames is)) (.tp is) := by
  intro v σ F H env env' d Q E r hb hQ
  cases d <;> first | (cases hb; done) | skip
  rename_i ds
  have hb : bindL is ds env = some env' := hb
  obtain ⟨a, vs, rfl, h1, h2⟩ := r
  exact ⟨a, vs, rfl, SqT.of (E.ex _ _ h1), by rw [h2.length, bindL_len is ds env env' hb], tg_names is ds vs σ F H env env' Q E h2 hb hQ⟩
end

/-! ### comprehensions -/
def wipeE (env : En) : List Nat → En
  | [] => env
  | v :: vs => (wipeE env vs).set v .no
def wipeOk (env : En) (vs : List Nat) : Bool := vs.all fun i => match env[i]? with
  | some t => canSet t
  | none => false
def compL (T : Tgt) (env0 : En) (ft fe : SE) : List D → Option (List D)
  | [] => some []
  | d :: ds => match bindT T d env0 with
    | none => none
    | some e => match ft e with
      | .ok (.bl true) => (match fe e with
        | .ok x => (compL T env0 ft fe ds).map fun r => x :: r
        | _ => none)
      | .ok (.bl false) => compL T env0 ft fe ds
      | _ => none
def sComp (T : Tgt) (vs : List Nat) (fi ft fe : SE) : SE := fun env => bnd (fi env) fun d => match d with
  | .lst ds => if ds.length < sizeLine ∧ wipeOk env vs = true then (match compL T (wipeE env vs) ft fe ds with
    | some r => .ok (.lst r)
    | none => .st) else .st
  | _ => .st
abbrev W0 : WX := fun _ _ _ _ => False
section
variable {K : PySem.W.Frag} {ct : Nat → Addr} {F H : Hp}
theorem wipe_slot {env : En} {v : Nat} {t : Sl} : ∀ (vs : List Nat), env[v]? = some t → canSet t = true → ∃ t', (wipeE env vs)[v]? = some t' ∧ canSet t' = true
  | [], q, h => ⟨t, q, h⟩
  | u :: us, q, h => by
    obtain ⟨t', a, b⟩ := wipe_slot us q h
    show ∃ t', ((wipeE env us).set u .no)[v]? = some t' ∧ canSet t' = true
    by_cases hu : v = u
    · subst hu; exact ⟨.no, get_set_self a, rfl⟩
    · exact ⟨t', by rw [get_set_ne hu]; exact a, b⟩
theorem wipe_ok : ∀ (vs : List Nat) {env : En} {σ : L2.St}, EnvOk K ct F H env σ → wipeOk env vs = true → EnvOk K ct F H (wipeE env vs) (wipe σ vs)
  | [], env, σ, E, _ => E
  | v :: vs, env, σ, E, h => by
    have h : ((match env[v]? with | some t => canSet t | none => false) && wipeOk env vs) = true := by
      unfold wipeOk at h ⊢
      rw [List.all_cons] at h; exact h
    obtain ⟨h1, h2⟩ := Bool.and_eq_true_iff.mp h
    have ih := wipe_ok vs E h2
    cases q : env[v]? with
    | none => rw [q] at h1; cases h1
    | some t =>
      rw [q] at h1
      have q2 := wipe_slot vs q h1
      obtain ⟨t', a, b⟩ := q2
      exact (set_ok (s := .no) (x := none) ih a b rfl (fun _ z => nomatch z) fun d z => nomatch z).1
theorem wipe_get (vs : List Nat) (σ : L2.St) (k : Nat) : (wipe σ vs)[k]? = if k ∈ vs ∧ k < σ.length then some none else σ[k]? := by
  induction vs with
  | nil => simp [wipe]
  | cons v vs ih =>
    show ((wipe σ vs).set v none)[k]? = _
    by_cases hk : k = v
    · subst hk
      by_cases hl : k < σ.length
      · rw [List.getElem?_set_self (by rw [wipe_length]; exact hl), if_pos ⟨List.mem_cons_self, hl⟩]
      · have : k ≥ σ.length := Nat.le_of_not_lt hl
        rw [List.getElem?_eq_none (by simp [wipe_length]; omega), if_neg (fun z => hl z.2), List.getElem?_eq_none this]
    · rw [get_set_ne hk, ih]
      have : k ∈ v :: vs ↔ k ∈ vs := by simp [hk]
      simp only [this]
theorem wipe_same {vs : List Nat} {σ σ2 : L2.St} (hl : σ2.length = (wipe σ vs).length) (h : ∀ (k : Nat), k ∉ vs → σ2[k]? = (wipe σ vs)[k]?) : wipe σ2 vs = wipe σ vs := by
  apply List.ext_getElem?
  intro k
  rw [wipe_length] at hl
  rw [wipe_get, wipe_get, hl]
  by_cases hk : k ∈ vs ∧ k < σ.length
  · rw [if_pos hk, if_pos hk]
  · rw [if_neg hk, if_neg hk]
    by_cases hv : k ∈ vs
    · have : ¬ k < σ.length := fun z => hk ⟨hv, z⟩
      rw [List.getElem?_eq_none (by omega), List.getElem?_eq_none (by omega)]
    · rw [h k hv, wipe_get, if_neg hk]
theorem compL_drop {T : Tgt} {env0 : En} {ft fe : SE} {d : D} {ds r : List D} (h : compL T env0 ft fe (d :: ds) = some r) : ∃ e, bindT T d env0 = some e ∧ ((ft e = .ok (.bl true) ∧ ∃ x r', fe e = .ok x ∧ compL T env0 ft fe ds = some r' ∧ r = x :: r') ∨ (ft e = .ok (.bl false) ∧ compL T env0 ft fe ds = some r)) := by
  unfold compL at h
  split at h
  · cases h
  · rename_i e q
    refine ⟨e, q, ?_⟩
    split at h
    · rename_i q2
      split at h
      · rename_i x q3
        obtain ⟨r', h1, h2⟩ := Option.map_eq_some_iff.mp h
        exact .inl ⟨q2, x, r', q3, h1, h2.symm⟩
      · cases h
    · rename_i q2
      exact .inr ⟨q2, h⟩
    · cases h
end
section
variable {X : Cx} {ct : Nat → Addr} {W : WX} {elt tg iter : Expr} {ifs : List Expr} {scope : Scope} {own : List (Str × Nat)} {pos : Pos} {g : TG} {T : Tgt} {fi ft fe : SE}
/-- the reading of a comprehension -/
theorem tlc (hT : TgOk X.K ct g T) (hsub : ∀ i ∈ slotsT T, i ∈ own.map (·.2)) {σ : L2.St} {H : Hp} {Q : VK} (h : tM X.K ct W (mN X.K ct) (sComp T (own.map (·.2)) fi ft fe) σ H Q) :
    tLc (tI X.K ct W O0 fi) g (TT1 X.K ct W0 ft) (ER X.K ct W0 fe) (own.map (·.2)) σ H Q := by
  obtain ⟨env, F, E, h⟩ := h
  refine ⟨env, F, E, ?_⟩
  unfold sComp at h
  cases q : fi env with
  | er c fs => rw [q] at h; exact h
  | st => rw [q] at h; exact h.elim
  | ok d =>
    rw [q] at h
    cases d <;> first | exact h.elim | skip
    rename_i ds
    intro J F1 H1 g1 hJ D0 hD
    have h : Fin X.K ct W (mN X.K ct) F H σ (if ds.length < sizeLine ∧ wipeOk env (own.map (·.2)) = true then (match compL T (wipeE env (own.map (·.2))) ft fe ds with | some r => .ok (.lst r) | none => .st) else .st) Q := h
    split at h
    · rename_i hc
      cases q2 : compL T (wipeE env (own.map (·.2))) ft fe ds with
      | none => rw [q2] at h; exact h.elim
      | some r =>
        rw [q2] at h
        obtain ⟨G, Y, w, hG, hY⟩ := hJ
        have E1 := E.gr g1
        have hDH : H D0 = none := Ex.free g1.h hD
        refine lc_it w (fun i H' => ∃ F' acc vs rest, Gr F1 H1 F' H' ∧ F' D0 = none ∧ H' D0 = some (.lst vs) ∧ Reps X.K ct F' acc vs ∧ acc.length ≤ i ∧ compL T (wipeE env (own.map (·.2))) ft fe (ds.drop i) = some rest ∧ r = acc ++ rest)
          ⟨F1, [], [], r, Gr.own E1.ex hD, Ex.free E1.ex hD, upd_same, rfl, Nat.le_refl _, q2, rfl⟩ (fun i H' hi p => ?_) (fun i x H2 H2' hi p y => ?_) fun H' p => ?_
        · obtain ⟨F', acc, vs, rest, g2, _⟩ := p
          exact hG H' fun b o q _ => g2.h b o q
        · obtain ⟨F', acc, vs, rest, g2, hF0, hl, hr, hal, hcl, hre⟩ := p
          have hd : ds[i]? = some ds[i] := by simp [hi]
          obtain ⟨F3, g3, r3⟩ := hY i ds[i] F' H2 x H2' hd g2.f g2.e y
          rw [List.drop_eq_getElem_cons hi] at hcl
          obtain ⟨e, hb, hcase⟩ := compL_drop hcl
          have g23 := g2.trans g3
          have Ew := wipe_ok (own.map (·.2)) (E1.gr g23) hc.2
          have hD3 : F3 D0 = none := g3.none hF0 hl
          refine hT x _ F3 H2' _ e ds[i] _ Ew r3 hb fun σ2 E2 _ k2 l2 => ⟨wipe_same l2 fun k hk => k2 k fun z => hk (hsub k z), ?_⟩
          refine tt_bind (C := True) E2 (fun b hb F4 H4 g4 E4 => ?_) (fun c fs z => ?_) (fun n1 n2 => ?_)
          · have g24 := g23.trans g4
            have hl4 : H4 D0 = some (.lst vs) := g4.h _ _ (g3.h _ _ hl)
            have hD4 : F4 D0 = none := g4.none hD3 (g3.h _ _ hl)
            rcases hcase with ⟨hft, xx, r', hfe, hcl', rfl⟩ | ⟨hft, hcl'⟩
            · rw [hft] at hb; cases hb
              refine ⟨e, F4, E4, ?_⟩
              rw [hfe]
              intro v F5 H5 g5 r5
              have hl5 : H5 D0 = some (.lst vs) := g5.h _ _ hl4
              have hD5 : F5 D0 = none := g5.none hD4 hl4
              have g25 := g24.trans g5
              have hrep : Reps X.K ct F5 acc vs := Reps.mono (Ex.le ((g3.f.trans g4.f).trans g5.f)) _ _ hr
              refine ⟨vs, hl5, by rw [hr.length]; omega, F5, acc ++ [xx], vs ++ [v], r', ⟨g25.f, fun a o z => by rw [upd_ne (ne_of_none z hD)]; exact g25.h a o z, fun a o z => by rw [upd_ne (ne_of_none z hD5)]; exact g25.e a o z, g25.n⟩, hD5, upd_same, hrep.append (Reps.one r5), by simp; omega, hcl', by rw [hre]; simp⟩
            · rw [hft] at hb; cases hb
              exact ⟨F4, acc, vs, rest, g24, hD4, hl4, Reps.mono (Ex.le (g3.f.trans g4.f)) _ _ hr, by omega, hcl', hre⟩
          · rcases hcase with ⟨hft, _⟩ | ⟨hft, _⟩ <;> (rw [hft] at z; cases z)
          · rcases hcase with ⟨hft, _⟩ | ⟨hft, _⟩ <;> exact n1 _ hft
        · obtain ⟨F', acc, vs, rest, g2, hF0, hl, hr, hal, hcl, hre⟩ := p
          rw [List.drop_length] at hcl
          cases hcl
          rw [List.append_nil] at hre
          subst hre
          exact h _ F' H' (g1.trans g2) ⟨D0, rfl, hDH, hF0, vs, hl, hr⟩
    · exact h.elim
theorem ts_nil : PTs X [] (TT1 X.K ct W (sC (.bl true))) := ⟨fun pins s σ H Q I h => pts_nil.run pins s σ H Q I (by obtain ⟨env, F, E, h⟩ := h; exact h F H (Gr.refl E.ex))⟩
theorem ts_one {c : Expr} {f : SE} (h : PT X c (TT1 X.K ct W f)) : PTs X [c] (TT1 X.K ct W f) := pts_one h
theorem e_lc (hc : X.calm = true) (hN : X.N.Nodup) (hi : PI X tg iter (tI X.K ct W O0 fi)) (ok : BlkOk X.N X.env.scope scope own)
    (hg : ∀ (s : Shared) (H : Hp) (C : Addr) (cl : List (Str × Addr)) (fp : List Addr), PG (X.blk s H scope (compEnvC scope cl C X.env) fp) tg g) (hT : TgOk X.K ct g T) (hsub : ∀ i ∈ slotsT T, i ∈ own.map (·.2))
    (ht : ∀ (s : Shared) (H : Hp) (C : Addr) (cl : List (Str × Addr)) (fp : List Addr), PTs (X.blk s H scope (compEnvC scope cl C X.env) fp) ifs (TT1 X.K ct W0 ft))
    (he : ∀ (s : Shared) (H : Hp) (C : Addr) (cl : List (Str × Addr)) (fp : List Addr), PE (X.blk s H scope (compEnvC scope cl C X.env) fp) elt (ER X.K ct W0 fe)) (hs : ∀ x, foldedSetIterable iter X.env x = pure x := by intro _; rfl) :
    PE X (.ListComp elt [⟨tg, iter, ifs, 0⟩] scope pos) (EN X.K ct W (sComp T (own.map (·.2)) fi ft fe)) := (pe_lc hc hN hi ok hg ht he hs).imp fun _ _ _ h => tlc hT hsub h
end
end Ps

namespace Ps
open PySem PySem.Spec PyProof.Rows L2

/-! ### statements -/
section
variable (K : PySem.W.Frag) (ct : Nat → Addr) (W : WX)
def FinS (F H : Hp) (env : En) (σ : L2.St) (o : O) (D : Ends) : Prop := match o with
  | .nx e => ∀ σ' F' H', Sx F H env σ F' H' e σ' → EnvOk K ct F' H' e σ' → D.nx σ' H'
  | .bk e => ∀ σ' F' H', Sx F H env σ F' H' e σ' → EnvOk K ct F' H' e σ' → D.bk σ' H'
  | .ct e => ∀ σ' F' H', Sx F H env σ F' H' e σ' → EnvOk K ct F' H' e σ' → D.ct σ' H'
  | .rt d => ∀ v F' H', Sr F H env σ F' H' → Rep K ct F' d v → D.rt v H'
  | .rn d => ∀ p F' H', Sr F H env σ F' H' → (H p = none ∨ Owns env σ p) → OwnAt K ct F' H' p d → D.rt (.ref p) H'
  | .er c fs e => ∀ dx σ' F' H', Sx F H env σ F' H' e σ' → EnvOk K ct F' H' e σ' → ExcOk K ct F' dx fs → W (.ref (ct c)) dx σ' H'
  | .st => False
def sOf (g : SS) : TS := fun D σ H => ∃ env F, EnvOk K ct F H env σ ∧ FinS K ct W F H env σ (g env) D
end
section
variable {K : PySem.W.Frag} {ct : Nat → Addr} {W : WX} {F H F1 H1 : Hp} {env e1 : En} {σ σ1 : L2.St} {o : O} {Z : Ends}
theorem finS_after (x : Sx F H env σ F1 H1 e1 σ1) (h : FinS K ct W F H env σ o Z) : FinS K ct W F1 H1 e1 σ1 o Z := by
  cases o with
  | nx e => exact fun σ' F' H' y E => h σ' F' H' (x.trans y) E
  | bk e => exact fun σ' F' H' y E => h σ' F' H' (x.trans y) E
  | ct e => exact fun σ' F' H' y E => h σ' F' H' (x.trans y) E
  | rt d => exact fun v F' H' y r => h v F' H' (x.sr_trans y) r
  | rn d =>
    refine fun p F' H' y q r => h p F' H' (x.sr_trans y) ?_ r
    rcases q with q | q
    · exact .inl (t_none x.t q)
    · rcases x.o p q with z | z
      · exact .inr z
      · exact .inl z
  | er c fs e => exact fun dx σ' F' H' y E q => h dx σ' F' H' (x.trans y) E q
  | st => exact h
/-- an expression within a statement -/
def bndS (r : R) (env : En) (k : D → O) : O := match r with
  | .ok d => k d
  | .er c fs => .er c fs env
  | .st => .st
theorem finS_bind {M1 : Md} {f : SE} {k : D → O} (E : EnvOk K ct F H env σ) (h : FinS K ct W F H env σ (bndS (f env) env k) Z) {Q1 : VK}
    (hk : ∀ d v F1 H1, f env = .ok d → Gr F H F1 H1 → M1 H F1 H1 d v → EnvOk K ct F1 H1 env σ → FinS K ct W F H env σ (k d) Z → Q1 v H1) : tM K ct W M1 f σ H Q1 := by
  refine ⟨env, F, E, ?_⟩
  cases e : f env with
  | ok d => rw [e] at h; exact fun v F1 H1 g m => hk d v F1 H1 e g m (E.gr g) h
  | er c fs => rw [e] at h; exact fun dx F' H' g x => h dx σ F' H' g.sx (E.gr g) x
  | st => rw [e] at h; exact h
theorem finS_test {f : SE} {kt kf : O} (E : EnvOk K ct F H env σ)
    (h : FinS K ct W F H env σ (bndS (f env) env fun d => match d with | .bl true => kt | .bl false => kf | _ => .st) Z) {Q1 : Bool → Hp → Prop}
    (hk : ∀ b F1 H1, f env = .ok (.bl b) → Gr F H F1 H1 → EnvOk K ct F1 H1 env σ → FinS K ct W F H env σ (if b then kt else kf) Z → Q1 b H1) : TT1 K ct W f σ H Q1 := by
  refine tt_bind (C := True) E (fun b hb F1 H1 g E1 => ?_) (fun c fs e => ?_) (fun n1 n2 => ?_)
  · rw [hb] at h
    cases b with
    | true => exact hk true F1 H1 hb g E1 h
    | false => exact hk false F1 H1 hb g E1 h
  · rw [e] at h; exact fun dx F' H' g x => h dx σ F' H' g.sx (E.gr g) x
  · cases e : f env with
    | ok d => rw [e] at h; cases d <;> first | exact n1 _ e | exact h.elim
    | er c fs => exact n2 _ _ e
    | st => rw [e] at h; exact h.elim
end

def ssNext : SS := fun env => .nx env
def ssBrk : SS := fun env => .bk env
def ssCont : SS := fun env => .ct env
def ssSeq (f g : SS) : SS := fun env => match f env with
  | .nx e => g e
  | o => o
def ssAsg (T : Tgt) (f : SE) : SS := fun env => bndS (f env) env fun d => match bindT T d env with
  | some e => .nx e
  | none => .st
def isOwnable : D → Bool
  | .lst _ => true | .dk _ => true | .dt _ => true | _ => false
/-- a new thing, owned -/
def ssOwn (i : Nat) (f : SE) : SS := fun env => bndS (f env) env fun d => match setSl env i (.ow d) with
  | some e => .nx e
  | none => .st
def ssIf (c : SE) (f g : SS) : SS := fun env => bndS (c env) env fun d => match d with
  | .bl true => f env
  | .bl false => g env
  | _ => .st
def ssExpr (f : SE) : SS := fun env => bndS (f env) env fun _ => .nx env
def ssRet (f : SE) : SS := fun env => bndS (f env) env fun d => .rt d
def ssRetN (f : SE) : SS := fun env => bndS (f env) env fun d => .rn d
def ssRetOw (i : Nat) : SS := fun env => match env[i]? with
  | some (.ow d) => .rn d
  | _ => .st
/-- an owned thing is let go -/
def ssFrz (i : Nat) : SS := fun env => match env[i]? with
  | some (.ow d) => .nx (env.set i (.sh d))
  | _ => .st
def ssApp (i : Nat) (f : SE) : SS := fun env => match env[i]? with
  | some (.ow (.lst ds)) => bndS (f env) env fun d => if ds.length < sizeLine then .nx (env.set i (.ow (.lst (ds ++ [d])))) else .st
  | _ => .st
def putD {κ : Type} [DecidableEq κ] (kvs : List (κ × D)) (k : κ) (v : D) : List (κ × D) :=
  if kvs.any (fun kv => decide (kv.1 = k)) then kvs.map (fun kv => if kv.1 = k then (kv.1, v) else kv) else kvs ++ [(k, v)]
/-- x[k] = v -/
def dPut (x k v : D) : Option D := match x with
  | .lst ds => (match k with
    | .int i => (ixN ds.length i).map fun j => .lst (ds.set j v)
    | _ => none)
  | .dk kvs => (keyD k).bind fun k => if kvs.length < sizeLine then some (.dk (putD kvs k v)) else none
  | .dt kvs => (match k with
    | .tup ds => (keysD ds).bind fun k => if kvs.length < sizeLine then some (.dt (putD kvs k v)) else none
    | _ => none)
  | _ => none
def ssPut (i : Nat) (fk fv : SE) : SS := fun env => bndS (fv env) env fun v => match env[i]? with
  | some (.ow x) => bndS (fk env) env fun k => (match dPut x k v with
    | some z => .nx (env.set i (.ow z))
    | none => .st)
  | _ => .st
def stepL (o : O) (k : En → O) : O := match o with
  | .nx e => k e
  | .ct e => k e
  | .bk e => .nx e
  | o => o
def loopF (T : Tgt) (body : SS) : List D → En → O
  | [], env => .nx env
  | d :: ds, env => match bindT T d env with
    | none => .st
    | some e => stepL (body e) (loopF T body ds)
def ssFor (T : Tgt) (it : SE) (body : SS) : SS := fun env => bndS (it env) env fun d => match d with
  | .lst ds => loopF T body ds env
  | _ => .st
def whileN (c : SE) (body : SS) : Nat → En → O
  | 0, _ => .st
  | n + 1, env => bndS (c env) env fun d => match d with
    | .bl true => stepL (body env) (whileN c body n)
    | .bl false => .nx env
    | _ => .st
def ssWhile (n : Nat) (c : SE) (body : SS) : SS := whileN c body n

section
variable {X : Cx} {ct : Nat → Addr} {W : WX} {st : Stmt} {rest body orelse : List Stmt} {a b e c : Expr} {f : SE} {g g2 : SS} {pos pos' p : Pos} {T : Tgt}
theorem p_nil : PSs X [] (sOf X.K ct W ssNext) := pss_nil.imp fun D σ H ⟨env, F, E, h⟩ => h σ F H (Gr.refl E.ex).sx E
theorem p_one (h : PS X st (sOf X.K ct W g)) : PSs X [st] (sOf X.K ct W g) := pss_one h
theorem finS_nx {K : PySem.W.Frag} {F H : Hp} {env : En} {σ : L2.St} {D : Ends} {o : O} {N : L2.St → Hp → Prop} (hN : ∀ e, o = .nx e → ∀ σ' F' H', Sx F H env σ F' H' e σ' → EnvOk K ct F' H' e σ' → N σ' H')
    (hO : (∀ e, o ≠ .nx e) → FinS K ct W F H env σ o D) : FinS K ct W F H env σ o { D with nx := N } := by
  cases o with
  | nx e => exact hN e rfl
  | bk e => exact hO fun _ z => nomatch z
  | ct e => exact hO fun _ z => nomatch z
  | rt d => exact hO fun _ z => nomatch z
  | rn d => exact hO fun _ z => nomatch z
  | er c fs e => exact hO fun _ z => nomatch z
  | st => exact hO fun _ z => nomatch z
theorem p_cons (h1 : PS X st (sOf X.K ct W g)) (h2 : PSs X rest (sOf X.K ct W g2)) : PSs X (st :: rest) (sOf X.K ct W (ssSeq g g2)) := by
  refine (pss_cons h1 h2).imp fun D σ H ⟨env, F, E, h⟩ => ⟨env, F, E, ?_⟩
  refine finS_nx (fun e q σ' F' H' x E' => ⟨e, F', E', ?_⟩) fun n => ?_
  · unfold ssSeq at h
    rw [q] at h
    exact finS_after x h
  · have q : ssSeq g g2 env = g env := by
      unfold ssSeq
      cases z : g env with
      | nx e => exact absurd z (n e)
      | _ => rfl
    rw [q] at h
    exact h
theorem p_pass : PS X (.Pass pos) (sOf X.K ct W ssNext) := ps_pass.imp fun D σ H ⟨env, F, E, h⟩ => h σ F H (Gr.refl E.ex).sx E
theorem p_brk : PS X (.Break pos) (sOf X.K ct W ssBrk) := ps_break.imp fun D σ H ⟨env, F, E, h⟩ => h σ F H (Gr.refl E.ex).sx E
theorem p_cont : PS X (.Continue pos) (sOf X.K ct W ssCont) := ps_continue.imp fun D σ H ⟨env, F, E, h⟩ => h σ F H (Gr.refl E.ex).sx E
theorem p_doc {x j} : PS X (.Expr (.Constant (.str x) j pos) pos') (sOf X.K ct W ssNext) := ps_doc.imp fun D σ H ⟨env, F, E, h⟩ => h σ F H (Gr.refl E.ex).sx E
theorem p_never {g : SS} (h : ∀ env, g env = .st) : PS X st (sOf X.K ct W g) := ps_never.imp fun D σ H ⟨env, F, E, q⟩ => by rw [h env] at q; exact q
def ssNever : SS := fun _ => .st
theorem t_asg {K : PySem.W.Frag} {gt : TG} (hT : TgOk K ct gt T) {D : Ends} {σ : L2.St} {H : Hp} (h : sOf K ct W (ssAsg T f) D σ H) : tAsg (ER K ct W f) gt D σ H := by
  obtain ⟨env, F, E, h⟩ := h
  refine finS_bind E h fun d v F1 H1 e1 g1 r1 E1 h => ?_
  cases q : bindT T d env with
  | none => rw [q] at h; exact h.elim
  | some e =>
    rw [q] at h
    exact hT v σ F1 H1 env e d _ E1 r1 q fun σ' E2 S2 _ _ => h σ' F1 H1 (g1.sx.trans S2) E2
theorem p_asg {tg : Expr} {gt : TG} (hT : TgOk X.K ct gt T) (hg : PG X tg gt) (he : PE X e (ER X.K ct W f)) (hs : swapsWithSole [tg] e pos.line X.env = pure false := by rfl) (hw : swappedStores [tg] e X.env = pure none := by rfl) (h1 : (assignEach [tg] X.env).map (·.2) = [assign tg X.env] := by rfl) :
    PS X (.Assign [tg] e pos) (sOf X.K ct W (ssAsg T f)) := (ps_asg he hg hs hw h1).imp fun _ _ _ h => t_asg hT h
theorem p_set {i : Nat} {x : Str} (hN : X.N.Nodup) (hi : X.N[i]? = some x) (hx : Loc X.env.scope x) (he : PE X e (ER X.K ct W f)) (hs : swapsWith e (some (.Name x pos')) pos.line X.env = pure false := by rfl) (hf : X.fn x = true ∨ X.env.scope.names.lookup x = some .local := by first | exact .inl rfl | exact .inr rfl | assumption) :
    PS X (.Assign [.Name x pos'] e pos) (sOf X.K ct W (ssAsg (.nm i) f)) := (ps_set hN hi hx he hs hf).imp fun _ _ _ h => t_asg (tg_nm i) h
/-- the two kinds of owned slots -/
def slOf (b : Bool) (d : D) : Sl := if b then .gh d else .ow d
theorem slOf_ow (b : Bool) (d : D) : isOw (slOf b d) = true := by cases b <;> rfl
/-- slot i takes a new thing -/
theorem own_ok (b : Bool) {K : PySem.W.Frag} {F0 H0 F H : Hp} {env : En} {σ : L2.St} {i : Nat} {t : Sl} {p : Addr} {d : D} (g : Gr F0 H0 F H) (E0 : EnvOk K ct F0 H0 env σ) (hi : env[i]? = some t) (hc : canSet t = true) (hp : H0 p = none) (ho : OwnAt K ct F H p d) :
    EnvOk K ct F H (env.set i (slOf b d)) (σ.set i (some (.ref p))) ∧ Sx F0 H0 env σ F H (env.set i (slOf b d)) (σ.set i (some (.ref p))) := by
  have E := E0.gr g
  have hl : i < σ.length := by
    obtain ⟨h1, _⟩ := List.getElem?_eq_some_iff.mp hi
    rw [← E.len]; exact h1
  have hσ : (σ.set i (some (V.ref p)))[i]? = some (some (.ref p)) := by simp [hl]
  have np : ¬ Owns env σ p := fun z => by
    obtain ⟨_, o, ho⟩ := own_free E0 z
    rw [hp] at ho; cases ho
  have ow : ∀ {a : Addr}, Owns (env.set i (slOf b d)) (σ.set i (some (.ref p))) a → a = p ∨ Owns env σ a := fun {a} ⟨j, s, e1, e2, e3⟩ => by
    by_cases hj : j = i
    · subst hj; rw [hσ] at e3; cases e3; exact .inl rfl
    · rw [get_set_ne hj] at e1 e3
      exact .inr ⟨j, s, e1, e2, e3⟩
  refine ⟨⟨E.ex, by simp [E.len], fun j e h => ?_, fun j e h => ?_, fun j e h => ?_, fun j c fs gs h => ?_, fun j e h => ?_, fun j g' h => ?_, fun j k u w a h1 h2 h3 h4 h5 h6 => ?_⟩, ⟨g.sr, fun a h => ?_, fun j e h => ?_, fun j c fs gs h => ?_⟩⟩
  · by_cases hj : j = i
    · subst hj; rw [get_set_self hi] at h; cases b <;> cases h
    · rw [get_set_ne hj] at h ⊢; exact E.sh j e h
  · by_cases hj : j = i
    · subst hj; rw [get_set_self hi] at h; cases b <;> cases h; exact ⟨p, hσ, ho⟩
    · rw [get_set_ne hj] at h ⊢; exact E.ow j e h
  · by_cases hj : j = i
    · subst hj; rw [get_set_self hi] at h; cases b <;> cases h
    · rw [get_set_ne hj] at h ⊢
      obtain ⟨v, e1, e2, e3⟩ := E.bo j e h
      refine ⟨v, e1, e2, fun a hn ha z => ?_⟩
      rcases ow z with z | z
      · subst ha z
        obtain ⟨v', e1', e2', _⟩ := E0.bo j e h
        rw [e1] at e1'; cases e1'
        obtain ⟨o, ho⟩ := repB_there E0.ex hn e2'
        rw [hp] at ho; cases ho
      · exact e3 a hn ha z
  · by_cases hj : j = i
    · subst hj; rw [get_set_self hi] at h; cases b <;> cases h
    · rw [get_set_ne hj] at h ⊢
      obtain ⟨a, dx, fvs, e1, e2, e3, e4, e5, e6, e7⟩ := E.oo j c fs gs h
      refine ⟨a, dx, fvs, e1, e2, e3, e4, e5, e6, fun n g hg => ?_⟩
      obtain ⟨v, d', q1, q2, q3⟩ := e7 n g hg
      have hgi : g ≠ i := fun z => by subst z; rw [hi] at q3; cases q3; cases hc
      exact ⟨v, d', q1, by rw [get_set_ne hgi]; exact q2, by rw [get_set_ne hgi]; exact q3⟩
  · by_cases hj : j = i
    · subst hj; rw [get_set_self hi] at h; cases b <;> cases h; exact ⟨p, hσ, ho⟩
    · rw [get_set_ne hj] at h ⊢; exact E.gh j e h
  · by_cases hj : j = i
    · subst hj; rw [get_set_self hi] at h; cases b <;> cases h
    · rw [get_set_ne hj] at h ⊢
      obtain ⟨a, b2, d2, e1, e2, e3, e4, e5⟩ := E.ln j g' h
      have hgi : g' ≠ i := fun z => by subst z; rw [hi] at e5; cases e5; cases hc
      exact ⟨a, b2, d2, e1, e2, e3, by rw [get_set_ne hgi]; exact e4, by rw [get_set_ne hgi]; exact e5⟩
  · by_cases hj : j = i
    · by_cases hk : k = i
      · rw [hj, hk]
      · subst hj
        rw [hσ] at h5; cases h5
        rw [get_set_ne hk] at h2 h6
        exact absurd ⟨k, w, h2, h4, h6⟩ np
    · by_cases hk : k = i
      · subst hk
        rw [hσ] at h6; cases h6
        rw [get_set_ne hj] at h1 h5
        exact absurd ⟨j, u, h1, h3, h5⟩ np
      · rw [get_set_ne hj] at h1 h5
        rw [get_set_ne hk] at h2 h6
        exact E.ap j k u w a h1 h2 h3 h4 h5 h6
  · rcases ow h with z | z
    · subst z; exact .inr hp
    · exact .inl z
  · have hj : j ≠ i := fun z => by subst z; rw [hi] at h; cases h; cases hc
    rw [get_set_ne hj, get_set_ne hj]
    exact ⟨h, rfl⟩
  · have hj : j ≠ i := fun z => by subst z; rw [hi] at h; cases h; cases hc
    rw [get_set_ne hj, get_set_ne hj]
    exact ⟨⟨fs, gs, h⟩, rfl⟩
theorem t_own {K : PySem.W.Frag} {i : Nat} {D : Ends} {σ : L2.St} {H : Hp} (h : sOf K ct W (ssOwn i f) D σ H) : tAsg (EN K ct W f) (gName i) D σ H := by
  obtain ⟨env, F, E, h⟩ := h
  refine finS_bind E h fun d v F1 H1 e1 g1 r1 E1 h => ?_
  obtain ⟨p, rfl, hp, ho⟩ := r1
  cases q : setSl env i (.ow d) with
  | none => rw [q] at h; exact h.elim
  | some e =>
    rw [q] at h
    obtain ⟨t, q1, q2, rfl⟩ := setSl_some q
    obtain ⟨E2, S2⟩ := own_ok false g1 E q1 q2 hp ho
    exact h _ F1 H1 S2 E2
theorem p_own {i : Nat} {x : Str} (hN : X.N.Nodup) (hi : X.N[i]? = some x) (hx : Loc X.env.scope x) (he : PE X e (EN X.K ct W f)) (hs : swapsWith e (some (.Name x pos')) pos.line X.env = pure false := by rfl) (hf : X.fn x = true ∨ X.env.scope.names.lookup x = some .local := by first | exact .inl rfl | exact .inr rfl | assumption) :
    PS X (.Assign [.Name x pos'] e pos) (sOf X.K ct W (ssOwn i f)) := (ps_set hN hi hx he hs hf).imp fun _ _ _ h => t_own h
theorem p_if (hc : PT X c (TT1 X.K ct W f)) (ha : PSs X body (sOf X.K ct W g)) (hb : PSs X orelse (sOf X.K ct W g2)) : PS X (.If c body orelse pos) (sOf X.K ct W (ssIf f g g2)) := by
  refine (ps_if hc ha hb).imp fun D σ H ⟨env, F, E, h⟩ => ?_
  refine finS_test E h fun b F1 H1 _ g1 E1 h => ?_
  cases b with
  | true => exact ⟨env, F1, E1, finS_after g1.sx h⟩
  | false => exact ⟨env, F1, E1, finS_after g1.sx h⟩
theorem p_expr (he : PE X e (ER X.K ct W f)) (hs : swapsWith e none pos.line X.env = pure false := by rfl) : PS X (.Expr e pos) (sOf X.K ct W (ssExpr f)) := by
  refine (ps_expr he hs).imp fun D σ H ⟨env, F, E, h⟩ => ?_
  exact finS_bind E h fun d v F1 H1 e1 g1 r1 E1 h => h σ F1 H1 g1.sx E1
theorem p_ret (he : PE X e (ER X.K ct W f)) : PS X (.Return (some e) pos) (sOf X.K ct W (ssRet f)) := by
  refine (ps_ret he).imp fun D σ H ⟨env, F, E, h⟩ => ?_
  exact finS_bind E h fun d v F1 H1 e1 g1 r1 E1 h => h v F1 H1 g1.sr r1
theorem p_retN (he : PE X e (EN X.K ct W f)) : PS X (.Return (some e) pos) (sOf X.K ct W (ssRetN f)) := by
  refine (ps_ret he).imp fun D σ H ⟨env, F, E, h⟩ => ?_
  refine finS_bind E h fun d v F1 H1 e1 g1 r1 E1 h => ?_
  obtain ⟨p, rfl, hp, ho⟩ := r1
  exact h p F1 H1 g1.sr (.inl hp) ho
theorem p_retNone : PS X (.Return none pos) (sOf X.K ct W (ssRet (sC .non))) := ps_retN.imp fun D σ H ⟨env, F, E, h⟩ => h .non F H (Gr.refl E.ex).sr rfl
theorem p_retOw (i : Nat) {x : Str} (hN : X.N[i]? = some x := by rfl) (hv : Vis X.env.scope x := by first | exact Or.inl rfl | exact Or.inr (Or.inl rfl) | exact Or.inr (Or.inr rfl)) (hd : (x == ("__debug__" : Str)) = false := by decide)
    (hcd : (x == ("__classdict__" : Str)) = false := by decide) : PS X (.Return (some (.Name x p)) pos) (sOf X.K ct W (ssRetOw i)) := by
  refine (ps_ret (pe_var hN hv hd hcd)).imp fun D σ H ⟨env, F, E, h⟩ => ?_
  unfold ssRetOw at h
  split at h
  · rename_i d q
    obtain ⟨a, e1, e2⟩ := E.ow i d q
    exact ⟨.ref a, e1, h a F H (Gr.refl E.ex).sr (.inr ⟨i, _, q, rfl, e1⟩) e2⟩
  · exact h.elim
/-- nothing is written in the program for it -/
theorem frz_ok {K : PySem.W.Frag} {F H : Hp} {env : En} {σ : L2.St} {i : Nat} {d : D} (E : EnvOk K ct F H env σ) (hi : env[i]? = some (.ow d)) : ∃ F', EnvOk K ct F' H (env.set i (.sh d)) σ ∧ Sx F H env σ F' H (env.set i (.sh d)) σ := by
  obtain ⟨p, e1, e2⟩ := E.ow i d hi
  obtain ⟨o, ho⟩ := e2.there
  have hF := e2.free
  have le : Ex F (upd F p o) := Ex.new hF
  have ex : Ex (upd F p o) H := fun a u q => by
    by_cases ha : a = p
    · subst ha; rw [upd_same] at q; cases q; exact ho
    · rw [upd_ne ha] at q; exact E.ex a u q
  have op : Owns env σ p := ⟨i, _, hi, rfl, e1⟩
  have ne : ∀ {j : Nat} {s : Sl} {a : Addr}, j ≠ i → env[j]? = some s → isOw s = true → σ[j]? = some (some (.ref a)) → a ≠ p := fun {j s a} hj h1 h2 h3 z => by
    subst z
    exact hj (E.ap j i s _ a h1 hi h2 rfl h3 e1)
  have own' : ∀ {a : Addr}, Owns (env.set i (.sh d)) σ a → Owns env σ a := fun {a} ⟨j, s, h1, h2, h3⟩ => by
    by_cases hj : j = i
    · subst hj; rw [get_set_self hi] at h1; cases h1; cases h2
    · rw [get_set_ne hj] at h1; exact ⟨j, s, h1, h2, h3⟩
  refine ⟨upd F p o, ⟨ex, by simp [E.len], fun j e h => ?_, fun j e h => ?_, fun j e h => ?_, fun j c fs gs h => ?_, fun j e h => ?_, fun j g' h => ?_, fun j k u w a h1 h2 h3 h4 h5 h6 => ?_⟩, ⟨⟨le, ex, fun a u q _ => q, fun a u q => ⟨u, q⟩, fun a u q => ?_⟩, fun a h => .inl (own' h), fun j e h => ?_, fun j c fs gs h => ?_⟩⟩
  · by_cases hj : j = i
    · subst hj; rw [get_set_self hi] at h; cases h
      exact ⟨.ref p, e1, e2.freeze ho⟩
    · rw [get_set_ne hj] at h
      obtain ⟨v, q1, q2⟩ := E.sh j e h
      exact ⟨v, q1, Rep.mono (Ex.le le) _ _ q2⟩
  · by_cases hj : j = i
    · subst hj; rw [get_set_self hi] at h; cases h
    · rw [get_set_ne hj] at h
      obtain ⟨a, q1, q2⟩ := E.ow j e h
      exact ⟨a, q1, q2.mono le (by rw [upd_ne (ne hj h rfl q1)]; exact q2.free) rfl⟩
  · by_cases hj : j = i
    · subst hj; rw [get_set_self hi] at h; cases h
    · rw [get_set_ne hj] at h
      obtain ⟨v, q1, q2, q3⟩ := E.bo j e h
      refine ⟨v, q1, ?_, fun a hn ha z => q3 a hn ha (own' z)⟩
      exact RepB.mono2 le (Ex.refl _) q2
  · by_cases hj : j = i
    · subst hj; rw [get_set_self hi] at h; cases h
    · rw [get_set_ne hj] at h
      obtain ⟨a, dx, fvs, q1, q2, q3, q4, q5, q6, q7⟩ := E.oo j c fs gs h
      refine ⟨a, dx, fvs, q1, by rw [upd_ne (ne hj h rfl q1)]; exact q2, q3, q4, q5, RepF.mono (Ex.le le) _ _ q6, fun n g hg => ?_⟩
      obtain ⟨v, d', r1, r2, r3⟩ := q7 n g hg
      have hgi : g ≠ i := fun z => by subst z; rw [hi] at r3; cases r3
      exact ⟨v, d', r1, r2, by rw [get_set_ne hgi]; exact r3⟩
  · by_cases hj : j = i
    · subst hj; rw [get_set_self hi] at h; cases h
    · rw [get_set_ne hj] at h
      obtain ⟨a, q1, q2⟩ := E.gh j e h
      exact ⟨a, q1, q2.mono le (by rw [upd_ne (ne hj h rfl q1)]; exact q2.free) rfl⟩
  · by_cases hj : j = i
    · subst hj; rw [get_set_self hi] at h; cases h
    · rw [get_set_ne hj] at h
      obtain ⟨a, b2, d2, q1, q2, q3, q4, q5⟩ := E.ln j g' h
      have hgi : g' ≠ i := fun z => by subst z; rw [hi] at q5; cases q5
      exact ⟨a, b2, d2, q1, by rw [upd_ne (ne hj h rfl q1)]; exact q2, q3, q4, by rw [get_set_ne hgi]; exact q5⟩
  · have hj : j ≠ i := fun z => by subst z; rw [get_set_self hi] at h1; cases h1; cases h3
    have hk : k ≠ i := fun z => by subst z; rw [get_set_self hi] at h2; cases h2; cases h4
    rw [get_set_ne hj] at h1
    rw [get_set_ne hk] at h2
    exact E.ap j k u w a h1 h2 h3 h4 h5 h6
  · by_cases ha : a = p
    · subst ha; exact .inr (.inr op)
    · rw [upd_ne ha] at q; exact .inl q
  · have hj : j ≠ i := fun z => by subst z; rw [hi] at h; cases h
    rw [get_set_ne hj]
    exact ⟨h, rfl⟩
  · have hj : j ≠ i := fun z => by subst z; rw [hi] at h; cases h
    rw [get_set_ne hj]
    exact ⟨⟨fs, gs, h⟩, rfl⟩
theorem p_frz (i : Nat) (h : PSs X rest (sOf X.K ct W g)) : PSs X rest (sOf X.K ct W (ssSeq (ssFrz i) g)) := by
  refine PSs.imp h fun D σ H ⟨env, F, E, h⟩ => ?_
  unfold ssSeq ssFrz at h
  cases q : env[i]? with
  | none => rw [q] at h; exact h.elim
  | some s =>
    rw [q] at h
    cases s <;> first | exact h.elim | skip
    rename_i d
    obtain ⟨F', E', S'⟩ := frz_ok E q
    exact ⟨_, F', E', finS_after S' h⟩
end
end Ps

namespace Ps
open PySem PySem.Spec PyProof.Rows L2

section
variable {K : PySem.W.Frag} {ct : Nat → Addr} {F H : Hp} {env : En} {σ : L2.St} {i : Nat}
/-- an owned thing changes -/
theorem mut_ok (b : Bool) {x z : D} {p : Addr} {o : HO} (E : EnvOk K ct F H env σ) (hi : env[i]? = some (slOf b x)) (hp : σ[i]? = some (some (.ref p))) (hF : F p = none) (hz : OwnAt K ct F (upd H p o) p z) :
    EnvOk K ct F (upd H p o) (env.set i (slOf b z)) σ ∧ Sx F H env σ F (upd H p o) (env.set i (slOf b z)) σ := by
  have op : Owns env σ p := ⟨i, _, hi, slOf_ow b x, hp⟩
  have ex : Ex F (upd H p o) := fun a u q => by rw [upd_ne (ne_of_none q hF)]; exact E.ex a u q
  have ne : ∀ {j : Nat} {s : Sl} {a : Addr}, j ≠ i → env[j]? = some s → isOw s = true → σ[j]? = some (some (.ref a)) → a ≠ p := fun {j s a} hj h1 h2 h3 q => by
    subst q
    exact hj (E.ap j i s _ a h1 hi h2 (slOf_ow b x) h3 hp)
  have own' : ∀ {a : Addr}, Owns (env.set i (slOf b z)) σ a → Owns env σ a := fun {a} ⟨j, s, h1, h2, h3⟩ => by
    by_cases hj : j = i
    · subst hj; rw [hp] at h3; cases h3; exact op
    · rw [get_set_ne hj] at h1; exact ⟨j, s, h1, h2, h3⟩
  refine ⟨⟨ex, by simp [E.len], fun j e h => ?_, fun j e h => ?_, fun j e h => ?_, fun j c fs gs h => ?_, fun j e h => ?_, fun j g' h => ?_, fun j k u w a h1 h2 h3 h4 h5 h6 => ?_⟩, ⟨⟨Ex.refl _, ex, fun a u q n => ?_, fun a u q => ?_, fun a u q => .inl q⟩, fun a h => .inl (own' h), fun j e h => ?_, fun j c fs gs h => ?_⟩⟩
  · by_cases hj : j = i
    · subst hj; rw [get_set_self hi] at h; cases b <;> cases h
    · rw [get_set_ne hj] at h; exact E.sh j e h
  · by_cases hj : j = i
    · subst hj; rw [get_set_self hi] at h
      cases b <;> cases h
      exact ⟨p, hp, hz⟩
    · rw [get_set_ne hj] at h
      obtain ⟨a, q1, q2⟩ := E.ow j e h
      exact ⟨a, q1, q2.mono (Ex.refl _) q2.free (upd_ne (ne hj h rfl q1))⟩
  · by_cases hj : j = i
    · subst hj; rw [get_set_self hi] at h; cases b <;> cases h
    · rw [get_set_ne hj] at h
      obtain ⟨v, q1, q2, q3⟩ := E.bo j e h
      refine ⟨v, q1, ?_, fun a hn ha q => q3 a hn ha (own' q)⟩
      have st : ∀ a, v = .ref a → noScr e = true → ∀ u, H a = some u → upd H p o a = some u := fun a ha hn u q => by
        rw [upd_ne fun z => q3 a hn ha (by rw [z]; exact op)]; exact q
      cases e with
      | lst ds => obtain ⟨a, vs, r1, r2, r3⟩ := q2; exact ⟨a, vs, r1, st a r1 rfl _ r2, r3⟩
      | dk ds =>
        obtain ⟨a, vs, r1, r2, r3⟩ := q2
        refine ⟨a, vs, r1, ?_, r3⟩
        rcases r2 with r2 | ⟨o', r2⟩
        · exact .inl (st a r1 rfl _ r2)
        · exact .inr ⟨o', st a r1 rfl _ r2⟩
      | dt ds =>
        obtain ⟨a, vs, r1, r2, r3⟩ := q2
        refine ⟨a, vs, r1, ?_, r3⟩
        rcases r2 with r2 | ⟨o', r2⟩
        · exact .inl (st a r1 rfl _ r2)
        · exact .inr ⟨o', st a r1 rfl _ r2⟩
      | obj c fs => obtain ⟨a, dx, vs, r1, r2, rn, r3⟩ := q2; exact ⟨a, dx, vs, r1, st a r1 rfl _ r2, rn, r3⟩
      | non => exact q2
      | bl _ => exact q2
      | int _ => exact q2
      | str _ => exact q2
      | tup _ => exact q2
      | scr _ => exact q2
      | exo _ _ => exact q2
  · by_cases hj : j = i
    · subst hj; rw [get_set_self hi] at h; cases b <;> cases h
    · rw [get_set_ne hj] at h
      obtain ⟨a, dx, fvs, q1, q2, q3, q4, q5, q6, q7⟩ := E.oo j c fs gs h
      refine ⟨a, dx, fvs, q1, q2, by rw [upd_ne (ne hj h rfl q1)]; exact q3, q4, q5, q6, fun n g hg => ?_⟩
      obtain ⟨v, d', r1, r2, r3⟩ := q7 n g hg
      by_cases hgi : g = i
      · subst hgi
        rw [hi] at r3
        cases b
        · cases r3
        · exact ⟨v, z, r1, r2, get_set_self hi⟩
      · exact ⟨v, d', r1, r2, by rw [get_set_ne hgi]; exact r3⟩
  · by_cases hj : j = i
    · subst hj; rw [get_set_self hi] at h
      cases b <;> cases h
      exact ⟨p, hp, hz⟩
    · rw [get_set_ne hj] at h
      obtain ⟨a, q1, q2⟩ := E.gh j e h
      exact ⟨a, q1, q2.mono (Ex.refl _) q2.free (upd_ne (ne hj h rfl q1))⟩
  · by_cases hj : j = i
    · subst hj; rw [get_set_self hi] at h; cases b <;> cases h
    · rw [get_set_ne hj] at h
      obtain ⟨a, b2, d2, q1, q2, q3, q4, q5⟩ := E.ln j g' h
      by_cases hgi : g' = i
      · subst hgi
        rw [hi] at q5
        cases b
        · cases q5
        · exact ⟨a, b2, z, q1, q2, by rw [upd_ne (ne hj h rfl q1)]; exact q3, q4, get_set_self hi⟩
      · exact ⟨a, b2, d2, q1, q2, by rw [upd_ne (ne hj h rfl q1)]; exact q3, q4, by rw [get_set_ne hgi]; exact q5⟩
  · have fx : ∀ {j : Nat} {u : Sl}, (env.set i (slOf b z))[j]? = some u → isOw u = true → ∃ u', env[j]? = some u' ∧ isOw u' = true := fun {j u} h hu => by
      by_cases hj : j = i
      · subst hj; exact ⟨_, hi, slOf_ow b x⟩
      · rw [get_set_ne hj] at h; exact ⟨u, h, hu⟩
    obtain ⟨u', a1, a2⟩ := fx h1 h3
    obtain ⟨w', b1, b2⟩ := fx h2 h4
    exact E.ap j k u' w' a a1 b1 a2 b2 h5 h6
  · rw [upd_ne fun z => n (by rw [z]; exact op)]; exact q
  · by_cases ha : a = p
    · subst ha; exact ⟨_, upd_same⟩
    · exact ⟨u, by rw [upd_ne ha]; exact q⟩
  · have hj : j ≠ i := fun z => by subst z; rw [hi] at h; cases b <;> cases h
    rw [get_set_ne hj]
    exact ⟨h, rfl⟩
  · have hj : j ≠ i := fun z => by subst z; rw [hi] at h; cases b <;> cases h
    rw [get_set_ne hj]
    exact ⟨⟨fs, gs, h⟩, rfl⟩
theorem repK_put {kvs : List (Key × D)} {vs : List (Key × V)} {k : Key} {d : D} {v : V} (r : Rep K ct F d v) (h : RepK K ct F kvs vs) : RepK K ct F (putD kvs k d) (putK vs k v) := by
  have an : ∀ {kvs : List (Key × D)} {vs : List (Key × V)}, RepK K ct F kvs vs → (kvs.any fun kv => decide (kv.1 = k)) = vs.any fun kv => decide (kv.1 = k) := by
    intro kvs
    induction kvs with
    | nil => intro vs h; rw [show vs = [] from h]; rfl
    | cons p pr ih =>
      intro vs h
      obtain ⟨v', vr, rfl, e2, e3⟩ := h
      rw [List.any_cons, List.any_cons, ih e3]
  have mp : ∀ {kvs : List (Key × D)} {vs : List (Key × V)}, RepK K ct F kvs vs → RepK K ct F (kvs.map fun kv => if kv.1 = k then (kv.1, d) else kv) (vs.map fun kv => if kv.1 = k then (kv.1, v) else kv) := by
    intro kvs
    induction kvs with
    | nil => intro vs h; rw [show vs = [] from h]; rfl
    | cons p pr ih =>
      intro vs h
      obtain ⟨v', vr, rfl, e2, e3⟩ := h
      obtain ⟨pk, pd⟩ := p
      rw [List.map_cons, List.map_cons]
      by_cases e : pk = k
      · rw [if_pos e, if_pos e]; exact ⟨v, _, rfl, r, ih e3⟩
      · rw [if_neg e, if_neg e]; exact ⟨v', _, rfl, e2, ih e3⟩
  have sn : ∀ {kvs : List (Key × D)} {vs : List (Key × V)}, RepK K ct F kvs vs → RepK K ct F (kvs ++ [(k, d)]) (vs ++ [(k, v)]) := by
    intro kvs
    induction kvs with
    | nil => intro vs h; rw [show vs = [] from h]; exact ⟨v, [], rfl, r, rfl⟩
    | cons p pr ih =>
      intro vs h
      obtain ⟨v', vr, rfl, e2, e3⟩ := h
      exact ⟨v', _, rfl, e2, ih e3⟩
  unfold putD putK
  rw [an h]
  cases vs.any fun kv => decide (kv.1 = k) with
  | true => exact mp h
  | false => exact sn h
theorem repT_put {kvs : List (List Key × D)} {vs : List (List Key × V)} {k : List Key} {d : D} {v : V} (r : Rep K ct F d v) (h : RepT K ct F kvs vs) : RepT K ct F (putD kvs k d) (putK vs k v) := by
  have an : ∀ {kvs : List (List Key × D)} {vs : List (List Key × V)}, RepT K ct F kvs vs → (kvs.any fun kv => decide (kv.1 = k)) = vs.any fun kv => decide (kv.1 = k) := by
    intro kvs
    induction kvs with
    | nil => intro vs h; rw [show vs = [] from h]; rfl
    | cons p pr ih =>
      intro vs h
      obtain ⟨v', vr, rfl, e2, e3⟩ := h
      rw [List.any_cons, List.any_cons, ih e3]
  have mp : ∀ {kvs : List (List Key × D)} {vs : List (List Key × V)}, RepT K ct F kvs vs → RepT K ct F (kvs.map fun kv => if kv.1 = k then (kv.1, d) else kv) (vs.map fun kv => if kv.1 = k then (kv.1, v) else kv) := by
    intro kvs
    induction kvs with
    | nil => intro vs h; rw [show vs = [] from h]; rfl
    | cons p pr ih =>
      intro vs h
      obtain ⟨v', vr, rfl, e2, e3⟩ := h
      obtain ⟨pk, pd⟩ := p
      rw [List.map_cons, List.map_cons]
      by_cases e : pk = k
      · rw [if_pos e, if_pos e]; exact ⟨v, _, rfl, r, ih e3⟩
      · rw [if_neg e, if_neg e]; exact ⟨v', _, rfl, e2, ih e3⟩
  have sn : ∀ {kvs : List (List Key × D)} {vs : List (List Key × V)}, RepT K ct F kvs vs → RepT K ct F (kvs ++ [(k, d)]) (vs ++ [(k, v)]) := by
    intro kvs
    induction kvs with
    | nil => intro vs h; rw [show vs = [] from h]; exact ⟨v, [], rfl, r, rfl⟩
    | cons p pr ih =>
      intro vs h
      obtain ⟨v', vr, rfl, e2, e3⟩ := h
      exact ⟨v', _, rfl, e2, ih e3⟩
  unfold putD putK
  rw [an h]
  cases vs.any fun kv => decide (kv.1 = k) with
  | true => exact mp h
  | false => exact sn h
theorem repK_len2 {kvs : List (Key × D)} {vs : List (Key × V)} (h : RepK K ct F kvs vs) : vs.length = kvs.length := repK_len h
theorem repT_len : ∀ {kvs : List (List Key × D)} {vs : List (List Key × V)}, RepT K ct F kvs vs → vs.length = kvs.length
  | [], vs, h => by rw [show vs = [] from h]; rfl
  | (k, d) :: kvs, vs, h => by
    obtain ⟨v, r, e1, e2, e3⟩ := h
    rw [e1, List.length_cons, List.length_cons, repT_len e3]
/-- a store into an owned thing -/
def rPut1 : TSet := fun o i v H Q => rSetL o i v H Q ∨ ∃ a H4, o = .ref a ∧ DPut H a i v H4 ∧ Q H4
theorem set_put1 {X : Cx} (hu : X.A.units + 1 < cLine) : PSet X rPut1 := by
  intro pins s σ H o i v ov iv u Q I ro ri rv h
  rcases h with h | ⟨a, H4, rfl, g, q⟩
  · exact set_list pins s σ H o i v ov iv u Q I ro ri rv h
  · obtain rfl : ov = Value.ref a := ro
    exact d_setItem hu I g ri rv fun s' I' => ⟨H4, I', q⟩
theorem put_ok {x k v z : D} {p : Addr} {kv vv : V} (ex : Ex F H) (ho : OwnAt K ct F H p x) (hk : Rep K ct F k kv) (hv : Rep K ct F v vv) (hz : dPut x k v = some z) :
    ∃ o, OwnAt K ct F (upd H p o) p z ∧ ∀ Q : Hp → Prop, Q (upd H p o) → rPut1 (.ref p) kv vv H Q := by
  cases x <;> first | (cases hz; done) | skip
  · rename_i ds
    cases k <;> first | (cases hz; done) | skip
    rename_i i
    obtain ⟨hF, vs, h1, h2⟩ := ho
    obtain ⟨j, q1, rfl⟩ := Option.map_eq_some_iff.mp (show (ixN ds.length i).map (fun j => D.lst (ds.set j v)) = some z from hz)
    cases (show kv = .int i from hk)
    exact ⟨.lst (vs.set j vv), ⟨hF, _, upd_same, h2.set hv j⟩, fun Q q => .inl ⟨p, vs, i, j, rfl, rfl, h1, by rw [h2.length]; exact q1, q⟩⟩
  · rename_i kvs
    obtain ⟨hF, vs, h1, h2⟩ := ho
    obtain ⟨kk, q1, q2⟩ := Option.bind_eq_some_iff.mp (show ((keyD k).bind fun k => if kvs.length < sizeLine then some (D.dk (putD kvs k v)) else none) = some z from by cases k <;> exact hz)
    split at q2
    · rename_i hl
      cases q2
      have ek := rep_key hk q1
      subst ek
      exact ⟨.dK (putK vs kk vv), ⟨hF, _, upd_same, repK_put hv h2⟩, fun Q q => .inr ⟨p, _, rfl, DPut.k h1 (by rw [repK_len h2]; exact hl), q⟩⟩
    · cases q2
  · rename_i kvs
    cases k <;> first | (cases hz; done) | skip
    rename_i ks
    obtain ⟨hF, vs, h1, h2⟩ := ho
    obtain ⟨kk, q1, q2⟩ := Option.bind_eq_some_iff.mp (show ((keysD ks).bind fun k => if kvs.length < sizeLine then some (D.dt (putD kvs k v)) else none) = some z from hz)
    split at q2
    · rename_i hl
      cases q2
      obtain ⟨b, us, rfl, b1, b2⟩ := hk
      rw [reps_keys b2 q1] at b1
      exact ⟨.dT (putK vs kk vv), ⟨hF, _, upd_same, repT_put hv h2⟩, fun Q q => .inr ⟨p, _, rfl, DPut.t h1 (ex _ _ b1) (by rw [repT_len h2]; exact hl), q⟩⟩
    · cases q2
end

section
variable {X : Cx} {ct : Nat → Addr} {W : WX} {st : Stmt} {rest body orelse : List Stmt} {a b e c tg iter : Expr} {f fk fv fi : SE} {g g2 : SS} {pos pos' p p' apos cpos : Pos} {T : Tgt}
/-- x.append(e) -/
theorem p_app (i : Nat) {x : Str} (he : PE X e (ER X.K ct W f)) (hN : X.N[i]? = some x := by rfl) (hv : Vis X.env.scope x := by first | exact Or.inl rfl | exact Or.inr (Or.inl rfl) | exact Or.inr (Or.inr rfl)) (hd : (x == ("__debug__" : Str)) = false := by decide)
    (hcd : (x == ("__classdict__" : Str)) = false := by decide) (hs : swapsWith (.Call (.Attribute (.Name x p) "append" apos) [e] [] cpos) none pos.line X.env = pure false := by rfl)
    (hbase : attributeBase (.Name x p) "append" X.env (eval (.Name x p) X.env) = eval (.Name x p) X.env := by rfl)
    (hfew : ((backTo cpos (starEach [e] X.env)).all (fun x => !x.1) && (backToKw cpos (keywordEach [] X.env)).all (fun x => x.1.isSome)
      && decide ([e].length + ([] : List Keyword).length + (if ([] : List Keyword).isEmpty then 0 else 1) < 30)) = true := by rfl)
    (hline : (apos.endLine == cpos.line) = true := by rfl) (h1 : starEach [e] X.env = (false, eval e X.env) :: starEach [] X.env := by rfl) (hplain : (backTo cpos (starEach [] X.env)).any (·.1) = false := by rfl) :
    PS X (.Expr (.Call (.Attribute (.Name x p) "append" apos) [e] [] cpos) pos) (sOf X.K ct W (ssApp i f)) := by
  refine (ps_expr (pe_bm PySem.F.plainAttrs_list PySem.F.slot_list_append PySem.F.type_list_append mt_append (pe_var hN hv hd hcd) (pa_cons he pa_nil h1) hbase hfew hline h1 hplain) hs).imp fun D σ H ⟨env, F, E, h⟩ => ?_
  unfold ssApp at h
  split at h
  · rename_i ds q
    obtain ⟨l, e1, hF, vs, h1, h2⟩ := E.ow i _ q
    refine ⟨.ref l, e1, .inl ⟨rfl, vs, SqL.of h1⟩, ?_⟩
    refine finS_bind E h fun d v F1 H1 e2 g1 r1 E1 h => ?_
    split at h
    · rename_i hl
      obtain ⟨l', e1', hF1, vs1, h3, h4⟩ := E1.ow i _ q
      rw [e1] at e1'; cases e1'
      refine ⟨l, vs1, v, rfl, rfl, h3, by rw [h4.length]; exact hl, ?_⟩
      obtain ⟨E2, S2⟩ := mut_ok false (z := .lst (ds ++ [d])) (o := .lst (vs1 ++ [v])) E1 q e1 hF1 ⟨hF1, _, upd_same, h4.append (Reps.one r1)⟩
      exact h σ F1 _ (g1.sx.trans S2) E2
    · exact h.elim
  · exact h.elim
/-- x[k] = v -/
theorem p_put (i : Nat) {x : Str} (hu : X.A.units + 1 < cLine) (hk : PE X a (ER X.K ct W fk)) (hvv : PE X b (ER X.K ct W fv)) (hN : X.N[i]? = some x := by rfl) (hv : Vis X.env.scope x := by first | exact Or.inl rfl | exact Or.inr (Or.inl rfl) | exact Or.inr (Or.inr rfl)) (hd : (x == ("__debug__" : Str)) = false := by decide)
    (hcd : (x == ("__classdict__" : Str)) = false := by decide)
    (ha : ∀ v, assign (.Subscript (.Name x p) a pos') X.env v = (do
      let ov ← holding [v] (eval (.Name x p) X.env)
      let iv ← holding [v, ov] (eval a X.env)
      standAt pos'
      holding [v, ov, iv] (setItem ov iv v)
      release [v, ov, iv] []) := by intro _; rfl)
    (hs : swapsWithSole [.Subscript (.Name x p) a pos'] b pos.line X.env = pure false := by rfl) (hw : swappedStores [.Subscript (.Name x p) a pos'] b X.env = pure none := by rfl) (h1 : (assignEach [.Subscript (.Name x p) a pos'] X.env).map (·.2) = [assign (.Subscript (.Name x p) a pos') X.env] := by rfl) :
    PS X (.Assign [.Subscript (.Name x p) a pos'] b pos) (sOf X.K ct W (ssPut i fk fv)) := by
  refine (ps_asg hvv (pg_sub (pe_var hN hv hd hcd) hk (set_put1 hu) ha) hs hw h1).imp fun D σ H ⟨env, F, E, h⟩ => ?_
  unfold ssPut at h
  refine finS_bind E h fun v vv F1 H1 e2 g1 r1 E1 h => ?_
  split at h
  · rename_i z q
    obtain ⟨l, e1, o1⟩ := E1.ow i _ q
    refine ⟨.ref l, e1, ?_⟩
    have h' := finS_after g1.sx h
    refine finS_bind E1 h' fun k kv F2 H2 e3 g2 r2 E2 h => ?_
    obtain ⟨l', e1', o2⟩ := E2.ow i _ q
    rw [e1] at e1'; cases e1'
    cases q2 : dPut z k v with
    | none => rw [q2] at h; exact h.elim
    | some y =>
      rw [q2] at h
      obtain ⟨o, o3, k3⟩ := put_ok E2.ex o2 r2 (Rep.mono (Ex.le g2.f) _ _ r1) q2
      obtain ⟨E3, S3⟩ := mut_ok false (z := y) (o := o) E2 q e1 o2.free o3
      exact k3 _ (h σ F2 _ (g2.sx.trans S3) E3)
  · exact h.elim
/-- loops -/
theorem loopF_cons {T : Tgt} {body : SS} {d : D} {ds : List D} {env : En} : loopF T body (d :: ds) env = (match bindT T d env with
    | none => .st
    | some e => stepL (body e) (loopF T body ds)) := rfl
theorem p_for {gt : TG} (hp : PassesOwn (model X.prog X.w) X.A X.env X.xe) (hc : X.calm = true) (hT : TgOk X.K ct gt T) (hi : PI X tg iter (tI X.K ct W O1 fi)) (hg : PG X tg gt) (hb : PSs X body (sOf X.K ct W g))
    (hs : ∀ x, foldedSetIterable iter X.env x = pure x := by intro _; rfl) : PS X (.For tg iter body [] pos) (sOf X.K ct W (ssFor T fi g)) := by
  refine (ps_for hp hc hi hg hb hs).imp fun D σ H ⟨env, F, E, h⟩ => ?_
  refine ⟨env, F, E, ?_⟩
  unfold ssFor at h
  cases q : fi env with
  | er c fs => rw [q] at h; exact fun dx F' H' g x => h dx σ F' H' g.sx (E.gr g) x
  | st => rw [q] at h; exact h
  | ok d =>
    rw [q] at h
    cases d <;> first | exact h.elim | skip
    rename_i ds
    intro J F1 H1 g1 hJ
    obtain ⟨G, Y, w, hG, hY⟩ := hJ
    have h : FinS X.K ct W F H env σ (loopF T g ds env) D := h
    refine for_it w (fun i σ' H' => ∃ env' F', Sx F1 H1 env σ F' H' env' σ' ∧ EnvOk X.K ct F' H' env' σ' ∧ loopF T g (ds.drop i) env' = loopF T g ds env)
      ⟨env, F1, (Gr.refl g1.e).sx, E.gr g1, rfl⟩ (fun i σ' H' hi p => ?_) (fun i x σ' H2 H2' hi p y => ?_) fun σ' H' p => ?_
    · obtain ⟨env', F', S, E', _⟩ := p
      exact hG H' fun b o q n => S.k b o q n
    · obtain ⟨env', F', S, E', hl⟩ := p
      have hd : ds[i]? = some ds[i] := by simp [hi]
      obtain ⟨F3, g3, r3⟩ := hY i ds[i] F' H2 x H2' hd S.f S.e y
      rw [List.drop_eq_getElem_cons hi, loopF_cons] at hl
      cases hb : bindT T ds[i] env' with
      | none => rw [hb] at hl; rw [← hl] at h; exact h.elim
      | some e =>
        rw [hb] at hl
        replace hl : stepL (g e) (loopF T g (ds.drop (i + 1))) = loopF T g ds env := hl
        refine hT x σ' F3 H2' env' e ds[i] _ (E'.gr g3) r3 hb fun σ2 E2 S2 _ _ => ⟨e, F3, E2, ?_⟩
        have S' := (S.trans g3.sx).trans S2
        have hS := finS_after (g1.sx.trans S') h
        cases ho : g e with
        | nx e' => rw [ho] at hl; exact fun σ4 F4 H4 S4 E4 => ⟨e', F4, S'.trans S4, E4, hl⟩
        | ct e' => rw [ho] at hl; exact fun σ4 F4 H4 S4 E4 => ⟨e', F4, S'.trans S4, E4, hl⟩
        | bk e' => rw [ho] at hl; rw [← hl] at hS; exact hS
        | rt d => rw [ho] at hl; rw [← hl] at hS; exact hS
        | rn d => rw [ho] at hl; rw [← hl] at hS; exact hS
        | er c fs e' => rw [ho] at hl; rw [← hl] at hS; exact hS
        | st => rw [ho] at hl; rw [← hl] at h; exact h.elim
    · obtain ⟨env', F', S, E', hl⟩ := p
      rw [List.drop_length] at hl
      rw [← hl] at h
      exact h σ' F' H' (g1.sx.trans S) E'
theorem p_while (n : Nat) (hp : PassesOwn (model X.prog X.w) X.A X.env X.xe) (hc : PT X c (TT1 X.K ct W f)) (hb : PSs X body (sOf X.K ct W g)) : PS X (.While c body [] pos) (sOf X.K ct W (ssWhile n f g)) := by
  refine (ps_while hp hc hb).imp fun D σ H ⟨env, F, E, h⟩ => ?_
  unfold ssWhile at h
  refine ⟨fun m σ' H' => ∃ env' F', Sx F H env σ F' H' env' σ' ∧ EnvOk X.K ct F' H' env' σ' ∧ whileN f g m env' = whileN f g n env, ⟨n, env, F, (Gr.refl E.ex).sx, E, rfl⟩, ?_⟩
  rintro m σ' H' ⟨env', F', S, E', hl⟩
  have hS := finS_after S h
  rw [← hl] at hS
  cases m with
  | zero => exact hS.elim
  | succ m =>
    refine finS_test (kt := stepL (g env') (whileN f g m)) (kf := .nx env') E' hS fun b F1 H1 hb g1 E1 h2 => ?_
    cases b with
    | false => exact h2 σ' F1 H1 g1.sx E1
    | true =>
      have h3 : FinS X.K ct W F' H' env' σ' (stepL (g env') (whileN f g m)) D := h2
      have h4 := finS_after g1.sx h3
      have hl : stepL (g env') (whileN f g m) = whileN f g n env := by
        rw [← hl]
        show _ = bndS (f env') env' _
        rw [hb]
        rfl
      refine ⟨fun σ2 H2 => ∃ env2 F2, Sx F H env σ F2 H2 env2 σ2 ∧ EnvOk X.K ct F2 H2 env2 σ2 ∧ whileN f g m env2 = whileN f g n env, fun σ2 H2 p => ⟨m, Nat.lt_succ_self m, p⟩, env', F1, E1, ?_⟩
      have S1 := S.trans g1.sx
      cases ho : g env' with
      | nx e' => rw [ho] at hl; exact fun σ4 F4 H4 S4 E4 => ⟨e', F4, S1.trans S4, E4, hl⟩
      | ct e' => rw [ho] at hl; exact fun σ4 F4 H4 S4 E4 => ⟨e', F4, S1.trans S4, E4, hl⟩
      | bk e' => rw [ho] at h4; exact h4
      | rt d => rw [ho] at h4; exact h4
      | rn d => rw [ho] at h4; exact h4
      | er c fs e' => rw [ho] at h4; exact h4
      | st => rw [ho] at h4; exact h4
/-- y = [..] on one line -/
theorem p_setLc {i : Nat} {y : Str} {py : Pos} {elt : Expr} {ifs : List Expr} {scope : Scope} {own : List (Str × Nat)} {spos : Pos} {gt : TG} {ft fe : SE} (hc : X.calm = true) (hN : X.N.Nodup) (hy : X.N[i]? = some y) (hyl : X.env.scope.names.lookup y = some .local)
    (hsw : swapsWith (.ListComp elt [⟨tg, iter, ifs, 0⟩] scope pos) (some (.Name y py)) spos.line X.env = pure true) (hi : PI X tg iter (tI X.K ct W O0 fi)) (ok : BlkOk X.N X.env.scope scope own)
    (hg : ∀ (s : Shared) (H : Hp) (C : Addr) (cl : List (Str × Addr)) (fp : List Addr), PG (X.blk s H scope (compEnvC scope cl C X.env) fp) tg gt) (hT : TgOk X.K ct gt T) (hsub : ∀ i ∈ slotsT T, i ∈ own.map (·.2))
    (ht : ∀ (s : Shared) (H : Hp) (C : Addr) (cl : List (Str × Addr)) (fp : List Addr), PTs (X.blk s H scope (compEnvC scope cl C X.env) fp) ifs (TT1 X.K ct W0 ft))
    (he : ∀ (s : Shared) (H : Hp) (C : Addr) (cl : List (Str × Addr)) (fp : List Addr), PE (X.blk s H scope (compEnvC scope cl C X.env) fp) elt (ER X.K ct W0 fe)) (hs : ∀ x, foldedSetIterable iter X.env x = pure x := by intro _; rfl) :
    PS X (.Assign [.Name y py] (.ListComp elt [⟨tg, iter, ifs, 0⟩] scope pos) spos) (sOf X.K ct W (ssOwn i (sComp T (own.map (·.2)) fi ft fe))) := by
  refine (ps_setLc hc hN hy hyl hsw hi ok hg ht he hs).imp fun D σ H h => ?_
  have h2 := t_own h
  exact tlc hT hsub h2
end
end Ps

namespace Ps
open PySem PySem.Spec PyProof.Rows L2

/-! ### an instance that is being made -/
def hasF (n : Str) (fs : List (Str × D)) : Bool := fs.any fun p => decide (p.1 = n)
def noG (n : Str) (gs : List (Str × Nat)) : Bool := gs.all fun p => decide (p.1 ≠ n)
/-- self.n = e, the first time -/
def ssFld (c i : Nat) (n : Str) (f : SE) : SS := fun env => match env[i]? with
  | some (.oo c' fs gs) => if c' = c ∧ n ∈ clsF c ∧ noG n gs = true ∧ hasF n fs = false ∧ fs.length + gs.length < 800 then bndS (f env) env fun d => .nx (env.set i (.oo c (fs ++ [(n, d)]) gs)) else .st
  | _ => .st
/-- self.n = a new thing, in slot g -/
def ssFldG (c i : Nat) (n : Str) (g : Nat) (f : SE) : SS := fun env => match env[i]?, env[g]? with
  | some (.oo c' fs gs), some .no => if c' = c ∧ n ∈ clsF c ∧ noG n gs = true ∧ hasF n fs = false ∧ fs.length + gs.length < 800 then bndS (f env) env fun d => .nx ((env.set i (.oo c fs ((n, g) :: gs))).set g (.gh d)) else .st
  | _, _ => .st
/-- self.n[k] = v -/
def ssPutG (c i : Nat) (n : Str) (g : Nat) (fk fv : SE) : SS := fun env => bndS (fv env) env fun v => match env[i]?, env[g]? with
  | some (.oo c' fs gs), some (.gh x) => if c' = c ∧ (n, g) ∈ gs then bndS (fk env) env fun k => (match dPut x k v with
    | some z => .nx (env.set g (.gh z))
    | none => .st) else .st
  | _, _ => .st
section
variable {K : PySem.W.Frag} {ct : Nat → Addr} {F H : Hp} {env : En} {σ : L2.St} {i c : Nat} {fs : List (Str × D)} {gs : List (Str × Nat)}
theorem repF_putN {n : Str} {v : V} {fvs : List (Str × V)} : ∀ {fs : List (Str × D)}, hasF n fs = false → RepF K ct F fs fvs → RepF K ct F fs (putF n v fvs)
  | [], _, _ => True.intro
  | (m, e) :: fs, hn, h => by
    obtain ⟨⟨x, h1, h2⟩, h3⟩ := h
    obtain ⟨n1, n2⟩ := Bool.or_eq_false_iff.mp (show (decide (m = n) || hasF n fs) = false from hn)
    exact ⟨⟨x, by rw [lookup_putF, if_neg (of_decide_eq_false n1)]; exact h1, h2⟩, repF_putN n2 h3⟩
theorem repF_snoc {n : Str} {d : D} {v : V} {fvs : List (Str × V)} (hv : fvs.lookup n = some v) (r : Rep K ct F d v) : ∀ {fs : List (Str × D)}, RepF K ct F fs fvs → RepF K ct F (fs ++ [(n, d)]) fvs
  | [], _ => ⟨⟨v, hv, r⟩, True.intro⟩
  | (m, e) :: fs, h => ⟨h.1, repF_snoc hv r h.2⟩
theorem nms_put {n : Str} {v : V} {fvs : List (Str × V)} (hn : n ∈ clsF c) (h : Nms c fvs) : Nms c (putF n v fvs) := fun m x q => by
  rw [lookup_putF] at q
  split at q
  · rename_i e; rw [e]; exact hn
  · exact h m x q
/-- the instance at slot i changes -/
theorem oo_ok {a dx : Addr} {fvs : List (Str × V)} {fs' : List (Str × D)} {gs' : List (Str × Nat)} (E : EnvOk K ct F H env σ) (hi : env[i]? = some (.oo c fs gs)) (ha : σ[i]? = some (some (.ref a)))
    (hn : Nms c fvs) (hl : fvs.length ≤ fs'.length + gs'.length) (hr : RepF K ct F fs' fvs) (hg : ∀ n g, (n, g) ∈ gs' → ∃ v d, fvs.lookup n = some v ∧ σ[g]? = some (some v) ∧ env[g]? = some (.gh d)) :
    EnvOk K ct F (upd H a (.ins (ct c) dx fvs)) (env.set i (.oo c fs' gs')) σ ∧ Sx F H env σ F (upd H a (.ins (ct c) dx fvs)) (env.set i (.oo c fs' gs')) σ := by
  obtain ⟨a', dx', fvs', q1, hF, _⟩ := E.oo i c fs gs hi
  rw [ha] at q1; cases q1
  have op : Owns env σ a := ⟨i, _, hi, rfl, ha⟩
  have ex : Ex F (upd H a (.ins (ct c) dx fvs)) := fun b u q => by rw [upd_ne (ne_of_none q hF)]; exact E.ex b u q
  have ne : ∀ {j : Nat} {s : Sl} {b : Addr}, j ≠ i → env[j]? = some s → isOw s = true → σ[j]? = some (some (.ref b)) → b ≠ a := fun {j s b} hj h1 h2 h3 q => by
    subst q
    exact hj (E.ap j i s _ b h1 hi h2 rfl h3 ha)
  have own' : ∀ {b : Addr}, Owns (env.set i (.oo c fs' gs')) σ b → Owns env σ b := fun {b} ⟨j, s, h1, h2, h3⟩ => by
    by_cases hj : j = i
    · subst hj; rw [ha] at h3; cases h3; exact op
    · rw [get_set_ne hj] at h1; exact ⟨j, s, h1, h2, h3⟩
  have gne : ∀ {g : Nat} {d : D}, env[g]? = some (.gh d) → g ≠ i := fun {g d} h z => by subst z; rw [hi] at h; cases h
  refine ⟨⟨ex, by simp [E.len], fun j e h => ?_, fun j e h => ?_, fun j e h => ?_, fun j c2 fs2 gs2 h => ?_, fun j e h => ?_, fun j g' h => ?_, fun j k u w b h1 h2 h3 h4 h5 h6 => ?_⟩, ⟨⟨Ex.refl _, ex, fun b u q n => ?_, fun b u q => ?_, fun b u q => .inl q⟩, fun b h => .inl (own' h), fun j e h => ?_, fun j c2 fs2 gs2 h => ?_⟩⟩
  · by_cases hj : j = i
    · subst hj; rw [get_set_self hi] at h; cases h
    · rw [get_set_ne hj] at h; exact E.sh j e h
  · by_cases hj : j = i
    · subst hj; rw [get_set_self hi] at h; cases h
    · rw [get_set_ne hj] at h
      obtain ⟨b, q1, q2⟩ := E.ow j e h
      exact ⟨b, q1, q2.mono (Ex.refl _) q2.free (upd_ne (ne hj h rfl q1))⟩
  · by_cases hj : j = i
    · subst hj; rw [get_set_self hi] at h; cases h
    · rw [get_set_ne hj] at h
      obtain ⟨v, q1, q2, q3⟩ := E.bo j e h
      refine ⟨v, q1, ?_, fun b hn ha z => q3 b hn ha (own' z)⟩
      have st : ∀ b, v = .ref b → noScr e = true → ∀ u, H b = some u → upd H a (.ins (ct c) dx fvs) b = some u := fun b hb hn u q => by
        rw [upd_ne fun z => q3 b hn hb (by rw [z]; exact op)]; exact q
      cases e with
      | lst ds => obtain ⟨b, vs, r1, r2, r3⟩ := q2; exact ⟨b, vs, r1, st b r1 rfl _ r2, r3⟩
      | dk ds =>
        obtain ⟨b, vs, r1, r2, r3⟩ := q2
        refine ⟨b, vs, r1, ?_, r3⟩
        rcases r2 with r2 | ⟨o', r2⟩
        · exact .inl (st b r1 rfl _ r2)
        · exact .inr ⟨o', st b r1 rfl _ r2⟩
      | dt ds =>
        obtain ⟨b, vs, r1, r2, r3⟩ := q2
        refine ⟨b, vs, r1, ?_, r3⟩
        rcases r2 with r2 | ⟨o', r2⟩
        · exact .inl (st b r1 rfl _ r2)
        · exact .inr ⟨o', st b r1 rfl _ r2⟩
      | obj c fs => obtain ⟨b, dx, vs, r1, r2, rn, r3⟩ := q2; exact ⟨b, dx, vs, r1, st b r1 rfl _ r2, rn, r3⟩
      | non => exact q2
      | bl _ => exact q2
      | int _ => exact q2
      | str _ => exact q2
      | tup _ => exact q2
      | scr _ => exact q2
      | exo _ _ => exact q2
  · by_cases hj : j = i
    · subst hj; rw [get_set_self hi] at h; cases h
      exact ⟨a, dx, fvs, ha, hF, upd_same, hn, hl, hr, fun n g z => by
        obtain ⟨v, d, r1, r2, r3⟩ := hg n g z
        exact ⟨v, d, r1, r2, by rw [get_set_ne (gne r3)]; exact r3⟩⟩
    · rw [get_set_ne hj] at h
      obtain ⟨b, dx2, fvs2, q1, q2, q3, q4, q5, q6, q7⟩ := E.oo j c2 fs2 gs2 h
      exact ⟨b, dx2, fvs2, q1, q2, by rw [upd_ne (ne hj h rfl q1)]; exact q3, q4, q5, q6, fun n g z => by
        obtain ⟨v, d, r1, r2, r3⟩ := q7 n g z
        exact ⟨v, d, r1, r2, by rw [get_set_ne (gne r3)]; exact r3⟩⟩
  · by_cases hj : j = i
    · subst hj; rw [get_set_self hi] at h; cases h
    · rw [get_set_ne hj] at h
      obtain ⟨b, q1, q2⟩ := E.gh j e h
      exact ⟨b, q1, q2.mono (Ex.refl _) q2.free (upd_ne (ne hj h rfl q1))⟩
  · by_cases hj : j = i
    · subst hj; rw [get_set_self hi] at h; cases h
    · rw [get_set_ne hj] at h
      obtain ⟨b, b2, d2, q1, q2, q3, q4, q5⟩ := E.ln j g' h
      exact ⟨b, b2, d2, q1, q2, by rw [upd_ne (ne hj h rfl q1)]; exact q3, q4, by rw [get_set_ne (gne q5)]; exact q5⟩
  · have fx : ∀ {j : Nat} {u : Sl}, (env.set i (.oo c fs' gs'))[j]? = some u → isOw u = true → ∃ u', env[j]? = some u' ∧ isOw u' = true := fun {j u} h hu => by
      by_cases hj : j = i
      · subst hj; exact ⟨_, hi, rfl⟩
      · rw [get_set_ne hj] at h; exact ⟨u, h, hu⟩
    obtain ⟨u', a1, a2⟩ := fx h1 h3
    obtain ⟨w', b1, b2⟩ := fx h2 h4
    exact E.ap j k u' w' b a1 b1 a2 b2 h5 h6
  · rw [upd_ne fun z => n (by rw [z]; exact op)]; exact q
  · by_cases hb : b = a
    · subst hb; exact ⟨_, upd_same⟩
    · exact ⟨u, by rw [upd_ne hb]; exact q⟩
  · have hj : j ≠ i := fun z => by subst z; rw [hi] at h; cases h
    rw [get_set_ne hj]
    exact ⟨h, rfl⟩
  · by_cases hj : j = i
    · subst hj
      rw [hi] at h; cases h
      exact ⟨⟨fs', gs', get_set_self hi⟩, rfl⟩
    · rw [get_set_ne hj]
      exact ⟨⟨fs2, gs2, h⟩, rfl⟩
end
/-! ### slots that no name stands for -/
section
variable {X : Cx}
theorem inv_ghost {pins : List (Addr × Obj)} {σ : L2.St} {H : Hp} {s : Shared} {g : Nat} {x : Option V} (hg : ∀ y, X.N[g]? = some y → ¬ Vis X.env.scope y) (I : Inv X pins σ H s) : Inv X pins (σ.set g x) H s := by
  obtain ⟨h1, h2, h3, h4, ⟨m, hn, hl⟩, h6, h7, h8, h9, h10, h11⟩ := I
  refine ⟨h1, h2, h3, h4, ⟨m, hn, fun i y v e1 e2 e3 => ?_⟩, h6, h7, h8, h9, h10, by rw [List.length_set]; exact h11⟩
  by_cases hi : i = g
  · subst hi; exact absurd e3 (hg y e1)
  · rw [get_set_ne hi] at e2
    exact hl i y v e1 e2 e3
/-- behind a statement the slot g is set -/
theorem ps_ghost {st : Stmt} {t : TS} {g : Nat} (hg : ∀ y, X.N[g]? = some y → ¬ Vis X.env.scope y) (h : PS X st t) : PS X st (fun D σ H => t { D with nx := fun σ' H' => ∃ x, D.nx (σ'.set g x) H' } σ H) := by
  refine ⟨fun pins s σ H D I q => ?_⟩
  refine thn (h.run pins s σ H _ I q) fun f s1 hq => ?_
  cases f with
  | next =>
    obtain ⟨σ', H', I', x, q'⟩ := hq
    exact ⟨_, H', inv_ghost hg I', q'⟩
  | brk => exact hq
  | cont => exact hq
  | ret u => exact hq
end

section
variable {X : Cx} {ct : Nat → Addr} {W : WX} {a b e : Expr} {f fk fv : SE} {pos pos' p p' : Pos}
theorem p_fld (c i : Nat) {x n : Str} (hc : Cls X.K (ct c)) (hna : NoAttr X.K (ct c) n) (he : PE X e (ER X.K ct W f)) (hN : X.N[i]? = some x := by rfl) (hv : Vis X.env.scope x := by first | exact Or.inl rfl | exact Or.inr (Or.inl rfl) | exact Or.inr (Or.inr rfl)) (hd : (x == ("__debug__" : Str)) = false := by decide)
    (hcd : (x == ("__classdict__" : Str)) = false := by decide) (hs : swapsWith e (some (.Attribute (.Name x p) n pos')) pos.line X.env = pure false := by rfl) :
    PS X (.Assign [.Attribute (.Name x p) n pos'] e pos) (sOf X.K ct W (ssFld c i n f)) := by
  refine (ps_fld (pe_var hN hv hd hcd) he hs).imp fun D σ H ⟨env, F, E, h⟩ => ?_
  unfold ssFld at h
  split at h
  · rename_i c' fs gs q
    split at h
    · rename_i hh
      obtain ⟨rfl, h1, h2, h3, h4⟩ := hh
      refine finS_bind E h fun d y F1 H1 e2 g1 r1 E1 h => ?_
      obtain ⟨l, dx, fvs, q1, q2, q3, q4, q5, q6, q7⟩ := E1.oo i c' fs gs q
      refine ⟨.ref l, q1, l, _, dx, fvs, rfl, q3, hc, hna, by omega, ?_⟩
      have lp : (putF n y fvs).lookup n = some y := by rw [lookup_putF, if_pos rfl]
      obtain ⟨E2, S2⟩ := oo_ok (fs' := fs ++ [(n, d)]) (gs' := gs) (fvs := putF n y fvs) (dx := dx) E1 q q1 (nms_put h1 q4) (by have := length_putF n y fvs; simp; omega) (repF_snoc lp r1 (repF_putN h3 q6)) fun m g z => by
        obtain ⟨v, d', r1, r2, r3⟩ := q7 m g z
        have hm : m ≠ n := of_decide_eq_true (List.all_eq_true.mp h2 (m, g) z)
        exact ⟨v, d', by rw [lookup_putF, if_neg hm]; exact r1, r2, r3⟩
      exact h σ F1 _ (g1.sx.trans S2) E2
    · exact h.elim
  · exact h.elim
theorem p_fldG (c i g : Nat) {x n : Str} (hg : ∀ y, X.N[g]? = some y → ¬ Vis X.env.scope y) (hc : Cls X.K (ct c)) (hna : NoAttr X.K (ct c) n) (he : PE X e (EN X.K ct W f)) (hN : X.N[i]? = some x := by rfl) (hv : Vis X.env.scope x := by first | exact Or.inl rfl | exact Or.inr (Or.inl rfl) | exact Or.inr (Or.inr rfl)) (hd : (x == ("__debug__" : Str)) = false := by decide)
    (hcd : (x == ("__classdict__" : Str)) = false := by decide) (hs : swapsWith e (some (.Attribute (.Name x p) n pos')) pos.line X.env = pure false := by rfl) :
    PS X (.Assign [.Attribute (.Name x p) n pos'] e pos) (sOf X.K ct W (ssFldG c i n g f)) := by
  refine (ps_ghost hg (ps_fld (pe_var hN hv hd hcd) he hs)).imp fun D σ H ⟨env, F, E, h⟩ => ?_
  unfold ssFldG at h
  split at h
  · rename_i c' fs gs q qg
    split at h
    · rename_i hh
      obtain ⟨rfl, h1, h2, h3, h4⟩ := hh
      refine finS_bind E h fun d y F1 H1 e2 g1 r1 E1 h => ?_
      obtain ⟨pa, rfl, hp, ho⟩ := r1
      obtain ⟨l, dx, fvs, q1, q2, q3, q4, q5, q6, q7⟩ := E1.oo i c' fs gs q
      obtain ⟨l0, dx0, fvs0, q10, q20, q30, _⟩ := E.oo i c' fs gs q
      rw [q1] at q10; cases q10
      refine ⟨.ref l, q1, l, _, dx, fvs, rfl, q3, hc, hna, by omega, some (.ref pa), ?_⟩
      have lp : (putF n (.ref pa) fvs).lookup n = some (.ref pa) := by rw [lookup_putF, if_pos rfl]
      have hgi : g ≠ i := fun z => by subst z; rw [q] at qg; cases qg
      have npl : pa ≠ l := fun z => by subst z; rw [q30] at hp; cases hp
      -- the slot first
      obtain ⟨E2, S2⟩ := own_ok true (i := g) g1 E qg rfl hp ho
      have hi2 : (env.set g (slOf true d))[i]? = some (.oo c' fs gs) := by rw [get_set_ne (Ne.symm hgi)]; exact q
      have hσ2 : (σ.set g (some (V.ref pa)))[i]? = some (some (.ref l)) := by rw [get_set_ne (Ne.symm hgi)]; exact q1
      have hlen : g < σ.length := by
        rw [← E.len]; exact (List.getElem?_eq_some_iff.mp qg).1
      obtain ⟨E3, S3⟩ := oo_ok (fs' := fs) (gs' := (n, g) :: gs) (fvs := putF n (.ref pa) fvs) (dx := dx) E2 hi2 hσ2 (nms_put h1 q4) (by have := length_putF n (.ref pa) fvs; simp; omega) (repF_putN h3 q6) fun m g' z => by
        rcases List.mem_cons.mp z with e | z
        · cases e
          exact ⟨.ref pa, d, lp, by simp [hlen], get_set_self qg⟩
        · obtain ⟨v, d', r1, r2, r3⟩ := q7 m g' z
          have hm : m ≠ n := of_decide_eq_true (List.all_eq_true.mp h2 (m, g') z)
          have hgg : g' ≠ g := fun y => by subst y; rw [qg] at r3; cases r3
          exact ⟨v, d', by rw [lookup_putF, if_neg hm]; exact r1, by rw [get_set_ne hgg]; exact r2, by rw [get_set_ne hgg]; exact r3⟩
      have ee : (env.set i (.oo c' fs ((n, g) :: gs))).set g (.gh d) = (env.set g (slOf true d)).set i (.oo c' fs ((n, g) :: gs)) := List.set_comm _ _ (Ne.symm hgi)
      rw [ee] at h
      exact h _ F1 _ (S2.trans S3) E3
    · exact h.elim
  · exact h.elim
/-- self.n[k] = v -/
theorem p_putG (c i g : Nat) {x n : Str} {pa : Pos} (hu : X.A.units + 1 < cLine) (hc : Cls X.K (ct c)) (hna : NoAttr X.K (ct c) n) (hk : PE X a (ER X.K ct W fk)) (hvv : PE X b (ER X.K ct W fv)) (hN : X.N[i]? = some x := by rfl) (hv : Vis X.env.scope x := by first | exact Or.inl rfl | exact Or.inr (Or.inl rfl) | exact Or.inr (Or.inr rfl)) (hd : (x == ("__debug__" : Str)) = false := by decide)
    (hcd : (x == ("__classdict__" : Str)) = false := by decide) (hb : attributeBase (.Name x p) n X.env (eval (.Name x p) X.env) = eval (.Name x p) X.env := by rfl)
    (ha : ∀ v, assign (.Subscript (.Attribute (.Name x p) n pa) a pos') X.env v = (do
      let ov ← holding [v] (eval (.Attribute (.Name x p) n pa) X.env)
      let iv ← holding [v, ov] (eval a X.env)
      standAt pos'
      holding [v, ov, iv] (setItem ov iv v)
      release [v, ov, iv] []) := by intro _; rfl)
    (hs : swapsWithSole [.Subscript (.Attribute (.Name x p) n pa) a pos'] b pos.line X.env = pure false := by rfl) (hw : swappedStores [.Subscript (.Attribute (.Name x p) n pa) a pos'] b X.env = pure none := by rfl) (h1 : (assignEach [.Subscript (.Attribute (.Name x p) n pa) a pos'] X.env).map (·.2) = [assign (.Subscript (.Attribute (.Name x p) n pa) a pos') X.env] := by rfl) :
    PS X (.Assign [.Subscript (.Attribute (.Name x p) n pa) a pos'] b pos) (sOf X.K ct W (ssPutG c i n g fk fv)) := by
  refine (ps_asg hvv (pg_sub (pe_fld (pe_var hN hv hd hcd) hb) hk (set_put1 hu) ha) hs hw h1).imp fun D σ H ⟨env, F, E, h⟩ => ?_
  unfold ssPutG at h
  refine finS_bind E h fun v vv F1 H1 e2 g1 r1 E1 h0 => ?_
  clear h
  split at h0
  · rename_i c' fs gs z qi qg
    split at h0
    · rename_i hh
      obtain ⟨rfl, hin⟩ := hh
      obtain ⟨l, dx, fvs, q1, q2, q3, q4, q5, q6, q7⟩ := E1.oo i c' fs gs qi
      obtain ⟨w, d', r5, r6, r7⟩ := q7 n g hin
      obtain ⟨pd, s1, s2⟩ := E1.gh g z qg
      rw [s1] at r6; cases r6
      refine ⟨.ref l, q1, l, _, dx, fvs, .ref pd, rfl, q3, hc, hna, r5, ?_⟩
      have h' := finS_after g1.sx h0
      refine finS_bind E1 h' fun k kv F2 H2 e3 g2 r2 E2 h => ?_
      obtain ⟨l', e1', o2⟩ := E2.gh g _ qg
      rw [s1] at e1'; cases e1'
      cases q2 : dPut z k v with
      | none => rw [q2] at h; exact h.elim
      | some y =>
        rw [q2] at h
        obtain ⟨o, o3, k3⟩ := put_ok E2.ex o2 r2 (Rep.mono (Ex.le g2.f) _ _ r1) q2
        obtain ⟨E3, S3⟩ := mut_ok true (z := y) (o := o) E2 qg s1 o2.free o3
        exact k3 _ (h σ F2 _ (g2.sx.trans S3) E3)
    · exact h0.elim
  · exact h0.elim
end

/-! ### a def keeps its promise -/
def argE : List Bool → List D → En
  | m :: ms, d :: ds => (if m then .bo d else .sh d) :: argE ms ds
  | _, _ => []
def env0 (n : Nat) (ms : List Bool) (ds : List D) : En := argE ms ds ++ List.replicate (n - ms.length) .no
def runR (o : O) (fr : Bool) : R := match o with
  | .nx _ => if fr then .st else .ok .non
  | .rt d => if fr then .st else .ok d
  | .rn d => .ok d
  | .er c fs _ => .er c fs
  | _ => .st
def runF (n : Nat) (ms : List Bool) (fr : Bool) (body : SS) (ds : List D) : R := runR (body (env0 n ms ds)) fr
section
variable {K : PySem.W.Frag} {ct : Nat → Addr} {F H : Hp}
theorem argE_len : ∀ {ms : List Bool} {ds : List D} {vs : List V}, ArgsRep K ct F H ms ds vs → (argE ms ds).length = ms.length ∧ vs.length = ms.length
  | [], _, _, h => by rw [h.1, h.2]; exact ⟨rfl, rfl⟩
  | m :: ms, _, _, ⟨d, ds', v, vs', e1, e2, h, r⟩ => by
    subst e1 e2
    obtain ⟨h1, h2⟩ := argE_len r
    exact ⟨by show ((if m then Sl.bo d else Sl.sh d) :: argE ms ds').length = _; rw [List.length_cons, List.length_cons, h1], by rw [List.length_cons, List.length_cons, h2]⟩
theorem argE_get : ∀ {ms : List Bool} {ds : List D} {vs : List V} {i : Nat} {s : Sl}, ArgsRep K ct F H ms ds vs → (argE ms ds)[i]? = some s → ∃ d v, vs[i]? = some v ∧ ((s = .bo d ∧ RepB K ct F H d v) ∨ (s = .sh d ∧ Rep K ct F d v))
  | [], _, _, i, s, h, e => by rw [h.1] at e; simp [argE] at e
  | m :: ms, _, _, 0, s, ⟨d, ds', v, vs', e1, e2, h, r⟩, e => by
    subst e1 e2
    refine ⟨d, v, rfl, ?_⟩
    have : (if m then Sl.bo d else Sl.sh d) = s := by simpa [argE] using e
    subst this
    cases m with
    | true => exact .inl ⟨rfl, h⟩
    | false => exact .inr ⟨rfl, h⟩
  | m :: ms, _, _, i + 1, s, ⟨d, ds', v, vs', e1, e2, h, r⟩, e => by
    subst e1 e2
    have e : (argE ms ds')[i]? = some s := by simpa [argE] using e
    obtain ⟨d2, v2, h1, h2⟩ := argE_get r e
    exact ⟨d2, v2, by simpa using h1, h2⟩
theorem start_get {N : List Str} {vs : List V} {i : Nat} {v : V} (h : vs[i]? = some v) : (L2.start N vs)[i]? = some (some v) := by
  have hl : i < vs.length := (List.getElem?_eq_some_iff.mp h).1
  unfold L2.start
  rw [List.getElem?_append_left (by simpa using hl), List.getElem?_map, h]; rfl
theorem env_start {N : List Str} {ms : List Bool} {ds : List D} {vs : List V} (ex : Ex F H) (h : ArgsRep K ct F H ms ds vs) (hN : ms.length ≤ N.length) : EnvOk K ct F H (env0 N.length ms ds) (L2.start N vs) ∧ ∀ a, ¬ Owns (env0 N.length ms ds) (L2.start N vs) a := by
  obtain ⟨l1, l2⟩ := argE_len h
  have get : ∀ {i : Nat} {s : Sl}, (env0 N.length ms ds)[i]? = some s → s = .no ∨ ∃ d v, vs[i]? = some v ∧ ((s = .bo d ∧ RepB K ct F H d v) ∨ (s = .sh d ∧ Rep K ct F d v)) := fun {i s} e => by
    unfold env0 at e
    by_cases hi : i < (argE ms ds).length
    · rw [List.getElem?_append_left hi] at e
      exact .inr (argE_get h e)
    · rw [List.getElem?_append_right (Nat.le_of_not_lt hi)] at e
      obtain ⟨_, e⟩ := List.getElem?_eq_some_iff.mp e
      exact .inl (by rw [List.getElem_replicate] at e; exact e.symm)
  have no : ∀ a, ¬ Owns (env0 N.length ms ds) (L2.start N vs) a := fun a ⟨i, s, e1, e2, _⟩ => by
    rcases get e1 with rfl | ⟨d, v, _, (⟨rfl, _⟩ | ⟨rfl, _⟩)⟩ <;> cases e2
  refine ⟨⟨ex, ?_, fun i d e => ?_, fun i d e => ?_, fun i d e => ?_, fun i c fs gs e => ?_, fun i d e => ?_, fun i g' e => ?_, fun i j s t a h1 h2 h3 h4 h5 h6 => ?_⟩, no⟩
  · unfold env0 L2.start
    rw [List.length_append, List.length_append, List.length_replicate, List.length_replicate, List.length_map, l1, l2]
  · rcases get e with z | ⟨d', v, h1, (⟨z, _⟩ | ⟨z, r⟩)⟩
    · cases z
    · cases z
    · cases z; exact ⟨v, start_get h1, r⟩
  · rcases get e with z | ⟨d', v, h1, (⟨z, _⟩ | ⟨z, r⟩)⟩ <;> cases z
  · rcases get e with z | ⟨d', v, h1, (⟨z, r⟩ | ⟨z, r⟩)⟩
    · cases z
    · cases z; exact ⟨v, start_get h1, r, fun a _ _ => no a⟩
    · cases z
  · rcases get e with z | ⟨d', v, h1, (⟨z, _⟩ | ⟨z, r⟩)⟩ <;> cases z
  · rcases get e with z | ⟨d', v, h1, (⟨z, _⟩ | ⟨z, r⟩)⟩ <;> cases z
  · rcases get e with z | ⟨d', v, h1, (⟨z, _⟩ | ⟨z, r⟩)⟩ <;> cases z
  · exact absurd ⟨i, s, h1, h3, h5⟩ (no a)
theorem sr_gr {F' H' : Hp} {env : En} {σ : L2.St} (no : ∀ a, ¬ Owns env σ a) (s : Sr F H env σ F' H') : Gr F H F' H' :=
  ⟨s.f, fun a o q => s.k a o q (no a), s.e, fun a o q => by
    rcases s.n a o q with z | z | z
    · exact .inl z
    · exact .inr z
    · exact absurd z (no a)⟩
end
section
variable {P : Program} {w : World} {K : PySem.W.Frag} {mg : Str → Option Value} {base : Heap} {ct : Nat → Addr}
abbrev WE0 (E : XK) : WX := fun cls d _ H => E cls d H
theorem fn_ok {x qual : Str} {st : Stmt} {f : Addr} {fd : FuncData} {N ps : List Str} {k : Nat} {ms : List Bool} {fr : Bool} {body : SS} (Fn : L2.Fun K x qual st f fd) (S : FnScope N ps (L2.defScope st)) (hl : ms.length = ps.length)
    (hb : ∀ (cdv : Value) (A : Around) (outer : List PySem.Env) (s : Shared) (H : Hp) (E : XK), Room k (A.deeper (envOfC qual (L2.defScope st) s.heap.objs.size f cdv)) →
      PSs (cxOf (L2.CX P w) P w K mg base N qual (L2.defScope st) f cdv A outer s H E) (L2.defBody st) (sOf K ct (WE0 E) body)) : FnOk P w K mg base (L2.CX P w) (k + 1) f fd ps (spP K ct ms fr (runF N.length ms fr body)) := by
  refine Fn.okX S (fun vs H Q E h => by rw [spP_len h, hl]) fun cdv A outer s H vs Q E hr h => ?_
  refine ⟨_, hb cdv A outer s H E hr, ?_⟩
  obtain ⟨F, ds, ex, hA, h⟩ := h
  have hN : ms.length ≤ N.length := by
    have := S.pre
    rw [hl, ← this, List.length_take]
    exact Nat.min_le_right _ _
  obtain ⟨E0, no⟩ := env_start (N := N) ex hA hN
  refine ⟨_, F, E0, ?_⟩
  unfold runF at h
  cases q : body (env0 N.length ms ds) with
  | nx e =>
    rw [q] at h
    cases fr with
    | true => exact h.elim
    | false => exact fun σ' F' H' x _ => h .non F' H' (sr_gr no x.toSr) rfl
  | bk e => rw [q] at h; exact h.elim
  | ct e => rw [q] at h; exact h.elim
  | rt d =>
    rw [q] at h
    cases fr with
    | true => exact h.elim
    | false => exact fun v F' H' x r => h v F' H' (sr_gr no x) r
  | rn d =>
    rw [q] at h
    intro p F' H' x hp r
    have hp' : H p = none := by
      rcases hp with z | z
      · exact z
      · exact absurd z (no p)
    have g := sr_gr no x
    cases fr with
    | true => exact h _ F' H' g ⟨p, rfl, hp', r⟩
    | false =>
      obtain ⟨o, ho⟩ := r.there
      exact h _ _ H' (g.share ex hp' ho) (r.freeze ho)
  | er c fs e =>
    rw [q] at h
    exact fun dx σ' F' H' x _ r => h dx F' H' (sr_gr no x.toSr) r
  | st => rw [q] at h; exact h.elim
/-- an __init__ -/
def ghostsOf (env : En) : List (Str × Nat) → Option (List (Str × D))
  | [] => some []
  | (n, g) :: r => match env[g]? with
    | some (.gh d) => (ghostsOf env r).map fun l => (n, d) :: l
    | _ => none
def runI (c : Nat) (o : O) : RI := match o with
  | .nx env => (match (env[0]? : Option Sl) with
    | some (Sl.oo c' fs gs) => if c' = c then (match ghostsOf env gs with
      | some l => .ok (fs ++ l)
      | none => .st) else .st
    | _ => .st)
  | .er c fs _ => .er c fs
  | _ => .st
def envI (n c : Nat) (ms : List Bool) (ds : List D) : En := .oo c [] [] :: (argE ms ds ++ List.replicate (n - (ms.length + 1)) .no)
def runInit (n c : Nat) (ms : List Bool) (body : SS) (ds : List D) : RI := runI c (body (envI n c ms ds))
def GhAt (env : En) (σ : L2.St) (a : Addr) : Prop := ∃ (g : Nat) (d : D), env[g]? = some (Sl.gh d) ∧ σ[g]? = some (some (V.ref a))
theorem ghosts_rep {F H : Hp} {env : En} {σ : L2.St} (E : EnvOk K ct F H env σ) : ∃ F' : Hp, Ex F F' ∧ Ex F' H ∧ (∀ a o, F' a = some o → F a = some o ∨ GhAt env σ a) ∧ ∀ (g : Nat) (d : D), env[g]? = some (Sl.gh d) → ∃ v, σ[g]? = some (some v) ∧ Rep K ct F' d v := by
  classical
  have e1 : Ex F (fun a => if GhAt env σ a then H a else F a) := fun a o q => by
    have : ¬ GhAt env σ a := fun ⟨g, d, h1, h2⟩ => by
      have := (own_free E ⟨g, _, h1, rfl, h2⟩).1
      rw [q] at this; cases this
    show (if GhAt env σ a then H a else F a) = some o
    rw [if_neg this]; exact q
  refine ⟨fun a => if GhAt env σ a then H a else F a, e1, fun a o q => ?_, fun a o q => ?_, fun g d hg => ?_⟩
  · have q : (if GhAt env σ a then H a else F a) = some o := q
    split at q
    · exact q
    · exact E.ex a o q
  · have q : (if GhAt env σ a then H a else F a) = some o := q
    by_cases hc : GhAt env σ a
    · exact .inr hc
    · rw [if_neg hc] at q; exact .inl q
  · obtain ⟨p, h1, h2⟩ := E.gh g d hg
    obtain ⟨o, ho⟩ := h2.there
    refine ⟨_, h1, Rep.mono (Ex.le fun a u q => ?_) _ _ (h2.freeze ho)⟩
    by_cases ha : a = p
    · subst ha
      rw [upd_same] at q; cases q
      show (if GhAt env σ a then H a else F a) = some o
      rw [if_pos ⟨g, d, hg, h1⟩]; exact ho
    · rw [upd_ne ha] at q; exact e1 a u q
theorem repF_ghosts {F : Hp} {env : En} {σ : L2.St} {fvs : List (Str × V)} (hG : ∀ (g : Nat) (d : D), env[g]? = some (Sl.gh d) → ∃ v, σ[g]? = some (some v) ∧ Rep K ct F d v) : ∀ {gs : List (Str × Nat)} {l : List (Str × D)},
    (∀ n g, (n, g) ∈ gs → ∃ v d, fvs.lookup n = some v ∧ σ[g]? = some (some v) ∧ env[g]? = some (Sl.gh d)) → ghostsOf env gs = some l → RepF K ct F l fvs
  | [], l, _, h => by cases h; exact True.intro
  | (n, g) :: r, l, hg, h => by
    unfold ghostsOf at h
    split at h
    · rename_i d q
      obtain ⟨l', h1, rfl⟩ := Option.map_eq_some_iff.mp h
      obtain ⟨v, d', r1, r2, r3⟩ := hg n g List.mem_cons_self
      obtain ⟨v', s1, s2⟩ := hG g d q
      rw [r2] at s1; cases s1
      exact ⟨⟨v, r1, s2⟩, repF_ghosts hG (fun m k z => hg m k (List.mem_cons_of_mem _ z)) h1⟩
    · cases h
theorem repF_app {F : Hp} {fvs : List (Str × V)} : ∀ {fs l : List (Str × D)}, RepF K ct F fs fvs → RepF K ct F l fvs → RepF K ct F (fs ++ l) fvs
  | [], _, _, h => h
  | (m, e) :: fs, l, h, h2 => ⟨h.1, repF_app h.2 h2⟩
theorem envI_start {F H : Hp} {N : List Str} {c : Nat} {ms : List Bool} {ds : List D} {vs : List V} {x dx : Addr} (ex : Ex F H) (hF : F x = none) (hx : H x = some (.ins (ct c) dx [])) (h : ArgsRep K ct F H ms ds vs) (hne : ∀ v ∈ vs, v ≠ .ref x) (hN : ms.length + 1 ≤ N.length) :
    EnvOk K ct F H (envI N.length c ms ds) (L2.start N (.ref x :: vs)) ∧ ∀ a, Owns (envI N.length c ms ds) (L2.start N (.ref x :: vs)) a → a = x := by
  obtain ⟨l1, l2⟩ := argE_len h
  have s0 : (L2.start N (.ref x :: vs))[0]? = some (some (.ref x)) := start_get (vs := .ref x :: vs) (i := 0) rfl
  have get : ∀ {i : Nat} {s : Sl}, (envI N.length c ms ds)[i]? = some s → (i = 0 ∧ s = .oo c [] []) ∨ s = .no ∨ ∃ d v, (L2.start N (.ref x :: vs))[i]? = some (some v) ∧ v ∈ vs ∧ ((s = .bo d ∧ RepB K ct F H d v) ∨ (s = .sh d ∧ Rep K ct F d v)) := fun {i s} e => by
    cases i with
    | zero => exact .inl ⟨rfl, by simpa [envI] using e.symm⟩
    | succ i =>
      refine .inr ?_
      have e : (argE ms ds ++ List.replicate (N.length - (ms.length + 1)) Sl.no)[i]? = some s := by simpa [envI] using e
      by_cases hi : i < (argE ms ds).length
      · rw [List.getElem?_append_left hi] at e
        obtain ⟨d, v, h1, h2⟩ := argE_get h e
        exact .inr ⟨d, v, start_get (vs := .ref x :: vs) (i := i + 1) (by simpa using h1), List.mem_of_getElem? h1, h2⟩
      · rw [List.getElem?_append_right (Nat.le_of_not_lt hi)] at e
        obtain ⟨_, e⟩ := List.getElem?_eq_some_iff.mp e
        exact .inl (by rw [List.getElem_replicate] at e; exact e.symm)
  have ow : ∀ a, Owns (envI N.length c ms ds) (L2.start N (.ref x :: vs)) a → a = x := fun a ⟨i, s, e1, e2, e3⟩ => by
    rcases get e1 with ⟨rfl, rfl⟩ | rfl | ⟨d, v, _, _, (⟨rfl, _⟩ | ⟨rfl, _⟩)⟩
    · rw [s0] at e3; cases e3; rfl
    · cases e2
    · cases e2
    · cases e2
  refine ⟨⟨ex, ?_, fun i d e => ?_, fun i d e => ?_, fun i d e => ?_, fun i c2 fs gs e => ?_, fun i d e => ?_, fun i g' e => ?_, fun i j s t a h1 h2 h3 h4 h5 h6 => ?_⟩, ow⟩
  · unfold envI L2.start
    rw [List.length_cons, List.length_append, List.length_append, List.length_replicate, List.length_replicate, List.length_map, List.length_cons, l1, l2]
    omega
  · rcases get e with ⟨_, z⟩ | z | ⟨d', v, h1, _, (⟨z, _⟩ | ⟨z, r⟩)⟩ <;> first | (cases z; done) | (cases z; exact ⟨v, h1, r⟩)
  · rcases get e with ⟨_, z⟩ | z | ⟨d', v, h1, _, (⟨z, _⟩ | ⟨z, r⟩)⟩ <;> cases z
  · rcases get e with ⟨_, z⟩ | z | ⟨d', v, h1, hm, (⟨z, r⟩ | ⟨z, r⟩)⟩ <;> first | (cases z; done) | (cases z; exact ⟨v, h1, r, fun a _ ha o => hne v hm (by rw [ha, ow a o])⟩)
  · rcases get e with ⟨z0, z⟩ | z | ⟨d', v, h1, _, (⟨z, _⟩ | ⟨z, r⟩)⟩ <;> first | (cases z; done) | skip
    subst z0
    cases z
    exact ⟨x, dx, [], s0, hF, hx, fun n v q => (nomatch q), Nat.le_refl _, True.intro, fun n g q => (nomatch q)⟩
  · rcases get e with ⟨_, z⟩ | z | ⟨d', v, h1, _, (⟨z, _⟩ | ⟨z, r⟩)⟩ <;> cases z
  · rcases get e with ⟨_, z⟩ | z | ⟨d', v, h1, _, (⟨z, _⟩ | ⟨z, r⟩)⟩ <;> cases z
  · have f : ∀ {i : Nat} {s : Sl}, (envI N.length c ms ds)[i]? = some s → isOw s = true → i = 0 := fun {i s} e hs => by
      rcases get e with ⟨z, _⟩ | rfl | ⟨d', v, h1, _, (⟨rfl, _⟩ | ⟨rfl, r⟩)⟩
      · exact z
      · cases hs
      · cases hs
      · cases hs
    rw [f h1 h3, f h2 h4]
theorem init_ok {x qual : Str} {st : Stmt} {f : Addr} {fd : FuncData} {N ps : List Str} {k c : Nat} {ms : List Bool} {body : SS} (Fn : L2.Fun K x qual st f fd) (S : FnScope N ps (L2.defScope st)) (hl : ms.length + 1 = ps.length)
    (hb : ∀ (cdv : Value) (A : Around) (outer : List PySem.Env) (s : Shared) (H : Hp) (E : XK), Room k (A.deeper (envOfC qual (L2.defScope st) s.heap.objs.size f cdv)) →
      PSs (cxOf (L2.CX P w) P w K mg base N qual (L2.defScope st) f cdv A outer s H E) (L2.defBody st) (sOf K ct (WE0 E) body)) : FnOk P w K mg base (L2.CX P w) (k + 1) f fd ps (spI K ct c ms (runInit N.length c ms body)) := by
  refine Fn.okX S (fun vs H Q E h => by rw [spI_len h, hl]) fun cdv A outer s H vs Q E hr h => ?_
  refine ⟨_, hb cdv A outer s H E hr, ?_⟩
  obtain ⟨F, ds, y, dx, vs', rfl, ex, hF, hx, hA, hne, h⟩ := h
  have hN : ms.length + 1 ≤ N.length := by
    have := S.pre
    rw [hl, ← this, List.length_take]
    exact Nat.min_le_right _ _
  obtain ⟨E0, ow⟩ := envI_start (N := N) (c := c) ex hF hx hA hne hN
  have s0 : (L2.start N (.ref y :: vs'))[0]? = some (some (.ref y)) := start_get (vs := .ref y :: vs') (i := 0) rfl
  have e0 : (envI N.length c ms ds)[0]? = some (.oo c [] []) := by simp [envI]
  have kk : ∀ {F' H' : Hp}, Sr F H (envI N.length c ms ds) (L2.start N (.ref y :: vs')) F' H' → ∀ a o, H a = some o → a ≠ y → H' a = some o := fun {F' H'} x a o q n => x.k a o q fun z => n (ow a z)
  refine ⟨_, F, E0, ?_⟩
  unfold runInit runI at h
  cases q : body (envI N.length c ms ds) with
  | nx e =>
    rw [q] at h
    intro σ' F' H' x E'
    obtain ⟨⟨fs', gs', q1⟩, q2⟩ := x.q 0 c [] [] e0
    rw [s0] at q2
    have h : (match (match (e[0]? : Option Sl) with | some (Sl.oo c' fs gs) => if c' = c then (match ghostsOf e gs with | some l => RI.ok (fs ++ l) | none => .st) else .st | _ => .st) with
      | .ok fs => ∀ F' H' dx' fvs, Ex F F' → Ex F' H' → (∀ a o, H a = some o → a ≠ y → H' a = some o) → (∀ a o, F' a = some o → F a = some o ∨ H a = none) → H' y = some (.ins (ct c) dx' fvs) → Nms c fvs → RepF K ct F' fs fvs → Q .non H'
      | .er c fs => ∀ dx F' H', Ex F F' → Ex F' H' → (∀ a o, H a = some o → a ≠ y → H' a = some o) → (∀ a o, F' a = some o → F a = some o ∨ H a = none) → ExcOk K ct F' dx fs → E (.ref (ct c)) dx H'
      | .st => False) := h
    rw [q1] at h
    simp only [if_true] at h
    cases q3 : ghostsOf e gs' with
    | none => rw [q3] at h; exact h.elim
    | some l =>
      rw [q3] at h
      obtain ⟨a, dx', fvs, r1, r2, r3, r4, r5, r6, r7⟩ := E'.oo 0 c fs' gs' q1
      rw [q2] at r1; cases r1
      obtain ⟨F2, g1, g2, g3, g4⟩ := ghosts_rep E'
      refine h F2 H' dx' fvs (x.f.trans g1) g2 (kk x.toSr) (fun b o hb => ?_) r3 r4 (repF_app (RepF.mono (Ex.le g1) _ _ r6) (repF_ghosts g4 r7 q3))
      rcases g3 b o hb with z | z
      · rcases x.n b o z with z | z | z
        · exact .inl z
        · exact .inr z
        · have hby := ow b z
          subst hby
          rename_i hb1
          rcases g3 b o hb with y2 | ⟨g, d, y1, y2⟩
          · rw [r2] at y2; cases y2
          · have := E'.ap g 0 _ _ b y1 q1 rfl rfl y2 q2
            subst this
            rw [q1] at y1; cases y1
      · obtain ⟨g, d, z1, z2⟩ := z
        rcases x.o b ⟨g, _, z1, rfl, z2⟩ with z | z
        · have hby := ow b z
          subst hby
          have := E'.ap g 0 _ _ b z1 q1 rfl rfl z2 q2
          subst this
          rw [q1] at z1; cases z1
        · exact .inr z
  | bk e => rw [q] at h; exact h.elim
  | ct e => rw [q] at h; exact h.elim
  | rt d => rw [q] at h; exact h.elim
  | rn d => rw [q] at h; exact h.elim
  | er c' fs e =>
    rw [q] at h
    intro dx σ' F' H' x E' r
    obtain ⟨⟨fs', gs', q1⟩, q2⟩ := x.q 0 c [] [] e0
    rw [s0] at q2
    obtain ⟨a, dx', fvs, r1, r2, _⟩ := E'.oo 0 c fs' gs' q1
    rw [q2] at r1; cases r1
    refine h dx F' H' x.f x.e (kk x.toSr) (fun b o hb => ?_) r
    rcases x.n b o hb with z | z | z
    · exact .inl z
    · exact .inr z
    · have hby := ow b z
      subst hby
      rw [r2] at hb; cases hb
  | st => rw [q] at h; exact h.elim
end
end Ps

namespace L2
open PySem PySem.Spec
open PyProof.Rows
section
variable {X : Cx} {pins : List (Addr × Obj)} {σ : St} {H : Hp} {s sI : Shared} {a : Addr} {o : HO} {B : Heap} {cls : Value} {d : Option Addr}
/-- an object of ours that wasn't tracked is tracked from here on -/
theorem Inv.psTrack (I : Inv X pins σ H s) (na : H a = none) (h0 : X.s_0.heap.get? a = none) (nL : a ≠ X.env.locals) (nc : ∀ x c, X.env.cells.lookup x = some c → c ≠ a) (np : ∀ p ∈ X.pn ++ pins, p.1 ≠ a) (new : ObjOk X.prog X.w (upd H a o) s.heap a o) :
    Inv X pins σ (upd H a o) s :=
  have off : ∀ {b u}, H b = some u → upd H a o b = some u := fun {b u} q => (upd_ne (ne_of_none q na)).trans q
  have on : ∀ {b}, b ≠ a → H b = none → upd H a o b = none := fun hb q => (upd_ne hb).trans q
  { ok := I.ok, os := I.os, bare := I.bare, loc := I.loc, cell := I.cell, len := I.len
    free := on (Ne.symm nL) I.free
    freeC := fun x c e => on (nc x c e) (I.freeC x c e)
    base := { keep := I.base.keep, slot := I.base.slot, there := I.base.there
              free := fun b ob e n hx => on (fun z => by subst z; rw [h0] at e; exact nomatch e) (I.base.free b ob e n hx)
              tups := fun b xs e => off (I.base.tups b xs e)
              frzs := fun b ob u e => off (I.base.frzs b ob u e)
              tbls := fun b ps e => (I.base.tbls b ps e).imp fun _ q => off q }
    pin := fun p hp => (I.pin p hp).imp_right fun r => r.imp_left fun n => on (np p hp) n
    hok := fun b u e => (Decidable.em (b = a)).elim
      (fun hb => by subst hb; cases upd_same.symm.trans e; exact new)
      (fun hb => (I.hok b u ((upd_ne hb).symm.trans e)).stay (fun _ _ _ q => q) (fun _ q => off q) (fun _ _ q => off q)) }
/-- the error a is on the ground: what is known of it -/
structure PsDown (X : Cx) (pins : List (Addr × Obj)) (σ : St) (H : Hp) (B : Heap) (a : Addr) (cls : Value) (d : Option Addr) (s : Shared) : Prop where
  inv : Inv X pins σ H s
  fly : HandSPX.FlyingZ B (X.env :: X.outer) a (Zc cls d) s.heap
  new : H a = none
  old : X.s_0.heap.get? a = none
  loc : a ≠ X.env.locals
  cal : a ∉ X.fs
  pnn : ∀ p ∈ X.pn ++ pins, p.1 ≠ a
theorem psDown (hex : X.ex = []) (hs : X.stack = X.env :: X.outer) (hf : X.env.frame = some X.env.locals) (J : Inv X pins σ H sI) (nb : ∀ b o, sI.heap.get? b = some o → b ∉ frs X.stack → B.get? b = some o) (up : sI.heap.UpToSlots s.heap)
    (fly : HandSPX.FlyingZ B (X.env :: X.outer) a (Zc cls d) s.heap) (new : H a = none) (os : s.os = sI.os) (ag : AllBare s.gens) : PsDown X pins σ H B a cls d s := by
  obtain ⟨oe, vs, ha, _, hv⟩ := fly.there
  have far : a ∉ frs (X.env :: X.outer) := fun hm => by
    obtain ⟨_, o2, g2, nf⟩ := fly.2.2.1.mem hm
    cases g2.symm.trans ha
    exact nf vs hv
  have gone : ∀ {o}, sI.heap.get? a ≠ some o := fun {o} e => by
    have := nb a o e (hs ▸ far)
    rw [fly.2.1] at this
    exact nomatch this
  have inFr : ∀ {e : Env}, e ∈ X.env :: X.outer → e.frame ≠ some a := fun he q => far (List.mem_filterMap.mpr ⟨_, he, q⟩)
  exact {
    inv := J.landed nb fly.1 up os ag
    fly := fly
    new := new
    old := (Option.eq_none_iff_forall_ne_some.mpr fun o q => by
      obtain ⟨o1, q1⟩ := J.base.there a o q (hex ▸ List.not_mem_nil)
      exact gone q1)
    loc := fun z => inFr List.mem_cons_self (z ▸ hf)
    cal := fun hm => (List.mem_filterMap.mp hm).elim fun _ w => inFr (List.mem_cons_of_mem _ w.1) w.2
    pnn := fun p hp z => gone (z ▸ (J.pin p hp).1) }
theorem PsDown.tracked (P : PsDown X pins σ H B a cls d s) : Inv X pins σ (upd H a (Ps.ExV cls d a)) s := by
  obtain ⟨oe, vs, ha, hz, hv⟩ := P.fly.there
  refine P.inv.psTrack P.new P.old P.loc (fun y k e z => ?_) P.pnn ⟨⟨oe, vs, ha, hz, hv⟩, ⟨oe, ha⟩, fun _ _ ⟨oe, vs, q1, q2⟩ k => ⟨oe, vs, k _ q1, q2⟩⟩
  obtain ⟨_, ob, g, gd⟩ := P.inv.cell y k e
  subst z
  cases g.symm.trans ha
  exact nomatch gd.symm.trans hv
/-- what the clause 'except x as n' wishes of an exception of the body: slot i is n's, the error is tracked -/
def psAs (K : PySem.W.Frag) (c : Value) (i : Nat) (ts : Addr → TS) (Wout : WX) (Z : Ends) : WX := fun cls d σ H =>
  ∃ b, PySem.W.exmOne K cls c = some b ∧ (b = true → ∀ a, H a = none → ts a { nx := fun σ' H' => Z.nx (σ'.set i none) H', rt := Z.rt, bk := fun σ' H' => Z.bk (σ'.set i none) H', ct := fun σ' H' => Z.ct (σ'.set i none) H' } (σ.set i (some (.ref a))) (upd H a (Ps.ExV cls d a))) ∧
    (b = false → Wout cls d σ H)
/-- into the suite (no pin), and out of it -/
theorem Inv.psIn (I : Inv X pins σ H s) : Inv (X.suite a (X.pn ++ pins)) [] σ H s :=
  { I with ok := I.ok.suite _ _, pin := fun p hp => I.pin p (List.append_nil (X.pn ++ pins) ▸ hp) }
theorem Inv.psOut {more : List (Addr × Obj)} (I : Inv (X.suite a (X.pn ++ pins)) more σ H s) (ok : X.Ok) : Inv X pins σ H s :=
  { I with ok := ok, pin := fun p hp => I.pin p (List.mem_append_left more hp) }
end
section
variable {X : Cx} {pins : List (Addr × Obj)} {σ : St} {H : Hp} {s : Shared} {a : Addr} {B : Heap} {cls c : Value} {d : Option Addr} {x n : Str} {i : Nat} {suite : List Stmt} {b₀ : Stmt} {np pos' : Pos} {t : TS} {Z : Ends} {E : Value → Shared → Prop}
/-- the clause's class is looked up and asked -/
theorem PsDown.asked (P : PsDown X pins σ H B a cls d s) (hc : Names X x c) {b : Bool} (hb : PySem.W.exmOne X.K cls c = some b) {Q : Bool → Shared → Prop} (q : Q b s) :
    wpAny (model X.prog X.w) (X.A.mark (some (.ref a))) (eval (.Name x np) X.env) (fun v s' => wpAny (model X.prog X.w) (X.A.mark (some (.ref a))) (excMatches (.ref a) v) Q E s') E s := by
  obtain ⟨oe, vs, ha, hz, hv⟩ := P.fly.there
  have look : PySem.W.Looks (model X.prog X.w) s.heap (excMatches (.ref a) c) b :=
    PySem.W.exm_one P.inv.kIn (fun _ _ _ _ keep done => wpAny_typeOf_ref (keep _ _ ha) (hz.1 ▸ done)) hb
  have I := P.inv.psIn (a := a)
  rcases hc with ⟨g, db, m | ⟨m, bv, nn⟩⟩
  · exact ld_glob I g m (look.here q) db
  · exact ld_blt I g m bv (look.here q) nn db
/-- behind the suite its name goes -/
theorem psEnd (ok : X.Ok) (hN : X.N.Nodup) (hi : X.N[i]? = some n) (hln : X.env.kindOf n = some .local) {f : Flow} (out : SP (X.suite a (X.pn ++ pins)) [] { nx := fun σ' H' => Z.nx (σ'.set i none) H', rt := Z.rt, bk := fun σ' H' => Z.bk (σ'.set i none) H', ct := fun σ' H' => Z.ct (σ'.set i none) H' } f s) :
    wpAny (model X.prog X.w) X.A (do bindName X.env n .none; unbindBehindTheSuite X.env n pos') (fun _ s7 => SP X pins Z f s7) X.xe s := by
  have bye : ∀ {σ6 : St} {H6 : Hp} {R : Shared → Prop}, Inv (X.suite a (X.pn ++ pins)) [] σ6 H6 s → (∀ s7, Inv X pins (σ6.set i none) H6 s7 → R s7) → wpAny (model X.prog X.w) X.A (do bindName X.env n .none; unbindBehindTheSuite X.env n pos') (fun _ s7 => R s7) X.xe s :=
    fun S6 k => gone_ok (S6.psOut ok) hN hi hln k
  cases f <;> first
    | (obtain ⟨σ6, H6, S6, w⟩ := out; exact bye S6 fun _ J7 => ⟨_, H6, J7, w⟩)
    | (obtain ⟨v6, σ6, H6, S6, r6, w⟩ := out; exact bye S6 fun _ J7 => ⟨v6, _, H6, J7, r6, w⟩)
end
section
variable {X : Cx} {x n : Str} {c : Value} {i : Nat} {body suite : List Stmt} {b₀ : Stmt} {np pos pos' : Pos} {tb : WX → TS} {ts : Addr → TS} {Wout : WX}
theorem ps_try_ps (hex : X.ex = []) (hs : X.stack = X.env :: X.outer) (hf : X.env.frame = some X.env.locals) (hN : X.N.Nodup) (hi : X.N[i]? = some n) (hln : X.env.kindOf n = some .local) (hc : Names X x c) (tk : Takes X Wout)
    (hb : ∀ (W : WX) (pn : List (Addr × Obj)) (xe : Value → Shared → Prop), Takes (X.tr pn xe) W →
      PassesOwn (model X.prog X.w) X.A X.env xe → PSs (X.tr pn xe) body (tb W))
    (hsu : ∀ (a : Addr) (pn : List (Addr × Obj)), PSs (X.suite a pn) (b₀ :: suite) (ts a)) :
    PS X (.Try body [.ExceptHandler (some (.Name x np)) (some n) (b₀ :: suite) pos'] [] [] pos) (fun Z σ H => tb (psAs X.K c i ts Wout Z) Z σ H) := by
  constructor
  intro pins s σ H Z I h
  have ok := I.ok
  have hfr : X.A.frames = some (X.env :: X.outer) := ok.frames.trans (congrArg some hs)
  refine wpAny_Try_except (wpAny_mono ((hb (psAs X.K c i ts Wout Z) (X.pn ++ pins) (fun e s₁ => wpAny (model X.prog X.w) X.A (noteFrame e X.env)
    (fun _ s₂ => wpAny (model X.prog X.w) X.A (setFlight e none) (fun _ s₃ => wpAny (model X.prog X.w) X.A (handleBy e X.env [.ExceptHandler (some (.Name x np)) (some n) (b₀ :: suite) pos']) (SP X pins Z) X.xe s₃) X.xe s₂) X.xe s₁)
    ?taken PassesOwn.looking).run [] s σ H Z (I.toTry _) h) ?through fun _ _ z => z)
  case through =>
    intro f s1 out
    cases f <;> first
      | (obtain ⟨σ1, H1, J, w⟩ := out; exact wpAny_execs_nil ⟨σ1, H1, J.ofTry ok, w⟩)
      | (obtain ⟨σ1, H1, J, w⟩ := out; exact ⟨σ1, H1, J.ofTry ok, w⟩)
      | (obtain ⟨v1, σ1, H1, J, r, w⟩ := out; exact ⟨v1, σ1, H1, J.ofTry ok, r, w⟩)
  case taken =>
    rintro _ s1 ⟨a, B, sI, p0, σ1, H1, cls, d, rfl, J0, nb, up, sky, na, os, ag, b, hb1, yes, no⟩
    have J := J0.ofTry ok
    have sky1 : Sky B (X.env :: X.outer) a (Zc cls d) X.env.locals s1.heap := hs ▸ sky
    show wpAny (model X.prog X.w) X.A (noteFrame (.ref a) X.env) _ X.xe s1
    refine Sky.land Zc.steady hfr hf sky1 fun h2 fl2 up2 => ?_
    have P : PsDown X pins σ1 H1 B a cls d { s1 with heap := h2 } := psDown hex hs hf J nb (up.trans up2) fl2 na os ag
    refine wpAny_handleBy_cons (codeAny_handlers_test (P.asked hc hb1 ?_)) fun z => nomatch z
    match b, hb1, yes, no with
    | true, _, yes, _ =>
      refine codeAny_handlers_suite_as (HandSPX.lands_againZ fl2 fun h3 fl3 up3 => ?_)
      have P3 : PsDown X pins σ1 H1 B a cls d { s1 with heap := h3 } := psDown hex hs hf J nb ((up.trans up2).trans up3) fl3 na os ag
      refine store_ok (X := X.suite a (X.pn ++ pins)) (v := .ref a) P3.tracked.psIn hN hi (.inl hln) rfl
        (fun s5 S5 => wpAny_mono ((hsu a _).run [] s5 _ _ _ S5 (yes rfl a na)) (fun f s6 out => ?_) fun _ _ z => z.elim) (.inr hln)
      exact psEnd ok hN hi hln out
    | false, _, _, no =>
      show wpAny _ X.A (handleBy (.ref a) X.env []) (SP X pins Z) X.xe _
      have on : wpAny (model X.prog X.w) X.A (setFlight (.ref a) X.env.frame) (fun _ s4 => wpAny (model X.prog X.w) X.A (throw (.ref a) : Sem Flow) (SP X pins Z) X.xe s4) X.xe { s1 with heap := h2 } := by
        rw [hf]
        exact HandSPX.setFlight_upZ fl2 fun h3 held up3 => wpAny_throw (tk _ _ ⟨a, B, sI, pins, σ1, H1, cls, d, rfl, J, nb, (up.trans up2).trans up3, .inr (.inr (hs ▸ held)), na, os, ag, no rfl⟩)
      obtain ⟨_, _, _, ob, vs, T, _, _, gb, _, gd, g1, _⟩ := fl2
      refine wpAny_handleBy_nil ?_
      unfold PySem.passOn
      refine wpAny_bind (wpAny_field gb gd g1 ?_)
      rw [if_neg (by simp)]
      first
        | exact wpAny_bind (wpAny_pure (wpAny_bind on))
        | exact wpAny_bind on
end
end L2

namespace Ps
open PySem PySem.Spec PyProof.Rows L2

/-! ### raise, try -/
def ssRaise (c : Nat) : SS := fun env => .er c [] env
def wipeO (i : Nat) : O → O
  | .nx e => (match setSl e i .no with | some e' => .nx e' | none => .st)
  | .bk e => (match setSl e i .no with | some e' => .bk e' | none => .st)
  | .ct e => (match setSl e i .no with | some e' => .ct e' | none => .st)
  | .rt d => .rt d
  | .rn d => .rn d
  | .er _ _ _ => .st
  | .st => .st
/-- cat: whether class c is caught -/
def ssTry (cat : Nat → Option Bool) (i : Nat) (body gs : SS) : SS := fun env => match body env with
  | .er c fs e => (match cat c with
    | some true => (match setSl e i (.sh (.exo c fs)) with
      | some e1 => wipeO i (gs e1)
      | none => .st)
    | some false => .er c fs e
    | none => .st)
  | o => o
/-- an own error's class, raised with a text -/
structure ErrC (K : PySem.W.Frag) (mg : Str → Option Value) (C : Addr) (x : Str) : Prop where
  g : mg x = some (.ref C)
  k : PySem.W.keepIn K (.ref C) = true
  q : PySem.W.excIn K C [.type "ValueError", .type "Exception", .type "BaseException", .type "object"] "ValueError.__new__" = true
  b : PySem.W.subIn K (.ref C) (.type "BaseException") = some true
  t : PySem.W.typeIn K (.ref C) = some (.type "type")
section
variable {X : Cx} {ct : Nat → Addr} {W : WX} {body suite : List Stmt} {b₀ : Stmt} {g gs : SS} {pos pos' p p2 np : Pos} {x m n : Str} {j : Nat}
theorem p_raise (c : Nat) (T : ErrC X.K X.mg (ct c) x) (hg : Gl X x) (hc : X.calm = true) (tk : Takes X W) (hdb : (x == ("__debug__" : Str)) = false := by decide) :
    PS X (.Raise (some (.Call (.Name x p) [.Constant (.str m) j p2] [] pos)) none pos') (sOf X.K ct W (ssRaise c)) :=
  (ps_raise hc tk (pmk_own PySem.F.excBase_ValueError T.q T.g T.k (raises_own T.b T.t) hg hdb)).imp fun D σ H ⟨env, F, E, h⟩ => h none σ F H (Gr.refl E.ex).sx E (.inl ⟨rfl, rfl⟩)
theorem sh_of_exc {K : PySem.W.Frag} {F : Hp} {c : Nat} {fs : List (Str × D)} {dx : Option Addr} {a : Addr} (r : ExcOk K ct F dx fs) (e : Ex F (upd F a (ExV (.ref (ct c)) dx a))) : Rep K ct (upd F a (ExV (.ref (ct c)) dx a)) (.exo c fs) (.ref a) :=
  ⟨a, dx, rfl, upd_same, ExcOk.mono e r⟩
theorem p_try {C : Value} {cat : Nat → Option Bool} (i : Nat) (hex : X.ex = []) (hs : X.stack = X.env :: X.outer) (hf : X.env.frame = some X.env.locals) (hN : X.N.Nodup) (hi : X.N[i]? = some n) (hln : X.env.kindOf n = some .local) (hc : Names X x C) (tk : Takes X W)
    (hcat : ∀ c b, cat c = some b → PySem.W.exmOne X.K (.ref (ct c)) C = some b)
    (hb : ∀ (W : WX) (pn : List (Addr × Obj)) (xe : Value → Shared → Prop), Takes (X.tr pn xe) W → PassesOwn (model X.prog X.w) X.A X.env xe → PSs (X.tr pn xe) body (sOf X.K ct W g))
    (hsu : ∀ (a : Addr) (pn : List (Addr × Obj)), PSs (X.suite a pn) (b₀ :: suite) (sOf X.K ct W0 gs)) :
    PS X (.Try body [.ExceptHandler (some (.Name x np)) (some n) (b₀ :: suite) pos'] [] [] pos) (sOf X.K ct W (ssTry cat i g gs)) := by
  refine (ps_try_ps hex hs hf hN hi hln hc tk (tb := fun W => sOf X.K ct W g) (ts := fun _ => sOf X.K ct W0 gs) hb hsu).imp fun Z σ H ⟨env, F, E, h⟩ => ⟨env, F, E, ?_⟩
  unfold ssTry at h
  cases q : g env with
  | er c fs e =>
    rw [q] at h
    intro dx σ' F' H' x E' r
    cases hcc : cat c with
    | none =>
      simp only [hcc] at h
      exact h.elim
    | some b =>
      simp only [hcc] at h
      refine ⟨b, hcat _ _ hcc, fun hb a na => ?_, fun hb => ?_⟩
      · subst hb
        simp only at h
        have g1 := Gr.new (o := ExV (.ref (ct c)) dx a) E'.ex na
        have E1 := E'.gr g1
        cases q1 : setSl e i (.sh (.exo c fs)) with
        | none => simp only [q1] at h; exact h.elim
        | some e1 =>
          simp only [q1] at h
          obtain ⟨t, hi1, hc1, rfl⟩ := setSl_some q1
          obtain ⟨E2, S2⟩ := set_ok (s := .sh (.exo c fs)) (x := some (V.ref a)) E1 hi1 hc1 rfl (fun _ z => nomatch z) fun d z => by cases z; exact ⟨_, rfl, sh_of_exc r g1.f⟩
          refine ⟨_, _, E2, ?_⟩
          have S := x.trans (g1.sx.trans S2)
          have h' := finS_after S h
          have wp : ∀ {e2 : En} {k : En → O} {N : L2.St → Hp → Prop}, (∀ e3, FinS X.K ct W _ _ _ _ (k e3) Z → ∀ σ4 F4 H4, Sx _ _ (e.set i (.sh (.exo c fs))) (σ'.set i (some (V.ref a))) F4 H4 e3 σ4 → EnvOk X.K ct F4 H4 e3 σ4 → N σ4 H4) →
              FinS X.K ct W (upd F' a (ExV (.ref (ct c)) dx a)) (upd H' a (ExV (.ref (ct c)) dx a)) (e.set i (.sh (.exo c fs))) (σ'.set i (some (V.ref a))) (match setSl e2 i .no with | some e' => k e' | none => .st) Z →
              ∀ σ3 F3 H3, Sx (upd F' a (ExV (.ref (ct c)) dx a)) (upd H' a (ExV (.ref (ct c)) dx a)) (e.set i (.sh (.exo c fs))) (σ'.set i (some (V.ref a))) F3 H3 e2 σ3 → EnvOk X.K ct F3 H3 e2 σ3 → N (σ3.set i none) H3 := fun {e2 k N} hk hh σ3 F3 H3 S3 E3 => by
            cases q2 : setSl e2 i .no with
            | none => simp only [q2] at hh; exact hh.elim
            | some e3 =>
              simp only [q2] at hh
              obtain ⟨t2, hi2, hc2, rfl⟩ := setSl_some q2
              obtain ⟨E4, S4⟩ := set_ok (s := .no) (x := none) E3 hi2 hc2 rfl (fun _ z => nomatch z) fun d z => nomatch z
              exact hk _ hh _ F3 H3 (S3.trans S4) E4
          cases ho : gs (e.set i (.sh (.exo c fs))) with
          | nx e2 => rw [ho] at h'; exact wp (k := O.nx) (fun e3 hh => hh) h'
          | bk e2 => rw [ho] at h'; exact wp (k := O.bk) (fun e3 hh => hh) h'
          | ct e2 => rw [ho] at h'; exact wp (k := O.ct) (fun e3 hh => hh) h'
          | rt d => rw [ho] at h'; exact h'
          | rn d => rw [ho] at h'; exact h'
          | er c2 fs2 e2 => rw [ho] at h'; exact h'.elim
          | st => rw [ho] at h'; exact h'.elim
      · subst hb
        simp only at h
        exact h dx σ' F' H' x E' r
  | nx e => rw [q] at h; exact h
  | bk e => rw [q] at h; exact h
  | ct e => rw [q] at h; exact h
  | rt d => rw [q] at h; exact h
  | rn d => rw [q] at h; exact h
  | st => rw [q] at h; exact h
end

/-! ### isinstance -/
inductive Kd where
  | ty (n : String) | own (c : Nat) | err (c : Nat) | no
def kd : D → Kd
  | .non => .ty "NoneType" | .bl _ => .ty "bool" | .int _ => .ty "int" | .str _ => .ty "str"
  | .lst _ => .ty "list" | .scr _ => .ty "list" | .tup _ => .ty "tuple" | .dk _ => .ty "dict" | .dt _ => .ty "dict"
  | .obj c _ => .own c | .exo c _ => .err c
def kdV (ct : Nat → Addr) : Kd → Value
  | .ty n => .type n
  | .own c => .ref (ct c)
  | .err c => .ref (ct c)
  | .no => .none
structure OwnC (K : PySem.W.Frag) (C : Addr) : Prop where
  cl : Cls K C
  ha : PySem.W.findIn K (.ref C) "__class__" = some (some (.builtin "object.__class__"))
  hn : PySem.W.specialIn K (.builtin "object.__class__") "__get__" = some (some (.builtin "getset_descriptor.__get__"))
  ht : PySem.W.takesIn K (.builtin "object.__class__") = some true
  hm : PySem.W.mroIn K C (.type "object") = some true
def KdOk (K : PySem.W.Frag) (ct : Nat → Addr) : Kd → Prop
  | .ty _ => True
  | .own c => OwnC K (ct c)
  | .err c => ExcC K (ct c)
  | .no => False
def IsOk (K : PySem.W.Frag) (ct : Nat → Addr) (C : Value) (tb : Kd → Option Bool) : Prop := ∀ k b, tb k = some b → PySem.W.kitOne K (kdV ct k) C = some b ∧ KdOk K ct k
section
variable {X : Cx} {ct : Nat → Addr} {W : WX} {a b e : Expr} {f : SE} {pos p p2 : Pos}
theorem kit_ps {pins : List (Addr × Obj)} {σ : L2.St} {F H : Hp} {s : Shared} {d : D} {x : V} {u : Value} (I : Inv X pins σ H s) (ex : Ex F H) (rx : RelV x u) (h : RepB X.K ct F H d x) (ok : KdOk X.K ct (kd d)) :
    ∃ P : Heap → Prop, PySem.W.KitX X.K u (kdV ct (kd d)) P ∧ P s.heap ∧ u ≠ .builtin "__main__.__loader__#opaque" := by
  cases d with
  | non => cases (show x = .non from h); exact kit_of I rx (.base .non)
  | bl y => cases (show x = .bl y from h); exact kit_of I rx (.base (.bl y))
  | int y => cases (show x = .int y from h); exact kit_of I rx (.base (.int y))
  | str y => cases (show x = .str y from h); exact kit_of I rx (.base (.str y))
  | lst ds => obtain ⟨a, vs, rfl, h1, _⟩ := h; exact kit_of I rx (.base (.lst h1))
  | tup ds => obtain ⟨a, vs, rfl, h1, _⟩ := h; exact kit_of I rx (.base (.tup (ex _ _ h1)))
  | scr ns =>
    obtain ⟨a, rfl, h1⟩ := h
    cases (show u = Value.ref a from rx)
    obtain ⟨its, _, pl, _⟩ := I.list (show SqL X.K H a (ns.map V.int) from by
      rcases h1 with h1 | h1
      · exact .inl (Ex.rd ex h1)
      · exact .inr h1)
    obtain ⟨n, hget, hcl, _⟩ := pl.isList
    exact ⟨_, PySem.W.kitx_list, ⟨n, hget, hcl⟩, fun z => nomatch z⟩
  | dk kvs =>
    obtain ⟨a, vs, rfl, h1, _⟩ := h
    cases (show u = Value.ref a from rx)
    obtain ⟨_, _, ws, _, o, es, ep, q1, q2, _⟩ := h1.ok I.hok
    exact ⟨_, PySem.W.kitx_dict, ⟨o, q1, q2.1⟩, fun z => nomatch z⟩
  | dt kvs =>
    obtain ⟨a, vs, rfl, h1, _⟩ := h
    cases (show u = Value.ref a from rx)
    obtain ⟨_, _, ws, _, o, es, ep, q1, q2, _⟩ := h1.ok I.hok
    exact ⟨_, PySem.W.kitx_dict, ⟨o, q1, q2.1⟩, fun z => nomatch z⟩
  | obj c fs =>
    obtain ⟨a, dx, fvs, rfl, h1, _, _⟩ := h
    have ok : OwnC X.K (ct c) := ok
    exact kit_of I rx (.base (.ins h1 ok.cl ok.ha ok.hn ok.ht ok.hm))
  | exo c fs =>
    obtain ⟨a, dx, rfl, at_, kept⟩ := h
    have C : ExcC X.K (ct c) := ok
    cases (show u = Value.ref a from rx)
    have there : ObjOk X.prog X.w H s.heap a (ExV (.ref (ct c)) dx a) := I.hok a _ (ex _ _ at_)
    obtain ⟨⟨oe, vs, q1, ⟨q2, q3⟩, q4⟩, _⟩ := there
    have known : (PySem.W.clsIn X.K (ct c)).isSome = true := by
      have z := C.hd
      unfold PySem.W.hasDictIn at z
      cases e : PySem.W.clsIn X.K (ct c) with
      | none => rw [e] at z; cases z
      | some _ => rfl
    have plain : PySem.W.notCls oe = true := by unfold PySem.W.notCls; rw [q4]
    have od : ∃ od : Option Obj, PySem.W.InstAt s.heap a oe (ct c) od := by
      rcases kept with ⟨_, rfl⟩ | ⟨_, dd, fvs, rfl, h3, _⟩
      · exact ⟨none, q1, q2, plain, by rw [q3]; trivial⟩
      · have own : ObjOk X.prog X.w H s.heap dd (.xd fvs) := I.hok dd _ (ex _ _ h3)
        obtain ⟨mA, names, _⟩ := own
        obtain ⟨o, ho, _⟩ := lookIn_ns names
        exact ⟨some o, q1, q2, plain, by rw [q3]; exact ho⟩
    obtain ⟨od, inst⟩ := od
    exact ⟨_, PySem.W.kitx_exc (ox := oe) (od := od) known C.hg C.hk C.hs C.ha C.hn C.ht C.hm, inst, fun z => nomatch z⟩
def rIsPs (K : PySem.W.Frag) (ct : Nat → Addr) : List V → Hp → VK → Prop := fun xs H Q => ∃ (F : Hp) (d : D) (x c : V) (u : Value) (b : Bool), xs = [x, c] ∧ ClsV c u ∧ Ex F H ∧ RepB K ct F H d x ∧ KdOk K ct (kd d) ∧ PySem.W.kitOne K (kdV ct (kd d)) u = some b ∧ Q (.bl b) H
theorem call_isPs : CallR X (.builtin "isinstance") (rIsPs X.K ct) := by
  intro pins s σ H xs us Q I r h
  obtain ⟨F, d, x, c, u, b, rfl, k, ex, rp, ok, e, q⟩ := h
  obtain ⟨u1, u2, rfl, r1, r2⟩ := vals2 r
  have e2 := k.eq r2
  subst e2
  obtain ⟨P, Z, p, hx⟩ := kit_ps I ex r1 rp ok
  exact PySem.W.kia_one Z I.kIn p e hx fun tk => ⟨.bl b, H, I.tok tk, rfl, q⟩
def sIsi (tb : Kd → Option Bool) (f : SE) : SE := fun env => bnd (f env) fun d => match tb (kd d) with
  | some b => .ok (.bl b)
  | none => .st
theorem e_isi {C : Value} {c : V} {tb : Kd → Option Bool} (hg : Gl X "isinstance") (hm : X.mg "isinstance" = none) (he : PE X e (EB X.K ct W f)) (hc : PE X b (tC c)) (hk : ClsV c C) (hi : IsOk X.K ct C tb)
    (h1 : starEach [e, b] X.env = (false, eval e X.env) :: starEach [b] X.env := by rfl) (h2 : starEach [b] X.env = (false, eval b X.env) :: starEach [] X.env := by rfl) (hpl : (backTo pos (starEach [b] X.env)).any (·.1) = false := by rfl) :
    PE X (.Call (.Name "isinstance" p) [e, b] [] pos) (ER X.K ct W (sIsi tb f)) := by
  refine (pe_callB (call_isPs (ct := ct)) hg hm (by decide +kernel) (pa_cons he (pa_cons hc pa_nil h2) h1) (he := h1) (hpl := hpl)).imp fun σ H Q ⟨env, F, E, h⟩ => ?_
  refine fin_bind E h rfl fun d v F1 H1 e1 g1 r1 E1 h => ?_
  cases q : tb (kd d) with
  | none => simp only [q] at h; exact h.elim
  | some bb =>
    simp only [q] at h
    obtain ⟨k1, k2⟩ := hi _ _ q
    exact ⟨F1, d, v, c, C, bb, rfl, hk, E1.ex, r1, k2, k1, h _ F1 H1 g1 rfl⟩
theorem e_clsT {x : Str} {n : String} (hg : Gl X x) (hm : X.mg x = none) (hv : bootBuiltins x = some (.type n)) (hn : x ≠ "__name__" := by decide) (hd : (x == ("__debug__" : Str)) = false := by decide) : PE X (.Name x p) (tC (.ty n)) := pe_bltn hg hm hv rfl hn hd
theorem e_clsO {x : Str} {C : Addr} (hg : Gl X x) (hm : X.mg x = some (.ref C)) (hd : (x == ("__debug__" : Str)) = false := by decide) : PE X (.Name x p) (tC (.ref C)) := pe_glob hg hm rfl hd

/-! ### list(range(n)) -/
def cRg : List D → Option D
  | [.int n] => if 0 ≤ n ∧ n ≤ 16777216 then some (.lst ((List.range n.toNat).map fun i => .int (i : Nat))) else none
  | _ => none
theorem reps_rg {K : PySem.W.Frag} {F : Hp} : ∀ (l : List Nat), Reps K ct F (l.map fun i => D.int (i : Nat)) (l.map fun i => V.int (0 + (i : Nat)))
  | [] => rfl
  | i :: l => ⟨_, _, rfl, (show V.int (0 + (i : Nat)) = V.int (i : Nat) by rw [Int.zero_add]), reps_rg l⟩
theorem e_listRg (hc : X.calm = true) (hgl : Gl X "list") (hml : X.mg "list" = none) (hg : Gl X "range") (hm : X.mg "range" = none) (ha : PE X a (ER X.K ct W f))
    (na : starEach [Expr.Call (.Name "range" p) [a] [] p2] X.env = (false, eval (.Call (.Name "range" p) [a] [] p2) X.env) :: starEach [] X.env := by rfl) (na2 : starEach [a] X.env = (false, eval a X.env) :: starEach [] X.env := by rfl) {p3 : Pos} :
    PE X (.Call (.Name "list" p3) [.Call (.Name "range" p) [a] [] p2] [] pos) (EN X.K ct W (sCall cRg (aCons f aNil))) := by
  refine (pe_listRg hc hgl hml (prg_1 hg hm ha na2) na).imp fun σ H Q ⟨env, F, E, h⟩ => ?_
  have h : Fin X.K ct W (mN X.K ct) F H σ (bnd (f env) fun d => ofO (cRg [d])) Q := by
    unfold sCall aCons aNil at h
    cases q : f env with
    | ok d => rw [q] at h; exact h
    | er c fs => rw [q] at h; exact h
    | st => rw [q] at h; exact h
  refine fin_bind E h rfl fun d v F1 H1 e1 g1 r1 E1 h => ?_
  cases d <;> first | exact h.elim | skip
  rename_i n
  simp only [cRg] at h
  split at h
  · rename_i hn
    cases (show v = .int n from r1)
    refine ⟨n, rfl, ⟨by omega, by omega, by omega, by omega, by omega⟩, fun q hq => ?_⟩
    refine h _ F1 _ (g1.trans (Gr.own E1.ex hq)) ⟨q, rfl, Ex.free g1.h hq, Ex.free E1.ex hq, _, upd_same, ?_⟩
    unfold rgV
    rw [Int.sub_zero]
    exact reps_rg _
  · exact h.elim

/-! ### text * int -/
def repS (x : Str) (n : Nat) : Str := ⟨(List.replicate n x.cps).foldl (· ++ ·) #[]⟩
def mulS (x : Str) (n : Int) : Option Str := if n < 1 then (if -(2 ^ 63 : Int) ≤ n then some Str.empty else none) else if n = 1 then some x else
  if n ≤ 1000 ∧ 0 < x.length ∧ x.length ≤ 1000 ∧ (repS x n.toNat).length ≤ sizeLine then some (repS x n.toNat) else none
def dMulS : D → D → Option D
  | .str x, .int n => (mulS x n).map .str
  | _, _ => none
def rMulS : R2 := fun x y H Q => ∃ a n z, x = .str a ∧ y = .int n ∧ mulS a n = some z ∧ Q (.str z) H
theorem op_mulS : OpR X (binaryOp .Mult) rMulS := by
  intro pins s σ H x y v u Q I rx ry h
  obtain ⟨a, n, z, rfl, rfl, hz, q⟩ := h
  obtain ⟨t, rfl⟩ := (show ∃ t, v = Value.str a t from rx)
  obtain ⟨t', rfl⟩ := (show ∃ t, u = Value.int n t from ry)
  have fin : ∀ tk, EP X pins σ Q (.str z tk) { s with toks := s.toks + 1 } := fun tk => ⟨.str z, H, I.tok _, ⟨tk, rfl⟩, q⟩
  unfold mulS at hz
  split at hz
  · rename_i h1
    split at hz
    · rename_i h2
      cases hz
      exact PySem.P.mul_str_none h1 (by omega) (fin _)
    · cases hz
  · rename_i h1
    split at hz
    · rename_i h2
      cases hz
      subst h2
      refine PySem.P.mul_str rfl (fun _ e => by simp at e) (fun _ e => by simp at e) ?_
      rw [if_neg h1, if_pos (by simp)]
      exact ⟨.str a, H, I, ⟨t, rfl⟩, q⟩
    · rename_i h2
      split at hz
      · rename_i h3
        cases hz
        obtain ⟨a1, a2, a3, a4⟩ := h3
        have hd : (1 : Int) < n := by omega
        refine PySem.P.mul_str (by rw [decide_eq_false (by omega), decide_eq_false (by omega)]; rfl) (fun _ _ => ?_) (fun _ _ => ?_) ?_
        · have h5 : (2 ^ 63 - 1) / 1000 ≤ ((2 : Int) ^ 63 - 1) / n := by
            rw [Int.le_ediv_iff_mul_le (by omega)]
            have : (((2 : Int) ^ 63 - 1) / 1000) * n ≤ (((2 : Int) ^ 63 - 1) / 1000) * 1000 := Int.mul_le_mul_of_nonneg_left a1 (by decide)
            omega
          have h6 : ((2 : Int) ^ 63 - 1) / 1000 > 1000 := by decide
          omega
        · have h7 : a.length * n.toNat ≤ 1000 * 1000 := Nat.mul_le_mul a3 (by omega)
          exact PyProof.Rows.short24 (by omega)
        · rw [if_neg h1, if_neg (by
            have : (n == 1) = false := by simp [h2]
            have h8 : (a.length == 0) = false := by simp; omega
            rw [this, h8]; decide)]
          exact ⟨a4, fin _⟩
      · cases hz
theorem sp_mulS {K : PySem.W.Frag} {m1 m2 : Bool} : Sp2 K ct m1 m2 (mR K ct) rMulS dMulS := by
  intro F H x y d e z Q ex hx hy hz hQ
  cases d <;> first | (cases hz; done) | skip
  cases e <;> first | (cases hz; done) | skip
  rename_i a n
  obtain ⟨w, h1, rfl⟩ := Option.map_eq_some_iff.mp (show (mulS a n).map D.str = some z from hz)
  have ex1 : x = .str a := by cases m1 <;> exact hx
  have ey1 : y = .int n := by cases m2 <;> exact hy
  exact ⟨a, n, w, ex1, ey1, h1, hQ _ F H (Gr.refl ex) rfl⟩
end

/-! ### x.append(y.pop(k)) -/
theorem Reps.erase {K : PySem.W.Frag} {ct : Nat → Addr} {F : Hp} : ∀ {ds : List D} {vs : List V} (i : Nat), Reps K ct F ds vs → Reps K ct F (ds.eraseIdx i) (vs.eraseIdx i)
  | [], _, _, h => by rw [show _ = [] from h]; rfl
  | d :: ds, vs, 0, h => by
    obtain ⟨v, r, e1, e2, e3⟩ := h
    subst e1
    exact e3
  | d :: ds, vs, i + 1, h => by
    obtain ⟨v, r, e1, e2, e3⟩ := h
    subst e1
    exact ⟨v, _, rfl, e2, Reps.erase i e3⟩
def popD (es : List D) (k : Int) : Option (D × List D) := if -(2 ^ 63 : Int) ≤ k ∧ k < 2 ^ 63 then (seqIndex? k es.length).bind fun n => (es[n]?).map fun y => (y, es.eraseIdx n) else none
def ssAppPop (i j : Nat) (f : SE) : SS := fun env => match env[i]?, env[j]? with
  | some (.ow (.lst ds)), some (.ow (.lst es)) => bndS (f env) env fun d => match d with
    | .int k => (match popD es k with
      | some (y, es') => if i ≠ j ∧ ds.length < sizeLine then .nx ((env.set j (.ow (.lst es'))).set i (.ow (.lst (ds ++ [y])))) else .st
      | none => .st)
    | _ => .st
  | _, _ => .st
section
variable {X : Cx} {ct : Nat → Addr} {W : WX} {e : Expr} {f : SE} {pos p pos' apos cpos p' apos' cpos' : Pos} {x y : Str}
theorem p_appPop (i j : Nat) (he : PE X e (ER X.K ct W f)) (hN : X.N[i]? = some x := by rfl) (hv : Vis X.env.scope x := by first | exact Or.inl rfl | exact Or.inr (Or.inl rfl) | exact Or.inr (Or.inr rfl)) (hd : (x == ("__debug__" : Str)) = false := by decide)
    (hcd : (x == ("__classdict__" : Str)) = false := by decide)
    (hN' : X.N[j]? = some y := by rfl) (hv' : Vis X.env.scope y := by first | exact Or.inl rfl | exact Or.inr (Or.inl rfl) | exact Or.inr (Or.inr rfl)) (hd' : (y == ("__debug__" : Str)) = false := by decide)
    (hcd' : (y == ("__classdict__" : Str)) = false := by decide)
    (hbase' : attributeBase (.Name y p') "pop" X.env (eval (.Name y p') X.env) = eval (.Name y p') X.env := by rfl)
    (hfew' : ((backTo cpos' (starEach [e] X.env)).all (fun x => !x.1) && (backToKw cpos' (keywordEach [] X.env)).all (fun x => x.1.isSome)
      && decide ([e].length + ([] : List Keyword).length + (if ([] : List Keyword).isEmpty then 0 else 1) < 30)) = true := by rfl)
    (hline' : (apos'.endLine == cpos'.line) = true := by rfl) (h1' : starEach [e] X.env = (false, eval e X.env) :: starEach [] X.env := by rfl) (hplain' : (backTo cpos' (starEach [] X.env)).any (·.1) = false := by rfl)
    (hs : swapsWith (.Call (.Attribute (.Name x p) "append" apos) [.Call (.Attribute (.Name y p') "pop" apos') [e] [] cpos'] [] cpos) none pos.line X.env = pure false := by rfl)
    (hbase : attributeBase (.Name x p) "append" X.env (eval (.Name x p) X.env) = eval (.Name x p) X.env := by rfl)
    (hfew : ((backTo cpos (starEach [Expr.Call (.Attribute (.Name y p') "pop" apos') [e] [] cpos'] X.env)).all (fun x => !x.1) && (backToKw cpos (keywordEach [] X.env)).all (fun x => x.1.isSome)
      && decide ([Expr.Call (.Attribute (.Name y p') "pop" apos') [e] [] cpos'].length + ([] : List Keyword).length + (if ([] : List Keyword).isEmpty then 0 else 1) < 30)) = true := by rfl)
    (hline : (apos.endLine == cpos.line) = true := by rfl)
    (h1 : starEach [Expr.Call (.Attribute (.Name y p') "pop" apos') [e] [] cpos'] X.env = (false, eval (.Call (.Attribute (.Name y p') "pop" apos') [e] [] cpos') X.env) :: starEach [] X.env := by rfl)
    (hplain : (backTo cpos (starEach [] X.env)).any (·.1) = false := by rfl) :
    PS X (.Expr (.Call (.Attribute (.Name x p) "append" apos) [.Call (.Attribute (.Name y p') "pop" apos') [e] [] cpos'] [] cpos) pos) (sOf X.K ct W (ssAppPop i j f)) := by
  refine (ps_expr (pe_bm PySem.F.plainAttrs_list PySem.F.slot_list_append PySem.F.type_list_append mt_append (pe_var hN hv hd hcd)
    (pa_cons (pe_bm PySem.F.plainAttrs_list PySem.F.slot_list_pop PySem.F.type_list_pop mt_popAt (pe_var hN' hv' hd' hcd') (pa_cons he pa_nil h1') hbase' hfew' hline' h1' hplain') pa_nil h1) hbase hfew hline h1 hplain) hs).imp fun D σ H ⟨env, F, E, h⟩ => ?_
  unfold ssAppPop at h
  split at h
  · rename_i ds es q q2
    obtain ⟨l, e1, hF, vs, k1, k2⟩ := E.ow i _ q
    obtain ⟨l2, e2, hF2, us, k3, k4⟩ := E.ow j _ q2
    refine ⟨.ref l, e1, .inl ⟨rfl, vs, SqL.of k1⟩, ?_⟩
    refine ⟨.ref l2, e2, .inl ⟨rfl, us, SqL.of k3⟩, ?_⟩
    refine finS_bind E h fun d v F1 H1 e3 g1 r1 E1 h => ?_
    cases d <;> first | exact h.elim | skip
    rename_i k
    cases (show v = .int k from r1)
    cases q3 : popD es k with
    | none => simp only [q3] at h; exact h.elim
    | some pr =>
      obtain ⟨y, es'⟩ := pr
      simp only [q3] at h
      split at h
      · rename_i hc
        unfold popD at q3
        split at q3
        · rename_i hk
          obtain ⟨n, n1, n2⟩ := Option.bind_eq_some_iff.mp q3
          obtain ⟨y', n3, n4⟩ := Option.map_eq_some_iff.mp n2
          cases n4
          obtain ⟨l2', e2', hF2', us', k3', k4'⟩ := E1.ow j _ q2
          rw [e2] at e2'; cases e2'
          obtain ⟨yv, y1, y2⟩ := k4'.get n3
          refine ⟨l2, us', k, n, yv, rfl, rfl, k3', hk.1, hk.2, by rw [k4'.length]; exact n1, y1, ?_⟩
          obtain ⟨E2, S2⟩ := mut_ok false (z := .lst (es.eraseIdx n)) (o := .lst (us'.eraseIdx n)) E1 q2 e2 hF2' ⟨hF2', _, upd_same, k4'.erase n⟩
          have q4 : (env.set j (slOf false (.lst (es.eraseIdx n))))[i]? = some (.ow (.lst ds)) := by rw [get_set_ne hc.1]; exact q
          obtain ⟨l', e1', hF', vs', k5, k6⟩ := E2.ow i _ q4
          rw [e1] at e1'; cases e1'
          refine ⟨l, vs', yv, rfl, rfl, k5, by rw [k6.length]; exact hc.2, ?_⟩
          obtain ⟨E3, S3⟩ := mut_ok false (z := .lst (ds ++ [y])) (o := .lst (vs' ++ [yv])) E2 q4 e1 hF' ⟨hF', _, upd_same, k6.append (Reps.one y2)⟩
          exact h σ F1 _ (g1.sx.trans (S2.trans S3)) E3
        · cases q3
      · exact h.elim
  · exact h.elim
end
end Ps

namespace Ps
open PySem PySem.Spec PyProof.Rows L2

section
variable {K : PySem.W.Frag} {ct : Nat → Addr}
def orD (a b : Option D) : Option D := match a with
  | some z => some z
  | none => b
theorem Sp2.share {m1 m2 : Bool} {r : R2} {op : D → D → Option D} (h : Sp2 K ct m1 m2 (mN K ct) r op) : Sp2 K ct m1 m2 (mR K ct) r op := fun F H x y d e z Q ex hx hy hz hQ =>
  h F H x y d e z Q ex hx hy hz fun v F' H' g ⟨p, e1, e2, e3⟩ => by
    obtain ⟨o, ho⟩ := e3.there
    subst e1
    exact hQ _ _ H' (g.share ex e2 ho) (e3.freeze ho)
theorem Sp2.or {m1 m2 : Bool} {M : Md} {r r' : R2} {op op' : D → D → Option D} (h : Sp2 K ct m1 m2 M r op) (h' : Sp2 K ct m1 m2 M r' op') : Sp2 K ct m1 m2 M (fun x y H Q => r x y H Q ∨ r' x y H Q) (fun d e => orD (op d e) (op' d e)) := fun F H x y d e z Q ex hx hy hz hQ => by
  cases q : op d e with
  | some w =>
    have hz : orD (op d e) (op' d e) = some z := hz
    rw [q] at hz; cases hz
    exact .inl (h F H x y d e _ Q ex hx hy q hQ)
  | none =>
    have hz : orD (op d e) (op' d e) = some z := hz
    rw [q] at hz
    exact .inr (h' F H x y d e z Q ex hx hy hz hQ)
theorem SpS.share {r : V → Option Int → Option Int → Hp → VK → Prop} {op : D → Option Int → Option Int → Option D} (h : SpS K ct (mN K ct) r op) : SpS K ct (mR K ct) r op := fun F H x d lo hi z Q ex hx hz hQ =>
  h F H x d lo hi z Q ex hx hz fun v F' H' g ⟨p, e1, e2, e3⟩ => by
    obtain ⟨o, ho⟩ := e3.there
    subst e1
    exact hQ _ _ H' (g.share ex e2 ho) (e3.freeze ho)
theorem SpS.or {M : Md} {r r' : V → Option Int → Option Int → Hp → VK → Prop} {op op' : D → Option Int → Option Int → Option D} (h : SpS K ct M r op) (h' : SpS K ct M r' op') : SpS K ct M (fun x lo hi H Q => r x lo hi H Q ∨ r' x lo hi H Q) (fun d l u => orD (op d l u) (op' d l u)) := fun F H x d lo hi z Q ex hx hz hQ => by
  cases q : op d lo hi with
  | some w =>
    have hz : orD (op d lo hi) (op' d lo hi) = some z := hz
    rw [q] at hz; cases hz
    exact .inl (h F H x d lo hi _ Q ex hx q hQ)
  | none =>
    have hz : orD (op d lo hi) (op' d lo hi) = some z := hz
    rw [q] at hz
    exact .inr (h' F H x d lo hi z Q ex hx hz hQ)
end
def dAddU (d e : D) : Option D := orD (dAdd d e) (dCat d e)
def dMulU (d e : D) : Option D := orD (dMul d e) (dMulS d e)
def dSlU (d : D) (l u : Option Int) : Option D := orD (dSlN d l u) (dSlS d l u)
section
variable {X : Cx} {ct : Nat → Addr} {W : WX} {a b c e : Expr} {f g h : SE} {pos p p2 : Pos} {k : Nat}
theorem e_add (ha : PE X a (EB X.K ct W f)) (hb : PE X b (EB X.K ct W g)) : PE X (.BinOp a .Add b pos) (ER X.K ct W (s2 dAddU f g)) := e_op (op_add1.or op_cat) mR_ok (Sp2.or (m1 := true) (m2 := true) sp_add (Sp2.share sp_cat)) ha hb
theorem e_cat (ha : PE X a (EB X.K ct W f)) (hb : PE X b (EB X.K ct W g)) : PE X (.BinOp a .Add b pos) (EN X.K ct W (s2 dCat f g)) := e_op op_cat mN_ok (sp_cat (m1 := true) (m2 := true)) ha hb
theorem e_sub (ha : PE X a (ER X.K ct W f)) (hb : PE X b (ER X.K ct W g)) : PE X (.BinOp a .Sub b pos) (ER X.K ct W (s2 dSub f g)) := e_op op_sub mR_ok (sp_sub (m1 := false) (m2 := false)) ha hb
theorem e_mul (ha : PE X a (ER X.K ct W f)) (hb : PE X b (ER X.K ct W g)) : PE X (.BinOp a .Mult b pos) (ER X.K ct W (s2 dMulU f g)) := e_op (op_mul.or op_mulS) mR_ok (Sp2.or (m1 := false) (m2 := false) sp_mul sp_mulS) ha hb
theorem e_fdiv (ha : PE X a (ER X.K ct W f)) (hb : PE X b (ER X.K ct W g)) : PE X (.BinOp a .FloorDiv b pos) (ER X.K ct W (s2 dFdiv f g)) := e_op op_fdiv mR_ok (sp_fdiv (m1 := false) (m2 := false)) ha hb
theorem e_mod (ha : PE X a (ER X.K ct W f)) (hb : PE X b (ER X.K ct W g)) : PE X (.BinOp a .Mod b pos) (ER X.K ct W (s2 dMod f g)) := e_op op_mod mR_ok (sp_mod (m1 := false) (m2 := false)) ha hb
theorem e_pow (ha : PE X a (ER X.K ct W f)) (hb : PE X b (ER X.K ct W g)) : PE X (.BinOp a .Pow b pos) (ER X.K ct W (s2 dPow f g)) := e_op op_pow mR_ok (sp_pow (m1 := false) (m2 := false)) ha hb
theorem e_lt (ha : PE X a (ER X.K ct W f)) (hb : PE X b (ER X.K ct W g)) : PE X (.Compare a [.Lt] [b] pos) (ER X.K ct W (s2 dLt f g)) := e_cmp op_lt (sp_lt (m1 := false) (m2 := false)) ha hb
theorem t_lt (ha : PE X a (ER X.K ct W f)) (hb : PE X b (ER X.K ct W g)) : PT X (.Compare a [.Lt] [b] pos) (TT1 X.K ct W (s2 dLt f g)) := t_cmp op_lt (sp_lt (m1 := false) (m2 := false)) ha hb
theorem e_le (ha : PE X a (ER X.K ct W f)) (hb : PE X b (ER X.K ct W g)) : PE X (.Compare a [.LtE] [b] pos) (ER X.K ct W (s2 dLe f g)) := e_cmp op_le (sp_le (m1 := false) (m2 := false)) ha hb
theorem t_le (ha : PE X a (ER X.K ct W f)) (hb : PE X b (ER X.K ct W g)) : PT X (.Compare a [.LtE] [b] pos) (TT1 X.K ct W (s2 dLe f g)) := t_cmp op_le (sp_le (m1 := false) (m2 := false)) ha hb
theorem e_gt (ha : PE X a (ER X.K ct W f)) (hb : PE X b (ER X.K ct W g)) : PE X (.Compare a [.Gt] [b] pos) (ER X.K ct W (s2 dGt f g)) := e_cmp op_gt (sp_gt (m1 := false) (m2 := false)) ha hb
theorem t_gt (ha : PE X a (ER X.K ct W f)) (hb : PE X b (ER X.K ct W g)) : PT X (.Compare a [.Gt] [b] pos) (TT1 X.K ct W (s2 dGt f g)) := t_cmp op_gt (sp_gt (m1 := false) (m2 := false)) ha hb
theorem e_ge (ha : PE X a (ER X.K ct W f)) (hb : PE X b (ER X.K ct W g)) : PE X (.Compare a [.GtE] [b] pos) (ER X.K ct W (s2 dGe f g)) := e_cmp op_ge (sp_ge (m1 := false) (m2 := false)) ha hb
theorem t_ge (ha : PE X a (ER X.K ct W f)) (hb : PE X b (ER X.K ct W g)) : PT X (.Compare a [.GtE] [b] pos) (TT1 X.K ct W (s2 dGe f g)) := t_cmp op_ge (sp_ge (m1 := false) (m2 := false)) ha hb
theorem e_eq (hr : Room k X.A) (ha : PE X a (EB X.K ct W f)) (hb : PE X b (EB X.K ct W g)) (hm : behindInMarks .Eq b = false := by first | exact nomark _ | rfl) : PE X (.Compare a [.Eq] [b] pos) (ER X.K ct W (s2 dEq f g)) := e_cmp (op_eqD hr.units) (sp_eq (m1 := true) (m2 := true)) ha hb hm
theorem t_eq (hr : Room k X.A) (ha : PE X a (EB X.K ct W f)) (hb : PE X b (EB X.K ct W g)) (hm : behindInMarks .Eq b = false := by first | exact nomark _ | rfl) : PT X (.Compare a [.Eq] [b] pos) (TT1 X.K ct W (s2 dEq f g)) := t_cmp (op_eqD hr.units) (sp_eq (m1 := true) (m2 := true)) ha hb hm
theorem e_ne (hr : Room k X.A) (ha : PE X a (EB X.K ct W f)) (hb : PE X b (EB X.K ct W g)) (hm : behindInMarks .NotEq b = false := by first | exact nomark _ | rfl) : PE X (.Compare a [.NotEq] [b] pos) (ER X.K ct W (s2 dNe f g)) := e_cmp (op_neD hr.units) (sp_ne (m1 := true) (m2 := true)) ha hb hm
theorem t_ne (hr : Room k X.A) (ha : PE X a (EB X.K ct W f)) (hb : PE X b (EB X.K ct W g)) (hm : behindInMarks .NotEq b = false := by first | exact nomark _ | rfl) : PT X (.Compare a [.NotEq] [b] pos) (TT1 X.K ct W (s2 dNe f g)) := t_cmp (op_neD hr.units) (sp_ne (m1 := true) (m2 := true)) ha hb hm
theorem e_is (ha : PE X a (EB X.K ct W f)) (hb : PE X b (ER X.K ct W g)) (hm : behindInMarks .Is b = false := by first | exact nomark _ | rfl) : PE X (.Compare a [.Is] [b] pos) (ER X.K ct W (s2 dIs f g)) := e_cmp op_isN (sp_is (m1 := true) (m2 := false)) ha hb hm
theorem t_is (ha : PE X a (EB X.K ct W f)) (hb : PE X b (ER X.K ct W g)) (hm : behindInMarks .Is b = false := by first | exact nomark _ | rfl) : PT X (.Compare a [.Is] [b] pos) (TT1 X.K ct W (s2 dIs f g)) := t_cmp op_isN (sp_is (m1 := true) (m2 := false)) ha hb hm
theorem e_isNot (ha : PE X a (EB X.K ct W f)) (hb : PE X b (ER X.K ct W g)) (hm : behindInMarks .IsNot b = false := by first | exact nomark _ | rfl) : PE X (.Compare a [.IsNot] [b] pos) (ER X.K ct W (s2 dIsNot f g)) := e_cmp op_notN (sp_isNot (m1 := true) (m2 := false)) ha hb hm
theorem t_isNot (ha : PE X a (EB X.K ct W f)) (hb : PE X b (ER X.K ct W g)) (hm : behindInMarks .IsNot b = false := by first | exact nomark _ | rfl) : PT X (.Compare a [.IsNot] [b] pos) (TT1 X.K ct W (s2 dIsNot f g)) := t_cmp op_notN (sp_isNot (m1 := true) (m2 := false)) ha hb hm
theorem e_in (hr : Room k X.A) (ha : PE X a (ER X.K ct W f)) (hb : PE X b (EB X.K ct W g)) (hm : behindInMarks .In b = false := by first | exact nomark _ | rfl) : PE X (.Compare a [.In] [b] pos) (ER X.K ct W (s2 dIn f g)) := e_cmp (op_in1 (hu_of hr)) (sp_in (m1 := false) (m2 := true)) ha hb hm
theorem t_in (hr : Room k X.A) (ha : PE X a (ER X.K ct W f)) (hb : PE X b (EB X.K ct W g)) (hm : behindInMarks .In b = false := by first | exact nomark _ | rfl) : PT X (.Compare a [.In] [b] pos) (TT1 X.K ct W (s2 dIn f g)) := t_cmp (op_in1 (hu_of hr)) (sp_in (m1 := false) (m2 := true)) ha hb hm
theorem e_notIn (hr : Room k X.A) (ha : PE X a (ER X.K ct W f)) (hb : PE X b (EB X.K ct W g)) (hm : behindInMarks .NotIn b = false := by first | exact nomark _ | rfl) : PE X (.Compare a [.NotIn] [b] pos) (ER X.K ct W (s2 dNotIn f g)) := e_cmp (op_notIn1 (hu_of hr)) (sp_notIn (m1 := false) (m2 := true)) ha hb hm
theorem t_notIn (hr : Room k X.A) (ha : PE X a (ER X.K ct W f)) (hb : PE X b (EB X.K ct W g)) (hm : behindInMarks .NotIn b = false := by first | exact nomark _ | rfl) : PT X (.Compare a [.NotIn] [b] pos) (TT1 X.K ct W (s2 dNotIn f g)) := t_cmp (op_notIn1 (hu_of hr)) (sp_notIn (m1 := false) (m2 := true)) ha hb hm
def sNeg (f : SE) : SE := fun env => bnd (f env) fun d => match d with
  | .int i => .ok (.int (-i))
  | _ => .st
theorem e_neg (ha : PE X a (ER X.K ct W f)) : PE X (.UnaryOp .USub a pos) (ER X.K ct W (sNeg f)) := by
  refine (pe_un un_neg ha).imp fun σ H Q ⟨env, F, E, h⟩ => ?_
  refine fin_bind E h rfl fun d v F1 H1 e1 g1 r1 E1 h => ?_
  cases d <;> first | exact h.elim | skip
  rename_i i
  exact ⟨i, r1, h _ F1 H1 g1 rfl⟩
theorem e_ife (hc : PT X c (TT1 X.K ct W f)) (ha : PE X a (ER X.K ct W g)) (hb : PE X b (ER X.K ct W h)) : PE X (.IfExp c a b pos) (ER X.K ct W (sIf f g h)) := by
  refine (pe_ifExp hc ha hb).imp fun σ H Q ⟨env, F, E, hh⟩ => ?_
  unfold sIf at hh
  refine tt_bind (C := True) E (fun bb e F1 H1 g1 E1 => ?_) (fun c fs e => ?_) (fun n1 n2 => ?_)
  · rw [e] at hh
    cases bb with
    | true => exact ⟨env, F1, E1, fin_after g1 (fun _ _ _ _ m => m) hh⟩
    | false => exact ⟨env, F1, E1, fin_after g1 (fun _ _ _ _ m => m) hh⟩
  · rw [e] at hh; exact hh
  · cases e : f env with
    | ok d => rw [e] at hh; cases d <;> first | exact n1 _ e | exact hh.elim
    | er c fs => exact n2 _ _ e
    | st => rw [e] at hh; exact hh.elim
theorem e_slice {lo hi : Option Expr} {fl fh : SE} (he : PE X e (EB X.K ct W f)) (hl : PO X lo (tO X.K ct W fl)) (hh : PO X hi (tO X.K ct W fh)) : PE X (.Subscript e (.Slice lo hi none p2) pos) (ER X.K ct W (sSl dSlU f fl fh)) := e_sl (sl_list.or sl_str) mR_ok (SpS.or (SpS.share sps_n) sps_s) he hl hh
theorem e_sliceN {lo hi : Option Expr} {fl fh : SE} (he : PE X e (EB X.K ct W f)) (hl : PO X lo (tO X.K ct W fl)) (hh : PO X hi (tO X.K ct W fh)) : PE X (.Subscript e (.Slice lo hi none p2) pos) (EN X.K ct W (sSl dSlN f fl fh)) := e_sl sl_list mN_ok sps_n he hl hh
/-- addresses of classes by number -/
def ctL (l : List Addr) (n : Nat) : Addr := l.getD n 0
/-- what a law's head asks: the text's own answer -/
theorem law_sp {K : PySem.W.Frag} {ct : Nat → Addr} {m : List D → R} {H : Hp} {a : Addr} {ns : List Int} (hS : SqL K H a (ns.map V.int)) (hm : m [.scr ns] = .ok (.bl true)) : spP K ct [false] false m [.ref a] H (fun v _ => v = .bl true) fun _ _ _ => False := by
  refine ⟨H, [.scr ns], Ex.refl H, ⟨_, _, _, _, rfl, rfl, ⟨a, rfl, hS⟩, rfl, rfl⟩, ?_⟩
  rw [hm]
  exact fun v F' H' g r => r
theorem cx_false {P : Program} {w : World} {H : Hp} {s s' : Shared} {e : Value} (h : L2.CX P w [] H s (fun _ _ _ => False) e s') : False := by
  obtain ⟨_, _, _, _, _, _, _, _, _, _, _, _, z⟩ := h
  exact z.elim
end
end Ps

namespace Ps
open PySem PySem.Spec PyProof.Rows L2
section
variable {X : Cx} {ct : Nat → Addr} {W : WX} {a b c e o : Expr} {f g h : SE} {pos p apos : Pos}
theorem e_len (hm : X.mg "len" = none) (hg : Gl X "len") (ha : PE X a (EB X.K ct W f)) (na : starEach [a] X.env = (false, eval a X.env) :: starEach [] X.env := by rfl) : PE X (.Call (.Name "len" p) [a] [] pos) (ER X.K ct W (sCall cLen (aCons f aNil))) := e_callB call_len1 mR_ok spc_len hg hm (by decide +kernel) (a_cons (m := true) ha a_nil na) (he := na) (hpl := rfl)
theorem e_abs (hm : X.mg "abs" = none) (hg : Gl X "abs") (ha : PE X a (ER X.K ct W f)) (na : starEach [a] X.env = (false, eval a X.env) :: starEach [] X.env := by rfl) : PE X (.Call (.Name "abs" p) [a] [] pos) (ER X.K ct W (sCall cAbs (aCons f aNil))) := e_callB call_abs mR_ok spc_abs hg hm (by decide +kernel) (a_cons (m := false) ha a_nil na) (he := na) (hpl := rfl)
theorem e_int1 (hm : X.mg "int" = none) (hg : Gl X "int") (ha : PE X a (ER X.K ct W f)) (na : starEach [a] X.env = (false, eval a X.env) :: starEach [] X.env := by rfl) : PE X (.Call (.Name "int" p) [a] [] pos) (ER X.K ct W (sCall cInt (aCons f aNil))) := e_callTy call_int1 mR_ok spc_int hg hm (by decide +kernel) (a_cons (m := false) ha a_nil na) (he := na) (hpl := rfl)
theorem e_sum (hm : X.mg "sum" = none) (hg : Gl X "sum") (hcalm : X.calm = true) (ha : PE X a (EB X.K ct W f)) (na : starEach [a] X.env = (false, eval a X.env) :: starEach [] X.env := by rfl) : PE X (.Call (.Name "sum" p) [a] [] pos) (ER X.K ct W (sCall cSum (aCons f aNil))) := e_callB (cr_sum hcalm) mR_ok spc_sum hg hm (by decide +kernel) (a_cons (m := true) ha a_nil na) (he := na) (hpl := rfl)
theorem e_any (hm : X.mg "any" = none) (hg : Gl X "any") (hcalm : X.calm = true) (ha : PE X a (EB X.K ct W f)) (na : starEach [a] X.env = (false, eval a X.env) :: starEach [] X.env := by rfl) : PE X (.Call (.Name "any" p) [a] [] pos) (ER X.K ct W (sCall cAny (aCons f aNil))) := e_callB (cr_any hcalm) mR_ok spc_any hg hm (by decide +kernel) (a_cons (m := true) ha a_nil na) (he := na) (hpl := rfl)
theorem e_all (hm : X.mg "all" = none) (hg : Gl X "all") (hcalm : X.calm = true) (ha : PE X a (EB X.K ct W f)) (na : starEach [a] X.env = (false, eval a X.env) :: starEach [] X.env := by rfl) : PE X (.Call (.Name "all" p) [a] [] pos) (ER X.K ct W (sCall cAll (aCons f aNil))) := e_callB (cr_all hcalm) mR_ok spc_all hg hm (by decide +kernel) (a_cons (m := true) ha a_nil na) (he := na) (hpl := rfl)
theorem e_list (hm : X.mg "list" = none) (hg : Gl X "list") (ha : PE X a (EB X.K ct W f)) (na : starEach [a] X.env = (false, eval a X.env) :: starEach [] X.env := by rfl) : PE X (.Call (.Name "list" p) [a] [] pos) (EN X.K ct W (sCall cList (aCons f aNil))) := e_callTy call_list_of mN_ok spc_list hg hm (by decide +kernel) (a_cons (m := true) ha a_nil na) (he := na) (hpl := rfl)
theorem e_sorted (hm : X.mg "sorted" = none) (hg : Gl X "sorted") (hcalm : X.calm = true) (ha : PE X a (EB X.K ct W f)) (na : starEach [a] X.env = (false, eval a X.env) :: starEach [] X.env := by rfl) : PE X (.Call (.Name "sorted" p) [a] [] pos) (EN X.K ct W (sCall cSorted (aCons f aNil))) := e_callB (call_sorted1 hcalm) mN_ok spc_sorted hg hm (by decide +kernel) (a_cons (m := true) ha a_nil na) (he := na) (hpl := rfl)
theorem e_max2 (hm : X.mg "max" = none) (hg : Gl X "max") (hcalm : X.calm = true) (ha : PE X a (ER X.K ct W f)) (hb : PE X b (ER X.K ct W g)) (na : starEach [a, b] X.env = (false, eval a X.env) :: starEach [b] X.env := by rfl) (nb : starEach [b] X.env = (false, eval b X.env) :: starEach [] X.env := by rfl) (hpl : (backTo pos (starEach [b] X.env)).any (·.1) = false := by rfl) : PE X (.Call (.Name "max" p) [a, b] [] pos) (ER X.K ct W (sCall cMax2 (aCons f (aCons g aNil)))) := e_callB (call_max2 hcalm) mR_ok (spc_max2 (m1 := false) (m2 := false)) hg hm (by decide +kernel) (a_cons (m := false) ha (a_cons (m := false) hb a_nil nb) na) (he := na) (hpl := hpl)
theorem e_min2 (hm : X.mg "min" = none) (hg : Gl X "min") (hcalm : X.calm = true) (ha : PE X a (ER X.K ct W f)) (hb : PE X b (ER X.K ct W g)) (na : starEach [a, b] X.env = (false, eval a X.env) :: starEach [b] X.env := by rfl) (nb : starEach [b] X.env = (false, eval b X.env) :: starEach [] X.env := by rfl) (hpl : (backTo pos (starEach [b] X.env)).any (·.1) = false := by rfl) : PE X (.Call (.Name "min" p) [a, b] [] pos) (ER X.K ct W (sCall cMin2 (aCons f (aCons g aNil)))) := e_callB (call_min2 hcalm) mR_ok (spc_min2 (m1 := false) (m2 := false)) hg hm (by decide +kernel) (a_cons (m := false) ha (a_cons (m := false) hb a_nil nb) na) (he := na) (hpl := hpl)
theorem e_join (ho : PE X o (EB X.K ct W f)) (he : PE X e (EB X.K ct W g)) (h1 : starEach [e] X.env = [(false, eval e X.env)] := by rfl) (hbase : attributeBase o "join" X.env (eval o X.env) = eval o X.env := by rfl) (hline : (apos.endLine == pos.line) = true := by rfl) : PE X (.Call (.Attribute o "join" apos) [e] [] pos) (ER X.K ct W (sM1 mJoin f g)) := e_m1 PySem.F.slot_str_join PySem.F.type_str_join mt_join spm_join ho he h1 hbase hline
theorem e_count (ho : PE X o (EB X.K ct W f)) (he : PE X e (EB X.K ct W g)) (h1 : starEach [e] X.env = [(false, eval e X.env)] := by rfl) (hbase : attributeBase o "count" X.env (eval o X.env) = eval o X.env := by rfl) (hline : (apos.endLine == pos.line) = true := by rfl) : PE X (.Call (.Attribute o "count" apos) [e] [] pos) (ER X.K ct W (sM1 mCount f g)) := e_m1 PySem.F.slot_str_count PySem.F.type_str_count mt_count spm_count ho he h1 hbase hline
theorem e_startswith (ho : PE X o (EB X.K ct W f)) (he : PE X e (EB X.K ct W g)) (h1 : starEach [e] X.env = [(false, eval e X.env)] := by rfl) (hbase : attributeBase o "startswith" X.env (eval o X.env) = eval o X.env := by rfl) (hline : (apos.endLine == pos.line) = true := by rfl) : PE X (.Call (.Attribute o "startswith" apos) [e] [] pos) (ER X.K ct W (sM1 mStartswith f g)) := e_m1 PySem.F.slot_str_startswith PySem.F.type_str_startswith mt_startswith spm_startswith ho he h1 hbase hline
theorem e_endswith (ho : PE X o (EB X.K ct W f)) (he : PE X e (EB X.K ct W g)) (h1 : starEach [e] X.env = [(false, eval e X.env)] := by rfl) (hbase : attributeBase o "endswith" X.env (eval o X.env) = eval o X.env := by rfl) (hline : (apos.endLine == pos.line) = true := by rfl) : PE X (.Call (.Attribute o "endswith" apos) [e] [] pos) (ER X.K ct W (sM1 mEndswith f g)) := e_m1 PySem.F.slot_str_endswith PySem.F.type_str_endswith mt_endswith spm_endswith ho he h1 hbase hline
theorem e_find (ho : PE X o (EB X.K ct W f)) (he : PE X e (EB X.K ct W g)) (h1 : starEach [e] X.env = [(false, eval e X.env)] := by rfl) (hbase : attributeBase o "find" X.env (eval o X.env) = eval o X.env := by rfl) (hline : (apos.endLine == pos.line) = true := by rfl) : PE X (.Call (.Attribute o "find" apos) [e] [] pos) (ER X.K ct W (sM1 mFind f g)) := e_m1 PySem.F.slot_str_find PySem.F.type_str_find mt_find spm_find ho he h1 hbase hline
end
section
variable {X : Cx} {ct : Nat → Addr} {W : WX} {elt tg iter : Expr} {ifs : List Expr} {scope : Scope} {pos : Pos} {g : TG} {T : Tgt} {fi ft fe : SE}
theorem e_comp (own : List (Str × Nat)) {js : List Nat} (hj : own.map (·.2) = js) (hc : X.calm = true) (hN : X.N.Nodup) (hi : PI X tg iter (tI X.K ct W O0 fi)) (ok : BlkOk X.N X.env.scope scope own)
    (hg : ∀ (s : Shared) (H : Hp) (C : Addr) (cl : List (Str × Addr)) (fp : List Addr), PG (X.blk s H scope (compEnvC scope cl C X.env) fp) tg g) (hT : TgOk X.K ct g T) (hsub : ∀ i ∈ slotsT T, i ∈ js)
    (ht : ∀ (s : Shared) (H : Hp) (C : Addr) (cl : List (Str × Addr)) (fp : List Addr), PTs (X.blk s H scope (compEnvC scope cl C X.env) fp) ifs (TT1 X.K ct W0 ft))
    (he : ∀ (s : Shared) (H : Hp) (C : Addr) (cl : List (Str × Addr)) (fp : List Addr), PE (X.blk s H scope (compEnvC scope cl C X.env) fp) elt (ER X.K ct W0 fe)) (hs : ∀ x, foldedSetIterable iter X.env x = pure x := by intro _; rfl) :
    PE X (.ListComp elt [⟨tg, iter, ifs, 0⟩] scope pos) (EN X.K ct W (sComp T js fi ft fe)) := by
  subst hj
  exact e_lc hc hN hi ok hg hT hsub ht he hs
theorem p_comp {i : Nat} {y : Str} {py spos : Pos} (own : List (Str × Nat)) {js : List Nat} (hj : own.map (·.2) = js) (hc : X.calm = true) (hN : X.N.Nodup) (hy : X.N[i]? = some y) (hyl : X.env.scope.names.lookup y = some .local)
    (hsw : swapsWith (.ListComp elt [⟨tg, iter, ifs, 0⟩] scope pos) (some (.Name y py)) spos.line X.env = pure true) (hi : PI X tg iter (tI X.K ct W O0 fi)) (ok : BlkOk X.N X.env.scope scope own)
    (hg : ∀ (s : Shared) (H : Hp) (C : Addr) (cl : List (Str × Addr)) (fp : List Addr), PG (X.blk s H scope (compEnvC scope cl C X.env) fp) tg g) (hT : TgOk X.K ct g T) (hsub : ∀ i ∈ slotsT T, i ∈ js)
    (ht : ∀ (s : Shared) (H : Hp) (C : Addr) (cl : List (Str × Addr)) (fp : List Addr), PTs (X.blk s H scope (compEnvC scope cl C X.env) fp) ifs (TT1 X.K ct W0 ft))
    (he : ∀ (s : Shared) (H : Hp) (C : Addr) (cl : List (Str × Addr)) (fp : List Addr), PE (X.blk s H scope (compEnvC scope cl C X.env) fp) elt (ER X.K ct W0 fe)) (hs : ∀ x, foldedSetIterable iter X.env x = pure x := by intro _; rfl) :
    PS X (.Assign [.Name y py] (.ListComp elt [⟨tg, iter, ifs, 0⟩] scope pos) spos) (sOf X.K ct W (ssOwn i (sComp T js fi ft fe))) := by
  subst hj
  exact p_setLc hc hN hy hyl hsw hi ok hg hT hsub ht he hs
end
end Ps

namespace Ps
open PySem (Str)
open PySem (sizeLine sizeLine_eq)
/-! ### reckoning by simp: each combinator on its operands' values -/
def seqO (o : O) (g : SS) : O := match o with
  | .nx e => g e
  | o => o
@[simp] theorem ssSeq_eq {f g : SS} {env : En} : ssSeq f g env = seqO (f env) g := rfl
@[simp] theorem seqO_nx {g : SS} {e : En} : seqO (.nx e) g = g e := rfl
@[simp] theorem seqO_rt {g : SS} {d : D} : seqO (.rt d) g = .rt d := rfl
@[simp] theorem seqO_er {g : SS} {c : Nat} {fs : List (Str × D)} {e : En} : seqO (.er c fs e) g = .er c fs e := rfl
@[simp] theorem seqO_bk {g : SS} {e : En} : seqO (.bk e) g = .bk e := rfl
@[simp] theorem seqO_ct {g : SS} {e : En} : seqO (.ct e) g = .ct e := rfl
@[simp] theorem ssNext_eq {env : En} : ssNext env = .nx env := rfl
@[simp] theorem ssBrk_eq {env : En} : ssBrk env = .bk env := rfl
@[simp] theorem ssCont_eq {env : En} : ssCont env = .ct env := rfl
@[simp] theorem ssRaise_eq {env : En} {c : Nat} : ssRaise c env = .er c [] env := rfl
@[simp] theorem stepL_nx {e : En} {k : En → O} : stepL (.nx e) k = k e := rfl
@[simp] theorem stepL_ct {e : En} {k : En → O} : stepL (.ct e) k = k e := rfl
@[simp] theorem stepL_bk {e : En} {k : En → O} : stepL (.bk e) k = .nx e := rfl
@[simp] theorem stepL_rt {d : D} {k : En → O} : stepL (.rt d) k = .rt d := rfl
@[simp] theorem stepL_er {c : Nat} {fs : List (Str × D)} {e : En} {k : En → O} : stepL (.er c fs e) k = .er c fs e := rfl
def asgO (T : Tgt) (r : R) (env : En) : O := bndS r env fun d => match bindT T d env with
  | some e => .nx e
  | none => .st
@[simp] theorem ssAsg_eq {T : Tgt} {f : SE} {env : En} : ssAsg T f env = asgO T (f env) env := rfl
def nxO : Option En → O
  | some e => .nx e
  | none => .st
@[simp] theorem nxO_some {e : En} : nxO (some e) = .nx e := rfl
theorem nx_match {o : Option En} : (match o with | some e => O.nx e | none => .st) = nxO o := by cases o <;> rfl
@[simp] theorem asgO_ok {T : Tgt} {d : D} {env : En} : asgO T (.ok d) env = nxO (bindT T d env) := by unfold asgO; exact nx_match
@[simp] theorem asgO_er {T : Tgt} {c : Nat} {fs : List (Str × D)} {env : En} : asgO T (.er c fs) env = .er c fs env := rfl
@[simp] theorem bindT_nm {i : Nat} {d : D} {env : En} : bindT (.nm i) d env = setSl env i (.sh d) := rfl
@[simp] theorem bindT_tp {is : List Nat} {ds : List D} {env : En} : bindT (.tp is) (.tup ds) env = bindL is ds env := rfl
@[simp] theorem bindL_nil {env : En} : bindL [] [] env = some env := rfl
@[simp] theorem bindL_cons {i : Nat} {is : List Nat} {d : D} {ds : List D} {env : En} : bindL (i :: is) (d :: ds) env = (setSl env i (.sh d)).bind fun e => bindL is ds e := rfl
def setS (t : Option Sl) (env : En) (i : Nat) (s : Sl) : Option En := match t with
  | some t => if canSet t then some (env.set i s) else none
  | none => none
@[simp] theorem setSl_eq {env : En} {i : Nat} {s : Sl} : setSl env i s = setS env[i]? env i s := rfl
@[simp] theorem setS_sh {env : En} {i : Nat} {s : Sl} {d : D} : setS (some (.sh d)) env i s = some (env.set i s) := rfl
@[simp] theorem setS_ow {env : En} {i : Nat} {s : Sl} {d : D} : setS (some (.ow d)) env i s = some (env.set i s) := rfl
@[simp] theorem setS_no {env : En} {i : Nat} {s : Sl} : setS (some .no) env i s = some (env.set i s) := rfl
def ownO (i : Nat) (r : R) (env : En) : O := bndS r env fun d => match setSl env i (.ow d) with
  | some e => .nx e
  | none => .st
@[simp] theorem ssOwn_eq {i : Nat} {f : SE} {env : En} : ssOwn i f env = ownO i (f env) env := rfl
@[simp] theorem ownO_ok {i : Nat} {d : D} {env : En} : ownO i (.ok d) env = nxO (setSl env i (.ow d)) := by unfold ownO; exact nx_match
def ifO (r : R) (f g : SS) (env : En) : O := bndS r env fun d => match d with
  | .bl true => f env
  | .bl false => g env
  | _ => .st
@[simp] theorem ssIf_eq {c : SE} {f g : SS} {env : En} : ssIf c f g env = ifO (c env) f g env := rfl
@[simp] theorem ifO_t {f g : SS} {env : En} : ifO (.ok (.bl true)) f g env = f env := rfl
@[simp] theorem ifO_f {f g : SS} {env : En} : ifO (.ok (.bl false)) f g env = g env := rfl
@[simp] theorem ifO_er {f g : SS} {env : En} {c : Nat} {fs : List (Str × D)} : ifO (.er c fs) f g env = .er c fs env := rfl
def retO (r : R) (env : En) : O := bndS r env fun d => .rt d
@[simp] theorem ssRet_eq {f : SE} {env : En} : ssRet f env = retO (f env) env := rfl
@[simp] theorem retO_ok {d : D} {env : En} : retO (.ok d) env = .rt d := rfl
@[simp] theorem retO_er {c : Nat} {fs : List (Str × D)} {env : En} : retO (.er c fs) env = .er c fs env := rfl
def exprO (r : R) (env : En) : O := bndS r env fun _ => .nx env
@[simp] theorem ssExpr_eq {f : SE} {env : En} : ssExpr f env = exprO (f env) env := rfl
@[simp] theorem exprO_ok {d : D} {env : En} : exprO (.ok d) env = .nx env := rfl
@[simp] theorem exprO_er {c : Nat} {fs : List (Str × D)} {env : En} : exprO (.er c fs) env = .er c fs env := rfl
def frzO (t : Option Sl) (i : Nat) (env : En) : O := match t with
  | some (.ow d) => .nx (env.set i (.sh d))
  | _ => .st
@[simp] theorem ssFrz_eq {i : Nat} {env : En} : ssFrz i env = frzO env[i]? i env := rfl
@[simp] theorem frzO_ow {i : Nat} {env : En} {d : D} : frzO (some (.ow d)) i env = .nx (env.set i (.sh d)) := rfl
def appO (t : Option Sl) (r : R) (i : Nat) (env : En) : O := match t with
  | some (.ow (.lst ds)) => bndS r env fun d => if ds.length < sizeLine then .nx (env.set i (.ow (.lst (ds ++ [d])))) else .st
  | _ => .st
@[simp] theorem ssApp_eq {i : Nat} {f : SE} {env : En} : ssApp i f env = appO env[i]? (f env) i env := rfl
@[simp] theorem appO_ok {i : Nat} {env : En} {ds : List D} {d : D} : appO (some (.ow (.lst ds))) (.ok d) i env = if ds.length < sizeLine then .nx (env.set i (.ow (.lst (ds ++ [d])))) else .st := rfl
def putO (t : Option Sl) (v k : R) (i : Nat) (env : En) : O := bndS v env fun v => match t with
  | some (.ow x) => bndS k env fun k => (match dPut x k v with
    | some z => .nx (env.set i (.ow z))
    | none => .st)
  | _ => .st
@[simp] theorem ssPut_eq {i : Nat} {fk fv : SE} {env : En} : ssPut i fk fv env = putO env[i]? (fv env) (fk env) i env := rfl
@[simp] theorem putO_ok {i : Nat} {env : En} {x k v : D} : putO (some (.ow x)) (.ok v) (.ok k) i env = (match dPut x k v with | some z => .nx (env.set i (.ow z)) | none => .st) := rfl
def forO (T : Tgt) (r : R) (body : SS) (env : En) : O := bndS r env fun d => match d with
  | .lst ds => loopF T body ds env
  | _ => .st
@[simp] theorem ssFor_eq {T : Tgt} {it : SE} {body : SS} {env : En} : ssFor T it body env = forO T (it env) body env := by
  unfold ssFor forO; cases it env <;> rfl
@[simp] theorem forO_ok {T : Tgt} {body : SS} {env : En} {ds : List D} : forO T (.ok (.lst ds)) body env = loopF T body ds env := rfl
@[simp] theorem loopF_nil {T : Tgt} {body : SS} {env : En} : loopF T body [] env = .nx env := rfl
/-! expressions -/
def locR (s : Option Sl) : R := match s with
  | some (.sh d) => .ok d
  | _ => .st
@[simp] theorem sLoc_eq {i : Nat} {env : En} : sLoc i env = locR env[i]? := rfl
@[simp] theorem locR_sh {d : D} : locR (some (.sh d)) = .ok d := rfl
def locBR (s : Option Sl) : R := match s with
  | some (.sh d) => .ok d
  | some (.ow d) => .ok d
  | some (.bo d) => .ok d
  | some (.oo c fs _) => .ok (.obj c fs)
  | _ => .st
@[simp] theorem sLocB_eq {i : Nat} {env : En} : sLocB i env = locBR env[i]? := rfl
@[simp] theorem locBR_sh {d : D} : locBR (some (.sh d)) = .ok d := rfl
@[simp] theorem locBR_ow {d : D} : locBR (some (.ow d)) = .ok d := rfl
@[simp] theorem locBR_bo {d : D} : locBR (some (.bo d)) = .ok d := rfl
@[simp] theorem sC_eq {d : D} {env : En} : sC d env = .ok d := rfl
@[simp] theorem ofO_some {d : D} : ofO (some d) = .ok d := rfl
def s2R (op : D → D → Option D) (a b : R) : R := bnd a fun d => bnd b fun e => ofO (op d e)
@[simp] theorem s2_eq {op : D → D → Option D} {f g : SE} {env : En} : s2 op f g env = s2R op (f env) (g env) := rfl
@[simp] theorem s2R_ok {op : D → D → Option D} {d e : D} : s2R op (.ok d) (.ok e) = ofO (op d e) := rfl
def notR (r : R) : R := bnd r fun d => match d with
  | .bl b => .ok (.bl (!b))
  | _ => .st
@[simp] theorem sNot_eq {f : SE} {env : En} : sNot f env = notR (f env) := rfl
@[simp] theorem notR_ok {b : Bool} : notR (.ok (.bl b)) = .ok (.bl (!b)) := rfl
@[simp] theorem notR_er {c : Nat} {fs : List (Str × D)} : notR (.er c fs) = .er c fs := rfl
def andR (r : R) (g : SE) (env : En) : R := bnd r fun d => match d with
  | .bl true => g env
  | .bl false => .ok (.bl false)
  | _ => .st
@[simp] theorem sAnd_eq {f g : SE} {env : En} : sAnd f g env = andR (f env) g env := rfl
@[simp] theorem andR_t {g : SE} {env : En} : andR (.ok (.bl true)) g env = g env := rfl
@[simp] theorem andR_f {g : SE} {env : En} : andR (.ok (.bl false)) g env = .ok (.bl false) := rfl
def orR (r : R) (g : SE) (env : En) : R := bnd r fun d => match d with
  | .bl true => .ok (.bl true)
  | .bl false => g env
  | _ => .st
@[simp] theorem sOr_eq {f g : SE} {env : En} : sOr f g env = orR (f env) g env := rfl
@[simp] theorem orR_t {g : SE} {env : En} : orR (.ok (.bl true)) g env = .ok (.bl true) := rfl
@[simp] theorem orR_f {g : SE} {env : En} : orR (.ok (.bl false)) g env = g env := rfl
def ifR (r : R) (f g : SE) (env : En) : R := bnd r fun d => match d with
  | .bl true => f env
  | .bl false => g env
  | _ => .st
@[simp] theorem sIf_eq {c f g : SE} {env : En} : sIf c f g env = ifR (c env) f g env := rfl
@[simp] theorem ifR_t {f g : SE} {env : En} : ifR (.ok (.bl true)) f g env = f env := rfl
@[simp] theorem ifR_f {f g : SE} {env : En} : ifR (.ok (.bl false)) f g env = g env := rfl
def negR (r : R) : R := bnd r fun d => match d with
  | .int i => .ok (.int (-i))
  | _ => .st
@[simp] theorem sNeg_eq {f : SE} {env : En} : sNeg f env = negR (f env) := rfl
@[simp] theorem negR_ok {i : Int} : negR (.ok (.int i)) = .ok (.int (-i)) := rfl
@[simp] theorem aNil_eq {env : En} : aNil env = .ok [] := rfl
def consA (r : R) (a : RA) : RA := match r with
  | .ok d => (match a with
    | .ok ds => .ok (d :: ds)
    | .er c fs => .er c fs
    | .st => .st)
  | .er c fs => .er c fs
  | .st => .st
@[simp] theorem aCons_eq {f : SE} {g : SA} {env : En} : aCons f g env = consA (f env) (g env) := by
  unfold aCons consA; cases f env <;> rfl
@[simp] theorem consA_ok {d : D} {ds : List D} : consA (.ok d) (.ok ds) = .ok (d :: ds) := rfl
@[simp] theorem consA_er {c : Nat} {fs : List (Str × D)} {a : RA} : consA (.er c fs) a = .er c fs := rfl
def callR (op : List D → Option D) (a : RA) : R := bndA a fun ds => ofO (op ds)
@[simp] theorem sCall_eq {op : List D → Option D} {fs : SA} {env : En} : sCall op fs env = callR op (fs env) := rfl
@[simp] theorem callR_ok {op : List D → Option D} {ds : List D} : callR op (.ok ds) = ofO (op ds) := rfl
def fnR (m : List D → R) (a : RA) : R := bndA a m
@[simp] theorem sFn_eq {m : List D → R} {fs : SA} {env : En} : sFn m fs env = fnR m (fs env) := rfl
@[simp] theorem fnR_ok {m : List D → R} {ds : List D} : fnR m (.ok ds) = m ds := rfl
def mkR (c : Nat) (m : List D → RI) (a : RA) : R := bndA a fun ds => if ds.all noScr then (match m ds with | .ok gs => .ok (.obj c gs) | .er _ _ => .st | .st => .st) else .st
@[simp] theorem sMk_eq {c : Nat} {m : List D → RI} {fs : SA} {env : En} : sMk c m fs env = mkR c m (fs env) := rfl
@[simp] theorem mkR_ok {c : Nat} {m : List D → RI} {ds : List D} : mkR c m (.ok ds) = if ds.all noScr then (match m ds with | .ok gs => .ok (.obj c gs) | .er _ _ => .st | .st => .st) else .st := rfl
def tupR (a : RA) : R := bndA a fun ds => if ds.length ≤ sizeLine then .ok (.tup ds) else .st
@[simp] theorem sTup_eq {fs : SA} {env : En} : sTup fs env = tupR (fs env) := rfl
theorem small_le {n : Nat} (h : n ≤ 16777216) : n ≤ sizeLine := by rw [sizeLine_eq]; exact h
theorem tupR_ok {ds : List D} (h : ds.length ≤ 16777216) : tupR (.ok ds) = .ok (.tup ds) := by
  show (if ds.length ≤ sizeLine then R.ok (.tup ds) else .st) = _
  rw [if_pos (small_le h)]
def lstR (a : RA) : R := bndA a fun ds => if ds.length ≤ sizeLine then .ok (.lst ds) else .st
@[simp] theorem sLst_eq {fs : SA} {env : En} : sLst fs env = lstR (fs env) := rfl
theorem lstR_ok {ds : List D} (h : ds.length ≤ 16777216) : lstR (.ok ds) = .ok (.lst ds) := by
  show (if ds.length ≤ sizeLine then R.ok (.lst ds) else .st) = _
  rw [if_pos (small_le h)]
@[simp] theorem tupR_1 {a : D} : tupR (.ok [a]) = .ok (.tup [a]) := tupR_ok (by simp)
@[simp] theorem tupR_2 {a b : D} : tupR (.ok [a, b]) = .ok (.tup [a, b]) := tupR_ok (by simp)
@[simp] theorem tupR_3 {a b c : D} : tupR (.ok [a, b, c]) = .ok (.tup [a, b, c]) := tupR_ok (by simp)
@[simp] theorem tupR_4 {a b c d : D} : tupR (.ok [a, b, c, d]) = .ok (.tup [a, b, c, d]) := tupR_ok (by simp)
@[simp] theorem lstR_0 : lstR (.ok []) = .ok (.lst []) := lstR_ok (by simp)
@[simp] theorem lstR_1 {a : D} : lstR (.ok [a]) = .ok (.lst [a]) := lstR_ok (by simp)
@[simp] theorem lstR_2 {a b : D} : lstR (.ok [a, b]) = .ok (.lst [a, b]) := lstR_ok (by simp)
@[simp] theorem lstR_3 {a b c : D} : lstR (.ok [a, b, c]) = .ok (.lst [a, b, c]) := lstR_ok (by simp)
def fldR (c : Nat) (n : Str) (r : R) : R := bnd r fun d => match d with
  | .obj c' fs => if c' = c then ofO (fs.lookup n) else .st
  | _ => .st
@[simp] theorem sFld_eq {c : Nat} {n : Str} {f : SE} {env : En} : sFld c n f env = fldR c n (f env) := rfl
@[simp] theorem fldR_ok {c : Nat} {n : Str} {fs : List (Str × D)} : fldR c n (.ok (.obj c fs)) = ofO (fs.lookup n) := if_pos rfl
def isiR (tb : Kd → Option Bool) (r : R) : R := bnd r fun d => match tb (kd d) with
  | some b => .ok (.bl b)
  | none => .st
@[simp] theorem sIsi_eq {tb : Kd → Option Bool} {f : SE} {env : En} : sIsi tb f env = isiR tb (f env) := rfl
theorem isiR_ok {tb : Kd → Option Bool} {d : D} {b : Bool} (h : tb (kd d) = some b) : isiR tb (.ok d) = .ok (.bl b) := by
  show (match tb (kd d) with | some b => R.ok (.bl b) | none => .st) = _
  rw [h]
def partR (r : R) : R := bnd r fun d => match d with
  | .int i => .ok (.int i)
  | _ => .st
@[simp] theorem sPart_eq {f : SE} {env : En} : sPart f env = partR (f env) := rfl
@[simp] theorem partR_ok {i : Int} : partR (.ok (.int i)) = .ok (.int i) := rfl
def slR (op : D → Option Int → Option Int → Option D) (a b c : R) : R := bnd a fun d => bnd b fun l => match oI l with
  | some l => bnd c fun u => (match oI u with
    | some u => ofO (op d l u)
    | none => .st)
  | none => .st
@[simp] theorem sSl_eq {op : D → Option Int → Option Int → Option D} {f lo hi : SE} {env : En} : sSl op f lo hi env = slR op (f env) (lo env) (hi env) := rfl
@[simp] theorem slR_ii {op : D → Option Int → Option Int → Option D} {d : D} {i j : Int} : slR op (.ok d) (.ok (.int i)) (.ok (.int j)) = ofO (op d (some i) (some j)) := rfl
@[simp] theorem slR_in {op : D → Option Int → Option Int → Option D} {d : D} {i : Int} : slR op (.ok d) (.ok (.int i)) (.ok .non) = ofO (op d (some i) none) := rfl
@[simp] theorem slR_ni {op : D → Option Int → Option Int → Option D} {d : D} {j : Int} : slR op (.ok d) (.ok .non) (.ok (.int j)) = ofO (op d none (some j)) := rfl
def itemsR (r : R) : R := bnd r fun d => match itemsD d with
  | some xs => .ok (.lst xs)
  | none => .st
@[simp] theorem sItems_eq {f : SE} {env : En} : sItems f env = itemsR (f env) := rfl
@[simp] theorem itemsR_lst {ds : List D} : itemsR (.ok (.lst ds)) = .ok (.lst ds) := rfl
@[simp] theorem itemsR_tup {ds : List D} : itemsR (.ok (.tup ds)) = .ok (.lst ds) := rfl
def rngR (r : List D → Option (List D)) (a : RA) : R := bndA a fun ds => match r ds with
  | some xs => .ok (.lst xs)
  | none => .st
@[simp] theorem sRng_eq {r : List D → Option (List D)} {fs : SA} {env : En} : sRng r fs env = rngR r (fs env) := rfl
theorem rngR_1 {n : Int} (h0 : 0 ≤ n) (h1 : n ≤ 1000000) : rngR rng1 (.ok [.int n]) = .ok (.lst ((List.range n.toNat).map fun i => .int (i : Nat))) := by
  have h : inR n = true := by unfold inR; simp; omega
  show (match (rng1 [.int n]) with | some xs => R.ok (.lst xs) | none => .st) = _
  simp [rng1, h]
def compR (T : Tgt) (vs : List Nat) (r : R) (ft fe : SE) (env : En) : R := bnd r fun d => match d with
  | .lst ds => if ds.length < sizeLine ∧ wipeOk env vs = true then (match compL T (wipeE env vs) ft fe ds with
    | some r => .ok (.lst r)
    | none => .st) else .st
  | _ => .st
@[simp] theorem sComp_eq {T : Tgt} {vs : List Nat} {fi ft fe : SE} {env : En} : sComp T vs fi ft fe env = compR T vs (fi env) ft fe env := rfl
theorem compR_ok {T : Tgt} {vs : List Nat} {ds rs : List D} {ft fe : SE} {env : En} (h1 : ds.length ≤ 1000000) (h2 : wipeOk env vs = true) (h3 : compL T (wipeE env vs) ft fe ds = some rs) : compR T vs (.ok (.lst ds)) ft fe env = .ok (.lst rs) := by
  show (if ds.length < sizeLine ∧ wipeOk env vs = true then (match compL T (wipeE env vs) ft fe ds with | some r => R.ok (.lst r) | none => .st) else .st) = _
  rw [if_pos ⟨by rw [sizeLine_eq]; omega, h2⟩, h3]
def m1R (op : D → D → Option D) (a b : R) : R := bnd a fun d => if isStrD d then bnd b fun e => ofO (op d e) else .st
@[simp] theorem sM1_eq {op : D → D → Option D} {f g : SE} {env : En} : sM1 op f g env = m1R op (f env) (g env) := rfl
@[simp] theorem m1R_ok {op : D → D → Option D} {x : Str} {e : D} : m1R op (.ok (.str x)) (.ok e) = ofO (op (.str x) e) := rfl
@[simp] theorem runR_rt {d : D} : runR (.rt d) false = .ok d := rfl
@[simp] theorem runR_er {c : Nat} {fs : List (Str × D)} {e : En} : runR (.er c fs e) false = .er c fs := rfl
@[simp] theorem runR_nx {e : En} : runR (.nx e) false = .ok .non := rfl
/-! operators -/
@[simp] theorem dAddU_int {i j : Int} : dAddU (.int i) (.int j) = some (.int (i + j)) := rfl
theorem dAddU_lst {xs ys : List D} (h : xs.length + ys.length ≤ 1000000) : dAddU (.lst xs) (.lst ys) = some (.lst (xs ++ ys)) := by
  show (if xs.length + ys.length ≤ sizeLine then some (D.lst (xs ++ ys)) else none) = _
  rw [if_pos (small_le (by omega))]
@[simp] theorem dSub_int {i j : Int} : dSub (.int i) (.int j) = some (.int (i - j)) := rfl
theorem dMulU_int {i j : Int} (h : (-(2 ^ 64) < i ∧ i < 2 ^ 64) ∨ (-(2 ^ 64) < j ∧ j < 2 ^ 64)) : dMulU (.int i) (.int j) = some (.int (i * j)) := by
  show orD (if (-(2 ^ 64) < i ∧ i < 2 ^ 64) ∨ (-(2 ^ 64) < j ∧ j < 2 ^ 64) then some (D.int (i * j)) else none) _ = _
  rw [if_pos h]
  rfl
theorem dFdiv_int {i j : Int} (h0 : 0 < j) (h1 : j < 1073741824) : dFdiv (.int i) (.int j) = some (.int (i / j)) := if_pos ⟨h0, h1⟩
theorem dMod_int {i j : Int} (h0 : 0 < j) : dMod (.int i) (.int j) = some (.int (i % j)) := if_pos h0
@[simp] theorem dLt_int {i j : Int} : dLt (.int i) (.int j) = some (.bl (decide (i < j))) := rfl
@[simp] theorem dLe_int {i j : Int} : dLe (.int i) (.int j) = some (.bl (decide (i ≤ j))) := rfl
@[simp] theorem dGt_int {i j : Int} : dGt (.int i) (.int j) = some (.bl (decide (j < i))) := rfl
@[simp] theorem dGe_int {i j : Int} : dGe (.int i) (.int j) = some (.bl (decide (j ≤ i))) := rfl
@[simp] theorem dEq_int {i j : Int} : dEq (.int i) (.int j) = some (.bl (decide (i = j))) := by
  simp [dEq, toP, PySem.SeqAt.shaped, PySem.PyData.canLay0, PySem.PyData.depth, PySem.PyData.eqv]
  by_cases h : i = j <;> simp [h]
/-- comparable data of depth at most n -/
def Sh (n : Nat) (d : D) : Prop := ∃ p, toP d = some p ∧ p.canLay0 = true ∧ p.depth ≤ n
mutual
theorem eqv_refl : ∀ (p : PySem.PyData), p.canLay0 = true → PySem.PyData.eqv p p = true
  | .none, _ => by simp [PySem.PyData.eqv]
  | .bool _, _ => by simp [PySem.PyData.eqv]
  | .int _, _ => by simp [PySem.PyData.eqv]
  | .str _, _ => by simp [PySem.PyData.eqv]
  | .list xs, h => by
    rw [PySem.PyData.eqv]
    exact eqvAll_refl xs (by simpa [PySem.PyData.canLay0] using h)
  | .tuple xs, h => by
    rw [PySem.PyData.eqv]
    exact eqvAll_refl xs (by simpa [PySem.PyData.canLay0] using h)
  | .dict _, h => by simp [PySem.PyData.canLay0] at h
theorem eqvAll_refl : ∀ (xs : List PySem.PyData), PySem.PyData.canLayAll0 xs = true → PySem.PyData.eqvAll xs xs = true
  | [], _ => by simp [PySem.PyData.eqvAll]
  | x :: xs, h => by
    have h' : x.canLay0 = true ∧ PySem.PyData.canLayAll0 xs = true := by simpa [PySem.PyData.canLayAll0] using h
    simp [PySem.PyData.eqvAll, eqv_refl x h'.1, eqvAll_refl xs h'.2]
end
theorem dEq_refl {d : D} (h : Sh 64 d) : dEq d d = some (.bl true) := by
  obtain ⟨p, h1, h2, h3⟩ := h
  simp [dEq, h1, PySem.SeqAt.shaped, h2, h3, eqv_refl p h2]
theorem dNe_refl {d : D} (h : Sh 64 d) : dNe d d = some (.bl false) := by
  obtain ⟨p, h1, h2, h3⟩ := h
  simp [dNe, h1, PySem.SeqAt.shaped, h2, h3, eqv_refl p h2]
theorem Sh.mono {n m : Nat} {d : D} (h : Sh n d) (l : n ≤ m) : Sh m d := by
  obtain ⟨p, h1, h2, h3⟩ := h
  exact ⟨p, h1, h2, Nat.le_trans h3 l⟩
theorem sh_int {i : Int} : Sh 0 (.int i) := ⟨.int i, rfl, by simp [PySem.PyData.canLay0], by simp [PySem.PyData.depth]⟩
theorem sh_str {x : Str} (h : PySem.PyData.strOk x = true) : Sh 0 (.str x) := ⟨.str x, rfl, by simpa [PySem.PyData.canLay0] using h, by simp [PySem.PyData.depth]⟩
theorem sh_all {n : Nat} : ∀ {ds : List D}, (∀ d ∈ ds, Sh n d) → ∃ ps, toPs ds = some ps ∧ PySem.PyData.canLayAll0 ps = true ∧ PySem.PyData.depthAll ps ≤ n
  | [], _ => ⟨[], rfl, by simp [PySem.PyData.canLayAll0], by simp [PySem.PyData.depthAll]⟩
  | d :: ds, h => by
    obtain ⟨p, h1, h2, h3⟩ := h d List.mem_cons_self
    obtain ⟨ps, q1, q2, q3⟩ := sh_all (ds := ds) fun e he => h e (List.mem_cons_of_mem _ he)
    exact ⟨p :: ps, by simp [toPs, h1, q1], by simp [PySem.PyData.canLayAll0, h2, q2], by simp [PySem.PyData.depthAll]; omega⟩
theorem sh_lst {n : Nat} {ds : List D} (h : ∀ d ∈ ds, Sh n d) : Sh (n + 1) (.lst ds) := by
  obtain ⟨ps, q1, q2, q3⟩ := sh_all h
  exact ⟨.list ps, by simp [toP, q1], by simpa [PySem.PyData.canLay0] using q2, by simp [PySem.PyData.depth]; omega⟩
theorem sh_tup {n : Nat} {ds : List D} (h : ∀ d ∈ ds, Sh n d) : Sh (n + 1) (.tup ds) := by
  obtain ⟨ps, q1, q2, q3⟩ := sh_all h
  exact ⟨.tuple ps, by simp [toP, q1], by simpa [PySem.PyData.canLay0] using q2, by simp [PySem.PyData.depth]; omega⟩
@[simp] theorem cLen_lst {ds : List D} : cLen [.lst ds] = some (.int ds.length) := rfl
@[simp] theorem cAbs_int {i : Int} : cAbs [.int i] = some (.int (if i < 0 then -i else i)) := rfl
@[simp] theorem cInt_int {i : Int} : cInt [.int i] = some (.int i) := rfl
@[simp] theorem cInt_bl {b : Bool} : cInt [.bl b] = some (.int (if b then 1 else 0)) := rfl
@[simp] theorem cList_lst {ds : List D} : cList [.lst ds] = some (.lst ds) := rfl
/-- a loop by an invariant -/
theorem loop_inv {T : Tgt} {body : SS} (P : Nat → En → Prop) : ∀ (ds : List D) (i : Nat) (env : En), P i env → (∀ j d env, ds[j]? = some d → P (i + j) env → ∃ e e', bindT T d env = some e ∧ body e = .nx e' ∧ P (i + j + 1) e') →
    ∃ e', loopF T body ds env = .nx e' ∧ P (i + ds.length) e'
  | [], i, env, h, _ => ⟨env, rfl, h⟩
  | d :: ds, i, env, h, hs => by
    obtain ⟨e, e1, h1, h2, h3⟩ := hs 0 d env rfl h
    obtain ⟨e', h4, h5⟩ := loop_inv P ds (i + 1) e1 h3 fun j d env hj hp => by
      obtain ⟨e, e', a1, a2, a3⟩ := hs (j + 1) d env (by simpa using hj) (by rw [show i + (j + 1) = i + 1 + j by omega]; exact hp)
      exact ⟨e, e', a1, a2, by rw [show i + 1 + j + 1 = i + (j + 1) + 1 by omega]; exact a3⟩
    refine ⟨e', ?_, by rw [List.length_cons, show i + (ds.length + 1) = i + 1 + ds.length by omega]; exact h5⟩
    rw [loopF_cons, h1]
    show stepL (body e) _ = _
    rw [h2]
    exact h4
/-- a comprehension that keeps all -/
theorem compL_map {T : Tgt} {env : En} {fe : SE} (g : D → D) : ∀ (ds : List D), (∀ d ∈ ds, ∃ e, bindT T d env = some e ∧ fe e = .ok (g d)) → compL T env (sC (.bl true)) fe ds = some (ds.map g)
  | [], _ => rfl
  | d :: ds, h => by
    obtain ⟨e, h1, h2⟩ := h d List.mem_cons_self
    show (match bindT T d env with
      | none => none
      | some e => match (R.ok (.bl true)) with
        | .ok (.bl true) => (match fe e with
          | .ok x => (compL T env (sC (.bl true)) fe ds).map fun r => x :: r
          | _ => none)
        | .ok (.bl false) => compL T env (sC (.bl true)) fe ds
        | _ => none) = _
    rw [h1]
    simp only
    rw [h2, compL_map g ds fun d hd => h d (List.mem_cons_of_mem _ hd)]
    rfl
/-- .. with a test -/
theorem compL_filter {T : Tgt} {env : En} {ft fe : SE} (p : D → Bool) (g : D → D) : ∀ (ds : List D), (∀ d ∈ ds, ∃ e, bindT T d env = some e ∧ ft e = .ok (.bl (p d)) ∧ (p d = true → fe e = .ok (g d))) → compL T env ft fe ds = some ((ds.filter p).map g)
  | [], _ => rfl
  | d :: ds, h => by
    obtain ⟨e, h1, h2, h3⟩ := h d List.mem_cons_self
    have ih := compL_filter p g ds fun d hd => h d (List.mem_cons_of_mem _ hd)
    unfold compL
    rw [h1]
    simp only [h2]
    cases hp : p d with
    | true => simp [h3 hp, ih, hp]
    | false => simp [ih, hp]
end Ps

namespace Ps
open PySem L2
open PySem.Spec PyProof.Rows
/-! ### methods of own classes -/
/-- how a call o.x(es) is read -/
def CallsM (X : Cx) (o : Expr) (x : Str) (es : List Expr) (apos pos : Pos) (pl : Sem Bool) : Prop :=
  eval (.Call (.Attribute o x apos) es [] pos) X.env = (eval o X.env >>= fun ov => standAt apos.atName >>= fun _ => holding [ov] (getMethod ov x pl) >>= fun r => callWith pos r.1 r.2 (backTo pos (starEach es X.env)) (backToKw pos (keywordEach [] X.env)))
section
variable {X : Cx} {ct : Nat → Addr} {W : WX} {o e : Expr} {es : List Expr} {f : SE} {fs : SA} {pos apos : Pos} {pl : Sem Bool} {k j c : Nat} {x : Str} {fa : Addr} {fr : Bool} {m : List D → R} {ms : List Bool}
def isObjD (c : Nat) : D → Bool
  | .obj c2 _ => c2 == c
  | _ => false
def sMeth (c : Nat) (m : List D → R) (f : SE) (fs : SA) : SE := fun env => bnd (f env) fun d => if isObjD c d then bndA (fs env) fun ds => m (d :: ds) else .st
/-- the receiver, as its class's instance -/
theorem recv {K : PySem.W.Frag} {F H : Hp} {d : D} {v : V} (hx : x ∉ clsF c) (hd : isObjD c d = true) (r : RepB K ct F H d v) : ∃ a dx fvs, v = .ref a ∧ H a = some (.ins (ct c) dx fvs) ∧ fvs.lookup x = none := by
  cases d <;> first | (cases hd; done) | skip
  rename_i c2 gs
  cases (eq_of_beq hd : c2 = c)
  obtain ⟨a, dx, fvs, rv, ea, hn, _⟩ := r
  refine ⟨a, dx, fvs, rv, ea, Option.eq_none_iff_forall_ne_some.mpr fun v q => hx (hn x v q)⟩
theorem e_meth (c : Nat) (hc : Cls X.K (ct c)) (hx : x ∉ clsF c) (hm : Meth X.K (ct c) x fa) (cal : Cal X.prog X.w X.K X.mg X.base k fa (spP X.K ct (true :: ms) fr m)) (tk : Takes X W) (hr : Room j X.A) (hk : k ≤ j) (ho : PE X o (EB X.K ct W f)) (ha : PA X (e :: es) (tA X.K ct W ms fs))
    (hst : starEach (e :: es) X.env = (false, eval e X.env) :: starEach es X.env := by rfl) (hpl : (backTo pos (starEach es X.env)).any (·.1) = false := by rfl) (ht : CallsM X o x (e :: es) apos pos pl := by rfl) :
    PE X (.Call (.Attribute o x apos) (e :: es) [] pos) (tM X.K ct W (mF X.K ct fr) (sMeth c m f fs)) := by
  obtain ⟨⟨fd, ps, F, b⟩, _⟩ := cal
  constructor
  rintro pins s σ H Q I ⟨env, F0, E, h⟩
  refine PySem.W.methodCall_KW (pl := pl) (thn (ho.run pins s σ H (fun v H1 => ∃ F1 d, f env = .ok d ∧ Gr F0 H F1 H1 ∧ RepB X.K ct F1 H1 d v) I ⟨env, F0, E, ?_⟩) fun u s1 w => ?_) ht
  · unfold sMeth at h
    cases q : f env with
    | ok d => exact fun v F1 H1 g r => ⟨F1, d, rfl, g, r⟩
    | er c2 fs2 => rw [q] at h; exact h
    | st => rw [q] at h; exact h
  · obtain ⟨v, H1, I1, rv, F1, d, q, g, r⟩ := w
    have h : Fin X.K ct W (mF X.K ct fr) F0 H σ (if isObjD c d then bndA (fs env) fun ds => m (d :: ds) else .st) Q := by
      unfold sMeth at h; rw [q] at h; exact h
    cases hd : isObjD c d with
    | false => rw [hd] at h; exact h.elim
    | true =>
      rw [hd] at h
      obtain ⟨a, dx, fvs, rfl, ea, l⟩ := recv hx hd r
      cases (show u = Value.ref a from rv)
      have h1 := fin_after (M := mF X.K ct fr) g (fun _ _ _ _ z => mF_ok _ _ _ _ _ _ g.h z) h
      have args : tA X.K ct W ms fs σ H1 fun vs H2 => spP X.K ct (true :: ms) fr m (.ref a :: vs) H2 Q (WE W σ) := fin_bindA (k := fun ds => m (d :: ds)) (E.gr g) h1 fun ds vs F2 H2 g2 r2 E2 h2 => by
        refine ⟨F2, d :: ds, E2.ex, ⟨d, ds, _, vs, rfl, rfl, RepB.gr g2 r, r2⟩, ?_⟩
        show (match m (d :: ds) with | .ok _ => _ | .er _ _ => _ | .st => _)
        cases z : m (d :: ds) with
        | ok d2 => rw [z] at h2; exact fun v F3 H3 g3 y => h2 v F3 H3 (g2.trans g3) (mF_ok _ _ _ _ _ _ g2.h y)
        | er c2 fs2 => rw [z] at h2; exact fun dx F3 H3 g3 y => h2 dx F3 H3 (g2.trans g3) y
        | st => rw [z] at h2; exact h2
      refine getmeth_ok I1 ea hc hm l (PySem.W.callWith_K (first := [.ref a]) (h₀ := X.base) I.ok.mod.kin hm.kp (thn (ha.run pos pins s1 σ H1 _ I1 args) fun us s2 w2 => ?_) hst hpl)
      obtain ⟨vs, H2, I2, r2, q2⟩ := w2
      exact ⟨I2.kIn, run_fnSD (us := .ref a :: us) (vs := .ref a :: vs) (ds := []) (dvs := []) F (hr.mono hk) b .nil (passAt tk σ) I2 (.cons rfl r2) ((List.append_nil (V.ref a :: vs)).symm ▸ q2)⟩
theorem e_meth0 (c : Nat) (hc : Cls X.K (ct c)) (hx : x ∉ clsF c) (hm : Meth X.K (ct c) x fa) (cal : Cal X.prog X.w X.K X.mg X.base k fa (spP X.K ct [true] fr m)) (tk : Takes X W) (hr : Room j X.A) (hk : k ≤ j) (ho : PE X o (EB X.K ct W f)) (ht : CallsM X o x [] apos pos pl := by rfl) :
    PE X (.Call (.Attribute o x apos) [] [] pos) (tM X.K ct W (mF X.K ct fr) (sMeth c m f aNil)) := by
  obtain ⟨⟨fd, ps, F, b⟩, _⟩ := cal
  constructor
  rintro pins s σ H Q I ⟨env, F0, E, h⟩
  refine PySem.W.methodCall_KW (pl := pl) (thn (ho.run pins s σ H (fun v H1 => ∃ F1 d, f env = .ok d ∧ Gr F0 H F1 H1 ∧ RepB X.K ct F1 H1 d v) I ⟨env, F0, E, ?_⟩) fun u s1 w => ?_) ht
  · unfold sMeth at h
    cases q : f env with
    | ok d => exact fun v F1 H1 g r => ⟨F1, d, rfl, g, r⟩
    | er c2 fs2 => rw [q] at h; exact h
    | st => rw [q] at h; exact h
  · obtain ⟨v, H1, I1, rv, F1, d, q, g, r⟩ := w
    have h : Fin X.K ct W (mF X.K ct fr) F0 H σ (if isObjD c d then m [d] else .st) Q := by
      unfold sMeth at h; rw [q] at h; exact h
    cases hd : isObjD c d with
    | false => rw [hd] at h; exact h.elim
    | true =>
      rw [hd] at h
      obtain ⟨a, dx, fvs, rfl, ea, l⟩ := recv hx hd r
      cases (show u = Value.ref a from rv)
      have E1 := E.gr g
      have goal : spP X.K ct [true] fr m [.ref a] H1 Q (WE W σ) := by
        refine ⟨F1, [d], E1.ex, ⟨d, [], _, [], rfl, rfl, r, rfl, rfl⟩, ?_⟩
        show (match m [d] with | .ok _ => _ | .er _ _ => _ | .st => _)
        have h : Fin X.K ct W (mF X.K ct fr) F0 H σ (m [d]) Q := h
        cases z : m [d] with
        | ok d2 => rw [z] at h; exact fun v F3 H3 g3 y => h v F3 H3 (g.trans g3) (mF_ok _ _ _ _ _ _ g.h y)
        | er c2 fs2 => rw [z] at h; exact fun dx F3 H3 g3 y => h dx F3 H3 (g.trans g3) y
        | st => rw [z] at h; exact h
      exact getmeth_ok I1 ea hc hm l (PySem.W.callWith_K0 (first := [.ref a]) I1.kIn hm.kp (run_fnSD (us := [.ref a]) (vs := [.ref a]) (ds := []) (dvs := []) F (hr.mono hk) b .nil (passAt tk σ) I1 (.cons rfl .nil) goal))
end
end Ps

namespace Ps
open PySem L2
open PySem.Spec PyProof.Rows
def sEnum (f : SE) : SE := fun env => bnd (f env) fun d => match d with
  | .lst ds => .ok (.lst (enumD 0 ds))
  | _ => .st
section
variable {X : Cx} {ct : Nat → Addr} {W : WX} {e : Expr} {f : SE} {O : OW} {p pos tpos : Pos} {elts : List Expr} {kk : Nat}
theorem i_enum {m : Bool} (hO : ∀ env σ a, O env σ a → Owns env σ a) (fit : Fit m O) (hg : Gl X "enumerate") (hm : X.mg "enumerate" = none) (he : PE X e (tM X.K ct W (mX X.K ct m) f)) (na : starEach [e] X.env = (false, eval e X.env) :: starEach [] X.env := by rfl) :
    PI X (.Tuple elts kk tpos) (.Call (.Name "enumerate" p) [e] [] pos) (tI X.K ct W O (sEnum f)) := by
  refine (pi_enum hg hm (pa_cons he pa_nil na) na).imp fun σ H RR ⟨env, F, E, h⟩ => ⟨env, F, E, ?_⟩
  unfold sEnum at h
  cases q : f env with
  | er c fs => rw [q] at h; exact h
  | st => rw [q] at h; exact h.elim
  | ok d =>
    rw [q] at h
    cases d <;> first | exact h.elim | skip
    rename_i ds
    intro v F' H' g r
    have h : ∀ J F' H', Gr F H F' H' → ItOk X.K ct J (enumD 0 ds) (O env σ) F' H' → RR J H' := h
    have rb : RepB X.K ct F' H' (.lst ds) v := by
      cases m with
      | true => exact r
      | false => exact Rep.b g.e r
    obtain ⟨a, vs, rfl, h1, h2⟩ := rb
    have kp := keepL hO fit (E.gr g) rfl r h1 (fun hm => by
      subst hm
      obtain ⟨b, us, e1, e2, _⟩ := (show Rep X.K ct F' (.lst ds) (.ref a) from r)
      cases e1
      have := g.e _ _ e2
      rw [h1] at this; cases this; exact e2)
    exact ⟨a, vs, rfl, SqL.of h1, h _ F' H' g (itok_enum (fun H2 k => SqL.of (kp H2 k)) h2)⟩
theorem e_gint {x : Str} {i : Int} (h : ∃ t, X.mg x = some (.int i t)) (hg : Gl X x) (hdb : (x == ("__debug__" : Str)) = false := by decide) : PE X (.Name x pos) (ER X.K ct W (sC (.int i))) := by
  obtain ⟨t, h⟩ := h
  exact e_glob hg h (v := .int i) ⟨t, rfl⟩ rfl hdb
theorem e_gstr {x y : Str} (h : ∃ t, X.mg x = some (.str y t)) (hg : Gl X x) (hdb : (x == ("__debug__" : Str)) = false := by decide) : PE X (.Name x pos) (ER X.K ct W (sC (.str y))) := by
  obtain ⟨t, h⟩ := h
  exact e_glob hg h (v := .str y) ⟨t, rfl⟩ rfl hdb
/-! ### xs[::-1] -/
theorem Reps.rev {K : PySem.W.Frag} {F : Hp} : ∀ {ds : List D} {vs : List V}, Reps K ct F ds vs → Reps K ct F ds.reverse vs.reverse
  | [], _, h => by rw [show _ = [] from h]; rfl
  | d :: ds, _, h => by
    obtain ⟨v, r, rfl, e2, e3⟩ := h
    rw [List.reverse_cons, List.reverse_cons]
    exact Reps.append (Reps.rev e3) (Reps.one e2)
def sRev (f : SE) : SE := fun env => bnd (f env) fun d => match d with
  | .lst ds => .ok (.lst ds.reverse)
  | _ => .st
theorem e_rev {k : Nat} {p1 p2 p3 : Pos} (he : PE X e (EB X.K ct W f)) : PE X (.Subscript e (.Slice none none (some (.UnaryOp .USub (.Constant (.int 1) k p1) p2)) p3) pos) (EN X.K ct W (sRev f)) := by
  refine (pe_revL he).imp fun σ H Q ⟨env, F, E, h⟩ => ?_
  refine fin_bind E h rfl fun d v F1 H1 e1 g1 r1 E1 h => ?_
  cases d <;> first | exact h.elim | skip
  rename_i ds
  obtain ⟨a, vs, rfl, h1, h2⟩ := r1
  exact ⟨a, vs, rfl, SqL.of h1, fun p hp => h _ F1 _ (g1.trans (Gr.own E1.ex hp)) ⟨p, rfl, Ex.free g1.h hp, Ex.free E1.ex hp, _, upd_same, Reps.rev h2⟩⟩
end
/-! ### d.get(k), d.get(k, x) -/
def dGet2 (d k z : D) : Option D := match d with
  | .dk kvs => (keyD k).map fun k => (valD kvs k).getD z
  | .dt kvs => (match k with
    | .tup ks => (keysD ks).map fun k => (valD kvs k).getD z
    | _ => none)
  | _ => none
def sGet2 (f g h : SE) : SE := fun env => bnd (f env) fun d => bnd (g env) fun k => bnd (h env) fun z => ofO (dGet2 d k z)
section
variable {X : Cx} {ct : Nat → Addr} {W : WX} {o e x : Expr} {f g h : SE} {apos cpos : Pos}
/-- a dict's value under a key, told of the data -/
theorem get_rep {K : PySem.W.Frag} {F H : Hp} {d k z w : D} {a : Addr} {kv zv : V} (ex : Ex F H) (rd : RepB K ct F H d (.ref a)) (rk : Rep K ct F k kv) (rz : Rep K ct F z zv) (q : dGet2 d k z = some w) : ∃ r, DGet H a kv r ∧ Rep K ct F w (r.getD zv) := by
  cases d <;> first | (cases q; done) | skip
  · rename_i kvs
    obtain ⟨kk, hk, rfl⟩ := Option.map_eq_some_iff.mp (show (keyD k).map (fun k => (valD kvs k).getD z) = some w from q)
    obtain ⟨b, vs, e1, h1, h2⟩ := rd
    cases e1
    refine ⟨_, dget_k h1 (Rep.mono (Ex.le ex) _ _ rk) hk, ?_⟩
    rcases repK_val kk h2 with ⟨q1, q2⟩ | ⟨d', v, q1, q2, q3⟩ <;> rw [q1, q2]
    · exact rz
    · exact q3
  · rename_i kvs
    cases k <;> first | (cases q; done) | skip
    rename_i ks
    obtain ⟨kk, hk, rfl⟩ := Option.map_eq_some_iff.mp (show (keysD ks).map (fun k => (valD kvs k).getD z) = some w from q)
    obtain ⟨b, vs, e1, h1, h2⟩ := rd
    cases e1
    refine ⟨_, dget_t h1 (Rep.mono (Ex.le ex) _ _ rk) hk, ?_⟩
    rcases repT_val kk h2 with ⟨q1, q2⟩ | ⟨d', v, q1, q2, q3⟩ <;> rw [q1, q2]
    · exact rz
    · exact q3
theorem isD_of {K : PySem.W.Frag} {F H : Hp} {d k z w : D} {v : V} (rd : RepB K ct F H d v) (q : dGet2 d k z = some w) : ∃ a, v = .ref a ∧ IsD H a := by
  cases d <;> first | (cases q; done) | skip
  · obtain ⟨a, vs, e1, h1, _⟩ := rd; exact ⟨a, e1, .inl ⟨_, h1⟩⟩
  · obtain ⟨a, vs, e1, h1, _⟩ := rd; exact ⟨a, e1, .inr ⟨_, h1⟩⟩
def isDict : D → Bool
  | .dk _ => true | .dt _ => true | _ => false
theorem isDict_of {K : PySem.W.Frag} {F H : Hp} {d : D} {v : V} (rd : RepB K ct F H d v) (q : isDict d = true) : ∃ a, v = .ref a ∧ IsD H a := by
  cases d <;> first | (cases q; done) | skip
  · obtain ⟨a, vs, e1, h1, _⟩ := rd; exact ⟨a, e1, .inl ⟨_, h1⟩⟩
  · obtain ⟨a, vs, e1, h1, _⟩ := rd; exact ⟨a, e1, .inr ⟨_, h1⟩⟩
def sGetD (f g h : SE) : SE := fun env => bnd (f env) fun d => if isDict d then bnd (g env) fun k => bnd (h env) fun z => ofO (dGet2 d k z) else .st
theorem e_get2 (hu : X.A.units + 1 < cLine) (ho : PE X o (EB X.K ct W f)) (hk : PE X e (ER X.K ct W g)) (hx : PE X x (ER X.K ct W h)) (m : M2 X o "get" apos e x cpos := by exact ⟨rfl, rfl, rfl, rfl⟩) : PE X (.Call (.Attribute o "get" apos) [e, x] [] cpos) (ER X.K ct W (sGetD f g h)) := by
  refine (pe_dget2 hu ho hk hx m).imp fun σ H Q ⟨env, F, E, hh⟩ => ?_
  refine fin_bind E hh rfl fun d v F1 H1 e1 g1 r1 E1 h1 => ?_
  cases hd : isDict d with
  | false => rw [hd] at h1; exact h1.elim
  | true =>
    rw [hd] at h1
    obtain ⟨a, rfl, hI⟩ := isDict_of (ct := ct) (show RepB X.K ct F1 H1 d v from r1) hd
    refine ⟨a, rfl, hI, ?_⟩
    have h2 : Fin X.K ct W (mR X.K ct) F1 H1 σ (bnd (g env) fun k => bnd (h env) fun z => ofO (dGet2 d k z)) Q := fin_after g1 (fun _ _ _ _ m => m) h1
    refine fin_bind E1 h2 rfl fun k kv F2 H2 e2 g2 r2 E2 h3 => ?_
    have h4 := fin_after (M := mR X.K ct) g2 (fun _ _ _ _ m => m) h3
    refine fin_bind E2 h4 rfl fun z zv F3 H3 e3 g3 r3 E3 h5 => ?_
    cases q : dGet2 d k z with
    | none => rw [q] at h5; exact h5.elim
    | some w =>
      rw [q] at h5
      have rd : RepB X.K ct F3 H3 d (.ref a) := RepB.gr g3 (RepB.gr g2 r1)
      have rk : Rep X.K ct F3 k kv := Rep.mono (Ex.le g3.f) _ _ r2
      obtain ⟨r, dg, rw'⟩ := get_rep E3.ex rd rk r3 q
      exact ⟨r, dg, h5 _ F3 H3 g3 rw'⟩
end
/-! ### a op1 b op2 c -/
def sChain (o1 o2 : D → D → Option D) (f g h : SE) : SE := fun env => bnd (f env) fun x => bnd (g env) fun y => match o1 x y with
  | some (.bl true) => bnd (h env) fun z => ofO (o2 y z)
  | some (.bl false) => .ok (.bl false)
  | _ => .st
section
variable {X : Cx} {ct : Nat → Addr} {W : WX} {a b c : Expr} {f g h : SE} {pos : Pos} {op op' : CmpOp} {r r' : R2} {o1 o2 : D → D → Option D}
theorem e_chain (ho : OpR X (compareOp op) r) (ho' : OpR X (compareOp op') r') (hs : Sp2 X.K ct false false (mR X.K ct) r o1) (hs' : Sp2 X.K ct false false (mR X.K ct) r' o2) (ha : PE X a (ER X.K ct W f)) (hb : PE X b (ER X.K ct W g)) (hc : PE X c (ER X.K ct W h)) (hm : lastMarks [op, op'] [b, c] = false := by with_unfolding_all rfl) :
    PE X (.Compare a [op, op'] [b, c] pos) (ER X.K ct W (sChain o1 o2 f g h)) := by
  refine (pe_chain ho ho' ha hb hc hm).imp fun σ H Q ⟨env, F, E, hh⟩ => ?_
  refine fin_bind E hh rfl fun x xv F1 H1 e1 g1 r1 E1 h1 => ?_
  have h2 : Fin X.K ct W (mR X.K ct) F1 H1 σ (bnd (g env) fun y => match o1 x y with | some (.bl true) => bnd (h env) fun z => ofO (o2 y z) | some (.bl false) => .ok (.bl false) | _ => .st) Q := fin_after g1 (fun _ _ _ _ m => m) h1
  refine fin_bind E1 h2 rfl fun y yv F2 H2 e2 g2 r2 E2 h3 => ?_
  have h4 := fin_after (M := mR X.K ct) g2 (fun _ _ _ _ m => m) h3
  cases q : o1 x y with
  | none => simp only [q] at h4; exact h4.elim
  | some z =>
    simp only [q] at h4
    cases z <;> first | exact h4.elim | skip
    rename_i k
    refine hs F2 H2 xv yv x y (.bl k) _ E2.ex (show Rep X.K ct F2 x xv from Rep.mono (Ex.le g2.f) _ _ r1) r2 q fun v F3 H3 g3 m3 => ⟨k, m3, ?_⟩
    cases k with
    | false => exact h4 _ F3 H3 g3 rfl
    | true =>
      have h5 := fin_after (M := mR X.K ct) g3 (fun _ _ _ _ m => m) h4
      show tM X.K ct W (mR X.K ct) h σ H3 _
      refine fin_bind (E2.gr g3) h5 rfl fun z zv F4 H4 e4 g4 r4 E4 h6 => ?_
      cases q2 : o2 y z with
      | none => rw [q2] at h6; exact h6.elim
      | some w =>
        rw [q2] at h6
        exact hs' F4 H4 yv zv y z w _ E4.ex (show Rep X.K ct F4 y yv from Rep.mono (Ex.le (g3.trans g4).f) _ _ r2) r4 q2 fun v F5 H5 g5 m5 => h6 v F5 H5 (g4.trans g5) m5
end
end Ps

namespace Ps
open PySem L2
open PySem.Spec PyProof.Rows
/-! ### dict(..) of pairs, of a dict -/
def unPairs : List D → Option (List (Key × D))
  | [] => some []
  | .tup [k, v] :: ds => (keyD k).bind fun k => (unPairs ds).map fun r => (k, v) :: r
  | _ => none
def mergeD : List (Key × D) → List (Key × D) → List (Key × D)
  | kvs, [] => kvs
  | kvs, (k, v) :: r => mergeD (putD kvs k v) r
def cDict : List D → Option D
  | [.lst ds] => (unPairs ds).map fun kvs => .dk (mergeD [] kvs)
  | [.dk kvs] => some (.dk kvs)
  | _ => none
section
variable {K : PySem.W.Frag} {ct : Nat → Addr} {F H : Hp}
theorem repK_merge : ∀ {ks : List (Key × D)} {vs : List (Key × V)} {kvs : List (Key × D)} {us : List (Key × V)}, RepK K ct F kvs us → RepK K ct F ks vs → RepK K ct F (mergeD kvs ks) (mergeK us vs)
  | [], vs, kvs, us, h, q => by rw [show vs = [] from q]; exact h
  | (k, d) :: ks, vs, kvs, us, h, q => by
    obtain ⟨v, r, rfl, q1, q2⟩ := q
    exact repK_merge (kvs := putD kvs k d) (us := putK us k v) (repK_put q1 h) q2
theorem pairs_rep (ex : Ex F H) : ∀ {ds : List D} {vs : List V} {kvs : List (Key × D)}, Reps K ct F ds vs → unPairs ds = some kvs → ∃ (ps : List Addr) (us : List (Key × V)), vs = ps.map V.ref ∧ Paired (fun p kv => SqT K H p [kV kv.1, kv.2]) ps us ∧ RepK K ct F kvs us
  | [], vs, kvs, h, e => by cases e; exact ⟨[], [], h, .nil, rfl⟩
  | d :: ds, vs, kvs, h, e => by
    obtain ⟨v, r, rfl, h1, h2⟩ := h
    unfold unPairs at e
    split at e <;> first | (cases e; done) | skip
    · rename_i heq; cases heq
    · rename_i k w ds' heq
      cases heq
      obtain ⟨kk, e1, e2⟩ := Option.bind_eq_some_iff.mp e
      obtain ⟨r', e3, rfl⟩ := Option.map_eq_some_iff.mp e2
      obtain ⟨ps, us, rfl, p1, p2⟩ := pairs_rep ex h2 e3
      obtain ⟨a, ws, rfl, t1, kv, w2, rfl, t2, wv, w3, rfl, t3, t4⟩ := h1
      cases (show w3 = [] from t4)
      have := rep_key t2 e1
      subst this
      exact ⟨a :: ps, (kk, wv) :: us, rfl, .cons (SqT.of (ex _ _ t1)) p1, wv, us, rfl, t3, p2⟩
def rDict (K : PySem.W.Frag) : List V → Hp → VK → Prop := fun xs H Q => (∃ (a : Addr) (ps : List Addr) (kvs : List (Key × V)), xs = [.ref a] ∧ SqL K H a (ps.map V.ref) ∧ Paired (fun p kv => SqT K H p [kV kv.1, kv.2]) ps kvs ∧ ∀ p, H p = none → Q (.ref p) (upd H p (.dK (mergeK [] kvs)))) ∨
  ∃ (a : Addr) (kvs : List (Key × V)), xs = [.ref a] ∧ Rd H a (.dK kvs) ∧ ∀ p, H p = none → Q (.ref p) (upd H p (.dK kvs))
theorem spc_dict : SpC K ct [true] (mN K ct) (rDict K) cDict := by
  intro F H vs ds z Q ex hA hz hQ
  obtain ⟨d, v, rfl, rfl, h⟩ := args1 hA
  replace h : RepB K ct F H d v := h
  cases d <;> first | (cases hz; done) | skip
  · rename_i ds
    obtain ⟨kvs, e1, rfl⟩ := Option.map_eq_some_iff.mp (show (unPairs ds).map (fun kvs => D.dk (mergeD [] kvs)) = some z from hz)
    obtain ⟨a, vs, rfl, h1, h2⟩ := h
    obtain ⟨ps, us, rfl, p1, p2⟩ := pairs_rep ex h2 e1
    exact .inl ⟨a, ps, us, rfl, SqL.of h1, p1, fun p hp => hQ _ F _ (Gr.own ex hp) ⟨p, rfl, hp, Ex.free ex hp, _, upd_same, repK_merge (show RepK K ct F [] [] from rfl) p2⟩⟩
  · rename_i kvs
    cases hz
    obtain ⟨a, vs, rfl, h1, h2⟩ := h
    exact .inr ⟨a, vs, rfl, h1, fun p hp => hQ _ F _ (Gr.own ex hp) ⟨p, rfl, hp, Ex.free ex hp, _, upd_same, h2⟩⟩
end
section
variable {X : Cx} {ct : Nat → Addr} {W : WX} {a : Expr} {f : SE} {pos p : Pos}
theorem e_dict (hm : X.mg "dict" = none) (hg : Gl X "dict") (hc : X.calm = true) (ha : PE X a (EB X.K ct W f)) (na : starEach [a] X.env = (false, eval a X.env) :: starEach [] X.env := by rfl) : PE X (.Call (.Name "dict" p) [a] [] pos) (EN X.K ct W (sCall cDict (aCons f aNil))) :=
  e_callTy ((call_dictP hc).or call_dictD) mN_ok spc_dict hg hm (by decide +kernel) (a_cons (m := true) ha a_nil na) (he := na) (hpl := rfl)
end
end Ps

namespace Ps
open PySem PySem.Spec PyProof.Rows L2

/-- a slot that isn't read any more -/
def ssFgt (i : Nat) : SS := fun env => match setSl env i .no with
  | some e => .nx e
  | none => .st
section
variable {X : Cx} {ct : Nat → Addr} {W : WX} {rest : List Stmt} {g : SS}
theorem fgt_ok {K : PySem.W.Frag} {F H : Hp} {env e : En} {σ : L2.St} {i : Nat} (E : EnvOk K ct F H env σ) (h : setSl env i .no = some e) : EnvOk K ct F H e σ ∧ Sx F H env σ F H e σ := by
  obtain ⟨t, h1, h2, rfl⟩ := setSl_some h
  obtain ⟨hlt, _⟩ := List.getElem?_eq_some_iff.mp h1
  have hl : i < σ.length := by rw [← E.len]; exact hlt
  have e1 : σ.set i σ[i] = σ := List.set_getElem_self hl
  obtain ⟨E', S⟩ := set_ok (s := .no) (x := σ[i]) E h1 h2 rfl (fun _ z => nomatch z) (fun _ z => nomatch z)
  rw [e1] at E' S
  exact ⟨E', S⟩
theorem p_fgt (i : Nat) (h : PSs X rest (sOf X.K ct W g)) : PSs X rest (sOf X.K ct W (ssSeq (ssFgt i) g)) := by
  refine PSs.imp h fun D σ H ⟨env, F, E, q⟩ => ?_
  unfold ssSeq ssFgt at q
  cases e : setSl env i .no with
  | none => rw [e] at q; exact q.elim
  | some env' =>
    rw [e] at q
    obtain ⟨E', S⟩ := fgt_ok E e
    exact ⟨env', F, E', finS_after S q⟩
end
end Ps

namespace Ps
open PySem PySem.Spec PyProof.Rows L2

/-! ### walks over a dict: it is locked meanwhile -/
def DkO (vs : List (Key × V)) (o : HO) : Prop := o = .dK vs ∨ ∃ od, o = .frz od (.dK vs)
section
variable {K : PySem.W.Frag} {ct : Nat → Addr} {F H F' H' : Hp} {a : Addr} {vs : List (Key × V)} {o o' : HO} {env : En} {σ σ' : L2.St}
theorem DkO.ne {u : HO} (d : DkO vs o) (h : F a = some o) (h' : F a = some u) (n1 : u ≠ .dK vs) (n2 : ∀ od, u ≠ .frz od (.dK vs)) : False := by
  rw [h] at h'; cases h'
  rcases d with d | ⟨od, d⟩
  · exact n1 d
  · exact n2 od d
theorem le_swap (h : F a = some o) (d : DkO vs o) (d' : DkO vs o') : Le F (upd F a o') := by
  have key : ∀ (b : Addr) (u : HO), F b = some u → (u ≠ .dK vs) → (∀ od, u ≠ .frz od (.dK vs)) → upd F a o' b = some u := fun b u hb n1 n2 => by
    by_cases hba : b = a
    · subst hba; exact (d.ne h hb n1 n2).elim
    · rw [upd_ne hba]; exact hb
  have here : ∀ u, u = .dK vs → Rd (upd F a o') a u := fun u e => by
    subst e
    rcases d' with d' | ⟨od, d'⟩
    · subst d'; exact .inl upd_same
    · subst d'; exact .inr ⟨od, upd_same⟩
  refine ⟨fun b u nf hr => ?_, fun b _ hb => key b _ hb (fun z => nomatch z) (fun _ z => nomatch z), fun b _ hb => key b _ hb (fun z => nomatch z) (fun _ z => nomatch z), fun b _ _ _ hb => key b _ hb (fun z => nomatch z) (fun _ z => nomatch z), fun b _ _ hb => key b _ hb (fun z => nomatch z) (fun _ z => nomatch z), fun b _ hb => key b _ hb (fun z => nomatch z) (fun _ z => nomatch z)⟩
  by_cases hba : b = a
  · subst hba
    refine here u ?_
    rcases hr with hr | ⟨od, hr⟩
    · rw [h] at hr; cases hr
      rcases d with d | ⟨od, d⟩
      · exact d
      · exact (nf _ _ d).elim
    · rw [h] at hr; cases hr
      rcases d with d | ⟨od2, d⟩
      · cases d
      · cases d; rfl
  · rcases hr with hr | ⟨od, hr⟩
    · exact .inl (by rw [upd_ne hba]; exact hr)
    · exact .inr ⟨od, by rw [upd_ne hba]; exact hr⟩
theorem ex_swap (e : Ex F H) : Ex (upd F a o') (upd H a o') := fun b u hb => by
  by_cases hba : b = a
  · subst hba; rw [upd_same] at hb ⊢; exact hb
  · rw [upd_ne hba] at hb ⊢; exact e b u hb
theorem RepB.swap (hF : F a = some o) (hH : H a = some o) (d : DkO vs o) (d' : DkO vs o') : ∀ {x : D} {v : V}, RepB K ct F H x v → RepB K ct (upd F a o') (upd H a o') x v
  | .lst ds, v, h => by
    obtain ⟨b, us, e1, e2, e3⟩ := h
    exact ⟨b, us, e1, (le_swap hH d d').l _ _ e2, Reps.mono (le_swap hF d d') _ _ e3⟩
  | .dk ds, v, h => by
    obtain ⟨b, us, e1, e2, e3⟩ := h
    exact ⟨b, us, e1, (le_swap hH d d').rd _ _ (fun _ _ z => nomatch z) e2, RepK.mono (le_swap hF d d') _ _ e3⟩
  | .dt ds, v, h => by
    obtain ⟨b, us, e1, e2, e3⟩ := h
    exact ⟨b, us, e1, (le_swap hH d d').rd _ _ (fun _ _ z => nomatch z) e2, RepT.mono (le_swap hF d d') _ _ e3⟩
  | .obj c fs, v, h => by
    obtain ⟨b, dx, fvs, e1, e2, en, e3⟩ := h
    exact ⟨b, dx, fvs, e1, (le_swap hH d d').i _ _ _ _ e2, en, RepF.mono (le_swap hF d d') _ _ e3⟩
  | .non, _, h => h
  | .bl _, _, h => h
  | .int _, _, h => h
  | .str _, _, h => h
  | .tup _, _, h => Rep.mono (le_swap hF d d') _ _ h
  | .scr _, _, h => Rep.mono (le_swap hF d d') _ _ h
  | .exo _ _, _, h => Rep.mono (le_swap hF d d') _ _ h
theorem OwnAt.swap {p : Addr} (hF : F a = some o) (d : DkO vs o) (d' : DkO vs o') : ∀ {x : D}, OwnAt K ct F H p x → OwnAt K ct (upd F a o') (upd H a o') p x := fun {x} h => by
  have hp : p ≠ a := fun z => by subst z; have := h.free; rw [hF] at this; cases this
  have q1 : upd F a o' p = F p := upd_ne hp
  have q2 : upd H a o' p = H p := upd_ne hp
  cases x <;> first | exact h.elim | skip
  · obtain ⟨h1, us, h2, h3⟩ := h
    exact ⟨q1.trans h1, us, q2.trans h2, Reps.mono (le_swap hF d d') _ _ h3⟩
  · obtain ⟨h1, us, h2, h3⟩ := h
    exact ⟨q1.trans h1, us, q2.trans h2, RepK.mono (le_swap hF d d') _ _ h3⟩
  · obtain ⟨h1, us, h2, h3⟩ := h
    exact ⟨q1.trans h1, us, q2.trans h2, RepT.mono (le_swap hF d d') _ _ h3⟩
theorem EnvOk.swap (E : EnvOk K ct F H env σ) (hF : F a = some o) (d : DkO vs o) (d' : DkO vs o') : EnvOk K ct (upd F a o') (upd H a o') env σ where
  ex := ex_swap E.ex
  len := E.len
  sh := fun i x h => let ⟨v, e1, e2⟩ := E.sh i x h; ⟨v, e1, Rep.mono (le_swap hF d d') _ _ e2⟩
  ow := fun i x h => let ⟨p, e1, e2⟩ := E.ow i x h; ⟨p, e1, e2.swap hF d d'⟩
  bo := fun i x h => let ⟨v, e1, e2, e3⟩ := E.bo i x h; ⟨v, e1, RepB.swap hF (E.ex _ _ hF) d d' e2, e3⟩
  oo := fun i c fs gs h => by
    obtain ⟨p, dx, fvs, e1, e2, e3, e4, e5, e6, e7⟩ := E.oo i c fs gs h
    have hp : p ≠ a := fun z => by subst z; rw [hF] at e2; cases e2
    exact ⟨p, dx, fvs, e1, (upd_ne hp).trans e2, (upd_ne hp).trans e3, e4, e5, RepF.mono (le_swap hF d d') _ _ e6, e7⟩
  gh := fun i x h => let ⟨p, e1, e2⟩ := E.gh i x h; ⟨p, e1, e2.swap hF d d'⟩
  ln := fun i g h => by
    obtain ⟨p, b, d2, e1, e2, e3, e4, e5⟩ := E.ln i g h
    have hp : p ≠ a := fun z => by subst z; rw [hF] at e2; cases e2
    exact ⟨p, b, d2, e1, (upd_ne hp).trans e2, (upd_ne hp).trans e3, e4, e5⟩
  ap := E.ap
theorem exc_swap {dx : Option Addr} {fs : List (Str × D)} (h : F a = some o) (d : DkO vs o) (d' : DkO vs o') (x : ExcOk K ct F dx fs) : ExcOk K ct (upd F a o') dx fs := by
  rcases x with x | ⟨hne, b, fvs, h1, h2, h3⟩
  · exact .inl x
  · exact .inr ⟨hne, b, fvs, h1, (le_swap h d d').y _ _ h2, RepF.mono (le_swap h d d') _ _ h3⟩
/-- back from the lock -/
theorem Sr.un {od : Obj} (hF : F a = some (.dK vs)) (hH : H a = some (.dK vs)) (S : Sr (upd F a (.frz od (.dK vs))) (upd H a (.frz od (.dK vs))) env σ F' H') : Sr F H env σ (upd F' a (.dK vs)) (upd H' a (.dK vs)) where
  f := fun b u hb => by
    by_cases hba : b = a
    · subst hba; rw [upd_same]; rw [hF] at hb; exact hb
    · rw [upd_ne hba]; exact S.f b u (by rw [upd_ne hba]; exact hb)
  e := ex_swap S.e
  k := fun b u hb n => by
    by_cases hba : b = a
    · subst hba; rw [upd_same]; rw [hH] at hb; exact hb
    · rw [upd_ne hba]; exact S.k b u (by rw [upd_ne hba]; exact hb) n
  t := fun b u hb => by
    by_cases hba : b = a
    · subst hba; exact ⟨_, upd_same⟩
    · rw [upd_ne hba]; exact S.t b u (by rw [upd_ne hba]; exact hb)
  n := fun b u hb => by
    by_cases hba : b = a
    · subst hba; rw [upd_same] at hb; cases hb; exact .inl hF
    · rw [upd_ne hba] at hb
      rcases S.n b u hb with h | h | h
      · rw [upd_ne hba] at h; exact .inl h
      · rw [upd_ne hba] at h; exact .inr (.inl h)
      · exact .inr (.inr h)
theorem Sx.un {od : Obj} {e : En} (hF : F a = some (.dK vs)) (hH : H a = some (.dK vs)) (S : Sx (upd F a (.frz od (.dK vs))) (upd H a (.frz od (.dK vs))) env σ F' H' e σ') : Sx F H env σ (upd F' a (.dK vs)) (upd H' a (.dK vs)) e σ' where
  toSr := S.toSr.un hF hH
  o := fun p hp => by
    rcases S.o p hp with h | h
    · exact .inl h
    · by_cases hpa : p = a
      · subst hpa; rw [upd_same] at h; cases h
      · rw [upd_ne hpa] at h; exact .inr h
  b := S.b
  q := S.q
theorem Gr.un {od : Obj} (hF : F a = some (.dK vs)) (hH : H a = some (.dK vs)) (S : Gr (upd F a (.frz od (.dK vs))) (upd H a (.frz od (.dK vs))) F' H') : Gr F H (upd F' a (.dK vs)) (upd H' a (.dK vs)) where
  f := fun b u hb => by
    by_cases hba : b = a
    · subst hba; rw [upd_same]; rw [hF] at hb; exact hb
    · rw [upd_ne hba]; exact S.f b u (by rw [upd_ne hba]; exact hb)
  h := fun b u hb => by
    by_cases hba : b = a
    · subst hba; rw [upd_same]; rw [hH] at hb; exact hb
    · rw [upd_ne hba]; exact S.h b u (by rw [upd_ne hba]; exact hb)
  e := ex_swap S.e
  n := fun b u hb => by
    by_cases hba : b = a
    · subst hba; rw [upd_same] at hb; cases hb; exact .inl hF
    · rw [upd_ne hba] at hb
      rcases S.n b u hb with h | h
      · rw [upd_ne hba] at h; exact .inl h
      · rw [upd_ne hba] at h; exact .inr h
end
/-- the dict of slot i is locked -/
def LkAt (i : Nat) (σ : L2.St) (H : Hp) : Prop := ∃ d o vs, σ[i]? = some (some (.ref d)) ∧ H d = some (.frz o (.dK vs))
def isDkSl (env : En) (i : Nat) : Bool := match env[i]? with
  | some (.sh (.dk _)) => true
  | _ => false
def noErO : O → O
  | .er _ _ _ => .st
  | o => o
def noErR : R → R
  | .er _ _ => .st
  | o => o
/-- over the dict of slot i, which no error leaves -/
def ssLk (i : Nat) (g : SS) : SS := fun env => if isDkSl env i then noErO (g env) else .st
def sLk (i : Nat) (f : SE) : SE := fun env => if isDkSl env i then noErR (f env) else .st
section
variable {X : Cx} {ct : Nat → Addr} {W : WX}
theorem slot_dk {K : PySem.W.Frag} {F H : Hp} {env : En} {σ : L2.St} {i : Nat} (E : EnvOk K ct F H env σ) (h : isDkSl env i = true) : ∃ a vs, σ[i]? = some (some (.ref a)) ∧ Rd F a (.dK vs) := by
  unfold isDkSl at h
  split at h
  · rename_i kvs q
    obtain ⟨v, e1, a, us, e2, e3, e4⟩ := E.sh i _ q
    subst e2
    exact ⟨a, us, e1, e3⟩
  · cases h
theorem p_lockd (i : Nat) {st : Stmt} {g : SS} (h : PS X st (fun D σ H => LkAt i σ H ∧ sOf X.K ct W g D σ H)) : PS X st (sOf X.K ct W (ssLk i g)) := by
  refine ⟨fun pins s σ H D I ⟨env, F, E, q⟩ => ?_⟩
  unfold ssLk at q
  by_cases hk : isDkSl env i = true
  · rw [if_pos hk] at q
    obtain ⟨a, vs, e1, e2⟩ := slot_dk E hk
    rcases e2 with e2 | ⟨od, e2⟩
    · have hH := E.ex _ _ e2
      refine (ps_lock h).run pins s σ H D I ⟨a, .dK vs, hH, trivial, fun od => ⟨⟨a, od, vs, e1, upd_same⟩, env, upd F a (.frz od (.dK vs)), E.swap e2 (.inl rfl) (.inr ⟨od, rfl⟩), ?_⟩⟩
      have fr : ∀ {F' H' : Hp}, Ex (upd F a (.frz od (.dK vs))) F' → Ex F' H' → F' a = some (.frz od (.dK vs)) ∧ H' a = some (.frz od (.dK vs)) := fun f e => ⟨f a _ upd_same, e a _ (f a _ upd_same)⟩
      cases ho : g env with
      | er c fs e => rw [ho] at q; exact q.elim
      | st => rw [ho] at q; exact q.elim
      | nx e =>
        rw [ho] at q
        exact fun σ' F' H' S E' => ⟨(fr S.f S.e).2, q σ' _ _ (S.un e2 hH) (E'.swap (fr S.f S.e).1 (.inr ⟨od, rfl⟩) (.inl rfl))⟩
      | bk e =>
        rw [ho] at q
        exact fun σ' F' H' S E' => ⟨(fr S.f S.e).2, q σ' _ _ (S.un e2 hH) (E'.swap (fr S.f S.e).1 (.inr ⟨od, rfl⟩) (.inl rfl))⟩
      | ct e =>
        rw [ho] at q
        exact fun σ' F' H' S E' => ⟨(fr S.f S.e).2, q σ' _ _ (S.un e2 hH) (E'.swap (fr S.f S.e).1 (.inr ⟨od, rfl⟩) (.inl rfl))⟩
      | rt d =>
        rw [ho] at q
        exact fun v F' H' S r => ⟨(fr S.f S.e).2, q v _ _ (S.un e2 hH) (Rep.mono (le_swap (fr S.f S.e).1 (.inr ⟨od, rfl⟩) (.inl rfl)) _ _ r)⟩
      | rn d =>
        rw [ho] at q
        refine fun p F' H' S hp r => ⟨(fr S.f S.e).2, q p _ _ (S.un e2 hH) ?_ (r.swap (fr S.f S.e).1 (.inr ⟨od, rfl⟩) (.inl rfl))⟩
        rcases hp with hp | hp
        · by_cases hpa : p = a
          · subst hpa; rw [upd_same] at hp; cases hp
          · rw [upd_ne hpa] at hp; exact .inl hp
        · exact .inr hp
    · refine h.run pins s σ H D I ⟨⟨a, od, vs, e1, E.ex _ _ e2⟩, env, F, E, ?_⟩
      cases ho : g env <;> rw [ho] at q <;> first | exact q | exact q.elim
  · rw [if_neg hk] at q; exact q.elim
theorem e_lockd (i : Nat) {e : Expr} {f : SE} (h : PE X e (fun σ H Q => LkAt i σ H ∧ EN X.K ct W f σ H Q)) : PE X e (EN X.K ct W (sLk i f)) := by
  refine ⟨fun pins s σ H Q I ⟨env, F, E, q⟩ => ?_⟩
  unfold sLk at q
  by_cases hk : isDkSl env i = true
  · rw [if_pos hk] at q
    obtain ⟨a, vs, e1, e2⟩ := slot_dk E hk
    rcases e2 with e2 | ⟨od, e2⟩
    · have hH := E.ex _ _ e2
      refine (pe_lock h).run pins s σ H Q I ⟨a, .dK vs, hH, trivial, fun od => ⟨⟨a, od, vs, e1, upd_same⟩, env, upd F a (.frz od (.dK vs)), E.swap e2 (.inl rfl) (.inr ⟨od, rfl⟩), ?_⟩⟩
      cases ho : f env with
      | er c fs => rw [ho] at q; exact q.elim
      | st => rw [ho] at q; exact q.elim
      | ok d =>
        rw [ho] at q
        intro v F' H' g ⟨p, h1, h2, h3⟩
        have f1 : F' a = some (.frz od (.dK vs)) := g.f a _ upd_same
        refine ⟨g.e a _ f1, q v _ _ (g.un e2 hH) ⟨p, h1, ?_, h3.swap f1 (.inr ⟨od, rfl⟩) (.inl rfl)⟩⟩
        by_cases hpa : p = a
        · subst hpa; rw [upd_same] at h2; cases h2
        · rw [upd_ne hpa] at h2; exact h2
    · refine h.run pins s σ H Q I ⟨⟨a, od, vs, e1, E.ex _ _ e2⟩, env, F, E, ?_⟩
      cases ho : f env <;> rw [ho] at q <;> first | exact q | exact q.elim
  · rw [if_neg hk] at q; exact q.elim
/-- the keys -/
def dKey : Key → D
  | .inl i => .int i
  | .inr x => .str x
def sKeys (f : SE) : SE := fun env => bnd (f env) fun d => match d with
  | .dk kvs => .ok (.lst (kvs.map fun p => dKey p.1))
  | _ => .st
theorem dKey_rep {K : PySem.W.Frag} {F : Hp} (k : Key) : Rep K ct F (dKey k) (kV k) := by
  cases k <;> rfl
theorem repK_get {K : PySem.W.Frag} {F : Hp} : ∀ {kvs : List (Key × D)} {vs : List (Key × V)}, RepK K ct F kvs vs → vs.map (·.1) = kvs.map (·.1)
  | [], vs, h => by rw [show vs = [] from h]; rfl
  | (k, d) :: kvs, vs, h => by
    obtain ⟨v, r, e1, e2, e3⟩ := h
    subst e1
    simp [repK_get e3]
theorem i_keysL (i : Nat) {O : OW} {x : Str} {tg : Expr} {pos : Pos} (hO : ∀ env σ a, O env σ a → Owns env σ a) (hN : X.N[i]? = some x := by rfl) (hv : Vis X.env.scope x := by first | exact Or.inl rfl | exact Or.inr (Or.inl rfl) | exact Or.inr (Or.inr rfl)) (hd : (x == ("__debug__" : Str)) = false := by decide)
    (hcd : (x == ("__classdict__" : Str)) = false := by decide) : PI X tg (.Name x pos) (fun σ H R => LkAt i σ H ∧ tI X.K ct W O (sKeys (sLoc i)) σ H R) := by
  refine (pi_keys (pe_var hN hv hd hcd)).imp fun σ H R ⟨⟨a, o, us, e1, e2⟩, env, F, E, h⟩ => ?_
  refine ⟨.ref a, e1, a, o, rfl, .inl ⟨us, e2, ?_⟩⟩
  unfold sKeys at h
  cases q : sLoc i env with
  | er c fs => unfold sLoc at q; split at q <;> cases q
  | st => rw [q] at h; exact h.elim
  | ok d =>
    rw [q] at h
    cases d <;> first | exact h.elim | skip
    rename_i kvs
    have hs : env[i]? = some (.sh (.dk kvs)) := by
      unfold sLoc at q
      split at q
      · rename_i d hd; cases q; exact hd
      · cases q
    obtain ⟨v, e3, b, ws, e4, e5, e6⟩ := E.sh i _ hs
    subst e4
    rw [e1] at e3; cases e3
    have ew : us = ws := by
      rcases e5 with e5 | ⟨o2, e5⟩
      · have := E.ex _ _ e5; rw [e2] at this; cases this
      · have := E.ex _ _ e5; rw [e2] at this; cases this; rfl
    subst ew
    have hF : F a = some (.frz o (.dK us)) := by
      rcases e5 with e5 | ⟨o2, e5⟩
      · have := E.ex _ _ e5; rw [e2] at this; cases this
      · have := E.ex _ _ e5; rw [e2] at this; cases this; exact e5
    refine h (Itk a o us) F H (Gr.refl E.ex) ?_
    have w := walk_keys (d := a) (o := o) (kvs := us)
    have hl : us.length = (kvs.map fun p => dKey p.1).length := by rw [List.length_map]; exact repK_len e6
    rw [hl] at w
    refine ⟨_, _, w, fun H2 k => k a _ e2 fun z => ?_, fun j d F1 H1 y H1' d1 d2 d3 hy => ?_⟩
    · have := (own_free E (hO _ _ _ z)).1
      rw [hF] at this; cases this
    · obtain ⟨rfl, k, v, y1, rfl⟩ := hy
      have hk := congrArg (fun l => l[j]?) (repK_get e6)
      simp only [List.getElem?_map, y1, Option.map_some] at hk
      rw [List.getElem?_map] at d1
      cases q2 : kvs[j]? with
      | none => rw [q2] at d1; cases d1
      | some p =>
        rw [q2] at d1 hk
        cases d1
        cases hk
        exact ⟨F1, Gr.refl d3, dKey_rep _⟩
theorem t_for {tg iter : Expr} {body : List Stmt} {T : Tgt} {fi : SE} {g : SS} {gt : TG} (hT : TgOk X.K ct gt T) {D : Ends} {σ : L2.St} {H : Hp} (h : sOf X.K ct W (ssFor T fi g) D σ H) : tFor (tI X.K ct W O1 fi) gt (sOf X.K ct W g) D σ H := by
  obtain ⟨env, F, E, h⟩ := h
  refine ⟨env, F, E, ?_⟩
  unfold ssFor at h
  cases q : fi env with
  | er c fs => rw [q] at h; exact fun dx F' H' g x => h dx σ F' H' g.sx (E.gr g) x
  | st => rw [q] at h; exact h
  | ok d =>
    rw [q] at h
    cases d <;> first | exact h.elim | skip
    rename_i ds
    intro J F1 H1 g1 hJ
    obtain ⟨G, Y, w, hG, hY⟩ := hJ
    have h : FinS X.K ct W F H env σ (loopF T g ds env) D := h
    refine for_it w (fun i σ' H' => ∃ env' F', Sx F1 H1 env σ F' H' env' σ' ∧ EnvOk X.K ct F' H' env' σ' ∧ loopF T g (ds.drop i) env' = loopF T g ds env)
      ⟨env, F1, (Gr.refl g1.e).sx, E.gr g1, rfl⟩ (fun i σ' H' hi p => ?_) (fun i x σ' H2 H2' hi p y => ?_) fun σ' H' p => ?_
    · obtain ⟨env', F', S, E', _⟩ := p
      exact hG H' fun b o q n => S.k b o q n
    · obtain ⟨env', F', S, E', hl⟩ := p
      have hd : ds[i]? = some ds[i] := by simp [hi]
      obtain ⟨F3, g3, r3⟩ := hY i ds[i] F' H2 x H2' hd S.f S.e y
      rw [List.drop_eq_getElem_cons hi, loopF_cons] at hl
      cases hb : bindT T ds[i] env' with
      | none => rw [hb] at hl; rw [← hl] at h; exact h.elim
      | some e =>
        rw [hb] at hl
        replace hl : stepL (g e) (loopF T g (ds.drop (i + 1))) = loopF T g ds env := hl
        refine hT x σ' F3 H2' env' e ds[i] _ (E'.gr g3) r3 hb fun σ2 E2 S2 _ _ => ⟨e, F3, E2, ?_⟩
        have S' := (S.trans g3.sx).trans S2
        have hS := finS_after (g1.sx.trans S') h
        cases ho : g e with
        | nx e' => rw [ho] at hl; exact fun σ4 F4 H4 S4 E4 => ⟨e', F4, S'.trans S4, E4, hl⟩
        | ct e' => rw [ho] at hl; exact fun σ4 F4 H4 S4 E4 => ⟨e', F4, S'.trans S4, E4, hl⟩
        | bk e' => rw [ho] at hl; rw [← hl] at hS; exact hS
        | rt d => rw [ho] at hl; rw [← hl] at hS; exact hS
        | rn d => rw [ho] at hl; rw [← hl] at hS; exact hS
        | er c fs e' => rw [ho] at hl; rw [← hl] at hS; exact hS
        | st => rw [ho] at hl; rw [← hl] at h; exact h.elim
    · obtain ⟨env', F', S, E', hl⟩ := p
      rw [List.drop_length] at hl
      rw [← hl] at h
      exact h σ' F' H' (g1.sx.trans S) E'
theorem p_forK (i : Nat) {x : Str} {tg : Expr} {p pos : Pos} {body : List Stmt} {T : Tgt} {g : SS} {gt : TG} (hp : PassesOwn (model X.prog X.w) X.A X.env X.xe) (hc : X.calm = true) (hT : TgOk X.K ct gt T) (hg : PG X tg gt) (hb : PSs X body (sOf X.K ct W g)) (hN : X.N[i]? = some x := by rfl) (hv : Vis X.env.scope x := by first | exact Or.inl rfl | exact Or.inr (Or.inl rfl) | exact Or.inr (Or.inr rfl)) (hd : (x == ("__debug__" : Str)) = false := by decide)
    (hcd : (x == ("__classdict__" : Str)) = false := by decide) (hs : ∀ y, foldedSetIterable (.Name x p) X.env y = pure y := by intro _; rfl) : PS X (.For tg (.Name x p) body [] pos) (sOf X.K ct W (ssLk i (ssFor T (sKeys (sLoc i)) g))) :=
  p_lockd i ((ps_for hp hc (i_keysL i o1_own hN hv hd hcd) hg hb hs).imp fun D σ H ⟨lk, h⟩ => ⟨lk, t_for (tg := tg) (iter := .Name x p) (body := body) hT h⟩)
end
section
variable {X : Cx} {ct : Nat → Addr} {W : WX} {elt tg : Expr} {ifs : List Expr} {scope : Scope} {pos p : Pos} {g : TG} {T : Tgt} {ft fe : SE} {x : Str}
theorem e_compK (k : Nat) (own : List (Str × Nat)) {js : List Nat} (hj : own.map (·.2) = js) (hc : X.calm = true) (hN : X.N.Nodup) (ok : BlkOk X.N X.env.scope scope own)
    (hg : ∀ (s : Shared) (H : Hp) (C : Addr) (cl : List (Str × Addr)) (fp : List Addr), PG (X.blk s H scope (compEnvC scope cl C X.env) fp) tg g) (hT : TgOk X.K ct g T) (hsub : ∀ i ∈ slotsT T, i ∈ js)
    (ht : ∀ (s : Shared) (H : Hp) (C : Addr) (cl : List (Str × Addr)) (fp : List Addr), PTs (X.blk s H scope (compEnvC scope cl C X.env) fp) ifs (TT1 X.K ct W0 ft))
    (he : ∀ (s : Shared) (H : Hp) (C : Addr) (cl : List (Str × Addr)) (fp : List Addr), PE (X.blk s H scope (compEnvC scope cl C X.env) fp) elt (ER X.K ct W0 fe)) (hk : X.N[k]? = some x := by rfl) (hv : Vis X.env.scope x := by first | exact Or.inl rfl | exact Or.inr (Or.inl rfl) | exact Or.inr (Or.inr rfl)) (hd : (x == ("__debug__" : Str)) = false := by decide)
    (hcd : (x == ("__classdict__" : Str)) = false := by decide) (hs : ∀ y, foldedSetIterable (.Name x p) X.env y = pure y := by intro _; rfl) :
    PE X (.ListComp elt [⟨tg, .Name x p, ifs, 0⟩] scope pos) (EN X.K ct W (sLk k (sComp T js (sKeys (sLoc k)) ft fe))) := by
  subst hj
  exact e_lockd k ((pe_lc hc hN (i_keysL (W := W) k o0_own hk hv hd hcd) ok hg ht he hs).imp fun σ H Q ⟨lk, h⟩ => ⟨lk, tlc hT hsub h⟩)
theorem p_compK (k : Nat) {i : Nat} {y : Str} {py spos : Pos} (own : List (Str × Nat)) {js : List Nat} (hj : own.map (·.2) = js) (hc : X.calm = true) (hN : X.N.Nodup) (hy : X.N[i]? = some y) (hyl : X.env.scope.names.lookup y = some .local)
    (hsw : swapsWith (.ListComp elt [⟨tg, .Name x p, ifs, 0⟩] scope pos) (some (.Name y py)) spos.line X.env = pure true) (ok : BlkOk X.N X.env.scope scope own)
    (hg : ∀ (s : Shared) (H : Hp) (C : Addr) (cl : List (Str × Addr)) (fp : List Addr), PG (X.blk s H scope (compEnvC scope cl C X.env) fp) tg g) (hT : TgOk X.K ct g T) (hsub : ∀ i ∈ slotsT T, i ∈ js)
    (ht : ∀ (s : Shared) (H : Hp) (C : Addr) (cl : List (Str × Addr)) (fp : List Addr), PTs (X.blk s H scope (compEnvC scope cl C X.env) fp) ifs (TT1 X.K ct W0 ft))
    (he : ∀ (s : Shared) (H : Hp) (C : Addr) (cl : List (Str × Addr)) (fp : List Addr), PE (X.blk s H scope (compEnvC scope cl C X.env) fp) elt (ER X.K ct W0 fe)) (hk : X.N[k]? = some x := by rfl) (hv : Vis X.env.scope x := by first | exact Or.inl rfl | exact Or.inr (Or.inl rfl) | exact Or.inr (Or.inr rfl)) (hd : (x == ("__debug__" : Str)) = false := by decide)
    (hcd : (x == ("__classdict__" : Str)) = false := by decide) (hs : ∀ y, foldedSetIterable (.Name x p) X.env y = pure y := by intro _; rfl) :
    PS X (.Assign [.Name y py] (.ListComp elt [⟨tg, .Name x p, ifs, 0⟩] scope pos) spos) (sOf X.K ct W (ssLk k (ssOwn i (sComp T js (sKeys (sLoc k)) ft fe)))) := by
  subst hj
  exact p_lockd k ((ps_setLc hc hN hy hyl hsw (i_keysL (W := W) k o0_own hk hv hd hcd) ok hg ht he hs).imp fun D σ H ⟨lk, h⟩ => ⟨lk, tlc hT hsub (t_own h)⟩)
end
end Ps

namespace Ps
open PySem PySem.Spec PyProof.Rows L2

/-! ### None in a dict -/
def dIn0 : D → D → Option D
  | .non, .dk _ => some (.bl false)
  | _, _ => none
def dNotIn0 : D → D → Option D
  | .non, .dk _ => some (.bl true)
  | _, _ => none
def dInN (d e : D) : Option D := orD (dIn d e) (dIn0 d e)
def dNotInN (d e : D) : Option D := orD (dNotIn d e) (dNotIn0 d e)
def rIn0 (k : Bool) : R2 := fun x y H Q => ∃ a kvs, y = .ref a ∧ x = .non ∧ Rd H a (.dK kvs) ∧ Q (.bl k) H
section
variable {X : Cx}
theorem op_in0 : OpR X (compareOp .In) (rIn0 false) := by
  intro pins s σ H x y v u Q I rx ry h
  obtain ⟨a, kvs, rfl, rfl, g, q⟩ := h
  obtain rfl : u = Value.ref a := ry
  obtain rfl : v = Value.none := rx
  exact d_inNone I g fun s3 I3 => ⟨.bl false, H, I3, rfl, q⟩
theorem op_notIn0 : OpR X (compareOp .NotIn) (rIn0 true) := by
  intro pins s σ H x y v u Q I rx ry h
  obtain ⟨a, kvs, rfl, rfl, g, q⟩ := h
  obtain rfl : u = Value.ref a := ry
  obtain rfl : v = Value.none := rx
  exact d_notInNone I g fun s3 I3 => ⟨.bl true, H, I3, rfl, q⟩
end
section
variable {K : PySem.W.Frag} {ct : Nat → Addr}
theorem sp_in0 : Sp2 K ct false true (mR K ct) (rIn0 false) dIn0 := fun F H x y d e z Q ex hx hy hz hQ => by
  cases d <;> cases e <;> first | (cases hz; done) | skip
  cases hz
  obtain ⟨a, vs, rfl, h1, h2⟩ := (show RepB K ct F H (.dk _) y from hy)
  exact ⟨a, vs, rfl, hx, h1, hQ _ F H (Gr.refl ex) rfl⟩
theorem sp_notIn0 : Sp2 K ct false true (mR K ct) (rIn0 true) dNotIn0 := fun F H x y d e z Q ex hx hy hz hQ => by
  cases d <;> cases e <;> first | (cases hz; done) | skip
  cases hz
  obtain ⟨a, vs, rfl, h1, h2⟩ := (show RepB K ct F H (.dk _) y from hy)
  exact ⟨a, vs, rfl, hx, h1, hQ _ F H (Gr.refl ex) rfl⟩
end
section
variable {X : Cx} {ct : Nat → Addr} {W : WX} {a b e : Expr} {f g : SE} {pos p : Pos} {k : Nat}
theorem e_inN (hr : Room k X.A) (ha : PE X a (ER X.K ct W f)) (hb : PE X b (EB X.K ct W g)) (hm : behindInMarks .In b = false := by first | exact nomark _ | rfl) : PE X (.Compare a [.In] [b] pos) (ER X.K ct W (s2 dInN f g)) := e_cmp ((op_in1 (hu_of hr)).or op_in0) (Sp2.or (m1 := false) (m2 := true) sp_in sp_in0) ha hb hm
theorem t_inN (hr : Room k X.A) (ha : PE X a (ER X.K ct W f)) (hb : PE X b (EB X.K ct W g)) (hm : behindInMarks .In b = false := by first | exact nomark _ | rfl) : PT X (.Compare a [.In] [b] pos) (TT1 X.K ct W (s2 dInN f g)) := t_cmp ((op_in1 (hu_of hr)).or op_in0) (Sp2.or (m1 := false) (m2 := true) sp_in sp_in0) ha hb hm
theorem e_notInN (hr : Room k X.A) (ha : PE X a (ER X.K ct W f)) (hb : PE X b (EB X.K ct W g)) (hm : behindInMarks .NotIn b = false := by first | exact nomark _ | rfl) : PE X (.Compare a [.NotIn] [b] pos) (ER X.K ct W (s2 dNotInN f g)) := e_cmp ((op_notIn1 (hu_of hr)).or op_notIn0) (Sp2.or (m1 := false) (m2 := true) sp_notIn sp_notIn0) ha hb hm
theorem t_notInN (hr : Room k X.A) (ha : PE X a (ER X.K ct W f)) (hb : PE X b (EB X.K ct W g)) (hm : behindInMarks .NotIn b = false := by first | exact nomark _ | rfl) : PT X (.Compare a [.NotIn] [b] pos) (TT1 X.K ct W (s2 dNotInN f g)) := t_cmp ((op_notIn1 (hu_of hr)).or op_notIn0) (Sp2.or (m1 := false) (m2 := true) sp_notIn sp_notIn0) ha hb hm
end

/-! ### dicts compared; their values are flat -/
def eqKV (ks ls : List (Key × V)) : Bool := ks.length == ls.length && ks.all fun p => match valV ls p.1 with | some v => eqV p.2 v | none => false
def rEqK (ng : Bool) : R2 := fun x y H Q => ∃ a b ks ls, x = .ref a ∧ y = .ref b ∧ Rd H a (.dK ks) ∧ Rd H b (.dK ls) ∧ (∀ p ∈ ks, flatV p.2 = true) ∧ (∀ p ∈ ls, flatV p.2 = true) ∧ Q (.bl (if ng then !eqKV ks ls else eqKV ks ls)) H
theorem val_mem {vs : List (Key × V)} {k : Key} {v : V} (h : valV vs k = some v) : ∃ p ∈ vs, p.2 = v := by
  induction vs with
  | nil => rw [valV_nil] at h; cases h
  | cons p vs ih =>
    obtain ⟨j, u⟩ := p
    by_cases hk : k = j
    · subst hk
      rw [show valV ((k, u) :: vs) k = some u from by simp [valV]] at h
      cases h
      exact ⟨_, List.mem_cons_self, rfl⟩
    · have : valV ((j, u) :: vs) k = valV vs k := by simp [valV, Ne.symm hk, hk]
      rw [this] at h
      obtain ⟨p, h1, h2⟩ := ih h
      exact ⟨p, List.mem_cons_of_mem _ h1, h2⟩
theorem hits_gen {A : Around} {s : Shared} {ls : List (Key × V)} {vb : List (Key × Value)} (rb : KV ls vb) (fl : ∀ p ∈ ls, flatV p.2 = true) {ks : List (Key × V)} {va : List (Key × Value)} (ra : KV ks va) :
    (∀ p ∈ ks, flatV p.2 = true) → PySem.W.KeqHits A s vb va (ks.all fun p => match valV ls p.1 with | some v => eqV p.2 v | none => false) := by
  unfold KV at ra
  induction ra with
  | nil => intro _; exact .nil
  | @cons p q ps qs h t ih =>
    intro hp
    obtain ⟨h1, h2⟩ := h
    have f := hp p List.mem_cons_self
    obtain ⟨k, v⟩ := q
    have h1' : p.1 = k := h1
    have ih' := ih fun p' hm => hp p' (List.mem_cons_of_mem _ hm)
    rw [List.all_cons]
    have rr : RelO (valV ls p.1) (valueAt vb p.1) := rb.val p.1
    cases e : valV ls p.1 with
    | none =>
      rw [e] at rr
      have hn : valueAt vb p.1 = none := rr.none_of
      rw [h1'] at hn
      exact .miss hn
    | some w =>
      rw [e] at rr
      obtain ⟨y, hy, ry⟩ := rr.some_of
      rw [h1'] at hy
      obtain ⟨p', m1, m2⟩ := val_mem e
      have fw : flatV w = true := by rw [← m2]; exact fl p' m1
      exact .hit hy (eqAt_V h2 ry f fw) ih'
section
variable {X : Cx}
theorem op_eqK (hu : X.A.units < cLine) : OpR X (compareOp .Eq) (rEqK false) := by
  intro pins s σ H x y v u Q I rx ry h
  obtain ⟨a, b, ks, ls, rfl, rfl, ea, eb, fk, fl, q⟩ := h
  obtain rfl : v = Value.ref a := rx
  obtain rfl : u = Value.ref b := ry
  obtain ⟨_, ya, va, ra, da⟩ := dk_rd I.hok ea
  obtain ⟨_, yb, vb, rb, db⟩ := dk_rd I.hok eb
  exact PySem.W.keq_eq (knd := mixKind X.prog X.w) ya yb da db hu (fun _ => hits_gen rb fl ra fk) (fin_bl I q (by
    show eqKV ks ls = _
    unfold eqKV
    rw [ra.length, rb.length]))
theorem op_neK (hu : X.A.units < cLine) : OpR X (compareOp .NotEq) (rEqK true) := by
  intro pins s σ H x y v u Q I rx ry h
  obtain ⟨a, b, ks, ls, rfl, rfl, ea, eb, fk, fl, q⟩ := h
  obtain rfl : v = Value.ref a := rx
  obtain rfl : u = Value.ref b := ry
  obtain ⟨_, ya, va, ra, da⟩ := dk_rd I.hok ea
  obtain ⟨_, yb, vb, rb, db⟩ := dk_rd I.hok eb
  exact PySem.W.keq_ne (knd := mixKind X.prog X.w) ya yb da db hu (fun _ => hits_gen rb fl ra fk) (fin_bl I q (by
    show (!eqKV ks ls) = _
    unfold eqKV
    rw [ra.length, rb.length]))
end
def eqKD (ks ls : List (Key × D)) : Bool := ks.length == ls.length && ks.all fun p => match valD ls p.1 with | some v => L2.eqV (toV p.2) (toV v) | none => false
def dEqK : D → D → Option D
  | .dk ks, .dk ls => if (ks.all fun p => dFlat p.2) && ls.all fun p => dFlat p.2 then some (.bl (eqKD ks ls)) else none
  | _, _ => none
def dNeK : D → D → Option D
  | .dk ks, .dk ls => if (ks.all fun p => dFlat p.2) && ls.all fun p => dFlat p.2 then some (.bl (!eqKD ks ls)) else none
  | _, _ => none
section
variable {K : PySem.W.Frag} {ct : Nat → Addr} {F : Hp}
theorem repK_flat : ∀ {ks : List (Key × D)} {vs : List (Key × V)}, RepK K ct F ks vs → ks.all (fun p => dFlat p.2) = true → vs = ks.map (fun p => (p.1, toV p.2)) ∧ ∀ p ∈ vs, flatV p.2 = true
  | [], vs, h, _ => by rw [show vs = [] from h]; exact ⟨rfl, fun _ h => nomatch h⟩
  | (k, d) :: ks, vs, h, f => by
    obtain ⟨v, r, e1, e2, e3⟩ := h
    rw [List.all_cons, Bool.and_eq_true] at f
    obtain ⟨q1, q2⟩ := rep_flat e2 f.1
    obtain ⟨q3, q4⟩ := repK_flat e3 f.2
    subst e1
    refine ⟨by rw [List.map_cons, ← q3, ← q1], fun p hp => ?_⟩
    rcases List.mem_cons.mp hp with rfl | hp
    · exact q2
    · exact q4 p hp
theorem valV_map (ks : List (Key × D)) (k : Key) : valV (ks.map fun p => (p.1, toV p.2)) k = (valD ks k).map toV := by
  unfold valV valD
  rw [List.find?_map, Option.map_map, Option.map_map]
  rfl
theorem eqK_same (ks ls : List (Key × D)) : eqKV (ks.map fun p => (p.1, toV p.2)) (ls.map fun p => (p.1, toV p.2)) = eqKD ks ls := by
  unfold eqKV eqKD
  rw [List.length_map, List.length_map, List.all_map]
  congr 2
  funext p
  simp only [Function.comp_apply, valV_map]
  cases valD ls p.1 <;> rfl
theorem sp_eqK : Sp2 K ct true true (mR K ct) (rEqK false) dEqK := fun F H x y d e z Q ex hx hy hz hQ => by
  cases d <;> cases e <;> first | (cases hz; done) | skip
  rename_i ks ls
  replace hz : (if (ks.all fun p => dFlat p.2) && ls.all fun p => dFlat p.2 then some (D.bl (eqKD ks ls)) else none) = some z := hz
  split at hz
  · rename_i hf
    cases hz
    rw [Bool.and_eq_true] at hf
    obtain ⟨a, vs, rfl, h1, h2⟩ := (show RepB K ct F H (.dk ks) x from hx)
    obtain ⟨b, us, rfl, h3, h4⟩ := (show RepB K ct F H (.dk ls) y from hy)
    obtain ⟨q1, q2⟩ := repK_flat h2 hf.1
    obtain ⟨q3, q4⟩ := repK_flat h4 hf.2
    refine ⟨a, b, vs, us, rfl, rfl, h1, h3, q2, q4, hQ _ F H (Gr.refl ex) ?_⟩
    show V.bl (eqKV vs us) = .bl (eqKD ks ls)
    rw [q1, q3, eqK_same]
  · cases hz
theorem sp_neK : Sp2 K ct true true (mR K ct) (rEqK true) dNeK := fun F H x y d e z Q ex hx hy hz hQ => by
  cases d <;> cases e <;> first | (cases hz; done) | skip
  rename_i ks ls
  replace hz : (if (ks.all fun p => dFlat p.2) && ls.all fun p => dFlat p.2 then some (D.bl (!eqKD ks ls)) else none) = some z := hz
  split at hz
  · rename_i hf
    cases hz
    rw [Bool.and_eq_true] at hf
    obtain ⟨a, vs, rfl, h1, h2⟩ := (show RepB K ct F H (.dk ks) x from hx)
    obtain ⟨b, us, rfl, h3, h4⟩ := (show RepB K ct F H (.dk ls) y from hy)
    obtain ⟨q1, q2⟩ := repK_flat h2 hf.1
    obtain ⟨q3, q4⟩ := repK_flat h4 hf.2
    refine ⟨a, b, vs, us, rfl, rfl, h1, h3, q2, q4, hQ _ F H (Gr.refl ex) ?_⟩
    show V.bl (!eqKV vs us) = .bl (!eqKD ks ls)
    rw [q1, q3, eqK_same]
  · cases hz
end
section
variable {X : Cx} {ct : Nat → Addr} {W : WX} {a b e : Expr} {f g : SE} {pos p : Pos} {k : Nat}
theorem hu0 (hr : Room k X.A) : X.A.units < cLine := by have := hu_of hr; omega
theorem e_eqK (hr : Room k X.A) (ha : PE X a (EB X.K ct W f)) (hb : PE X b (EB X.K ct W g)) (hm : behindInMarks .Eq b = false := by first | exact nomark _ | rfl) : PE X (.Compare a [.Eq] [b] pos) (ER X.K ct W (s2 dEqK f g)) := e_cmp (op_eqK (hu0 hr)) sp_eqK ha hb hm
theorem t_eqK (hr : Room k X.A) (ha : PE X a (EB X.K ct W f)) (hb : PE X b (EB X.K ct W g)) (hm : behindInMarks .Eq b = false := by first | exact nomark _ | rfl) : PT X (.Compare a [.Eq] [b] pos) (TT1 X.K ct W (s2 dEqK f g)) := t_cmp (op_eqK (hu0 hr)) sp_eqK ha hb hm
theorem e_neK (hr : Room k X.A) (ha : PE X a (EB X.K ct W f)) (hb : PE X b (EB X.K ct W g)) (hm : behindInMarks .NotEq b = false := by first | exact nomark _ | rfl) : PE X (.Compare a [.NotEq] [b] pos) (ER X.K ct W (s2 dNeK f g)) := e_cmp (op_neK (hu0 hr)) sp_neK ha hb hm
theorem t_neK (hr : Room k X.A) (ha : PE X a (EB X.K ct W f)) (hb : PE X b (EB X.K ct W g)) (hm : behindInMarks .NotEq b = false := by first | exact nomark _ | rfl) : PT X (.Compare a [.NotEq] [b] pos) (TT1 X.K ct W (s2 dNeK f g)) := t_cmp (op_neK (hu0 hr)) sp_neK ha hb hm
end

/-! ### list(d), list(text) -/
def cListD : List D → Option D
  | [.dk kvs] => some (.lst (kvs.map fun p => dKey p.1))
  | _ => none
def cListS : List D → Option D
  | [.str x] => if x.length ≤ sizeLine then some (.lst (x.cps.toList.map sgn)) else none
  | _ => none
theorem reps_keyV {K : PySem.W.Frag} {ct : Nat → Addr} {F : Hp} : ∀ ks : List Key, Reps K ct F (ks.map dKey) (ks.map kV)
  | [] => rfl
  | k :: ks => ⟨kV k, ks.map kV, rfl, dKey_rep k, reps_keyV ks⟩
theorem reps_sgn {K : PySem.W.Frag} {ct : Nat → Addr} {F : Hp} : ∀ cs : List Nat, Reps K ct F (cs.map sgn) (cs.map fun c => V.str ⟨#[c]⟩)
  | [] => rfl
  | c :: cs => ⟨_, _, rfl, rfl, reps_sgn cs⟩
section
variable {K : PySem.W.Frag} {ct : Nat → Addr}
theorem spc_listD : SpC K ct [true] (mN K ct) (fun xs H Q => ∃ (a : Addr) (kvs : List (Key × V)), xs = [.ref a] ∧ Rd H a (.dK kvs) ∧ ∀ p, H p = none → Q (.ref p) (upd H p (.lst (kvs.map fun kv => kV kv.1)))) cListD := by
  intro F H vs ds z Q ex hA hz hQ
  obtain ⟨d, v, rfl, rfl, h⟩ := args1 hA
  cases d <;> first | (cases hz; done) | skip
  rename_i ks
  cases hz
  obtain ⟨a, us, rfl, h1, h2⟩ := (show RepB K ct F H (.dk ks) v from h)
  refine ⟨a, us, rfl, h1, fun p hp => hQ _ F _ (Gr.own ex hp) ⟨p, rfl, hp, Ex.free ex hp, _, upd_same, ?_⟩⟩
  have e := congrArg (List.map kV) (repK_get h2)
  rw [List.map_map, List.map_map] at e
  have := reps_keyV (K := K) (ct := ct) (F := F) (ks.map (·.1))
  rw [List.map_map, List.map_map] at this
  rw [show (us.map fun kv => kV kv.1) = _ from e]
  exact this
def rListS : List V → Hp → VK → Prop := fun xs H Q => ∃ x : Str, xs = [.str x] ∧ x.length ≤ sizeLine ∧ ∀ p, H p = none → Q (.ref p) (upd H p (.lst (x.cps.toList.map fun c => V.str ⟨#[c]⟩)))
theorem spc_listS : SpC K ct [true] (mN K ct) rListS cListS := by
  intro F H vs ds z Q ex hA hz hQ
  obtain ⟨d, v, rfl, rfl, h⟩ := args1 hA
  cases d <;> first | (cases hz; done) | skip
  rename_i x
  replace hz : (if x.length ≤ sizeLine then some (D.lst (x.cps.toList.map sgn)) else none) = some z := hz
  split at hz
  · rename_i hl
    cases hz
    exact ⟨x, by rw [show v = .str x from h], hl, fun p hp => hQ _ F _ (Gr.own ex hp) ⟨p, rfl, hp, Ex.free ex hp, _, upd_same, reps_sgn _⟩⟩
  · cases hz
end
theorem signs_vals : ∀ {us : List Value} {cs : List Nat}, us.length = cs.length → (∀ (j : Nat) (v : Value), us[j]? = some v → ∃ (c : Nat) (u : Tok), cs[j]? = some c ∧ v = Value.str ⟨#[c]⟩ u) → Vals (cs.map fun c => V.str ⟨#[c]⟩) us
  | [], [], _, _ => .nil
  | u :: us, c :: cs, hl, h => by
    obtain ⟨c', t, e1, e2⟩ := h 0 u rfl
    cases e1
    refine .cons ⟨t, e2⟩ (signs_vals (by simpa using hl) fun j v e => ?_)
    exact h (j + 1) v (by simpa using e)
  | [], _ :: _, hl, _ => by simp at hl
  | _ :: _, [], hl, _ => by simp at hl
section
variable {X : Cx} {ct : Nat → Addr} {W : WX} {a : Expr} {f : SE} {pos p : Pos}
theorem call_listS (hcalm : X.calm = true) : CallR X (.type "list") rListS := by
  intro pins s σ H xs us Q I r q
  obtain ⟨x, rfl, hl, q⟩ := q
  obtain ⟨u, eu, rx⟩ := vals1 r
  subst eu
  obtain ⟨t, rfl⟩ := rx
  refine PySem.call_list_str (I.ok.hd hcalm) x t (hn := hl) fun h' tk acc c' hk hD hacc => ?_
  refine ⟨.ref s.heap.objs.size, upd H s.heap.objs.size (.lst (x.cps.toList.map fun c => V.str ⟨#[c]⟩)), I.laid (t' := tk) hk (Nat.le_refl _)
    (show ObjOk X.prog X.w _ _ _ (.lst _) from ⟨by rw [List.length_map, Array.length_toList]; exact hl, acc.toList, c', signs_vals (by rw [Array.length_toList, Array.length_toList]; exact hacc.1) fun j v e => ?_, by rw [Array.toArray_toList]; exact hD⟩), rfl, q _ (I.hok.fresh (Nat.le_refl _))⟩
  obtain ⟨c, u, hc, rfl⟩ := hacc.2 j v (by rw [← Array.getElem?_toList]; exact e)
  exact ⟨c, u, by simpa using hc, rfl⟩
theorem e_listD (hcalm : X.calm = true) (hm : X.mg "list" = none) (hg : Gl X "list") (ha : PE X a (EB X.K ct W f)) (na : starEach [a] X.env = (false, eval a X.env) :: starEach [] X.env := by rfl) : PE X (.Call (.Name "list" p) [a] [] pos) (EN X.K ct W (sCall cListD (aCons f aNil))) := e_callTy (call_listD hcalm) mN_ok spc_listD hg hm (by decide +kernel) (a_cons (m := true) ha a_nil na) (he := na) (hpl := rfl)
theorem e_listS (hcalm : X.calm = true) (hm : X.mg "list" = none) (hg : Gl X "list") (ha : PE X a (EB X.K ct W f)) (na : starEach [a] X.env = (false, eval a X.env) :: starEach [] X.env := by rfl) : PE X (.Call (.Name "list" p) [a] [] pos) (EN X.K ct W (sCall cListS (aCons f aNil))) := e_callTy (call_listS hcalm) mN_ok spc_listS hg hm (by decide +kernel) (a_cons (m := true) ha a_nil na) (he := na) (hpl := rfl)
end
end Ps

namespace Ps
open PySem PySem.Spec PyProof.Rows L2

/-- x = y, where y is owned and isn't read any more -/
def ssMov (i j : Nat) : SS := fun env => match env[j]? with
  | some (.ow d) => (match setSl env j .no with
    | some e1 => (match setSl e1 i (.ow d) with
      | some e2 => .nx e2
      | none => .st)
    | none => .st)
  | _ => .st
section
variable {X : Cx} {ct : Nat → Addr} {W : WX}
theorem mov_ok {K : PySem.W.Frag} {F H : Hp} {env e1 e2 : En} {σ : L2.St} {i j : Nat} {d : D} (E : EnvOk K ct F H env σ) (hj : env[j]? = some (.ow d)) (h1 : setSl env j .no = some e1) (h2 : setSl e1 i (.ow d) = some e2) :
    ∃ p, σ[j]? = some (some (.ref p)) ∧ EnvOk K ct F H e2 (σ.set i (some (.ref p))) ∧ Sx F H env σ F H e2 (σ.set i (some (.ref p))) := by
  obtain ⟨p, p1, p2⟩ := E.ow j d hj
  obtain ⟨E1, S1⟩ := fgt_ok E h1
  obtain ⟨tj, a1, a2, rfl⟩ := setSl_some h1
  obtain ⟨t, hi, hc, rfl⟩ := setSl_some h2
  refine ⟨p, p1, ?_⟩
  have op : Owns env σ p := ⟨j, _, hj, rfl, p1⟩
  have hl : i < σ.length := by
    obtain ⟨h1, _⟩ := List.getElem?_eq_some_iff.mp hi
    rw [← E1.len]; exact h1
  have hσ : (σ.set i (some (V.ref p)))[i]? = some (some (.ref p)) := by simp [hl]
  have np : ¬ Owns (env.set j .no) σ p := fun ⟨k, s, z1, z2, z3⟩ => by
    by_cases hk : k = j
    · subst hk; rw [get_set_self hj] at z1; cases z1; cases z2
    · rw [get_set_ne hk] at z1
      exact hk (E.ap k j s _ p z1 hj z2 rfl z3 p1)
  have ow : ∀ {a : Addr}, Owns ((env.set j .no).set i (.ow d)) (σ.set i (some (.ref p))) a → a = p ∨ Owns (env.set j .no) σ a := fun {a} ⟨k, s, e1, e2, e3⟩ => by
    by_cases hk : k = i
    · subst hk; rw [hσ] at e3; cases e3; exact .inl rfl
    · rw [get_set_ne hk] at e1 e3
      exact .inr ⟨k, s, e1, e2, e3⟩
  have back : ∀ {k : Nat} {s : Sl}, (env.set j .no)[k]? = some s → (∀ z : s = .no, False) → env[k]? = some s := fun {k s} z hz => by
    by_cases hk : k = j
    · subst hk; rw [get_set_self hj] at z; exact (hz (Option.some.inj z).symm).elim
    · rw [get_set_ne hk] at z; exact z
  refine ⟨⟨E1.ex, by simp [E.len], fun k e h => ?_, fun k e h => ?_, fun k e h => ?_, fun k c fs gs h => ?_, fun k e h => ?_, fun k g' h => ?_, fun k m u w a h1 h2 h3 h4 h5 h6 => ?_⟩, ⟨(Gr.refl E.ex).sr, fun a h => ?_, fun k e h => ?_, fun k c fs gs h => ?_⟩⟩
  · by_cases hk : k = i
    · subst hk; rw [get_set_self hi] at h; cases h
    · rw [get_set_ne hk] at h ⊢; exact E1.sh k e h
  · by_cases hk : k = i
    · subst hk; rw [get_set_self hi] at h; cases h; exact ⟨p, hσ, p2⟩
    · rw [get_set_ne hk] at h ⊢; exact E1.ow k e h
  · by_cases hk : k = i
    · subst hk; rw [get_set_self hi] at h; cases h
    · rw [get_set_ne hk] at h ⊢
      obtain ⟨v, e1, e2, e3⟩ := E1.bo k e h
      refine ⟨v, e1, e2, fun a hn ha z => ?_⟩
      rcases ow z with z | z
      · subst ha z
        obtain ⟨v', e1', e2', e3'⟩ := E.bo k e (back h (fun z => nomatch z))
        rw [e1] at e1'; cases e1'
        exact e3' _ hn rfl op
      · exact e3 a hn ha z
  · by_cases hk : k = i
    · subst hk; rw [get_set_self hi] at h; cases h
    · rw [get_set_ne hk] at h ⊢
      obtain ⟨a, dx, fvs, e1, e2, e3, e4, e5, e6, e7⟩ := E1.oo k c fs gs h
      refine ⟨a, dx, fvs, e1, e2, e3, e4, e5, e6, fun n g hg => ?_⟩
      obtain ⟨v, d', q1, q2, q3⟩ := e7 n g hg
      have hgi : g ≠ i := fun z => by subst z; rw [hi] at q3; cases q3; cases hc
      exact ⟨v, d', q1, by rw [get_set_ne hgi]; exact q2, by rw [get_set_ne hgi]; exact q3⟩
  · by_cases hk : k = i
    · subst hk; rw [get_set_self hi] at h; cases h
    · rw [get_set_ne hk] at h ⊢; exact E1.gh k e h
  · by_cases hk : k = i
    · subst hk; rw [get_set_self hi] at h; cases h
    · rw [get_set_ne hk] at h ⊢
      obtain ⟨a, b2, d2, e1, e2, e3, e4, e5⟩ := E1.ln k g' h
      have hgi : g' ≠ i := fun z => by subst z; rw [hi] at e5; cases e5; cases hc
      exact ⟨a, b2, d2, e1, e2, e3, by rw [get_set_ne hgi]; exact e4, by rw [get_set_ne hgi]; exact e5⟩
  · by_cases hj : k = i
    · by_cases hk : m = i
      · rw [hj, hk]
      · subst hj
        rw [hσ] at h5; cases h5
        rw [get_set_ne hk] at h2 h6
        exact absurd ⟨m, w, h2, h4, h6⟩ np
    · by_cases hk : m = i
      · subst hk
        rw [hσ] at h6; cases h6
        rw [get_set_ne hj] at h1 h5
        exact absurd ⟨k, u, h1, h3, h5⟩ np
      · rw [get_set_ne hj] at h1 h5
        rw [get_set_ne hk] at h2 h6
        exact E1.ap k m u w a h1 h2 h3 h4 h5 h6
  · rcases ow h with z | z
    · subst z; exact .inl op
    · exact S1.o a z
  · obtain ⟨b1, b2⟩ := S1.b k e h
    have hk : k ≠ i := fun z => by subst z; rw [hi] at b1; cases b1; cases hc
    rw [get_set_ne hk, get_set_ne hk]
    exact ⟨b1, b2⟩
  · obtain ⟨⟨fs', gs', b1⟩, b2⟩ := S1.q k c fs gs h
    have hk : k ≠ i := fun z => by subst z; rw [hi] at b1; cases b1; cases hc
    rw [get_set_ne hk, get_set_ne hk]
    exact ⟨⟨fs', gs', b1⟩, b2⟩
theorem p_mov (i j : Nat) {x y : Str} (hN : X.N.Nodup) (hi : X.N[i]? = some x) (hx : Loc X.env.scope x) (hNj : X.N[j]? = some y := by rfl) (hv : Vis X.env.scope y := by first | exact Or.inl rfl | exact Or.inr (Or.inl rfl) | exact Or.inr (Or.inr rfl)) (hd : (y == ("__debug__" : Str)) = false := by decide)
    (hcd : (y == ("__classdict__" : Str)) = false := by decide) (hs : swapsWith (.Name y p) (some (.Name x pos')) pos.line X.env = pure false := by rfl) (hf : X.fn x = true ∨ X.env.scope.names.lookup x = some .local := by first | exact .inl rfl | exact .inr rfl | assumption) :
    PS X (.Assign [.Name x pos'] (.Name y p) pos) (sOf X.K ct W (ssMov i j)) := by
  refine (ps_set hN hi hx (pe_var hNj hv hd hcd) hs hf).imp fun D σ H ⟨env, F, E, h⟩ => ?_
  unfold ssMov at h
  split at h
  · rename_i d q
    split at h
    · rename_i e1 q1
      split at h
      · rename_i e2 q2
        obtain ⟨a, b1, b2, b3⟩ := mov_ok E q q1 q2
        exact ⟨.ref a, b1, h _ F H b3 b2⟩
      · exact h.elim
    · exact h.elim
  · exact h.elim
end
end Ps

namespace Ps
open PySem PySem.Spec PyProof.Rows L2

/-- where a flat thing stands first in a list of flat ones -/
def dIdx (d e : D) : Option D := match d with
  | .lst ds => if dFlat e && ds.all dFlat then ((ds.map toV).findIdx? fun y => eqV y (toV e)).map fun j => .int (j : Nat) else none
  | _ => none
def isLst : D → Bool
  | .lst _ => true
  | _ => false
def sIdx (f g : SE) : SE := fun env => bnd (f env) fun d => if isLst d then bnd (g env) fun e => ofO (dIdx d e) else .st
section
variable {X : Cx} {ct : Nat → Addr} {W : WX} {f g : SE}
theorem e_index {o e : Expr} {apos cpos : Pos} (ho : PE X o (EB X.K ct W f)) (he : PE X e (ER X.K ct W g))
    (hbase : attributeBase o "index" X.env (eval o X.env) = eval o X.env := by rfl)
    (hfew : ((backTo cpos (starEach [e] X.env)).all (fun x => !x.1) && (backToKw cpos (keywordEach [] X.env)).all (fun x => x.1.isSome)
      && decide ([e].length + ([] : List Keyword).length + (if ([] : List Keyword).isEmpty then 0 else 1) < 30)) = true := by rfl)
    (hline : (apos.endLine == cpos.line) = true := by rfl) (hs : starEach [e] X.env = (false, eval e X.env) :: starEach [] X.env := by rfl) (hplain : (backTo cpos (starEach [] X.env)).any (·.1) = false := by rfl) :
    PE X (.Call (.Attribute o "index" apos) [e] [] cpos) (ER X.K ct W (sIdx f g)) := by
  refine (pe_bm PySem.F.plainAttrs_list PySem.F.slot_list_index PySem.F.type_list_index mt_index ho (pa_cons he pa_nil hs) hbase hfew hline hs hplain).imp fun σ H Q ⟨env, F, E, h⟩ => ?_
  refine fin_bind E h rfl fun d x F1 H1 e1 g1 r1 E1 h => ?_
  cases d <;> first | exact h.elim | skip
  rename_i ds
  obtain ⟨a, vs, rfl, q1, q2⟩ := r1
  refine ⟨.inl ⟨rfl, vs, SqL.of q1⟩, ?_⟩
  have h1 := fin_after (M := mR X.K ct) g1 (fun _ _ _ _ m => m) h
  refine fin_bind (k := fun e => ofO (dIdx (.lst ds) e)) E1 h1 rfl fun e y F2 H2 e2 g2 r2 E2 h => ?_
  cases q : dIdx (.lst ds) e with
  | none => rw [q] at h; exact h.elim
  | some w =>
    rw [q] at h
    have q : (if (dFlat e && ds.all dFlat) = true then ((ds.map toV).findIdx? fun y => eqV y (toV e)).map fun j => D.int (j : Nat) else none) = some w := q
    by_cases hf : (dFlat e && ds.all dFlat) = true
    · rw [if_pos hf] at q
      · rw [Bool.and_eq_true] at hf
        obtain ⟨j, hj, rfl⟩ := Option.map_eq_some_iff.mp q
        obtain ⟨v1, v2⟩ := reps_flat q2 hf.2
        obtain ⟨y1, y2⟩ := rep_flat r2 hf.1
        obtain ⟨hlt, hp, hn⟩ := List.findIdx?_eq_some_iff_getElem.mp hj
        refine ⟨a, vs, y, j, (ds.map toV)[j], rfl, rfl, SqL.of (g2.h _ _ q1), y2, v2, ?_, ?_, fun m z' hm hz => ?_, h _ F2 H2 g2 rfl⟩
        · rw [v1]; exact List.getElem?_eq_getElem hlt
        · rw [y1]; exact hp
        · rw [v1] at hz
          obtain ⟨hm2, rfl⟩ := List.getElem?_eq_some_iff.mp hz
          have := hn m hm
          rw [y1]
          simpa using this
    · rw [if_neg hf] at q; cases q
end
end Ps

namespace Ps
open PySem PySem.Spec PyProof.Rows L2

/-! ### a new list of one new dict, which is stored into -/
/-- x = [{}]: the dict stands in the slot g, for which no name stands -/
def ssNest (i g : Nat) : SS := fun env => match env[g]? with
  | some .no => (match setSl (env.set g (.gh (.dk []))) i (.ln g) with
    | some e => .nx e
    | none => .st)
  | _ => .st
/-- x[0][k] = v -/
def ssPutN (i g : Nat) (fk fv : SE) : SS := fun env => bndS (fv env) env fun v => match env[i]?, env[g]? with
  | some (.ln g'), some (.gh z) => if g' = g then bndS (fk env) env fun k => (match dPut z k v with
      | some y => .nx (env.set g (.gh y))
      | none => .st) else .st
  | _, _ => .st
def plainSl : Sl → Bool
  | .oo _ _ _ => false
  | .ln _ => false
  | _ => true
/-- from here on the list is an owned one -/
def ssUnl (i g : Nat) : SS := fun env => match env[i]?, env[g]? with
  | some (.ln g'), some (.gh d) => if g' = g ∧ (env.set i .no).all plainSl = true then .nx ((env.set g .no).set i (.ow (.lst [d]))) else .st
  | _, _ => .st
section
variable {X : Cx} {ct : Nat → Addr} {W : WX} {fk fv : SE}
theorem ln_ok {K : PySem.W.Frag} {F0 H0 F H : Hp} {env0 env : En} {σ0 σ : L2.St} {i g : Nat} {a b : Addr} {d : D} {t : Sl} (E : EnvOk K ct F H env σ) (S : Sx F0 H0 env0 σ0 F H env σ) (hi : env[i]? = some t) (hc : canSet t = true) (hg : env[g]? = some (.gh d)) (hb : σ[g]? = some (some (.ref b)))
    (ha : H a = some (.lst [.ref b])) (hF : F a = none) (h0 : H0 a = none) (np : ¬ Owns env σ a) (nb : ∀ (k : Nat) (e : D) (v : V), env[k]? = some (.bo e) → σ[k]? = some (some v) → noScr e = true → v ≠ .ref a) :
    EnvOk K ct F H (env.set i (.ln g)) (σ.set i (some (.ref a))) ∧ Sx F0 H0 env0 σ0 F H (env.set i (.ln g)) (σ.set i (some (.ref a))) := by
  have hl : i < σ.length := by
    obtain ⟨h1, _⟩ := List.getElem?_eq_some_iff.mp hi
    rw [← E.len]; exact h1
  have hσ : (σ.set i (some (V.ref a)))[i]? = some (some (.ref a)) := by simp [hl]
  have hgi : g ≠ i := fun z => by subst z; rw [hi] at hg; cases hg; cases hc
  have ow : ∀ {c : Addr}, Owns (env.set i (.ln g)) (σ.set i (some (.ref a))) c → c = a ∨ Owns env σ c := fun {c} ⟨k, s, e1, e2, e3⟩ => by
    by_cases hk : k = i
    · subst hk; rw [hσ] at e3; cases e3; exact .inl rfl
    · rw [get_set_ne hk] at e1 e3
      exact .inr ⟨k, s, e1, e2, e3⟩
  refine ⟨⟨E.ex, by simp [E.len], fun k e h => ?_, fun k e h => ?_, fun k e h => ?_, fun k c fs gs h => ?_, fun k e h => ?_, fun k g' h => ?_, fun k m u w c h1 h2 h3 h4 h5 h6 => ?_⟩, ⟨S.toSr, fun c h => ?_, fun k e h => ?_, fun k c fs gs h => ?_⟩⟩
  · by_cases hk : k = i
    · subst hk; rw [get_set_self hi] at h; cases h
    · rw [get_set_ne hk] at h ⊢; exact E.sh k e h
  · by_cases hk : k = i
    · subst hk; rw [get_set_self hi] at h; cases h
    · rw [get_set_ne hk] at h ⊢; exact E.ow k e h
  · by_cases hk : k = i
    · subst hk; rw [get_set_self hi] at h; cases h
    · rw [get_set_ne hk] at h ⊢
      obtain ⟨v, e1, e2, e3⟩ := E.bo k e h
      refine ⟨v, e1, e2, fun c hn hc z => ?_⟩
      rcases ow z with z | z
      · subst z; exact nb k e v h e1 hn hc
      · exact e3 c hn hc z
  · by_cases hk : k = i
    · subst hk; rw [get_set_self hi] at h; cases h
    · rw [get_set_ne hk] at h ⊢
      obtain ⟨c', dx, fvs, e1, e2, e3, e4, e5, e6, e7⟩ := E.oo k c fs gs h
      refine ⟨c', dx, fvs, e1, e2, e3, e4, e5, e6, fun n g hg => ?_⟩
      obtain ⟨v, d', q1, q2, q3⟩ := e7 n g hg
      have hgi : g ≠ i := fun z => by subst z; rw [hi] at q3; cases q3; cases hc
      exact ⟨v, d', q1, by rw [get_set_ne hgi]; exact q2, by rw [get_set_ne hgi]; exact q3⟩
  · by_cases hk : k = i
    · subst hk; rw [get_set_self hi] at h; cases h
    · rw [get_set_ne hk] at h ⊢; exact E.gh k e h
  · by_cases hk : k = i
    · subst hk; rw [get_set_self hi] at h; cases h
      exact ⟨a, b, d, hσ, hF, ha, by rw [get_set_ne hgi]; exact hb, by rw [get_set_ne hgi]; exact hg⟩
    · rw [get_set_ne hk] at h ⊢
      obtain ⟨c, b2, d2, e1, e2, e3, e4, e5⟩ := E.ln k g' h
      have hgi : g' ≠ i := fun z => by subst z; rw [hi] at e5; cases e5; cases hc
      exact ⟨c, b2, d2, e1, e2, e3, by rw [get_set_ne hgi]; exact e4, by rw [get_set_ne hgi]; exact e5⟩
  · by_cases hk : k = i
    · by_cases hm : m = i
      · rw [hk, hm]
      · subst hk
        rw [hσ] at h5; cases h5
        rw [get_set_ne hm] at h2 h6
        exact absurd ⟨m, w, h2, h4, h6⟩ np
    · by_cases hm : m = i
      · subst hm
        rw [hσ] at h6; cases h6
        rw [get_set_ne hk] at h1 h5
        exact absurd ⟨k, u, h1, h3, h5⟩ np
      · rw [get_set_ne hk] at h1 h5
        rw [get_set_ne hm] at h2 h6
        exact E.ap k m u w c h1 h2 h3 h4 h5 h6
  · rcases ow h with z | z
    · subst z; exact .inr h0
    · exact S.o c z
  · obtain ⟨b1, b2⟩ := S.b k e h
    have hk : k ≠ i := fun z => by subst z; rw [hi] at b1; cases b1; cases hc
    rw [get_set_ne hk, get_set_ne hk]
    exact ⟨b1, b2⟩
  · obtain ⟨⟨fs', gs', b1⟩, b2⟩ := S.q k c fs gs h
    have hk : k ≠ i := fun z => by subst z; rw [hi] at b1; cases b1; cases hc
    rw [get_set_ne hk, get_set_ne hk]
    exact ⟨⟨fs', gs', b1⟩, b2⟩
theorem p_nest (i g : Nat) {x : Str} {pos pos' pl pd : Pos} (hg : ∀ y, X.N[g]? = some y → ¬ Vis X.env.scope y) (hN : X.N.Nodup) (hi : X.N[i]? = some x) (hx : Loc X.env.scope x)
    (h1 : starEach [Expr.Dict [] [] pd] X.env = (false, eval (Expr.Dict [] [] pd) X.env) :: starEach [] X.env := by rfl)
    (hs : swapsWith (.List [.Dict [] [] pd] pl) (some (.Name x pos')) pos.line X.env = pure false := by rfl) (hf : X.fn x = true ∨ X.env.scope.names.lookup x = some .local := by first | exact .inl rfl | exact .inr rfl | assumption) :
    PS X (.Assign [.Name x pos'] (.List [.Dict [] [] pd] pl) pos) (sOf X.K ct W (ssNest i g)) := by
  refine (ps_ghost hg (ps_set hN hi hx (pe_lst (pa_cons pe_dnewK pa_nil h1)) hs hf)).imp fun D σ H ⟨env, F, E, h⟩ => ?_
  unfold ssNest at h
  split at h
  · rename_i qg
    split at h
    · rename_i e q
      obtain ⟨t, q1, q2, rfl⟩ := setSl_some q
      intro b hb
      refine ⟨(by decide : 1 ≤ sizeLine), fun a ha => ⟨some (.ref b), ?_⟩⟩
      have hba : b ≠ a := fun z => by subst z; rw [upd_same] at ha; cases ha
      have h0 : H a = none := by rw [upd_ne (Ne.symm hba)] at ha; exact ha
      have g1 : Gr F H F (upd H b (.dK [])) := Gr.own E.ex hb
      have g2 : Gr F (upd H b (.dK [])) F (upd (upd H b (.dK [])) a (.lst [.ref b])) := Gr.own g1.e ha
      have g3 := g1.trans g2
      have ho : OwnAt X.K ct F (upd (upd H b (.dK [])) a (.lst [.ref b])) b (.dk []) := ⟨Ex.free E.ex hb, [], by rw [upd_ne hba]; exact upd_same, rfl⟩
      obtain ⟨E2, S2⟩ := own_ok true (i := g) g3 E qg rfl hb ho
      have hgi : g ≠ i := fun z => by
        subst z
        have : (env.set g (Sl.gh (Ps.D.dk [])))[g]? = some (.gh (.dk [])) := get_set_self qg
        rw [this] at q1; cases q1; cases q2
      have hgl : g < σ.length := by
        obtain ⟨h1, _⟩ := List.getElem?_eq_some_iff.mp qg
        rw [← E.len]; exact h1
      have np : ¬ Owns (env.set g (slOf true (.dk []))) (σ.set g (some (.ref b))) a := fun z => by
        obtain ⟨k, s, e1, e2, e3⟩ := z
        by_cases hk : k = g
        · subst hk
          have : (σ.set k (some (V.ref b)))[k]? = some (some (.ref b)) := by simp [hgl]
          rw [this] at e3; exact hba (V.ref.inj (Option.some.inj (Option.some.inj e3)))
        · rw [get_set_ne hk] at e1 e3
          obtain ⟨_, o, ho⟩ := own_free E ⟨k, s, e1, e2, e3⟩
          rw [h0] at ho; cases ho
      obtain ⟨E3, S3⟩ := ln_ok (i := i) (g := g) (a := a) (b := b) (d := .dk []) E2 S2 q1 q2 (get_set_self qg) (by simp [hgl]) upd_same (Ex.free E.ex h0) h0 np (fun k e v e1 e2 hn hv => by
        have hk : k ≠ g := fun z => by subst z; rw [get_set_self qg] at e1; cases e1
        rw [get_set_ne hk] at e1 e2
        obtain ⟨v', e1', e2', _⟩ := E.bo k e e1
        rw [e2] at e1'; cases e1'
        subst hv
        obtain ⟨o, ho⟩ := repB_there E.ex hn e2'
        rw [h0] at ho; cases ho)
      have := h _ F _ S3 E3
      rw [List.set_comm _ _ hgi] at this
      exact this
    · exact h.elim
  · exact h.elim
theorem p_putN (i g : Nat) {x : Str} {a b : Expr} {pos pos' p p1 c : Pos} {j : Nat} (hu : X.A.units + 1 < cLine) (hk : PE X a (ER X.K ct W fk)) (hvv : PE X b (ER X.K ct W fv)) (hN : X.N[i]? = some x := by rfl) (hv : Vis X.env.scope x := by first | exact Or.inl rfl | exact Or.inr (Or.inl rfl) | exact Or.inr (Or.inr rfl)) (hd : (x == ("__debug__" : Str)) = false := by decide)
    (hcd : (x == ("__classdict__" : Str)) = false := by decide) (hpl : PlainIx (.Constant (.int 0) j c) := by intro _ _; rfl)
    (ha : ∀ v, assign (.Subscript (.Subscript (.Name x p) (.Constant (.int 0) j c) p1) a pos') X.env v = (do
      let ov ← holding [v] (eval (.Subscript (.Name x p) (.Constant (.int 0) j c) p1) X.env)
      let iv ← holding [v, ov] (eval a X.env)
      standAt pos'
      holding [v, ov, iv] (setItem ov iv v)
      release [v, ov, iv] []) := by intro _; rfl)
    (hs : swapsWithSole [.Subscript (.Subscript (.Name x p) (.Constant (.int 0) j c) p1) a pos'] b pos.line X.env = pure false := by rfl) (hw : swappedStores [.Subscript (.Subscript (.Name x p) (.Constant (.int 0) j c) p1) a pos'] b X.env = pure none := by rfl) (h1 : (assignEach [.Subscript (.Subscript (.Name x p) (.Constant (.int 0) j c) p1) a pos'] X.env).map (·.2) = [assign (.Subscript (.Subscript (.Name x p) (.Constant (.int 0) j c) p1) a pos') X.env] := by rfl) :
    PS X (.Assign [.Subscript (.Subscript (.Name x p) (.Constant (.int 0) j c) p1) a pos'] b pos) (sOf X.K ct W (ssPutN i g fk fv)) := by
  refine (ps_asg hvv (pg_sub (pe_ix ix_list (pe_var hN hv hd hcd) pe_int hpl) hk (set_put1 hu) ha) hs hw h1).imp fun D σ H ⟨env, F, E, h⟩ => ?_
  unfold ssPutN at h
  refine finS_bind E h fun v vv F1 H1 e2 g1 r1 E1 h0 => ?_
  clear h
  split at h0
  · rename_i g' z qi qg
    split at h0
    · rename_i hh
      subst hh
      obtain ⟨l, b2, d2, q1, q2, q3, q4, q5⟩ := E1.ln i g' qi
      obtain ⟨pd, s1, s2⟩ := E1.gh g' z qg
      rw [s1] at q4; cases q4
      refine ⟨.ref l, q1, l, _, 0, _, rfl, rfl, SqL.of q3, rfl, ?_⟩
      have h' := finS_after g1.sx h0
      refine finS_bind E1 h' fun k kv F2 H2 e3 g2 r2 E2 h => ?_
      obtain ⟨l', e1', o2⟩ := E2.gh g' _ qg
      rw [s1] at e1'; cases e1'
      cases q2 : dPut z k v with
      | none => rw [q2] at h; exact h.elim
      | some y =>
        rw [q2] at h
        obtain ⟨o, o3, k3⟩ := put_ok E2.ex o2 r2 (Rep.mono (Ex.le g2.f) _ _ r1) q2
        obtain ⟨E3, S3⟩ := mut_ok true (z := y) (o := o) E2 qg s1 o2.free o3
        exact k3 _ (h σ F2 _ (g2.sx.trans S3) E3)
    · exact h0.elim
  · exact h0.elim
theorem all_plain {env : En} {i k : Nat} {s : Sl} (h : (env.set i .no).all plainSl = true) (hk : k ≠ i) (hs : env[k]? = some s) : plainSl s = true := by
  refine List.all_eq_true.mp h s (List.mem_of_getElem? (i := k) ?_)
  rw [get_set_ne hk]; exact hs
theorem unl_ok {K : PySem.W.Frag} {F H : Hp} {env : En} {σ : L2.St} {i g : Nat} {d : D} (E : EnvOk K ct F H env σ) (hi : env[i]? = some (.ln g)) (hg : env[g]? = some (.gh d)) (hp : (env.set i .no).all plainSl = true) :
    ∃ F', EnvOk K ct F' H ((env.set g .no).set i (.ow (.lst [d]))) σ ∧ Sx F H env σ F' H ((env.set g .no).set i (.ow (.lst [d]))) σ := by
  obtain ⟨a, b, d2, q1, q2, q3, q4, q5⟩ := E.ln i g hi
  obtain ⟨b2, p1, p2⟩ := E.gh g d hg
  rw [q4] at p1
  obtain rfl : b = b2 := V.ref.inj (Option.some.inj (Option.some.inj p1))
  have hgi : g ≠ i := fun z => by subst z; rw [hi] at hg; cases hg
  obtain ⟨o, ho⟩ := p2.there
  have hF := p2.free
  have le : Ex F (upd F b o) := Ex.new hF
  have hab : a ≠ b := fun z => by
    subst z
    exact hgi (E.ap g i _ _ a hg hi rfl rfl q4 q1)
  have ex : Ex (upd F b o) H := fun c u q => by
    by_cases hc : c = b
    · subst hc; rw [upd_same] at q; cases q; exact ho
    · rw [upd_ne hc] at q; exact E.ex c u q
  have ob : Owns env σ b := ⟨g, _, hg, rfl, q4⟩
  have gi : ((env.set g .no))[i]? = some (.ln g) := by rw [get_set_ne (Ne.symm hgi)]; exact hi
  have look : ∀ {k : Nat} {s : Sl}, ((env.set g .no).set i (.ow (.lst [d])))[k]? = some s → (k = i ∧ s = .ow (.lst [d])) ∨ (k ≠ i ∧ k = g ∧ s = .no) ∨ (k ≠ i ∧ k ≠ g ∧ env[k]? = some s) := fun {k s} h => by
    by_cases hk : k = i
    · subst hk; rw [get_set_self gi] at h; cases h; exact .inl ⟨rfl, rfl⟩
    · rw [get_set_ne hk] at h
      by_cases hk2 : k = g
      · subst hk2; rw [get_set_self hg] at h; cases h; exact .inr (.inl ⟨hk, rfl, rfl⟩)
      · rw [get_set_ne hk2] at h; exact .inr (.inr ⟨hk, hk2, h⟩)
  have ne : ∀ {k : Nat} {s : Sl} {c : Addr}, k ≠ g → env[k]? = some s → isOw s = true → σ[k]? = some (some (.ref c)) → c ≠ b := fun {k s c} hk h1 h2 h3 z => by
    subst z
    exact hk (E.ap k g s _ c h1 hg h2 rfl h3 q4)
  have own' : ∀ {c : Addr}, Owns ((env.set g .no).set i (.ow (.lst [d]))) σ c → Owns env σ c := fun {c} ⟨k, s, h1, h2, h3⟩ => by
    rcases look h1 with ⟨rfl, rfl⟩ | ⟨_, rfl, rfl⟩ | ⟨_, _, h⟩
    · exact ⟨k, _, hi, rfl, h3⟩
    · cases h2
    · exact ⟨k, s, h, h2, h3⟩
  refine ⟨upd F b o, ⟨ex, by simp [E.len], fun k e h => ?_, fun k e h => ?_, fun k e h => ?_, fun k c fs gs h => ?_, fun k e h => ?_, fun k g' h => ?_, fun k m u w c h1 h2 h3 h4 h5 h6 => ?_⟩, ⟨⟨le, ex, fun c u q _ => q, fun c u q => ⟨u, q⟩, fun c u q => ?_⟩, fun c h => .inl (own' h), fun k e h => ?_, fun k c fs gs h => ?_⟩⟩
  · rcases look h with ⟨_, z⟩ | ⟨_, _, z⟩ | ⟨_, _, h⟩
    · cases z
    · cases z
    · obtain ⟨v, r1, r2⟩ := E.sh k e h
      exact ⟨v, r1, Rep.mono (Ex.le le) _ _ r2⟩
  · rcases look h with ⟨rfl, z⟩ | ⟨_, _, z⟩ | ⟨_, hk, h⟩
    · cases z
      exact ⟨a, q1, by rw [upd_ne hab]; exact q2, [.ref b], q3, ⟨_, _, rfl, p2.freeze ho, rfl⟩⟩
    · cases z
    · obtain ⟨c, r1, r2⟩ := E.ow k e h
      exact ⟨c, r1, r2.mono le (by rw [upd_ne (ne hk h rfl r1)]; exact r2.free) rfl⟩
  · rcases look h with ⟨_, z⟩ | ⟨_, _, z⟩ | ⟨_, _, h⟩
    · cases z
    · cases z
    · obtain ⟨v, r1, r2, r3⟩ := E.bo k e h
      exact ⟨v, r1, RepB.mono2 le (Ex.refl _) r2, fun c hn hc z => r3 c hn hc (own' z)⟩
  · rcases look h with ⟨_, z⟩ | ⟨_, _, z⟩ | ⟨hk, _, h⟩
    · cases z
    · cases z
    · have := all_plain hp hk h; cases this
  · rcases look h with ⟨_, z⟩ | ⟨_, _, z⟩ | ⟨_, hk, h⟩
    · cases z
    · cases z
    · obtain ⟨c, r1, r2⟩ := E.gh k e h
      exact ⟨c, r1, r2.mono le (by rw [upd_ne (ne hk h rfl r1)]; exact r2.free) rfl⟩
  · rcases look h with ⟨_, z⟩ | ⟨_, _, z⟩ | ⟨hk, _, h⟩
    · cases z
    · cases z
    · have := all_plain hp hk h; cases this
  · have fx : ∀ {k : Nat} {u : Sl}, ((env.set g .no).set i (.ow (.lst [d])))[k]? = some u → isOw u = true → ∃ u', env[k]? = some u' ∧ isOw u' = true := fun {k u} h hu => by
      rcases look h with ⟨rfl, rfl⟩ | ⟨_, _, rfl⟩ | ⟨_, _, h⟩
      · exact ⟨_, hi, rfl⟩
      · cases hu
      · exact ⟨u, h, hu⟩
    obtain ⟨u', a1, a2⟩ := fx h1 h3
    obtain ⟨w', b1, b2⟩ := fx h2 h4
    exact E.ap k m u' w' c a1 b1 a2 b2 h5 h6
  · by_cases hc : c = b
    · subst hc; exact .inr (.inr ob)
    · rw [upd_ne hc] at q; exact .inl q
  · have hk : k ≠ i := fun z => by subst z; rw [hi] at h; cases h
    have hk2 : k ≠ g := fun z => by subst z; rw [hg] at h; cases h
    rw [get_set_ne hk, get_set_ne hk2]
    exact ⟨h, rfl⟩
  · have hk : k ≠ i := fun z => by subst z; rw [hi] at h; cases h
    have := all_plain hp hk h; cases this
theorem p_unl (i g : Nat) {rest : List Stmt} {f : SS} (h : PSs X rest (sOf X.K ct W f)) : PSs X rest (sOf X.K ct W (ssSeq (ssUnl i g) f)) := by
  refine PSs.imp h fun D σ H ⟨env, F, E, h⟩ => ?_
  unfold ssSeq ssUnl at h
  cases q : env[i]? with
  | none => rw [q] at h; exact h.elim
  | some s =>
    cases q2 : env[g]? with
    | none => rw [q, q2] at h; cases s <;> exact h.elim
    | some t =>
      rw [q, q2] at h
      cases s <;> first | exact h.elim | skip
      cases t <;> first | exact h.elim | skip
      rename_i g' d
      by_cases hc : g' = g ∧ (env.set i .no).all plainSl = true
      · simp only [hc, and_self, if_true] at h
        obtain ⟨rfl, hp⟩ := hc
        obtain ⟨F', E', S'⟩ := unl_ok E q q2 hp
        exact ⟨_, F', E', finS_after S' h⟩
      · simp only [hc, if_false] at h
        exact h.elim
end
end Ps

namespace Ps
open PySem PySem.Spec PyProof.Rows L2

/-- the greatest, the least of a list of ints -/
def maxI : List Int → Option Int
  | [] => none
  | n :: ns => some (ns.foldl max n)
def minI : List Int → Option Int
  | [] => none
  | n :: ns => some (ns.foldl min n)
theorem foldl_max : ∀ (ns : List Int) (n : Int), (n ≤ ns.foldl max n) ∧ (∀ y ∈ ns, y ≤ ns.foldl max n) ∧ (ns.foldl max n = n ∨ ns.foldl max n ∈ ns)
  | [], n => ⟨Int.le_refl _, fun _ h => (nomatch h), .inl rfl⟩
  | m :: ns, n => by
    obtain ⟨h1, h2, h3⟩ := foldl_max ns (max n m)
    rw [List.foldl_cons]
    refine ⟨by omega, fun y hy => ?_, ?_⟩
    · rcases List.mem_cons.mp hy with rfl | hy
      · omega
      · exact h2 y hy
    · rcases h3 with h3 | h3
      · rcases Int.le_total n m with q | q
        · exact .inr (by rw [h3, Int.max_eq_right q]; exact List.mem_cons_self)
        · exact .inl (by rw [h3, Int.max_eq_left q])
      · exact .inr (List.mem_cons_of_mem _ h3)
theorem foldl_min : ∀ (ns : List Int) (n : Int), (ns.foldl min n ≤ n) ∧ (∀ y ∈ ns, ns.foldl min n ≤ y) ∧ (ns.foldl min n = n ∨ ns.foldl min n ∈ ns)
  | [], n => ⟨Int.le_refl _, fun _ h => (nomatch h), .inl rfl⟩
  | m :: ns, n => by
    obtain ⟨h1, h2, h3⟩ := foldl_min ns (min n m)
    rw [List.foldl_cons]
    refine ⟨by omega, fun y hy => ?_, ?_⟩
    · rcases List.mem_cons.mp hy with rfl | hy
      · omega
      · exact h2 y hy
    · rcases h3 with h3 | h3
      · rcases Int.le_total n m with q | q
        · exact .inl (by rw [h3, Int.min_eq_left q])
        · exact .inr (by rw [h3, Int.min_eq_right q]; exact List.mem_cons_self)
      · exact .inr (List.mem_cons_of_mem _ h3)
theorem maxI_uniq {ns : List Int} {m k : Int} (h : maxI ns = some k) (h1 : m ∈ ns) (h2 : ∀ y ∈ ns, y ≤ m) : m = k := by
  cases ns with
  | nil => cases h1
  | cons n ns =>
    cases h
    obtain ⟨a, b, c⟩ := foldl_max ns n
    have hm : m ≤ ns.foldl max n := by
      rcases List.mem_cons.mp h1 with rfl | h1
      · exact a
      · exact b m h1
    have hk : ns.foldl max n ≤ m := by
      rcases c with c | c
      · rw [c]; exact h2 n List.mem_cons_self
      · exact h2 _ (List.mem_cons_of_mem _ c)
    omega
theorem minI_uniq {ns : List Int} {m k : Int} (h : minI ns = some k) (h1 : m ∈ ns) (h2 : ∀ y ∈ ns, m ≤ y) : m = k := by
  cases ns with
  | nil => cases h1
  | cons n ns =>
    cases h
    obtain ⟨a, b, c⟩ := foldl_min ns n
    have hm : ns.foldl min n ≤ m := by
      rcases List.mem_cons.mp h1 with rfl | h1
      · exact a
      · exact b m h1
    have hk : m ≤ ns.foldl min n := by
      rcases c with c | c
      · rw [c]; exact h2 n List.mem_cons_self
      · exact h2 _ (List.mem_cons_of_mem _ c)
    omega
theorem maxI_pos {ns : List Int} {k : Int} (h : maxI ns = some k) : 0 < ns.length := by cases ns with | nil => cases h | cons n ns => simp
theorem minI_pos {ns : List Int} {k : Int} (h : minI ns = some k) : 0 < ns.length := by cases ns with | nil => cases h | cons n ns => simp
def cMaxL : List D → Option D
  | [.lst ds] => (unInts ds).bind fun ns => (maxI ns).map .int
  | _ => none
def cMinL : List D → Option D
  | [.lst ds] => (unInts ds).bind fun ns => (minI ns).map .int
  | _ => none
section
variable {K : PySem.W.Frag} {ct : Nat → Addr}
theorem spc_maxL : SpC K ct [true] (mR K ct) (rMax K) cMaxL := by
  intro F H vs ds z Q ex hA hz hQ
  obtain ⟨d, v, rfl, rfl, h⟩ := args1 hA
  cases d <;> first | (cases hz; done) | skip
  rename_i ds
  obtain ⟨ns, q1, q2⟩ := Option.bind_eq_some_iff.mp (show ((unInts ds).bind fun ns => (maxI ns).map D.int) = some z from hz)
  obtain ⟨k, hk, rfl⟩ := Option.map_eq_some_iff.mp q2
  obtain ⟨a, vs, rfl, h1, h2⟩ := (show RepB K ct F H (.lst ds) v from h)
  have e := reps_ints h2 q1
  subst e
  exact ⟨a, ns, rfl, SqL.of h1, maxI_pos hk, fun m m1 m2 => by rw [maxI_uniq hk m1 m2]; exact hQ _ F H (Gr.refl ex) rfl⟩
theorem spc_minL : SpC K ct [true] (mR K ct) (rMin K) cMinL := by
  intro F H vs ds z Q ex hA hz hQ
  obtain ⟨d, v, rfl, rfl, h⟩ := args1 hA
  cases d <;> first | (cases hz; done) | skip
  rename_i ds
  obtain ⟨ns, q1, q2⟩ := Option.bind_eq_some_iff.mp (show ((unInts ds).bind fun ns => (minI ns).map D.int) = some z from hz)
  obtain ⟨k, hk, rfl⟩ := Option.map_eq_some_iff.mp q2
  obtain ⟨a, vs, rfl, h1, h2⟩ := (show RepB K ct F H (.lst ds) v from h)
  have e := reps_ints h2 q1
  subst e
  exact ⟨a, ns, rfl, SqL.of h1, minI_pos hk, fun m m1 m2 => by rw [minI_uniq hk m1 m2]; exact hQ _ F H (Gr.refl ex) rfl⟩
end
section
variable {X : Cx} {ct : Nat → Addr} {W : WX} {f : SE} {a : Expr} {p pos : Pos}
theorem e_maxL (hm : X.mg "max" = none) (hg : Gl X "max") (hcalm : X.calm = true) (ha : PE X a (EB X.K ct W f)) (na : starEach [a] X.env = (false, eval a X.env) :: starEach [] X.env := by rfl) : PE X (.Call (.Name "max" p) [a] [] pos) (ER X.K ct W (sCall cMaxL (aCons f aNil))) := e_callB (cr_max hcalm) mR_ok spc_maxL hg hm (by decide +kernel) (a_cons (m := true) ha a_nil na) (he := na) (hpl := rfl)
theorem e_minL (hm : X.mg "min" = none) (hg : Gl X "min") (hcalm : X.calm = true) (ha : PE X a (EB X.K ct W f)) (na : starEach [a] X.env = (false, eval a X.env) :: starEach [] X.env := by rfl) : PE X (.Call (.Name "min" p) [a] [] pos) (ER X.K ct W (sCall cMinL (aCons f aNil))) := e_callB (cr_min hcalm) mR_ok spc_minL hg hm (by decide +kernel) (a_cons (m := true) ha a_nil na) (he := na) (hpl := rfl)
end
end Ps

namespace Ps
open PySem PySem.Spec PyProof.Rows L2

/-- list * int: a new list -/
def dRep (d e : D) : Option D := match d, e with
  | .lst ds, .int k => if -(2 ^ 63 : Int) ≤ k ∧ k < 2 ^ 63 ∧ ds.length * k.toNat ≤ sizeLine then some (.lst (List.replicate k.toNat ds).flatten) else none
  | _, _ => none
section
variable {K : PySem.W.Frag} {ct : Nat → Addr}
theorem reps_rep {F : Hp} {ds : List D} {vs : List V} (r : Reps K ct F ds vs) : ∀ n : Nat, Reps K ct F (List.replicate n ds).flatten (List.replicate n vs).flatten
  | 0 => rfl
  | n + 1 => by
    rw [List.replicate_succ, List.replicate_succ, List.flatten_cons, List.flatten_cons]
    exact r.append (reps_rep r n)
theorem sp_rep {m1 m2 : Bool} : Sp2 K ct m1 m2 (mN K ct) rRep dRep := by
  intro F H x y d e z Q ex hx hy hz hQ
  cases d <;> cases e <;> first | (cases hz; done) | skip
  rename_i ds k
  obtain ⟨a, vs, rfl, h1, r1⟩ := mb_lst ex hx
  have hyk : y = .int k := by cases m2 <;> exact hy
  subst hyk
  simp only [dRep] at hz
  split at hz
  · rename_i hl
    cases hz
    exact ⟨a, k, vs, rfl, rfl, h1, hl.1, hl.2.1, by rw [r1.length]; exact hl.2.2, fun p hp => hQ _ F _ (Gr.own ex hp) ⟨p, rfl, hp, Ex.free ex hp, _, upd_same, reps_rep r1 _⟩⟩
  · cases hz
end
section
variable {X : Cx} {ct : Nat → Addr} {W : WX} {f g : SE} {a b : Expr} {pos : Pos}
theorem e_rep (ha : PE X a (EB X.K ct W f)) (hb : PE X b (ER X.K ct W g)) : PE X (.BinOp a .Mult b pos) (EN X.K ct W (s2 dRep f g)) := e_op op_rep mN_ok (sp_rep (m1 := true) (m2 := false)) ha hb
end
end Ps

namespace Ps
open PySem PySem.Spec PyProof.Rows L2

/-- is, is not of truths -/
def dIsB (d e : D) : Option D := match d, e with
  | .bl a, .bl b => some (.bl (decide (a = b)))
  | _, _ => none
def dIsNotB (d e : D) : Option D := match d, e with
  | .bl a, .bl b => some (.bl (!decide (a = b)))
  | _, _ => none
section
variable {K : PySem.W.Frag} {ct : Nat → Addr}
theorem sp_isB {m1 m2 : Bool} : Sp2 K ct m1 m2 (mR K ct) rIsB dIsB := by
  intro F H x y d e z Q ex hx hy hz hQ
  cases d <;> cases e <;> first | (cases hz; done) | skip
  rename_i a b
  have h1 : x = .bl a := by cases m1 <;> exact hx
  have h2 : y = .bl b := by cases m2 <;> exact hy
  subst h1 h2
  cases hz
  exact ⟨a, b, rfl, rfl, hQ _ F H (Gr.refl ex) rfl⟩
theorem sp_isNotB {m1 m2 : Bool} : Sp2 K ct m1 m2 (mR K ct) rNotB dIsNotB := by
  intro F H x y d e z Q ex hx hy hz hQ
  cases d <;> cases e <;> first | (cases hz; done) | skip
  rename_i a b
  have h1 : x = .bl a := by cases m1 <;> exact hx
  have h2 : y = .bl b := by cases m2 <;> exact hy
  subst h1 h2
  cases hz
  exact ⟨a, b, rfl, rfl, hQ _ F H (Gr.refl ex) rfl⟩
end
section
variable {X : Cx} {ct : Nat → Addr} {W : WX} {f g : SE} {a b : Expr} {pos : Pos}
theorem e_isB (ha : PE X a (EB X.K ct W f)) (hb : PE X b (ER X.K ct W g)) (hm : behindInMarks .Is b = false := by first | exact nomark _ | rfl) : PE X (.Compare a [.Is] [b] pos) (ER X.K ct W (s2 dIsB f g)) := e_cmp op_isBl (sp_isB (m1 := true) (m2 := false)) ha hb hm
theorem t_isB (ha : PE X a (EB X.K ct W f)) (hb : PE X b (ER X.K ct W g)) (hm : behindInMarks .Is b = false := by first | exact nomark _ | rfl) : PT X (.Compare a [.Is] [b] pos) (TT1 X.K ct W (s2 dIsB f g)) := t_cmp op_isBl (sp_isB (m1 := true) (m2 := false)) ha hb hm
theorem e_isNotB (ha : PE X a (EB X.K ct W f)) (hb : PE X b (ER X.K ct W g)) (hm : behindInMarks .IsNot b = false := by first | exact nomark _ | rfl) : PE X (.Compare a [.IsNot] [b] pos) (ER X.K ct W (s2 dIsNotB f g)) := e_cmp op_notBl (sp_isNotB (m1 := true) (m2 := false)) ha hb hm
theorem t_isNotB (ha : PE X a (EB X.K ct W f)) (hb : PE X b (ER X.K ct W g)) (hm : behindInMarks .IsNot b = false := by first | exact nomark _ | rfl) : PT X (.Compare a [.IsNot] [b] pos) (TT1 X.K ct W (s2 dIsNotB f g)) := t_cmp op_notBl (sp_isNotB (m1 := true) (m2 := false)) ha hb hm
end
end Ps

namespace Ps
open PySem PySem.Spec PyProof.Rows L2

/-! ### a text is drawn out of another: sign = pool[..]; found = found + sign; pool = pool.replace(sign, "") -/
theorem ns_fun {h : Heap} {a : Addr} {m m' : Str → Option Value} (p : h.Ns a m) (q : h.Ns a m') (x : Str) : m x = m' x := by
  obtain ⟨o, es, ep, ho, hd, _, hm⟩ := p
  obtain ⟨o', es', ep', ho', hd', _, hm'⟩ := q
  rw [ho] at ho'; cases ho'
  rw [hd] at hd'; cases hd'
  rw [← hm x, hm' x]
section
variable {X : Cx} {pins : List (Addr × Obj)} {σ : L2.St} {H : Hp} {s : Shared}
/-- what a local name holds, token and all -/
def Raw (X : Cx) (s : Shared) (x : Str) (u : Value) : Prop := ∀ m, s.heap.Ns X.env.locals m → m x = some u
/-- the frame's own object is written, all else stands -/
theorem inv_frame {σ' : L2.St} {m' : Str → Option Value} {h' : Heap} {tk : Nat} (I : Inv X pins σ H s) (same : ∀ b o, b ≠ X.env.locals → s.heap.get? b = some o → h'.get? b = some o) (back : ∀ b, b ≠ X.env.locals → h'.get? b = s.heap.get? b)
    (names : h'.Ns X.env.locals m') (wide : σ'.length = X.N.length)
    (looks : ∀ (i : Nat) (x : Str) (v : V), X.N[i]? = some x → σ'[i]? = some (some v) → Vis X.env.scope x → ∃ u, RelV v u ∧ Look X.env h' m' x u) : Inv X pins σ' H { s with heap := h', toks := tk } := by
  have early : ∀ {b : Addr} {o : Obj}, X.s_0.heap.get? b = some o → b ≠ X.env.locals := fun {b o} e z => by
    have l1 := Heap.lt_size e
    have l2 := I.ok.above
    rw [z] at l1
    exact Nat.lt_irrefl _ (Nat.lt_of_lt_of_le l1 l2)
  have before := I.base
  constructor
  case ok => exact I.ok
  case os => exact I.os
  case bare => exact I.bare
  case base =>
    constructor
    case keep => intro b o e n hb hx; rw [back b (early e)]; exact before.keep b o e n hb hx
    case slot =>
      intro b o e n hb hx
      rw [back b (early e)]
      exact before.slot b o e n hb hx
    case free => exact before.free
    case there => intro b o e hx; rw [back b (early e)]; exact before.there b o e hx
    case tups => exact before.tups
    case frzs => exact before.frzs
    case tbls => exact before.tbls
  case loc => exact ⟨m', names, looks⟩
  case cell =>
    intro x c e
    obtain ⟨v, o, at_, held⟩ := I.cell x c e
    exact ⟨v, o, same c o (I.cne x c e) at_, held⟩
  case free => exact I.free
  case freeC => exact I.freeC
  case pin =>
    intro p hp
    have q := I.pin p hp
    exact ⟨same p.1 p.2 q.2.2.1 q.1, q.2⟩
  case hok =>
    intro b ob e
    have foreign : ∀ c, (c = b ∨ H c = some (.own b)) → c ≠ X.env.locals := fun c hc z => by
      have free := I.free
      rw [← z] at free
      rcases hc with hc | hc
      · rw [hc, e] at free; cases free
      · rw [hc] at free; cases free
    exact (I.hok b ob e).stay (fun c v hc at_ => same c v (foreign c hc) at_) (fun _ x => x) (fun _ _ x => x)
  case len => exact wide
/-- a local name is stored -/
theorem store_raw {M : Model} {A : Around} {E : Value → Shared → Prop} {i : Nat} {x : Str} {v : V} {u : Value} {Q : Unit → Shared → Prop} (I : Inv X pins σ H s) (hN : X.N.Nodup) (hi : X.N[i]? = some x) (hk : X.env.scope.names.lookup x = some .local) (r : RelV v u)
    (h : ∀ s', Inv X pins (σ.set i (some v)) H s' → s'.toks = s.toks + 1 → (∀ y w, y ≠ x → Raw X s y w → Raw X s' y w) → Raw X s' x u → Q () s') : wpAny M A (storeName X.env x u) Q E s := by
  obtain ⟨m, names, looks⟩ := I.loc
  have plain : (X.env.scope.kind == .class || (X.env.scope.kind == .module && X.env.locals != X.env.globals)) = false := by have k := I.ok.kind; rw [k]; rfl
  have wide : i < σ.length := by have := I.len; have := (List.getElem?_eq_some_iff.mp hi).1; omega
  refine wpAny_storeName_local hk names (fun h' now but => ?_) plain
  have apart := I.cne
  refine h _ (inv_frame I (fun b o nb e => (but.2 b nb).trans e) but.2 now (by simpa using I.len) fun j y z e1 e2 e3 => ?_) rfl (fun y w ny R m2 n2 => by rw [ns_fun n2 now y]; simp [ny, R m names]) fun m2 n2 => by rw [ns_fun n2 now x]; simp
  rcases Nat.decEq j i with ne | eq
  · have e4 : σ[j]? = some (some z) := by simpa [List.getElem?_set_ne (Ne.symm ne)] using e2
    obtain ⟨w, rel, look⟩ := looks j y z e1 e4 e3
    refine ⟨w, rel, look.elim (fun l => .inl ⟨l.1, ?_⟩) fun ⟨k, c, ec, held⟩ => .inr ⟨k, c, ec, held.sameBut but (apart y c ec)⟩⟩
    have : y ≠ x := fun e => ne (nodup_ix hN e1 (by rw [e]; exact hi))
    simp [this, l.2]
  · subst eq
    have ey : y = x := Option.some.inj (e1.symm.trans hi)
    have ez : z = v := by simpa [List.getElem?_set_self wide] using e2.symm
    subst ey ez
    exact ⟨u, r, .inl ⟨hk, by simp⟩⟩
theorem Raw.name {x : Str} {u : Value} {p : Pos} {Q E : Value → Shared → Prop} (R : Raw X s x u) (I : Inv X pins σ H s) (hk : X.env.scope.names.lookup x = some .local) (h : Q u s) (hd : (x == ("__debug__" : Str)) = false := by decide) :
    wpAny (model X.prog X.w) X.A (eval (.Name x p) X.env) Q E s := by
  obtain ⟨m, hn, _⟩ := id I.loc
  exact wpAny_Name (wpAny_loadName_local I.ok.kind hk hn (R m hn) h) hd
theorem Raw.tok {x : Str} {u : Value} {k : Nat} (R : Raw X s x u) : Raw X { s with toks := k } x u := R

def tDraw (ti : TE) (is ik iF : Nat) : TS := fun D σ H => ∃ z f, σ[ik]? = some (some (.str z)) ∧ σ[iF]? = some (some (.str f)) ∧ ti σ H fun y H1 => ∃ i c, y = .int i ∧ z.length ≤ sizeLine ∧ atI z.cps.toList i = some c ∧ f.length + 1 ≤ sizeLine ∧
  D.nx (((σ.set is (some (.str ⟨#[c]⟩))).set iF (some (.str (f ++ ⟨#[c]⟩)))).set ik (some (.str (Txt.replace z ⟨#[c]⟩ ⟨#[]⟩)))) H1
theorem psst_draw {rest : List Stmt} {ur : TS} {is ik iF : Nat} {sx kx fx : Str} {ie : Expr} {ti : TE} {ps p1 p2 pos1 p3 p4 p5 p6 pos2 p7 p8 apos p9 c0 cpos pos3 : Pos} {j0 : Nat} (hN : X.N.Nodup) (hs : X.N[is]? = some sx) (hk : X.N[ik]? = some kx) (hf : X.N[iF]? = some fx)
    (ls : X.env.scope.names.lookup sx = some .local) (lk : X.env.scope.names.lookup kx = some .local) (lf : X.env.scope.names.lookup fx = some .local) (hi : PE X ie ti) (hr : PSs X rest ur)
    (nsf : sx ≠ fx) (nsk : sx ≠ kx) (nfk : fx ≠ kx) (dis : is ≠ ik) (dif : is ≠ iF)
    (hpl : PlainIx ie := by intro _ _; rfl)
    (hs1 : swapsWith (.Subscript (.Name kx p1) ie p2) (some (.Name sx ps)) pos1.line X.env = pure false := by rfl)
    (hs2 : swapsWith (.BinOp (.Name fx p4) .Add (.Name sx p5) p6) (some (.Name fx p3)) pos2.line X.env = pure false := by rfl)
    (hs3 : swapsWith (.Call (.Attribute (.Name kx p8) "replace" apos) [.Name sx p9, .Constant (.str ⟨#[]⟩) j0 c0] [] cpos) (some (.Name kx p7)) pos3.line X.env = pure false := by rfl)
    (hst : starEach [.Name sx p9, .Constant (.str ⟨#[]⟩) j0 c0] X.env = [(false, eval (.Name sx p9) X.env), (false, eval (.Constant (.str ⟨#[]⟩) j0 c0) X.env)] := by rfl)
    (hbase : attributeBase (.Name kx p8) "replace" X.env (eval (.Name kx p8) X.env) = eval (.Name kx p8) X.env := by rfl) (hline : (apos.endLine == cpos.line) = true := by rfl)
    (ds : (sx == ("__debug__" : Str)) = false := by decide) (dk : (kx == ("__debug__" : Str)) = false := by decide) (df : (fx == ("__debug__" : Str)) = false := by decide)
    (cs : (sx == ("__classdict__" : Str)) = false := by decide) (ck : (kx == ("__classdict__" : Str)) = false := by decide) (cf : (fx == ("__classdict__" : Str)) = false := by decide) :
    PSsT X (.Assign [.Name sx ps] (.Subscript (.Name kx p1) ie p2) pos1 :: .Assign [.Name fx p3] (.BinOp (.Name fx p4) .Add (.Name sx p5) p6) pos2 ::
      .Assign [.Name kx p7] (.Call (.Attribute (.Name kx p8) "replace" apos) [.Name sx p9, .Constant (.str ⟨#[]⟩) j0 c0] [] cpos) pos3 :: rest) (tSeq (tDraw ti is ik iF) ur) := by
  intro pins s σ H D h0 I h
  obtain ⟨z, f, hzk, hzf, h⟩ := h
  have hsl : is < σ.length := by rw [I.len]; exact (List.getElem?_eq_some_iff.mp hs).1
  refine wpAny_execs_cons (wpAny_Assign_Name ?_ hs1)
  refine Subscript_ (raw_name hk (.inl lk) I hzk (fun v r1 => ?_) dk ck)
  obtain ⟨t1, rfl⟩ := r1
  refine wpAny_mono (wpAny_toks (hi.run pins s σ H _ I h)) (fun u s2 q => ?_) fun _ _ y => y.2
  obtain ⟨k2, y, H2, I2, r2, i, c, rfl, hz, he, hfl, q⟩ := q
  obtain ⟨t2, rfl⟩ := r2
  obtain ⟨j, at1, at2, _, low, high⟩ := atI_get he
  have size : z.length = z.cps.toList.length := by simp [Str.length]
  rw [← size] at at1 low high
  have limit := line63
  have inside : (decide (i < -(2 ^ 63 : Int)) || decide (i ≥ 2 ^ 63)) = false := by
    rw [decide_eq_false (show ¬ i < -(2 ^ 63 : Int) by omega), decide_eq_false (show ¬ i ≥ 2 ^ 63 by omega)]; rfl
  refine tail_any (typeIs_str s2 z t1) slot_str_getitem.lookup (getItem_str (c := c) inside (by rw [at1]; simpa using at2) ?_) (hpl _ _)
  refine store_raw (v := V.str ⟨#[c]⟩) (I2.tok _) hN hs ls ⟨s2.toks, rfl⟩ fun s3 I3 e3 keep3 R3 => ?_
  have hk3 : s3.toks = s2.toks + 1 + 1 := e3
  -- found = found + sign
  refine wpAny_execs_cons (wpAny_Assign_Name ?_ hs2)
  refine wpAny_BinOp (raw_name hf (.inl lf) I3 (by rw [List.getElem?_set_ne dif]; exact hzf) (fun v r => ?_) df cf)
  obtain ⟨t3, rfl⟩ := r
  refine R3.name I3 ls ?_ ds
  refine wpAny_with_toks (Nat.le_refl s3.toks) ?_
  refine add_str (fun t' tk hk4 => ?_) (by show f.length + 1 ≤ _; exact hfl)
  refine store_raw (v := V.str (f ++ ⟨#[c]⟩)) (I3.tok _) hN hf lf ⟨t', rfl⟩ fun s5 I5 e5 keep5 _ => ?_
  have R5 : Raw X s5 sx (.str ⟨#[c]⟩ s2.toks) := keep5 _ _ nsf R3.tok
  have hk5 : s5.toks = tk + 1 := e5
  have hk4' : s3.toks ≤ tk := hk4
  -- pool = pool.replace(sign, "")
  refine wpAny_execs_cons (wpAny_Assign_Name ?_ hs3)
  refine PySem.Call_method2 hbase hst hline (raw_name hk (.inl lk) I5 (v := .str z) (by
    by_cases e : iF = ik
    · subst e; exact absurd (Option.some.inj (hf.symm.trans hk)) nfk
    · rw [List.getElem?_set_ne e, List.getElem?_set_ne dis]; exact hzk) (fun v r => ?_) dk ck)
  obtain ⟨t6, rfl⟩ := r
  refine ⟨"str", _, F.plainAttrs_str, F.slot_str_replace, F.type_str_replace, typeIs_str _ _ _, (fun _ e => nomatch e), Calls.callWith_builtin rfl (Calls.evalArgs_plain (Calls.spliced_cons ?_))⟩
  refine R5.name I5 ls ?_ ds
  refine Calls.spliced_cons (Calls.Constant_str ?_)
  refine Calls.spliced_nil ?_
  have z1 : s2.toks ≠ 0 := by omega
  have z2 : s5.toks ≠ 0 := by omega
  have z3 : s2.toks ≠ s5.toks := by omega
  refine PySem.SC.replace z1 (by first | exact z2 | skip) (by first | exact z3 | skip) ?_ ?_ fun t' k => ?_
  · have hne : (⟨#[c]⟩ : Str) ≠ ⟨#[]⟩ := fun e => by injection e with e; simp at e
    exact beq_false_of_ne hne
  · show z.length + (z.length + 1) * 0 ≤ 16777216
    have := sizeLine_eq
    omega
  refine store_raw (v := V.str (Txt.replace z ⟨#[c]⟩ ⟨#[]⟩)) (I5.tok _) hN hk lk ⟨t', rfl⟩ fun s7 I7 _ _ _ => ?_
  exact hr.run pins s7 _ H2 D I7 q
end

section
variable {X : Cx} {ct : Nat → Addr} {W : WX} {st : Stmt} {rest body : List Stmt} {tg iter : Expr} {fi : SE} {g g2 : SS} {pos pos' : Pos} {T : Tgt}
theorem _root_.L2.PST.imp {t t' : TS} (p : PST X st t) (h : ∀ D σ H, t' D σ H → t D σ H) : PST X st t' := fun pins s σ H D h0 I q => p pins s σ H D h0 I (h D σ H q)
theorem _root_.L2.PSsT.imp {t t' : TS} (p : PSsT X rest t) (h : ∀ D σ H, t' D σ H → t D σ H) : PSsT X rest t' := fun pins s σ H D h0 I q => p pins s σ H D h0 I (h D σ H q)
theorem wtok {α : Type} {M : Model} {A : Around} {t : Sem α} {Q : α → Shared → Prop} {E : Value → Shared → Prop} {s : Shared} (out : 1 ≤ s.toks) (h : wpAny M A t Q E s) : wpAny M A t (fun a z => 1 ≤ z.toks ∧ Q a z) E s :=
  wpAny_mono (PySem.wpAny_toks_of out h) (fun _ _ q => q) fun _ _ q => q.2
/-- a loop whose suite wants a token to be out -/
theorem pst_forT {wi : TI} {g : TG} {tb : TS} (hp : PassesOwn (model X.prog X.w) X.A X.env X.xe) (hc : X.calm = true) (hi : PI X tg iter wi) (hg : PG X tg g) (hb : PSsT X body tb)
    (hs : ∀ x, foldedSetIterable iter X.env x = pure x := by intro _; rfl) : PST X (.For tg iter body [] pos) (tFor wi g tb) := fun pins s σ H D out I want => by
  refine wpAny_For (wpAny_mono (wtok out (hi.run pins s σ H _ I want)) (fun _ sa qa => wpAny_mono (wtok qa.1 qa.2) (fun _ sb qb => ?_) fun _ _ y => y) fun _ _ y => y) hs
  obtain ⟨outb, it, fp, tn, J, Hb, rfl, Ib, T, stb, fpb, W, start, turn⟩ := qb
  obtain ⟨n0, w0⟩ := start
  have known : ∀ {G : Hp}, (∀ b ∈ fp, G b = none) → ∀ b ∈ fp, FpOk X pins G b := fun none_ b hb => ⟨none_ b hb, (fpb b hb).2⟩
  let Inn : Nat → Shared → Prop := fun n z => 1 ≤ z.toks ∧ ∃ (i : Nat) (τ : L2.St) (G : Hp), Inv X pins τ G z ∧ tn i z.heap ∧ (∀ b ∈ fp, G b = none) ∧ W i n τ G
  refine codeAny_forLoop_any Inn (fun n z inn => ?_) n0 ⟨outb, 0, σ, Hb, Ib, stb, fun b hb => (fpb b hb).1, w0⟩
  obtain ⟨outz, i, τ, G, Iz, stz, frz, wz⟩ := inn
  cases turn i n τ G wz with
  | inl last =>
    refine wpAny_passesOwn hp (wpAny_mono (T.done X rfl rfl rfl hc i pins z τ G X.xe Iz (known frz) stz last.1) (fun r z1 q => ?_) fun _ _ y => y)
    obtain ⟨rfl, I1⟩ := q
    exact wpAny_execs_nil ⟨τ, G, I1, last.2⟩
  | inr more =>
    obtain ⟨go, Nx, hNx, step⟩ := more
    refine wpAny_passesOwn hp (wpAny_mono (wtok outz (T.item X rfl rfl rfl hc i pins z τ G X.xe Iz (known frz) stz go)) (fun r z1 q => ?_) fun _ _ y => y)
    obtain ⟨out1, item, rfl, q⟩ := q
    refine wpAny_passesOwn hp (wpAny_mono (wtok out1 q) (fun _ z2 q => ?_) fun _ _ y => y)
    obtain ⟨out2, x, G2, I2, rel2, y2, st2, fr2⟩ := q
    have J2 := I2.pinned (known fr2) (T.obj _ _ st2)
    refine wpAny_passesOwn hp (wpAny_mono (wtok out2 (hg.run _ z2 τ G2 x item _ J2 rel2 (step x G2 y2))) (fun _ z3 q => ?_) fun _ _ y => y)
    obtain ⟨out3, τ3, G3, I3, q⟩ := q
    refine wpAny_passesOwn hp (wpAny_mono (wtok out3 (hb _ z3 τ3 G3 _ out3 I3 q)) (fun fl z4 q => ?_) fun _ _ y => y)
    obtain ⟨out4, q⟩ := q
    have anew : ∀ (τ4 : L2.St) (G4 : Hp), Inv X (pins ++ pinsAt fp z2.heap) τ4 G4 z4 → Nx τ4 G4 → ∃ k, k < n ∧ Inn k z4 := fun τ4 G4 I4 nx => by
      have pinned : ∀ (b : Addr) (o : Obj), b ∈ fp → z2.heap.get? b = some o → z4.heap.get? b = some o ∧ G4 b = none := fun b o hb e => by
        have w := I4.pin (b, o) (List.mem_append.mpr (.inr (List.mem_append.mpr (.inr (mem_pinsAt hb e)))))
        exact ⟨w.1, w.2.1⟩
      obtain ⟨k, less, wk⟩ := hNx τ4 G4 nx
      refine ⟨k, less, out4, i + 1, τ4, G4, I4.unpinned, T.keep _ _ _ st2 fun b hb o e => (pinned b o hb e).1, fun b hb => ?_, wk⟩
      obtain ⟨o, e, _⟩ := T.obj _ _ st2 b hb
      exact (pinned b o hb e).2
    match fl, q with
    | .next, ⟨τ4, G4, I4, nx⟩ => exact anew τ4 G4 I4 nx
    | .cont, ⟨τ4, G4, I4, nx⟩ => exact anew τ4 G4 I4 nx
    | .brk, ⟨τ4, G4, I4, q⟩ => exact ⟨τ4, G4, I4.unpinned, q⟩
    | .ret v, ⟨x4, τ4, G4, I4, rel4, q⟩ => exact ⟨x4, τ4, G4, I4.unpinned, rel4, q⟩

theorem for_den {K : PySem.W.Frag} {gt : TG} (hT : TgOk K ct gt T) {D : Ends} {σ : L2.St} {H : Hp} (h : sOf K ct W (ssFor T fi g) D σ H) : tFor (tI K ct W O1 fi) gt (sOf K ct W g) D σ H := by
  obtain ⟨env, F, E, h⟩ := h
  refine ⟨env, F, E, ?_⟩
  unfold ssFor at h
  cases q : fi env with
  | er c fs => rw [q] at h; exact fun dx F' H' g x => h dx σ F' H' g.sx (E.gr g) x
  | st => rw [q] at h; exact h
  | ok d =>
    rw [q] at h
    cases d <;> first | exact h.elim | skip
    rename_i ds
    intro J F1 H1 g1 hJ
    obtain ⟨G, Y, w, hG, hY⟩ := hJ
    have h : FinS K ct W F H env σ (loopF T g ds env) D := h
    refine for_it w (fun i σ' H' => ∃ env' F', Sx F1 H1 env σ F' H' env' σ' ∧ EnvOk K ct F' H' env' σ' ∧ loopF T g (ds.drop i) env' = loopF T g ds env)
      ⟨env, F1, (Gr.refl g1.e).sx, E.gr g1, rfl⟩ (fun i σ' H' hi p => ?_) (fun i x σ' H2 H2' hi p y => ?_) fun σ' H' p => ?_
    · obtain ⟨env', F', S, E', _⟩ := p
      exact hG H' fun b o q n => S.k b o q n
    · obtain ⟨env', F', S, E', hl⟩ := p
      have hd : ds[i]? = some ds[i] := by simp [hi]
      obtain ⟨F3, g3, r3⟩ := hY i ds[i] F' H2 x H2' hd S.f S.e y
      rw [List.drop_eq_getElem_cons hi, loopF_cons] at hl
      cases hb : bindT T ds[i] env' with
      | none => rw [hb] at hl; rw [← hl] at h; exact h.elim
      | some e =>
        rw [hb] at hl
        replace hl : stepL (g e) (loopF T g (ds.drop (i + 1))) = loopF T g ds env := hl
        refine hT x σ' F3 H2' env' e ds[i] _ (E'.gr g3) r3 hb fun σ2 E2 S2 _ _ => ⟨e, F3, E2, ?_⟩
        have S' := (S.trans g3.sx).trans S2
        have hS := finS_after (g1.sx.trans S') h
        cases ho : g e with
        | nx e' => rw [ho] at hl; exact fun σ4 F4 H4 S4 E4 => ⟨e', F4, S'.trans S4, E4, hl⟩
        | ct e' => rw [ho] at hl; exact fun σ4 F4 H4 S4 E4 => ⟨e', F4, S'.trans S4, E4, hl⟩
        | bk e' => rw [ho] at hl; rw [← hl] at hS; exact hS
        | rt d => rw [ho] at hl; rw [← hl] at hS; exact hS
        | rn d => rw [ho] at hl; rw [← hl] at hS; exact hS
        | er c fs e' => rw [ho] at hl; rw [← hl] at hS; exact hS
        | st => rw [ho] at hl; rw [← hl] at h; exact h.elim
    · obtain ⟨env', F', S, E', hl⟩ := p
      rw [List.drop_length] at hl
      rw [← hl] at h
      exact h σ' F' H' (g1.sx.trans S) E'
theorem p_forT {gt : TG} (hp : PassesOwn (model X.prog X.w) X.A X.env X.xe) (hc : X.calm = true) (hT : TgOk X.K ct gt T) (hi : PI X tg iter (tI X.K ct W O1 fi)) (hg : PG X tg gt) (hb : PSsT X body (sOf X.K ct W g))
    (hs : ∀ x, foldedSetIterable iter X.env x = pure x := by intro _; rfl) : PST X (.For tg iter body [] pos) (sOf X.K ct W (ssFor T fi g)) := (pst_forT hp hc hi hg hb hs).imp fun _ _ _ h => for_den hT h
theorem seq_den {K : PySem.W.Frag} {D : Ends} {σ : L2.St} {H : Hp} (h : sOf K ct W (ssSeq g g2) D σ H) : tSeq (sOf K ct W g) (sOf K ct W g2) D σ H := by
  obtain ⟨env, F, E, h⟩ := h
  refine ⟨env, F, E, ?_⟩
  refine finS_nx (fun e q σ' F' H' x E' => ⟨e, F', E', ?_⟩) fun n => ?_
  · unfold ssSeq at h
    rw [q] at h
    exact finS_after x h
  · have q : ssSeq g g2 env = g env := by
      unfold ssSeq
      cases z : g env with
      | nx e => exact absurd z (n e)
      | _ => rfl
    rw [q] at h
    exact h
theorem p_consT (h1 : PST X st (sOf X.K ct W g)) (h2 : PSsT X rest (sOf X.K ct W g2)) : PSsT X (st :: rest) (sOf X.K ct W (ssSeq g g2)) := (psst_cons h1 h2).imp fun _ _ _ h => seq_den h
/-- a written text stored: from here on a token is out -/
theorem p_strT {i j : Nat} {x c : Str} {cpos pos' pos : Pos} (hN : X.N.Nodup) (hi : X.N[i]? = some x) (hx : Loc X.env.scope x) (h2 : PSsT X rest (sOf X.K ct W g2))
    (hs : swapsWith (.Constant (.str c) j cpos) (some (.Name x pos')) pos.line X.env = pure false := by rfl) (hf : X.fn x = true ∨ X.env.scope.names.lookup x = some .local := by first | exact .inl rfl | exact .inr rfl | assumption) :
    PSs X (.Assign [.Name x pos'] (.Constant (.str c) j cpos) pos :: rest) (sOf X.K ct W (ssSeq (ssAsg (.nm i) (sC (.str c))) g2)) :=
  (pss_str hN hi hx h2 hs hf).imp fun D σ H h => by
    have q := seq_den h
    obtain ⟨env, F, E, q⟩ := q
    show tAsg (tC (.str c)) (gName i) _ σ H
    have q2 : sOf X.K ct W (ssAsg (.nm i) (sC (.str c))) { D with nx := sOf X.K ct W g2 D } σ H := ⟨env, F, E, q⟩
    obtain ⟨env, F, E, q⟩ := t_asg (f := sC (.str c)) (tg_nm i) q2
    exact q (.str c) F H (Gr.refl E.ex) rfl

/-- the three steps as one -/
def ssDraw (is ik iF : Nat) (f : SE) : SS := fun env => match env[ik]?, env[iF]? with
  | some (.sh (.str z)), some (.sh (.str ff)) => bndS (f env) env fun d => (match d with
    | .int i => (match atI z.cps.toList i with
      | some c => if z.length ≤ sizeLine ∧ ff.length + 1 ≤ sizeLine then (match bindL [is, iF, ik] [.str ⟨#[c]⟩, .str (ff ++ ⟨#[c]⟩), .str (Txt.replace z ⟨#[c]⟩ ⟨#[]⟩)] env with
        | some e => .nx e
        | none => .st) else .st
      | none => .st)
    | _ => .st)
  | _, _ => .st
theorem p_draw {is ik iF : Nat} {sx kx fx : Str} {ie : Expr} {f : SE} {ps p1 p2 pos1 p3 p4 p5 p6 pos2 p7 p8 apos p9 c0 cpos pos3 : Pos} {j0 : Nat} (hN : X.N.Nodup) (hs : X.N[is]? = some sx) (hk : X.N[ik]? = some kx) (hf : X.N[iF]? = some fx)
    (ls : X.env.scope.names.lookup sx = some .local) (lk : X.env.scope.names.lookup kx = some .local) (lf : X.env.scope.names.lookup fx = some .local) (hi : PE X ie (ER X.K ct W f)) (hr : PSs X rest (sOf X.K ct W g2))
    (nsf : sx ≠ fx := by decide) (nsk : sx ≠ kx := by decide) (nfk : fx ≠ kx := by decide) (dis : is ≠ ik := by decide) (dif : is ≠ iF := by decide)
    (hpl : PlainIx ie := by intro _ _; rfl)
    (hs1 : swapsWith (.Subscript (.Name kx p1) ie p2) (some (.Name sx ps)) pos1.line X.env = pure false := by rfl)
    (hs2 : swapsWith (.BinOp (.Name fx p4) .Add (.Name sx p5) p6) (some (.Name fx p3)) pos2.line X.env = pure false := by rfl)
    (hs3 : swapsWith (.Call (.Attribute (.Name kx p8) "replace" apos) [.Name sx p9, .Constant (.str ⟨#[]⟩) j0 c0] [] cpos) (some (.Name kx p7)) pos3.line X.env = pure false := by rfl)
    (hst : starEach [.Name sx p9, .Constant (.str ⟨#[]⟩) j0 c0] X.env = [(false, eval (.Name sx p9) X.env), (false, eval (.Constant (.str ⟨#[]⟩) j0 c0) X.env)] := by rfl)
    (hbase : attributeBase (.Name kx p8) "replace" X.env (eval (.Name kx p8) X.env) = eval (.Name kx p8) X.env := by rfl) (hline : (apos.endLine == cpos.line) = true := by rfl)
    (ds : (sx == ("__debug__" : Str)) = false := by decide) (dk : (kx == ("__debug__" : Str)) = false := by decide) (df : (fx == ("__debug__" : Str)) = false := by decide)
    (cs : (sx == ("__classdict__" : Str)) = false := by decide) (ck : (kx == ("__classdict__" : Str)) = false := by decide) (cf : (fx == ("__classdict__" : Str)) = false := by decide) :
    PSsT X (.Assign [.Name sx ps] (.Subscript (.Name kx p1) ie p2) pos1 :: .Assign [.Name fx p3] (.BinOp (.Name fx p4) .Add (.Name sx p5) p6) pos2 ::
      .Assign [.Name kx p7] (.Call (.Attribute (.Name kx p8) "replace" apos) [.Name sx p9, .Constant (.str ⟨#[]⟩) j0 c0] [] cpos) pos3 :: rest)
      (sOf X.K ct W (ssSeq (ssDraw is ik iF f) g2)) := by
  refine (psst_draw hN hs hk hf ls lk lf hi hr nsf nsk nfk dis dif hpl hs1 hs2 hs3 hst hbase hline ds dk df cs ck cf).imp fun D0 σ H h => ?_
  have h2 : ∀ Z : Ends, Z = { D0 with nx := sOf X.K ct W g2 D0 } → sOf X.K ct W (ssDraw is ik iF f) Z σ H := fun Z e => by subst e; exact seq_den h
  clear h
  show tDraw (ER X.K ct W f) is ik iF { D0 with nx := sOf X.K ct W g2 D0 } σ H
  generalize hZ : ({ D0 with nx := sOf X.K ct W g2 D0 } : Ends) = Z
  have h := h2 Z hZ.symm
  obtain ⟨env, F, E, h⟩ := h
  unfold ssDraw at h
  split at h
  · rename_i z ff q1 q2
    obtain ⟨v1, e1, r1⟩ := E.sh ik _ q1
    obtain ⟨v2, e2, r2⟩ := E.sh iF _ q2
    have r1 : v1 = .str z := r1
    have r2 : v2 = .str ff := r2
    subst r1 r2
    refine ⟨z, ff, e1, e2, finS_bind E h fun d v F1 H1 hq g1 r E1 h => ?_⟩
    cases d <;> first | exact h.elim | skip
    rename_i i
    have r : v = .int i := r
    subst r
    replace h : FinS X.K ct W F H env σ (match atI z.cps.toList i with
      | some c => if z.length ≤ sizeLine ∧ ff.length + 1 ≤ sizeLine then (match bindL [is, iF, ik] [.str ⟨#[c]⟩, .str (ff ++ ⟨#[c]⟩), .str (Txt.replace z ⟨#[c]⟩ ⟨#[]⟩)] env with
        | some e => .nx e
        | none => .st) else .st
      | none => .st) Z := h
    cases q : atI z.cps.toList i with
    | none => rw [q] at h; exact h.elim
    | some c =>
      rw [q] at h
      replace h : FinS X.K ct W F H env σ (if z.length ≤ sizeLine ∧ ff.length + 1 ≤ sizeLine then (match bindL [is, iF, ik] [.str ⟨#[c]⟩, .str (ff ++ ⟨#[c]⟩), .str (Txt.replace z ⟨#[c]⟩ ⟨#[]⟩)] env with
        | some e => .nx e
        | none => .st) else .st) Z := h
      split at h
      · rename_i hz
        cases hb : bindL [is, iF, ik] [.str ⟨#[c]⟩, .str (ff ++ ⟨#[c]⟩), .str (Txt.replace z ⟨#[c]⟩ ⟨#[]⟩)] env with
        | none => rw [hb] at h; exact h.elim
        | some e =>
          rw [hb] at h
          have hr3 : Reps X.K ct F1 [Ps.D.str ⟨#[c]⟩, .str (ff ++ ⟨#[c]⟩), .str (Txt.replace z ⟨#[c]⟩ ⟨#[]⟩)] [V.str ⟨#[c]⟩, V.str (ff ++ ⟨#[c]⟩), V.str (Txt.replace z ⟨#[c]⟩ ⟨#[]⟩)] := ⟨_, _, rfl, rfl, _, _, rfl, rfl, _, _, rfl, rfl, rfl⟩
          have hg := tg_names [is, iF, ik] _ _ σ F1 H1 env e Z.nx E1 hr3 hb fun σ' E2 S2 _ _ => h σ' F1 H1 (g1.sx.trans S2) E2
          obtain ⟨a1, b1, y1, a2, b2, y2, a3, b3, y3, y4, hg⟩ := hg
          cases y1; cases y2; cases y3
          exact ⟨i, c, rfl, hz.1, q, hz.2, hg⟩
      · exact h.elim
  · exact h.elim
end
end Ps

namespace Ps
open PySem PySem.Spec PyProof.Rows L2

/-! ### own errors with fields -/
/-- the base whose __init__ is ValueError's -/
structure BaseI (K : PySem.W.Frag) (mg : Str → Option Value) (B : Addr) (x : Str) : Prop where
  g : mg x = some (.ref B)
  r : PySem.W.readsIn K B (.type "type") = true
  f : PySem.W.findCls K (.ref B) (.type "type") "__init__" = some (.val (.builtin "ValueError.__init__"))
  s : PySem.W.specialIn K (.ref B) "__getattribute__" = some (some (.builtin "type.__getattribute__"))
/-- an error class with an __init__ of its own -/
structure OxC (K : PySem.W.Frag) (mg : Str → Option Value) (C fI : Addr) (x : Str) : Prop where
  g : mg x = some (.ref C)
  o : OexC K C
  i : PySem.W.findIn K (.ref C) "__init__" = some (some (.ref fI))
  t : PySem.W.typeIn K (.ref fI) = some (.type "function")
section
variable {X : Cx} {e : Expr} {es : List Expr} {ta : TA} {p1 p2 pos : Pos} {x : Str} {B : Addr}
/-- Base.__init__(self, ..) -/
theorem pe_binit {pl : Sem Bool} (T : BaseI X.K X.mg B x) (hg : Gl X x) (ha : PA X (e :: es) ta) (hdb : (x == ("__debug__" : Str)) = false := by decide)
    (hc : eval (.Call (.Attribute (.Name x p1) "__init__" p2) (e :: es) [] pos) X.env = (do
      let ov ← eval (.Name x p1) X.env
      standAt p2.atName
      let (f, first) ← holding [ov] (getMethod ov "__init__" pl)
      callWith pos f first (backTo pos (starEach (e :: es) X.env)) (backToKw pos (keywordEach [] X.env))) := by rfl)
    (he : starEach (e :: es) X.env = (false, eval e X.env) :: starEach es X.env := by rfl) (hpl : (backTo pos (starEach es X.env)).any (·.1) = false := by rfl) :
    PE X (.Call (.Attribute (.Name x p1) "__init__" p2) (e :: es) [] pos) (tVeI X.K ta) := ⟨fun pins s σ H Q I want => by
  refine PySem.W.methodCall_KW (ld_glob I hg T.g ?_ hdb) hc
  refine PySem.W.method_cls I.kIn T.s (PySem.W.cls_value I.kIn T.r T.f (by decide +kernel) ?_)
  show wpAny _ _ (callWith pos (Value.builtin "ValueError.__init__") [] (backTo pos (starEach (e :: es) X.env)) []) _ _ _
  refine PyProof.Rows.callWith_method1 (thn (ha.run pos pins _ σ H _ (I.tok _) want) fun us s1 got => ?_) he hpl
  obtain ⟨vs, H1, I1, rel, a, C, ws, rfl, few, T', at_, q⟩ := got
  match us, rel with
  | _, .cons ra rest =>
    cases (show _ = Value.ref a from ra)
    exact oinit_ok T' I1 at_ (by rw [← Paired.length rest, sizeLine_eq]; omega) fun s' J => ⟨.non, H1, J, rfl, q⟩⟩
end

section
variable {K : PySem.W.Frag} {C : Addr}
/-- what such an __init__ does: one field, two -/
def spX1 (K : PySem.W.Frag) (C : Addr) (n : Str) : Sp := fun vs H Q _ => ∃ a y, vs = [.ref a, y] ∧ H a = some (exo a C none) ∧ ∀ dx, H dx = none → dx ≠ a → Q .non (upd (upd H dx (exd dx [(n, y)])) a (exo a C (some dx)))
def spX2 (K : PySem.W.Frag) (C : Addr) (n m : Str) : Sp := fun vs H Q _ => ∃ a y z, vs = [.ref a, y, z] ∧ H a = some (exo a C none) ∧ ∀ dx, H dx = none → dx ≠ a →
  Q .non (upd (upd (upd H dx (exd dx [(n, y)])) a (exo a C (some dx))) dx (exd dx [(m, z), (n, y)]))
/-- the suite: Base.__init__(self, text); self.n = n; self.m = m -/
def tX1 (K : PySem.W.Frag) (n t : Str) : TS := tSeq (tDrop (tVeI K (tCons (tVar 0) (tCons (tC (.str t)) tNil)))) (tOst K n (tVar 0) (tVar 1))
def tX2 (K : PySem.W.Frag) (n m t : Str) : TS := tSeq (tDrop (tVeI K (tCons (tVar 0) (tCons (tC (.str t)) tNil)))) (tSeq (tOst K n (tVar 0) (tVar 1)) (tOst K m (tVar 0) (tVar 2)))
variable {P : Program} {w : World} {mg : Str → Option Value} {base : Heap}
theorem start_at {N : List Str} {vs : List V} {i : Nat} {v : V} (h : vs[i]? = some v) : (L2.start N vs)[i]? = some (some v) := start_get h
theorem x1_ok {qual : Str} {st : Stmt} {f : Addr} {fd : FuncData} {sn an t : Str} {k : Nat} (Fn : L2.Fun K "__init__" qual st f fd) (S : FnScope [sn, an] [sn, an] (L2.defScope st)) (T : OexC K C) (hno : PySem.W.findIn K (.ref C) an = some none)
    (hb : ∀ (cdv : Value) (A : Around) (outer : List PySem.Env) (s : Shared) (H : Hp) (E : XK), PSs (cxOf (L2.CX P w) P w K mg base [sn, an] qual (L2.defScope st) f cdv A outer s H E) (L2.defBody st) (tX1 K an t)) :
    FnOk P w K mg base (L2.CX P w) (k + 1) f fd [sn, an] (spX1 K C an) :=
  Fn.okX S (fun vs H Q E ⟨a, y, e, _⟩ => by rw [e]; rfl) fun cdv A outer s H vs Q E hr ⟨a, y, e, at_, h⟩ => by
    subst e
    refine ⟨_, hb cdv A outer s H E, ?_⟩
    refine ⟨.ref a, start_at rfl, a, C, [.str t], rfl, (show 1 ≤ 1000 by decide), T, at_, y, start_at rfl, .ref a, start_at rfl, a, C, rfl, T, hno, .inl ⟨at_, fun dx n ne => ?_⟩⟩
    exact h dx n ne
theorem x2_ok {qual : Str} {st : Stmt} {f : Addr} {fd : FuncData} {sn an bn t : Str} {k : Nat} (Fn : L2.Fun K "__init__" qual st f fd) (S : FnScope [sn, an, bn] [sn, an, bn] (L2.defScope st)) (T : OexC K C) (hno : PySem.W.findIn K (.ref C) an = some none) (hno2 : PySem.W.findIn K (.ref C) bn = some none)
    (hb : ∀ (cdv : Value) (A : Around) (outer : List PySem.Env) (s : Shared) (H : Hp) (E : XK), PSs (cxOf (L2.CX P w) P w K mg base [sn, an, bn] qual (L2.defScope st) f cdv A outer s H E) (L2.defBody st) (tX2 K an bn t)) :
    FnOk P w K mg base (L2.CX P w) (k + 1) f fd [sn, an, bn] (spX2 K C an bn) :=
  Fn.okX S (fun vs H Q E ⟨a, y, z, e, _⟩ => by rw [e]; rfl) fun cdv A outer s H vs Q E hr ⟨a, y, z, e, at_, h⟩ => by
    subst e
    refine ⟨_, hb cdv A outer s H E, ?_⟩
    refine ⟨.ref a, start_at rfl, a, C, [.str t], rfl, (show 1 ≤ 1000 by decide), T, at_, y, start_at rfl, .ref a, start_at rfl, a, C, rfl, T, hno, .inl ⟨at_, fun dx n ne => ?_⟩⟩
    refine ⟨z, start_at rfl, .ref a, start_at rfl, a, C, rfl, T, hno2, .inr ⟨dx, [(an, y)], upd_same, ?_, (show 1 ≤ 900 by decide), h dx n ne⟩⟩
    rw [upd_ne ne, upd_same]
end

/-! ### raise X(..) with fields -/
section
variable {X : Cx} {ct : Nat → Addr} {W : WX} {f g : SE} {a b e : Expr} {pos pos' p : Pos} {x n m : Str}
def ssRaise1 (c : Nat) (n : Str) (f : SE) : SS := fun env => bndS (f env) env fun d => .er c [(n, d)] env
def ssRaise2 (c : Nat) (n m : Str) (f g : SE) : SS := fun env => bndS (f env) env fun d => bndS (g env) env fun e => .er c [(m, e), (n, d)] env
theorem heap1 {H : Hp} {a dx : Addr} {o o1 o2 u : HO} (na : H a = none) (ne : dx ≠ a) : upd (del (upd (upd (upd H a o) dx o1) a o2) a) dx u = upd H dx u := by
  funext b
  by_cases e : b = dx
  · rw [e, upd_same, upd_same]
  · rw [upd_ne e, upd_ne e]
    by_cases z : b = a
    · rw [z, del_same, na]
    · rw [del_ne z, upd_ne z, upd_ne e, upd_ne z]
theorem heap2 {H : Hp} {a dx : Addr} {o o1 o2 o3 u : HO} (na : H a = none) (ne : dx ≠ a) : upd (del (upd (upd (upd (upd H a o) dx o1) a o2) dx o3) a) dx u = upd H dx u := by
  funext b
  by_cases e : b = dx
  · rw [e, upd_same, upd_same]
  · rw [upd_ne e, upd_ne e]
    by_cases z : b = a
    · rw [z, del_same, na]
    · rw [del_ne z, upd_ne e, upd_ne z, upd_ne e, upd_ne z]
theorem never {X : Cx} : Passes (L2.CX X.prog X.w) X (fun _ _ _ => False) := fun _ _ _ _ _ _ _ ⟨_, _, _, _, _, _, _, _, _, _, _, _, z⟩ => z.elim
theorem look1 {n : Str} {v : V} {r : List (Str × V)} : ((n, v) :: r).lookup n = some v := by simp [List.lookup]
theorem p_raise1 (c : Nat) {fI : Addr} {k j : Nat} (T : OxC X.K X.mg (ct c) fI x) (F : Cal X.prog X.w X.K X.mg X.base k fI (spX1 X.K (ct c) n)) (hg : Gl X x) (hc : X.calm = true) (tk : Takes X W) (hr : Room j X.A) (hk : k + 1 ≤ j)
    (ha : PE X a (ER X.K ct W f)) (hdb : (x == ("__debug__" : Str)) = false := by decide) (he : starEach [a] X.env = [(false, eval a X.env)] := by rfl) :
    PS X (.Raise (some (.Call (.Name x p) [a] [] pos)) none pos') (sOf X.K ct W (ssRaise1 c n f)) := by
  obtain ⟨⟨fd, ps, ok, bi⟩, kp⟩ := F
  refine (ps_raise hc tk (pmk_oex T.o T.i T.t ok (hr.mono hk) bi .nil never hg T.g (pa_cons ha pa_nil he) hdb he rfl)).imp fun D σ H ⟨env, F, E, h⟩ => ?_
  refine finS_bind E h fun d v F1 H1 e1 g1 r1 E1 h => ⟨by show 1 ≤ 1000; decide, fun a na => ?_⟩
  refine ⟨a, v, rfl, upd_same, fun dx nd ne => ⟨rfl, dx, [(n, v)], upd_same, by rw [upd_ne ne, upd_same], ?_, ?_⟩⟩
  · rw [upd_ne ne] at nd; exact nd
  · rw [upd_ne ne] at nd
    rw [heap1 na ne]
    have g2 : Gr F1 H1 (upd F1 dx (.xd [(n, v)])) (upd H1 dx (.xd [(n, v)])) := Gr.new E1.ex nd
    exact h (some dx) σ _ _ (g1.trans g2).sx (E1.gr g2) (.inr ⟨by simp, dx, _, rfl, upd_same, ⟨v, look1, Rep.mono (Ex.le g2.f) _ _ r1⟩, trivial⟩)
theorem p_raise2 (c : Nat) {fI : Addr} {k j : Nat} (T : OxC X.K X.mg (ct c) fI x) (F : Cal X.prog X.w X.K X.mg X.base k fI (spX2 X.K (ct c) n m)) (hg : Gl X x) (hc : X.calm = true) (tk : Takes X W) (hr : Room j X.A) (hk : k + 1 ≤ j)
    (ha : PE X a (ER X.K ct W f)) (hb : PE X b (ER X.K ct W g)) (hnm : (n == m) = false := by decide +kernel) (hdb : (x == ("__debug__" : Str)) = false := by decide) (he : starEach [a, b] X.env = (false, eval a X.env) :: starEach [b] X.env := by rfl)
    (he2 : starEach [b] X.env = [(false, eval b X.env)] := by rfl) (hpl : (backTo pos (starEach [b] X.env)).any (·.1) = false := by rfl) :
    PS X (.Raise (some (.Call (.Name x p) [a, b] [] pos)) none pos') (sOf X.K ct W (ssRaise2 c n m f g)) := by
  obtain ⟨⟨fd, ps, ok, bi⟩, kp⟩ := F
  refine (ps_raise hc tk (pmk_oex T.o T.i T.t ok (hr.mono hk) bi .nil never hg T.g (pa_cons ha (pa_cons hb pa_nil he2) he) hdb he hpl)).imp fun D σ H ⟨env, F, E, h⟩ => ?_
  refine finS_bind E h fun d v F1 H1 e1 g1 r1 E1 h => ?_
  refine finS_bind E1 (finS_after g1.sx h) fun d' v' F2 H2 e2 g2 r2 E2 h => ⟨by show 2 ≤ 1000; decide, fun a na => ?_⟩
  refine ⟨a, v, v', rfl, upd_same, fun dx nd ne => ⟨rfl, dx, [(m, v'), (n, v)], ?_, upd_same, ?_, ?_⟩⟩
  · rw [upd_ne (Ne.symm ne), upd_same]
  · rw [upd_ne ne] at nd; exact nd
  · rw [upd_ne ne] at nd
    rw [heap2 na ne]
    have g3 : Gr F2 H2 (upd F2 dx (.xd [(m, v'), (n, v)])) (upd H2 dx (.xd [(m, v'), (n, v)])) := Gr.new E2.ex nd
    exact h (some dx) σ _ _ (g2.trans g3).sx (E2.gr g3) (.inr ⟨by simp, dx, _, rfl, upd_same, ⟨v', look1, Rep.mono (Ex.le g3.f) _ _ r2⟩, ⟨v, by rw [List.lookup_cons, hnm]; exact look1, Rep.mono (Ex.le (g2.trans g3).f) _ _ r1⟩, trivial⟩)
end

/-! ### e.n of a caught error -/
section
variable {X : Cx} {ct : Nat → Addr} {W : WX} {f : SE} {e : Expr} {pos : Pos} {n : Str}
def sXf (cs : List Nat) (n : Str) (f : SE) : SE := fun env => bnd (f env) fun d => match d with
  | .exo c fs => if c ∈ cs then ofO (fs.lookup n) else .st
  | _ => .st
theorem e_xf (cs : List Nat) (hC : ∀ c ∈ cs, XfC X.K (ct c) ∧ PySem.W.findIn X.K (.ref (ct c)) n = some none) (he : PE X e (EB X.K ct W f)) (hb : attributeBase e n X.env (eval e X.env) = eval e X.env := by rfl) :
    PE X (.Attribute e n pos) (ER X.K ct W (sXf cs n f)) := ⟨fun pins s σ H Q I want => by
  refine attr_of hb (thn (he.run pins s σ H (fun x H1 => ∃ (a d : Addr) (c : Nat) (fvs : List (Str × V)) (v : V), x = .ref a ∧ c ∈ cs ∧ H1 a = some (ExV (.ref (ct c)) (some d) a) ∧ H1 d = some (.xd fvs) ∧ fvs.lookup n = some v ∧ Q v H1) I ?_) fun u s1 got => ?_)
  · obtain ⟨env, F, E, h⟩ := want
    refine fin_bind E h rfl fun d x F1 H1 e1 g1 r1 E1 h => ?_
    cases d <;> first | exact h.elim | skip
    rename_i c fs
    replace h : Fin X.K ct W (mR X.K ct) F H σ (if c ∈ cs then ofO (fs.lookup n) else .st) Q := h
    split at h
    · rename_i hc
      cases ef : fs.lookup n with
      | none => rw [ef] at h; exact h.elim
      | some y =>
        rw [ef] at h
        obtain ⟨a, dx, rfl, at_, kept⟩ := (show Rep X.K ct F1 (.exo c fs) x from r1)
        rcases kept with ⟨rfl, _⟩ | ⟨_, d, fvs, rfl, hd, rf⟩
        · cases ef
        · obtain ⟨v, q1, q2⟩ := repF_get rf ef
          exact ⟨a, d, c, fvs, v, rfl, hc, E1.ex _ _ at_, E1.ex _ _ hd, q1, h v F1 H1 g1 q2⟩
    · exact h.elim
  · obtain ⟨x, H1, I1, rel, a, d, c, fvs, v, rfl, hc, at_, hd, look, q⟩ := got
    cases (show u = Value.ref a from rel)
    obtain ⟨T, hno⟩ := hC c hc
    obtain ⟨⟨oe, vs, q1, ⟨q2, q3⟩, q4⟩, _⟩ := (show ObjOk X.prog X.w H1 s1.heap a (ExV (.ref (ct c)) (some d) a) from I1.hok a _ at_)
    obtain ⟨mA, names, rels⟩ := (show ObjOk X.prog X.w H1 s1.heap d (.xd fvs) from I1.hok d _ hd)
    obtain ⟨od, ho, hl⟩ := lookIn_ns names
    obtain ⟨y, hy, ry⟩ := RelO.some_of (v := v) (o := mA n) (by rw [← look]; exact rels n)
    have inst : PySem.W.InstAt s1.heap a oe (ct c) (some od) := ⟨q1, q2, by unfold PySem.W.notCls; rw [q4], by rw [q3]; exact ho⟩
    exact HandSPX.exc_get I1.kIn inst T.ga T.gg T.exC (PySem.W.findObj_own T.hdC hno rfl (by rw [hl, hy])) (handed_of ry) ⟨v, H1, I1.tok _, ry, q⟩⟩
end
end Ps

namespace Ps
open PySem PySem.Spec PyProof.Rows L2

/-! ### an owned list lent: it is read, not changed, by the statement -/
def isBo : Sl → Bool
  | .bo _ => true
  | _ => false
/-- who is borrowed behind was borrowed ahead -/
def boSame (env e : En) : Bool := (List.range e.length).all fun j => !((e[j]?).any isBo) || (env[j]?).any isBo
def backE (env : En) (i : Nat) (d : D) (e : En) (k : En → O) : O := if boSame env e then k (e.set i (.ow d)) else .st
def backO (env : En) (i : Nat) (d : D) : O → O
  | .nx e => backE env i d e .nx
  | .bk e => backE env i d e .bk
  | .ct e => backE env i d e .ct
  | .er c fs e => backE env i d e (.er c fs)
  | .rt x => .rt x
  | .rn x => .rn x
  | .st => .st
def ssLend (i : Nat) (g : SS) : SS := fun env => match env[i]? with
  | some (.ow (.lst ds)) => backO (env.set i (.bo (.lst ds))) i (.lst ds) (g (env.set i (.bo (.lst ds))))
  | _ => .st
section
variable {K : PySem.W.Frag} {ct : Nat → Addr} {F H F' H' : Hp} {env e : En} {σ σ' : L2.St} {i : Nat} {ds : List D} {p : Addr}
theorem bo_from {j : Nat} {d : D} (h : boSame env e = true) (q : e[j]? = some (.bo d)) : ∃ d', env[j]? = some (.bo d') := by
  have lt : j < e.length := (List.getElem?_eq_some_iff.mp q).1
  have z := List.all_eq_true.mp h j (List.mem_range.mpr lt)
  rw [q] at z
  cases w : env[j]? with
  | none => rw [w] at z; cases z
  | some s =>
    rw [w] at z
    cases s <;> first | exact ⟨_, rfl⟩ | cases z
theorem lent_owns {a : Addr} (hi : env[i]? = some (.ow (.lst ds))) (h : Owns (env.set i (.bo (.lst ds))) σ a) : ∃ (j : Nat) (s : Sl), j ≠ i ∧ env[j]? = some s ∧ isOw s = true ∧ σ[j]? = some (some (V.ref a)) := by
  obtain ⟨j, s, h1, h2, h3⟩ := h
  have hj : j ≠ i := fun z => by subst z; rw [get_set_self hi] at h1; cases h1; cases h2
  rw [get_set_ne hj] at h1
  exact ⟨j, s, hj, h1, h2, h3⟩
theorem lent_sub {a : Addr} (hi : env[i]? = some (.ow (.lst ds))) (h : Owns (env.set i (.bo (.lst ds))) σ a) : Owns env σ a :=
  let ⟨j, s, _, h1, h2, h3⟩ := lent_owns hi h; ⟨j, s, h1, h2, h3⟩
theorem lent_not (E : EnvOk K ct F H env σ) (hi : env[i]? = some (.ow (.lst ds))) (hp : σ[i]? = some (some (V.ref p))) : ¬ Owns (env.set i (.bo (.lst ds))) σ p := fun h => by
  obtain ⟨j, s, hj, h1, h2, h3⟩ := lent_owns hi h
  exact hj (E.ap j i s _ p h1 hi h2 rfl h3 hp)
theorem lend_ok (E : EnvOk K ct F H env σ) (hi : env[i]? = some (.ow (.lst ds))) : EnvOk K ct F H (env.set i (.bo (.lst ds))) σ := by
  obtain ⟨p, hp, own⟩ := E.ow i _ hi
  have other : ∀ {j : Nat} {s : Sl}, (∀ d, s ≠ .bo d) → (env.set i (.bo (.lst ds)))[j]? = some s → j ≠ i ∧ env[j]? = some s := fun {j s} nb h => by
    have hj : j ≠ i := fun z => by subst z; rw [get_set_self hi] at h; cases h; exact nb _ rfl
    rw [get_set_ne hj] at h
    exact ⟨hj, h⟩
  constructor
  case ex => exact E.ex
  case len => simpa using E.len
  case sh => intro j d h; exact E.sh j d (other (by intro _ z; cases z) h).2
  case ow => intro j d h; exact E.ow j d (other (by intro _ z; cases z) h).2
  case bo =>
    intro j d h
    by_cases hj : j = i
    · subst hj
      rw [get_set_self hi] at h; cases h
      exact ⟨.ref p, hp, own.b, fun a _ ea => by cases ea; exact lent_not E hi hp⟩
    · rw [get_set_ne hj] at h
      obtain ⟨v, e1, e2, e3⟩ := E.bo j d h
      exact ⟨v, e1, e2, fun a n ea z => e3 a n ea (lent_sub hi z)⟩
  case oo =>
    intro j c fs gs h
    obtain ⟨a, dx, fvs, e1, e2, e3, e4, e5, e6, e7⟩ := E.oo j c fs gs (other (by intro _ z; cases z) h).2
    refine ⟨a, dx, fvs, e1, e2, e3, e4, e5, e6, fun n g hg => ?_⟩
    obtain ⟨v, d, q1, q2, q3⟩ := e7 n g hg
    have hgi : g ≠ i := fun z => by subst z; rw [hi] at q3; cases q3
    exact ⟨v, d, q1, q2, by rw [get_set_ne hgi]; exact q3⟩
  case gh => intro j d h; exact E.gh j d (other (by intro _ z; cases z) h).2
  case ln =>
    intro j g h
    obtain ⟨a, b, d, e1, e2, e3, e4, e5⟩ := E.ln j g (other (by intro _ z; cases z) h).2
    have hgi : g ≠ i := fun z => by subst z; rw [hi] at e5; cases e5
    exact ⟨a, b, d, e1, e2, e3, e4, by rw [get_set_ne hgi]; exact e5⟩
  case ap =>
    intro j k u w a h1 h2 h3 h4 h5 h6
    exact E.ap j k u w a (other (by intro _ z; subst z; cases h3) h1).2 (other (by intro _ z; subst z; cases h4) h2).2 h3 h4 h5 h6
theorem lent_sr (hi : env[i]? = some (.ow (.lst ds))) (x : Sr F H (env.set i (.bo (.lst ds))) σ F' H') : Sr F H env σ F' H' :=
  ⟨x.f, x.e, fun a o q n => x.k a o q fun z => n (lent_sub hi z), x.t, fun a o q => (x.n a o q).imp id (Or.imp id (lent_sub hi))⟩
/-- the list is given back -/
theorem lent_back (E : EnvOk K ct F H env σ) (hi : env[i]? = some (.ow (.lst ds))) (x : Sx F H (env.set i (.bo (.lst ds))) σ F' H' e σ') (Ee : EnvOk K ct F' H' e σ') (hb : boSame (env.set i (.bo (.lst ds))) e = true) :
    EnvOk K ct F' H' (e.set i (.ow (.lst ds))) σ' ∧ Sx F H env σ F' H' (e.set i (.ow (.lst ds))) σ' := by
  obtain ⟨p, hp, own⟩ := E.ow i _ hi
  have self : (env.set i (.bo (.lst ds)))[i]? = some (Sl.bo (.lst ds)) := get_set_self hi
  obtain ⟨hie, hσ⟩ := x.b i _ self
  have hp' : σ'[i]? = some (some (.ref p)) := hσ.trans hp
  obtain ⟨v, ev, rb, notOwn⟩ := Ee.bo i _ hie
  rw [hp'] at ev; cases ev
  have apart : ¬ Owns e σ' p := notOwn p rfl rfl
  obtain ⟨q, vs, eq, hq, rq⟩ := (show ∃ a vs, V.ref p = .ref a ∧ H' a = some (.lst vs) ∧ Reps K ct F' ds vs from rb)
  cases eq
  obtain ⟨o, ho⟩ := own.there
  have freeP : F' p = none := by
    cases z : F' p with
    | none => rfl
    | some u =>
      rcases x.n p u z with w | w | w
      · rw [own.free] at w; cases w
      · rw [ho] at w; cases w
      · exact absurd w (lent_not E hi hp)
  have other : ∀ {j : Nat} {s : Sl}, (∀ d, s ≠ .ow d) → (e.set i (.ow (.lst ds)))[j]? = some s → j ≠ i ∧ e[j]? = some s := fun {j s} nb h => by
    have hj : j ≠ i := fun z => by subst z; rw [get_set_self hie] at h; cases h; exact nb _ rfl
    rw [get_set_ne hj] at h
    exact ⟨hj, h⟩
  have mine : ∀ {a : Addr}, Owns (e.set i (.ow (.lst ds))) σ' a → a = p ∨ Owns e σ' a := fun {a} ⟨j, s, h1, h2, h3⟩ => by
    by_cases hj : j = i
    · subst hj
      rw [hp'] at h3; cases h3; exact .inl rfl
    · rw [get_set_ne hj] at h1
      exact .inr ⟨j, s, h1, h2, h3⟩
  constructor
  · constructor
    case ex => exact Ee.ex
    case len => simpa using Ee.len
    case sh => intro j d h; exact Ee.sh j d (other (by intro _ z; cases z) h).2
    case ow =>
      intro j d h
      by_cases hj : j = i
      · subst hj
        rw [get_set_self hie] at h; cases h
        exact ⟨p, hp', freeP, vs, hq, rq⟩
      · rw [get_set_ne hj] at h
        exact Ee.ow j d h
    case bo =>
      intro j d h
      obtain ⟨hj, h⟩ := other (by intro _ z; cases z) h
      obtain ⟨v, e1, e2, e3⟩ := Ee.bo j d h
      refine ⟨v, e1, e2, fun a n ea z => ?_⟩
      rcases mine z with rfl | z
      · obtain ⟨d', was⟩ := bo_from hb h
        obtain ⟨now, same⟩ := x.b j d' was
        rw [h] at now; cases now
        rw [get_set_ne hj] at was
        obtain ⟨v', w1, _, w3⟩ := E.bo j d was
        rw [← same, e1] at w1; cases w1
        exact w3 a n ea ⟨i, _, hi, rfl, hp⟩
      · exact e3 a n ea z
    case oo =>
      intro j c fs gs h
      obtain ⟨a, dx, fvs, e1, e2, e3, e4, e5, e6, e7⟩ := Ee.oo j c fs gs (other (by intro _ z; cases z) h).2
      refine ⟨a, dx, fvs, e1, e2, e3, e4, e5, e6, fun n g hg => ?_⟩
      obtain ⟨v, d, q1, q2, q3⟩ := e7 n g hg
      have hgi : g ≠ i := fun z => by subst z; rw [hie] at q3; cases q3
      exact ⟨v, d, q1, q2, by rw [get_set_ne hgi]; exact q3⟩
    case gh => intro j d h; exact Ee.gh j d (other (by intro _ z; cases z) h).2
    case ln =>
      intro j g h
      obtain ⟨a, b, d, e1, e2, e3, e4, e5⟩ := Ee.ln j g (other (by intro _ z; cases z) h).2
      have hgi : g ≠ i := fun z => by subst z; rw [hie] at e5; cases e5
      exact ⟨a, b, d, e1, e2, e3, e4, by rw [get_set_ne hgi]; exact e5⟩
    case ap =>
      intro j k u w a h1 h2 h3 h4 h5 h6
      by_cases hj : j = i
      · by_cases hk : k = i
        · rw [hj, hk]
        · subst hj
          rw [hp'] at h5; cases h5
          rw [get_set_ne hk] at h2
          exact absurd ⟨k, w, h2, h4, h6⟩ apart
      · rw [get_set_ne hj] at h1
        by_cases hk : k = i
        · subst hk
          rw [hp'] at h6; cases h6
          exact absurd ⟨j, u, h1, h3, h5⟩ apart
        · rw [get_set_ne hk] at h2
          exact Ee.ap j k u w a h1 h2 h3 h4 h5 h6
  · refine ⟨lent_sr hi x.toSr, fun a z => ?_, fun j d h => ?_, fun j c fs gs h => ?_⟩
    · rcases mine z with rfl | z
      · exact .inl ⟨i, _, hi, rfl, hp⟩
      · exact (x.o a z).imp (lent_sub hi) id
    · have hj : j ≠ i := fun z => by subst z; rw [hi] at h; cases h
      have := x.b j d (by rw [get_set_ne hj]; exact h)
      rw [get_set_ne hj]
      exact this
    · have hj : j ≠ i := fun z => by subst z; rw [hi] at h; cases h
      obtain ⟨⟨fs', gs', h1⟩, h2⟩ := x.q j c fs gs (by rw [get_set_ne hj]; exact h)
      exact ⟨⟨fs', gs', by rw [get_set_ne hj]; exact h1⟩, h2⟩
end
section
variable {X : Cx} {ct : Nat → Addr} {W : WX} {st : Stmt} {g : SS} {tg : Expr} {pos : Pos} {O : OW}
theorem p_lend (i : Nat) (h : PS X st (sOf X.K ct W g)) : PS X st (sOf X.K ct W (ssLend i g)) := h.imp fun D σ H ⟨env, F, E, h⟩ => by
  unfold ssLend at h
  split at h
  · rename_i ds hi
    have E1 := lend_ok E hi
    refine ⟨env.set i (.bo (.lst ds)), F, E1, ?_⟩
    have step : ∀ {e : En} {k : En → O}, FinS X.K ct W F H env σ (backE (env.set i (.bo (.lst ds))) i (.lst ds) e k) D → boSame (env.set i (.bo (.lst ds))) e = true ∧ FinS X.K ct W F H env σ (k (e.set i (.ow (.lst ds)))) D := fun {e k} q => by
      unfold backE at q
      split at q
      · rename_i hb; exact ⟨hb, q⟩
      · exact q.elim
    cases q : g (env.set i (.bo (.lst ds))) with
    | nx e =>
      rw [q] at h
      obtain ⟨hb, h⟩ := step (k := .nx) h
      exact fun σ' F' H' x Ee => let ⟨a, b⟩ := lent_back E hi x Ee hb; h σ' F' H' b a
    | bk e =>
      rw [q] at h
      obtain ⟨hb, h⟩ := step (k := .bk) h
      exact fun σ' F' H' x Ee => let ⟨a, b⟩ := lent_back E hi x Ee hb; h σ' F' H' b a
    | ct e =>
      rw [q] at h
      obtain ⟨hb, h⟩ := step (k := .ct) h
      exact fun σ' F' H' x Ee => let ⟨a, b⟩ := lent_back E hi x Ee hb; h σ' F' H' b a
    | er c fs e =>
      rw [q] at h
      obtain ⟨hb, h⟩ := step (k := .er c fs) h
      exact fun dx σ' F' H' x Ee r => let ⟨a, b⟩ := lent_back E hi x Ee hb; h dx σ' F' H' b a r
    | rt d =>
      rw [q] at h
      exact fun v F' H' x r => h v F' H' (lent_sr hi x) r
    | rn d =>
      rw [q] at h
      exact fun p F' H' x z r => h p F' H' (lent_sr hi x) (z.imp id (lent_sub hi)) r
    | st => rw [q] at h; exact h
  · exact h.elim
/-- a borrowed list is walked over -/
def sBo (i : Nat) : SE := fun env => match env[i]? with
  | some (.bo (.lst ds)) => .ok (.lst ds)
  | _ => .st
theorem i_bo (i : Nat) {x : Str} (hN : X.N[i]? = some x := by rfl) (hv : Vis X.env.scope x := by first | exact Or.inl rfl | exact Or.inr (Or.inl rfl) | exact Or.inr (Or.inr rfl)) (hd : (x == ("__debug__" : Str)) = false := by decide)
    (hcd : (x == ("__classdict__" : Str)) = false := by decide) : PI X tg (.Name x pos) (tI X.K ct W O1 (sBo i)) := (pi_list (pe_var (i := i) hN hv hd hcd)).imp fun σ H RR ⟨env, F, E, h⟩ => by
  cases hs : sBo i env with
  | st => rw [hs] at h; exact h.elim
  | er c fs =>
    unfold sBo at hs
    split at hs <;> cases hs
  | ok d =>
    rw [hs] at h
    unfold sBo at hs
    split at hs
    · rename_i ds q
      cases hs
      obtain ⟨v, e1, e2, e3⟩ := E.bo i _ q
      obtain ⟨a, vs, rfl, h1, h2⟩ := e2
      exact ⟨.ref a, e1, a, rfl, ⟨vs, SqL.of h1⟩, h _ F H (Gr.refl E.ex) (itok_sq (fun H2 k => SqL.of (k a _ h1 (e3 a rfl rfl))) h2)⟩
    · cases hs
end
end Ps

namespace Ps
open PySem L2
open PySem.Spec PyProof.Rows
/-! ### the signs of a text, each beside its place -/
def Iep (z : Str) : It := ⟨fun i _ => i < z.cps.size, fun i H v H' => ∃ T c, v = .ref T ∧ H T = none ∧ H' = upd H T (.tup [.int (i : Nat), .str ⟨#[c]⟩]) ∧ z.cps[i]? = some c, fun i _ => z.cps.size ≤ i⟩
theorem draws_text {P : Program} {w : World} {A : Around} (q : A.handled = none) (it : Addr) (z : Str) (t : Tok) : Draws P w A it [it] z.cps.size (fun i v => ∃ c u, z.cps[i]? = some c ∧ v = .str ⟨#[c]⟩ u) (fun i h => h.IsStrIter it (strIterType z) z t i) := by
  have e : strIterType z = "str_ascii_iterator" ∨ strIterType z = "str_iterator" := by
    unfold strIterType
    by_cases b : z.cps.all (· < 128)
    · exact .inl (if_pos b)
    · exact .inr (if_neg b)
  rcases e with e | e <;> rw [e]
  · exact Draws.strAscii q it z t
  · exact Draws.strWide q it z t
theorem turn_ep {P : Program} {w : World} {K : PySem.W.Frag} {l : List Expr} {kk : Nat} {tp : Pos} (b it : Addr) (z : Str) (t : Tok) (ne : b ≠ it) :
    Turn P w K (.Tuple l kk tp) (Iep z) [b, it] b (fun i h => (∃ old, IsEnum h b it ((i : Nat) : Int) old) ∧ h.IsStrIter it (strIterType z) z t i) := by
  have nin : b ∉ [it] := by simpa using ne
  refine ⟨List.mem_cons_self .., fun i h ⟨⟨old, q1⟩, o, q2, q3, q4⟩ c hc => ?_, fun i h h' ⟨⟨old, q1⟩, o, q2, q3⟩ k => ⟨⟨old, k _ (List.mem_cons_self ..) _ q1⟩, o, k _ (by simp) _ q2, q3⟩,
    fun X e1 e2 e3 calm i pins s σ H E I hf st lt => ?_, fun X e1 e2 e3 calm i pins s σ H E I hf st ge => ?_, fun A i s Q E st q => ?_⟩
  · rcases List.mem_cons.mp hc with rfl | hc
    · exact ⟨_, q1, fun v y => nomatch y⟩
    · rw [List.mem_singleton.mp hc]
      exact ⟨o, q2, fun v y => by rw [q4] at y; cases y⟩
  · subst e1 e2 e3
    have W := WalksT.enumerateD (A := X.A) (draws_text (P := X.prog) (w := X.w) (A := X.A.in1) (I.ok.hd calm) it z t) b ne nin (List.mem_singleton.mpr rfl)
    refine W.item i s _ _ lt st fun T vals h1 t1 hp le ht mid k1 => ⟨_, rfl, ?_⟩
    obtain ⟨u1, y, ⟨c, u2, hz, rfl⟩, rfl⟩ := hp
    refine W.go l kk tp i T { s with heap := h1, toks := t1 } _ _ mid fun h2 st2 k2 => ?_
    obtain ⟨o, a1, a2, n, a3⟩ := ht
    have hT : H T = none := I.hok.fresh le
    have new : ObjOk X.prog X.w (upd H T (.tup [.int (i : Nat), .str ⟨#[c]⟩])) h2 T (.tup [.int (i : Nat), .str ⟨#[c]⟩]) :=
      ⟨by show 2 ≤ sizeLine; decide, _, .cons ⟨u1, rfl⟩ (.cons ⟨u2, rfl⟩ .nil), ⟨o, k2 T o (W.apart i T h1 mid) a1, a2, n, a3⟩⟩
    have st2' : (∃ old, IsEnum h2 b it (((i + 1 : Nat)) : Int) old) ∧ h2.IsStrIter it (strIterType z) z t (i + 1) := st2
    refine ⟨.ref T, _, I.turnedNew (ch := [b, it]) (fun c' o' n' e' => k2 c' o' n' (k1 c' o' n' e')) hf le new, rfl, ⟨T, c, rfl, hT, rfl, hz⟩, st2', fun c' hc' => ?_⟩
    have lt' : c' < s.heap.objs.size := by
      obtain ⟨⟨old, q1⟩, o2, q2, _⟩ := st
      rcases List.mem_cons.mp hc' with rfl | hc'
      · exact Heap.lt_size q1
      · rw [List.mem_singleton.mp hc']; exact Heap.lt_size q2
    rw [upd_ne (Nat.ne_of_lt (Nat.lt_of_lt_of_le lt' le))]
    exact (hf c' hc').1
  · subst e1 e2 e3
    have ge : z.cps.size ≤ i := ge
    obtain ⟨⟨old, q1⟩, q2⟩ := st
    have no : z.cps[i]? = none := Array.getElem?_eq_none ge
    have D : Draws X.prog X.w X.A.in1 it [it] i (fun _ _ => False) (fun j h => j = i ∧ h.IsStrIter it (strIterType z) z t i) := by
      have D0 := draws_text (P := X.prog) (w := X.w) (A := X.A.in1) (I.ok.hd calm) it z t
      refine ⟨fun j h st => let ⟨o, y, _⟩ := st.2; ⟨o, y⟩, fun j h h' st k => ⟨st.1, D0.frame _ _ _ st.2 k⟩, fun j s Q E hj st => absurd hj (by rw [st.1]; exact Nat.lt_irrefl _), fun s Q E st hE => ?_⟩
      have e : strIterType z = "str_ascii_iterator" ∨ strIterType z = "str_iterator" := by
        unfold strIterType
        by_cases b : z.cps.all (· < 128)
        · exact .inl (if_pos b)
        · exact .inr (if_neg b)
      obtain ⟨_, st⟩ := st
      rcases e with e | e <;> rw [e] at st
      · exact wpAny_nextOf_ascii_end (I.ok.hd calm) st no hE
      · exact wpAny_nextOf_wide_end (I.ok.hd calm) st no hE
    exact wpAny_pyNext_enum_endD D q1 ⟨rfl, q2⟩ fun h' eb => ⟨rfl, I.turnedL (t' := s.toks) (ch := [b, it]) (fun c o nc y => eb c o (fun y' => nc (by simp [y'])) y) hf⟩
  · obtain ⟨⟨_, q1⟩, _⟩ := st
    exact wpAny_pyIter_enum q1 q
def iEp (ta : TA) : TI := fun σ H R => ta σ H fun vs H1 => ∃ z, vs = [.str z] ∧ R (Iep z) H1
theorem pi_ep {X : Cx} {e : Expr} {ta : TA} {p pos tp : Pos} {l : List Expr} {kk : Nat} (g : Gl X "enumerate") (m : X.mg "enumerate" = none) (a : PA X [e] ta) (na : starEach [e] X.env = [(false, eval e X.env)] := by rfl) :
    PI X (.Tuple l kk tp) (.Call (.Name "enumerate" p) [e] [] pos) (iEp ta) := by
  refine ⟨fun pins s σ H R I h => Call_ (ld_blt I g m boot_enumerate (PyProof.Rows.callWith_type1 (thn (a.run pos pins s σ H _ I h) fun us s1 ⟨vs, H1, I1, r1, z, ez, q⟩ => ?_) na rfl))⟩
  subst ez
  obtain ⟨⟨t, rfl⟩, _, r2⟩ : ∃ _ : True, ∃ t, us = [Value.str z t] := by
    cases r1 with
    | cons r rr =>
      cases rr
      obtain ⟨t, rfl⟩ := r
      exact ⟨trivial, t, rfl⟩
  subst r2
  refine call_enumerate_str fun h' i1 i2 sz k => wpAny_pyIter_enum i1 ?_
  refine ⟨_, [s1.heap.objs.size + 1, s1.heap.objs.size], _, _, H1, rfl, I1.kept (t' := s1.toks) k, turn_ep _ s1.heap.objs.size z _ (Nat.succ_ne_self _), ⟨⟨.none, i1⟩, i2⟩, fun c hc => ?_, q⟩
  have le : s1.heap.objs.size ≤ c := by
    rcases List.mem_cons.mp hc with rfl | hc
    · exact Nat.le_succ _
    · rw [List.mem_singleton.mp hc]; exact Nat.le_refl _
  exact I1.fpOk le (I1.hok.fresh le)
theorem itok_ep {K : PySem.W.Frag} {ct : Nat → Addr} {F H : Hp} {z : Str} {O : Addr → Prop} : ItOk K ct (Iep z) (enumD 0 (z.cps.toList.map sgn)) O F H := by
  refine ⟨fun _ => True, fun i H v H' => (Iep z).yld i H v H', ⟨fun i _ lt _ => ?_, fun _ _ => ?_, fun _ _ _ _ _ _ y => y⟩, fun _ _ => trivial, fun i d F1 H1 x H1' e1 e2 e3 y => ?_⟩
  · rw [enumD_length, List.length_map, Array.length_toList] at lt
    exact lt
  · show z.cps.size ≤ _
    rw [enumD_length, List.length_map, Array.length_toList]
    exact Nat.le_refl _
  · obtain ⟨T, c, rfl, hT, rfl, hc⟩ := y
    have hc' : z.cps.toList[i]? = some c := by rw [Array.getElem?_toList]; exact hc
    rw [enumD_get, List.getElem?_map, hc', Nat.zero_add] at e1
    cases e1
    exact gr_tup2 e3 hT rfl rfl
def sEnS (f : SE) : SE := fun env => bnd (f env) fun d => match d with
  | .str z => .ok (.lst (enumD 0 (z.cps.toList.map sgn)))
  | _ => .st
section
variable {X : Cx} {ct : Nat → Addr} {W : WX} {e : Expr} {f : SE} {O : OW} {p pos tpos : Pos} {elts : List Expr} {kk : Nat}
theorem i_enumS {m : Bool} (hO : ∀ env σ a, O env σ a → Owns env σ a) (fit : Fit m O) (hg : Gl X "enumerate") (hm : X.mg "enumerate" = none) (he : PE X e (tM X.K ct W (mX X.K ct m) f)) (na : starEach [e] X.env = (false, eval e X.env) :: starEach [] X.env := by rfl) :
    PI X (.Tuple elts kk tpos) (.Call (.Name "enumerate" p) [e] [] pos) (tI X.K ct W O (sEnS f)) := by
  refine (pi_ep hg hm (pa_cons he pa_nil na) na).imp fun σ H RR ⟨env, F, E, h⟩ => ⟨env, F, E, ?_⟩
  unfold sEnS at h
  cases q : f env with
  | er c fs => rw [q] at h; exact h
  | st => rw [q] at h; exact h.elim
  | ok d =>
    rw [q] at h
    cases d <;> first | exact h.elim | skip
    rename_i z
    intro v F' H' g r
    have h : ∀ J F' H', Gr F H F' H' → ItOk X.K ct J (enumD 0 (z.cps.toList.map sgn)) (O env σ) F' H' → RR J H' := h
    have rb : RepB X.K ct F' H' (.str z) v := by
      cases m with
      | true => exact r
      | false => exact Rep.b g.e r
    cases (show v = .str z from rb)
    exact ⟨z, rfl, h _ F' H' g itok_ep⟩
end
end Ps

namespace Ps
open PySem PySem.Spec PyProof.Rows L2
/-! ### whether data stand in a list of data, of any depth -/
def anyP (d : D) (es : List D) : Option Bool := (toP d).bind fun p => (toPs es).bind fun ps => if SeqAt.shaped p && SeqAt.shaped (.list ps) then some (ps.any fun z => PyData.eqv z p) else none
def dInP (d e : D) : Option D := match e with
  | .lst es => (anyP d es).map .bl
  | _ => none
def dNotInP (d e : D) : Option D := match e with
  | .lst es => (anyP d es).map fun b => .bl (!b)
  | _ => none
section
variable {K : PySem.W.Frag} {ct : Nat → Addr}
theorem anyP_dp {m1 m2 : Bool} {F H : Hp} {x y : V} {d : D} {es : List D} {b : Bool} (ex : Ex F H) (hx : if m1 then RepB K ct F H d x else Rep K ct F d x) (hy : if m2 then RepB K ct F H (.lst es) y else Rep K ct F (.lst es) y) (h : anyP d es = some b) :
    ∃ p ps, Dp K H x p ∧ Dp K H y (.list ps) ∧ SeqAt.shaped p = true ∧ SeqAt.shaped (.list ps) = true ∧ b = ps.any fun z => PyData.eqv z p := by
  obtain ⟨p, q1, h⟩ := Option.bind_eq_some_iff.mp h
  obtain ⟨ps, q2, h⟩ := Option.bind_eq_some_iff.mp h
  split at h
  · rename_i hs
    obtain ⟨s1, s2⟩ := Bool.and_eq_true_iff.mp hs
    have q3 : toP (.lst es) = some (.list ps) := by show (toPs es).map PyData.list = _; rw [q2]; rfl
    exact ⟨p, ps, Rep.dp _ _ _ (rep_all ex hx) q1, Rep.dp _ _ _ (rep_all ex hy) q3, s1, s2, (Option.some.inj h).symm⟩
  · cases h
theorem sp_inP {m1 m2 : Bool} : Sp2 K ct m1 m2 (mR K ct) (L2.rInD K) dInP := fun F H x y d e z Q ex hx hy hz hQ => by
  cases e <;> first | (cases hz; done) | skip
  obtain ⟨b, hb, rfl⟩ := Option.map_eq_some_iff.mp hz
  obtain ⟨p, ps, h1, h2, h3, h4, rfl⟩ := anyP_dp ex hx hy hb
  exact ⟨p, ps, h1, h2, h3, h4, hQ _ F H (Gr.refl ex) rfl⟩
theorem sp_notInP {m1 m2 : Bool} : Sp2 K ct m1 m2 (mR K ct) (L2.rNotInD K) dNotInP := fun F H x y d e z Q ex hx hy hz hQ => by
  cases e <;> first | (cases hz; done) | skip
  obtain ⟨b, hb, rfl⟩ := Option.map_eq_some_iff.mp hz
  obtain ⟨p, ps, h1, h2, h3, h4, rfl⟩ := anyP_dp ex hx hy hb
  exact ⟨p, ps, h1, h2, h3, h4, hQ _ F H (Gr.refl ex) rfl⟩
end
section
variable {X : Cx} {ct : Nat → Addr} {W : WX} {a b : Expr} {f g : SE} {pos : Pos} {k : Nat}
theorem e_inP (hr : Room k X.A) (ha : PE X a (EB X.K ct W f)) (hb : PE X b (EB X.K ct W g)) (hm : behindInMarks .In b = false := by first | exact nomark _ | rfl) : PE X (.Compare a [.In] [b] pos) (ER X.K ct W (s2 dInP f g)) := e_cmp (L2.op_inD (by have := hr.un; omega)) (sp_inP (m1 := true) (m2 := true)) ha hb hm
theorem t_inP (hr : Room k X.A) (ha : PE X a (EB X.K ct W f)) (hb : PE X b (EB X.K ct W g)) (hm : behindInMarks .In b = false := by first | exact nomark _ | rfl) : PT X (.Compare a [.In] [b] pos) (TT1 X.K ct W (s2 dInP f g)) := t_cmp (L2.op_inD (by have := hr.un; omega)) (sp_inP (m1 := true) (m2 := true)) ha hb hm
theorem e_notInP (hr : Room k X.A) (ha : PE X a (EB X.K ct W f)) (hb : PE X b (EB X.K ct W g)) (hm : behindInMarks .NotIn b = false := by first | exact nomark _ | rfl) : PE X (.Compare a [.NotIn] [b] pos) (ER X.K ct W (s2 dNotInP f g)) := e_cmp (L2.op_notInD (by have := hr.un; omega)) (sp_notInP (m1 := true) (m2 := true)) ha hb hm
theorem t_notInP (hr : Room k X.A) (ha : PE X a (EB X.K ct W f)) (hb : PE X b (EB X.K ct W g)) (hm : behindInMarks .NotIn b = false := by first | exact nomark _ | rfl) : PT X (.Compare a [.NotIn] [b] pos) (TT1 X.K ct W (s2 dNotInP f g)) := t_cmp (L2.op_notInD (by have := hr.un; omega)) (sp_notInP (m1 := true) (m2 := true)) ha hb hm
end
end Ps

namespace Ps
open PySem PySem.Spec PyProof.Rows L2
/-! ### an owned list emptied -/
def ssClr (i : Nat) : SS := fun env => match env[i]? with
  | some (.ow (.lst _)) => .nx (env.set i (.ow (.lst [])))
  | _ => .st
section
variable {X : Cx} {ct : Nat → Addr} {W : WX} {pos p apos cpos : Pos} {x : Str}
theorem p_clr (i : Nat) (hN : X.N[i]? = some x := by rfl) (hv : Vis X.env.scope x := by first | exact Or.inl rfl | exact Or.inr (Or.inl rfl) | exact Or.inr (Or.inr rfl)) (hd : (x == ("__debug__" : Str)) = false := by decide)
    (hcd : (x == ("__classdict__" : Str)) = false := by decide) (hs : swapsWith (.Call (.Attribute (.Name x p) "clear" apos) [] [] cpos) none pos.line X.env = pure false := by rfl)
    (hb : attributeBase (.Name x p) "clear" X.env (eval (.Name x p) X.env) = eval (.Name x p) X.env := by rfl) (hl : (apos.endLine == cpos.line) = true := by rfl) :
    PS X (.Expr (.Call (.Attribute (.Name x p) "clear" apos) [] [] cpos) pos) (sOf X.K ct W (ssClr i)) := by
  refine (ps_expr (pe_bm0 PySem.F.plainAttrs_list PySem.F.slot_list_clear PySem.F.type_list_clear mt_clear (pe_var hN hv hd hcd) hb hl) hs).imp fun D σ H ⟨env, F, E, h⟩ => ?_
  unfold ssClr at h
  split at h
  · rename_i ds q
    obtain ⟨l, e1, hF, vs, h1, h2⟩ := E.ow i _ q
    obtain ⟨E2, S2⟩ := mut_ok false (z := .lst []) (o := .lst []) E q e1 hF ⟨hF, _, upd_same, rfl⟩
    exact ⟨.ref l, e1, .inl ⟨rfl, vs, SqL.of h1⟩, l, vs, rfl, rfl, h1, h σ F _ S2 E2⟩
  · exact h.elim
end
/-! ### a borrowed list walked over, each item beside its place -/
def sBoE (i : Nat) : SE := fun env => match env[i]? with
  | some (.bo (.lst ds)) => .ok (.lst (enumD 0 ds))
  | _ => .st
section
variable {X : Cx} {ct : Nat → Addr} {W : WX} {pos p p' tp : Pos} {x : Str} {l : List Expr} {kk : Nat}
theorem i_boE (i : Nat) (hg : Gl X "enumerate") (hm : X.mg "enumerate" = none) (hN : X.N[i]? = some x := by rfl) (hv : Vis X.env.scope x := by first | exact Or.inl rfl | exact Or.inr (Or.inl rfl) | exact Or.inr (Or.inr rfl)) (hd : (x == ("__debug__" : Str)) = false := by decide)
    (hcd : (x == ("__classdict__" : Str)) = false := by decide) (na : starEach [.Name x p'] X.env = (false, eval (.Name x p') X.env) :: starEach [] X.env := by rfl) :
    PI X (.Tuple l kk tp) (.Call (.Name "enumerate" p) [.Name x p'] [] pos) (tI X.K ct W O1 (sBoE i)) := by
  refine (pi_enum hg hm (pa_cons (pe_var (i := i) hN hv hd hcd) pa_nil na) na).imp fun σ H RR ⟨env, F, E, h⟩ => ?_
  cases hs : sBoE i env with
  | st => rw [hs] at h; exact h.elim
  | er c fs =>
    unfold sBoE at hs
    split at hs <;> cases hs
  | ok d =>
    rw [hs] at h
    unfold sBoE at hs
    split at hs
    · rename_i ds q
      cases hs
      obtain ⟨v, e1, e2, e3⟩ := E.bo i _ q
      obtain ⟨a, vs, rfl, h1, h2⟩ := e2
      exact ⟨.ref a, e1, a, vs, rfl, SqL.of h1, h _ F H (Gr.refl E.ex) (itok_enum (fun H2 k => SqL.of (k a _ h1 (e3 a rfl rfl))) h2)⟩
    · cases hs
end
end Ps

namespace Ps
open PySem PySem.Spec PyProof.Rows L2
open Sem (wp)
open AutoSeq1 (wpAny_loadPart')
open PySem.SeqAt (EqAt rc_eq_decline_or in_listAt notIn_listAt)
/-! ### a dict in a list of texts -/
theorem dct_no_text (l : Addr) (b : Str) (u : Tok) (dd : Option Addr) (es : Array DictEntry) (n : Nat) (sl : Array (Option Value)) :
    Meets (Builtin.«dict.__eq__» ⟨[.ref l, .str b u], []⟩) (fun _ R s => s.heap.get? l = some ⟨.type "dict", dd, .dict es n, sl⟩ ∧ R (.ok (.ret .notImplemented)) s) :=
  .of_wp fun prog w A R s h => by
    obtain ⟨hp, g, d, tk, os⟩ := s
    obtain ⟨hl, h⟩ := h
    have f1 := F.sub_str_dict
    wp_walk using wpAny_loadPart' hl
    exact ⟨_, rfl, h⟩
theorem text_no_dct (l : Addr) (b : Str) (u : Tok) (dd : Option Addr) (es : Array DictEntry) (n : Nat) (sl : Array (Option Value)) :
    Meets (Builtin.«str.__eq__» ⟨[.str b u, .ref l], []⟩) (fun _ R s => s.heap.get? l = some ⟨.type "dict", dd, .dict es n, sl⟩ ∧ R (.ok (.ret .notImplemented)) s) :=
  .of_wp fun prog w A R s h => by
    obtain ⟨hp, g, d, tk, os⟩ := s
    obtain ⟨hl, h⟩ := h
    wp_walk using wpAny_loadPart' hl, wpAny_load hl
    exact ⟨_, rfl, h⟩
theorem eq_text_dct {A : Around} {s : Shared} {l : Addr} {o : Obj} {es : Array DictEntry} {n : Nat} (z : Str) (t : Tok) (ho : s.heap.get? l = some o) (hc : o.cls = .type "dict") (hd : o.data = .dict es n) (hu : A.units < cLine) : EqAt A s (.str z t) (.ref l) false := fun prog w E Q h => by
  obtain ⟨c, dd, dt, sl⟩ := o
  simp only at hc hd
  subst hc hd
  unfold eqBool
  refine wpAny_holding (wpAny_ite_split (fun q => absurd (eq_of_beq q) nofun) fun _ => wpAny_bind ?_)
  refine rc_eq_decline_or (k := false) (typeIs_str s z t) ⟨_, ho, rfl⟩ (by decide) F.sub_dict_str F.slot_str_eq F.slot_dict_eq_refl ?_ ?_ (fun _ q => wpAny_of_eq (rfl : isSame (.str z t) (.ref l) = pure false) q) (.inr hu) (wpAny_truthy_bool h)
  · exact fun _ q => call_meets F.slot_str_eq (typeIs_str s z t) F.entry_str_eq (F.args_str_eq_2 _ _) (text_no_dct l z t dd es n sl) ⟨ho, q⟩
  · exact fun _ q => call_meets F.slot_dict_eq_refl ⟨_, ho, rfl⟩ F.entry_dict_eq (F.args_dict_eq_2 _ _) (dct_no_text l z t dd es n sl) ⟨ho, q⟩
def rInDk (k : Bool) : PySem.W.Frag → R2 := fun K x y H Q => ∃ a kvs l xs, x = .ref a ∧ y = .ref l ∧ Rd H a (.dK kvs) ∧ SqL K H l xs ∧ (∀ v ∈ xs, ∃ z, v = V.str z) ∧ Q (.bl k) H
section
variable {X : Cx}
theorem no_item {pins : List (Addr × Obj)} {σ : L2.St} {H : Hp} {s : Shared} {a l : Addr} {kvs : List (Key × V)} {xs : List V} {A : Around} (I : Inv X pins σ H s) (ea : Rd H a (.dK kvs)) (hq : SqL X.K H l xs) (ht : ∀ v ∈ xs, ∃ z, v = V.str z) (hu : A.units < cLine) :
    ∃ its : Array Value, s.heap.IsList l its ∧ (∀ y, y ∈ its → EqAt A s y (.ref a) false) := by
  obtain ⟨_, _, va, _, da⟩ := dk_rd I.hok ea
  obtain ⟨o, es, ep, ho, hx, hd, _⟩ := da.mapOf
  obtain ⟨its, rv, p, _⟩ := I.list hq
  refine ⟨its.toArray, p.isList, fun y hy => ?_⟩
  have hy : y ∈ its := by simpa using hy
  obtain ⟨i, hi, e⟩ := List.getElem_of_mem hy
  have hl := rv.length
  have hx' : xs[i]? = some (xs[i]'(by omega)) := List.getElem?_eq_getElem (by omega)
  obtain ⟨u, hu', ru⟩ := rv.get hx'
  obtain ⟨z, ez⟩ := ht _ (List.getElem_mem (by omega : i < xs.length))
  rw [ez] at ru
  obtain ⟨t, rfl⟩ := ru
  rw [List.getElem?_eq_getElem hi, e] at hu'
  cases hu'
  exact eq_text_dct z t ho hx.1 hd hu
theorem op_inDk (hu : X.A.units + 1 < cLine) : OpR X (compareOp .In) (rInDk false X.K) := by
  intro pins s σ H x y v u Q I rx ry h
  obtain ⟨a, kvs, l, xs, rfl, rfl, ea, hq, ht, q⟩ := h
  obtain rfl : v = Value.ref a := rx
  obtain rfl : u = Value.ref l := ry
  obtain ⟨its, h1, h2⟩ := no_item (A := X.A.in1) I ea hq ht hu
  exact in_listAt (fun _ => false) h1 h2 ⟨.bl false, H, I, by show Value.bool _ = Value.bool false; simp, q⟩
theorem op_notInDk (hu : X.A.units + 1 < cLine) : OpR X (compareOp .NotIn) (rInDk true X.K) := by
  intro pins s σ H x y v u Q I rx ry h
  obtain ⟨a, kvs, l, xs, rfl, rfl, ea, hq, ht, q⟩ := h
  obtain rfl : v = Value.ref a := rx
  obtain rfl : u = Value.ref l := ry
  obtain ⟨its, h1, h2⟩ := no_item (A := X.A.in1) I ea hq ht hu
  exact notIn_listAt (fun _ => false) h1 h2 ⟨.bl true, H, I, by show Value.bool _ = Value.bool true; simp, q⟩
end
def isTx : D → Bool
  | .str _ => true
  | _ => false
def dInDk (k : Bool) : D → D → Option D
  | .dk _, .lst es => if es.all isTx then some (.bl k) else none
  | _, _ => none
def dInX (d e : D) : Option D := orD (dInP d e) (dInDk false d e)
def dNotInX (d e : D) : Option D := orD (dNotInP d e) (dInDk true d e)
def dEqX (d e : D) : Option D := orD (dEq d e) (dEqK d e)
def dNeX (d e : D) : Option D := orD (dNe d e) (dNeK d e)
section
variable {K : PySem.W.Frag} {ct : Nat → Addr} {F : Hp}
theorem reps_tx : ∀ {es : List D} {vs : List V}, Reps K ct F es vs → es.all isTx = true → ∀ v ∈ vs, ∃ z, v = V.str z
  | [], vs, h, _, v, hv => by rw [show vs = [] from h] at hv; cases hv
  | d :: es, vs, h, ha, v, hv => by
    obtain ⟨w, r, rfl, h2, h3⟩ := h
    rw [List.all_cons, Bool.and_eq_true] at ha
    rcases List.mem_cons.mp hv with rfl | hv
    · cases d <;> first | (cases ha.1; done) | skip
      exact ⟨_, h2⟩
    · exact reps_tx h3 ha.2 v hv
theorem sp_inDk {k : Bool} : Sp2 K ct true true (mR K ct) (rInDk k K) (dInDk k) := fun F H x y d e z Q ex hx hy hz hQ => by
  cases d <;> cases e <;> first | (cases hz; done) | skip
  rename_i kvs es
  obtain ⟨a, us, rfl, h1, h2⟩ := (show RepB K ct F H (.dk kvs) x from hx)
  obtain ⟨l, vs, rfl, h3, h4⟩ := (show RepB K ct F H (.lst es) y from hy)
  have hz' : (if es.all isTx then some (D.bl k) else none) = some z := hz
  split at hz'
  · rename_i ht
    cases hz'
    exact ⟨a, us, l, vs, rfl, rfl, h1, SqL.of h3, reps_tx h4 ht, hQ _ F H (Gr.refl ex) rfl⟩
  · cases hz'
end
section
variable {X : Cx} {ct : Nat → Addr} {W : WX} {a b : Expr} {f g : SE} {pos : Pos} {k : Nat}
theorem e_inX (hr : Room k X.A) (ha : PE X a (EB X.K ct W f)) (hb : PE X b (EB X.K ct W g)) (hm : behindInMarks .In b = false := by first | exact nomark _ | rfl) : PE X (.Compare a [.In] [b] pos) (ER X.K ct W (s2 dInX f g)) := e_cmp ((L2.op_inD (by have := hr.un; omega)).or (op_inDk (hu_of hr))) (Sp2.or (m1 := true) (m2 := true) sp_inP sp_inDk) ha hb hm
theorem t_inX (hr : Room k X.A) (ha : PE X a (EB X.K ct W f)) (hb : PE X b (EB X.K ct W g)) (hm : behindInMarks .In b = false := by first | exact nomark _ | rfl) : PT X (.Compare a [.In] [b] pos) (TT1 X.K ct W (s2 dInX f g)) := t_cmp ((L2.op_inD (by have := hr.un; omega)).or (op_inDk (hu_of hr))) (Sp2.or (m1 := true) (m2 := true) sp_inP sp_inDk) ha hb hm
theorem e_notInX (hr : Room k X.A) (ha : PE X a (EB X.K ct W f)) (hb : PE X b (EB X.K ct W g)) (hm : behindInMarks .NotIn b = false := by first | exact nomark _ | rfl) : PE X (.Compare a [.NotIn] [b] pos) (ER X.K ct W (s2 dNotInX f g)) := e_cmp ((L2.op_notInD (by have := hr.un; omega)).or (op_notInDk (hu_of hr))) (Sp2.or (m1 := true) (m2 := true) sp_notInP sp_inDk) ha hb hm
theorem t_notInX (hr : Room k X.A) (ha : PE X a (EB X.K ct W f)) (hb : PE X b (EB X.K ct W g)) (hm : behindInMarks .NotIn b = false := by first | exact nomark _ | rfl) : PT X (.Compare a [.NotIn] [b] pos) (TT1 X.K ct W (s2 dNotInX f g)) := t_cmp ((L2.op_notInD (by have := hr.un; omega)).or (op_notInDk (hu_of hr))) (Sp2.or (m1 := true) (m2 := true) sp_notInP sp_inDk) ha hb hm
theorem e_eqX (hr : Room k X.A) (ha : PE X a (EB X.K ct W f)) (hb : PE X b (EB X.K ct W g)) (hm : behindInMarks .Eq b = false := by first | exact nomark _ | rfl) : PE X (.Compare a [.Eq] [b] pos) (ER X.K ct W (s2 dEqX f g)) := e_cmp ((op_eqD hr.units).or (op_eqK (hu0 hr))) (Sp2.or (m1 := true) (m2 := true) sp_eq sp_eqK) ha hb hm
theorem t_eqX (hr : Room k X.A) (ha : PE X a (EB X.K ct W f)) (hb : PE X b (EB X.K ct W g)) (hm : behindInMarks .Eq b = false := by first | exact nomark _ | rfl) : PT X (.Compare a [.Eq] [b] pos) (TT1 X.K ct W (s2 dEqX f g)) := t_cmp ((op_eqD hr.units).or (op_eqK (hu0 hr))) (Sp2.or (m1 := true) (m2 := true) sp_eq sp_eqK) ha hb hm
end
end Ps

namespace Ps
open PySem PySem.Spec PyProof.Rows L2
/-! ### try .. except X: without a name -/
def ssTry0 (cat : Nat → Option Bool) (body gs : SS) : SS := fun env => match body env with
  | .er c fs e => (match cat c with
    | some true => (match gs e with
      | .er _ _ _ => .st
      | o => o)
    | some false => .er c fs e
    | none => .st)
  | o => o
section
variable {X : Cx} {ct : Nat → Addr} {W : WX} {body suite : List Stmt} {b₀ : Stmt} {g gs : SS} {pos pos' np : Pos} {x : Str}
theorem p_try0 {C : Value} {cat : Nat → Option Bool} (hs : X.stack = X.env :: X.outer) (hf : X.env.frame = some X.env.locals) (hc : Names X x C) (tk : Takes X W)
    (hcat : ∀ c b, cat c = some b → PySem.W.exmOne X.K (.ref (ct c)) C = some b)
    (hb : ∀ (W : WX) (pn : List (Addr × Obj)) (xe : Value → Shared → Prop), Takes (X.tr pn xe) W → PassesOwn (model X.prog X.w) X.A X.env xe → PSs (X.tr pn xe) body (sOf X.K ct W g))
    (hsu : ∀ (a : Addr) (pn : List (Addr × Obj)), PSs (X.suite a pn) (b₀ :: suite) (sOf X.K ct W0 gs)) :
    PS X (.Try body [.ExceptHandler (some (.Name x np)) none (b₀ :: suite) pos'] [] [] pos) (sOf X.K ct W (ssTry0 cat g gs)) := by
  refine (ps_try_only hs hf hc tk (tb := fun W => sOf X.K ct W g) (ts := fun _ _ _ => sOf X.K ct W0 gs) hb (fun a oe cls d pn _ _ => hsu a ((a, oe) :: pn))).imp fun Z σ H ⟨env, F, E, h⟩ => ⟨env, F, E, ?_⟩
  unfold ssTry0 at h
  cases q : g env with
  | er c fs e =>
    rw [q] at h
    intro dx σ' F' H' x E' r
    cases hcc : cat c with
    | none =>
      simp only [hcc] at h
      exact h.elim
    | some b =>
      simp only [hcc] at h
      refine ⟨b, hcat _ _ hcc, fun hb a na => ?_, fun hb => ?_⟩
      · subst hb
        simp only at h
        refine ⟨e, F', E', ?_⟩
        have h' := finS_after x h
        cases ho : gs e with
        | nx e2 => rw [ho] at h'; exact h'
        | bk e2 => rw [ho] at h'; exact h'
        | ct e2 => rw [ho] at h'; exact h'
        | rt d => rw [ho] at h'; exact h'
        | rn d => rw [ho] at h'; exact h'
        | er c2 fs2 e2 => rw [ho] at h'; exact h'.elim
        | st => rw [ho] at h'; exact h'.elim
      · subst hb
        simp only at h
        exact h dx σ' F' H' x E' r
  | nx e => rw [q] at h; exact h
  | bk e => rw [q] at h; exact h
  | ct e => rw [q] at h; exact h
  | rt d => rw [q] at h; exact h
  | rn d => rw [q] at h; exact h
  | st => rw [q] at h; exact h
end
/-! ### x.extend(a new list) -/
def ssExt (i : Nat) (f : SE) : SS := fun env => match env[i]? with
  | some (.ow (.lst ds)) => bndS (f env) env fun d => (match d with
    | .lst es => if ds.length + es.length ≤ sizeLine then .nx (env.set i (.ow (.lst (ds ++ es)))) else .st
    | _ => .st)
  | _ => .st
theorem reps_app {K : PySem.W.Frag} {ct : Nat → Addr} {F : Hp} : ∀ {ds es : List D} {vs ws : List V}, Reps K ct F ds vs → Reps K ct F es ws → Reps K ct F (ds ++ es) (vs ++ ws)
  | [], _, _, _, h, h2 => by
    subst h
    exact h2
  | d :: ds, es, vs, ws, h, h2 => by
    obtain ⟨v, r, rfl, a, b⟩ := h
    exact ⟨v, r ++ ws, rfl, a, reps_app b h2⟩
section
variable {X : Cx} {ct : Nat → Addr} {W : WX} {a b c e : Expr} {f : SE} {fs : SA} {pos pos' p p2 p3 apos cpos : Pos}
theorem p_ext (i : Nat) {x : Str} (he : PE X e (EN X.K ct W f)) (hN : X.N[i]? = some x := by rfl) (hv : Vis X.env.scope x := by first | exact Or.inl rfl | exact Or.inr (Or.inl rfl) | exact Or.inr (Or.inr rfl)) (hd : (x == ("__debug__" : Str)) = false := by decide)
    (hcd : (x == ("__classdict__" : Str)) = false := by decide) (hs : swapsWith (.Call (.Attribute (.Name x p) "extend" apos) [e] [] cpos) none pos.line X.env = pure false := by rfl)
    (hbase : attributeBase (.Name x p) "extend" X.env (eval (.Name x p) X.env) = eval (.Name x p) X.env := by rfl)
    (hfew : ((backTo cpos (starEach [e] X.env)).all (fun x => !x.1) && (backToKw cpos (keywordEach [] X.env)).all (fun x => x.1.isSome)
      && decide ([e].length + ([] : List Keyword).length + (if ([] : List Keyword).isEmpty then 0 else 1) < 30)) = true := by rfl)
    (hline : (apos.endLine == cpos.line) = true := by rfl) (h1 : starEach [e] X.env = (false, eval e X.env) :: starEach [] X.env := by rfl) (hplain : (backTo cpos (starEach [] X.env)).any (·.1) = false := by rfl) :
    PS X (.Expr (.Call (.Attribute (.Name x p) "extend" apos) [e] [] cpos) pos) (sOf X.K ct W (ssExt i f)) := by
  refine (ps_expr (pe_bm PySem.F.plainAttrs_list PySem.F.slot_list_extend PySem.F.type_list_extend mt_extend (pe_var hN hv hd hcd) (pa_cons he pa_nil h1) hbase hfew hline h1 hplain) hs).imp fun D σ H ⟨env, F, E, h⟩ => ?_
  unfold ssExt at h
  split at h
  · rename_i ds q
    obtain ⟨l, e1, hF, vs, h1, h2⟩ := E.ow i _ q
    refine ⟨.ref l, e1, .inl ⟨rfl, vs, SqL.of h1⟩, ?_⟩
    refine finS_bind E h fun d v F1 H1 e2 g1 r1 E1 h => ?_
    obtain ⟨b, rfl, hb, ho⟩ := r1
    split at h
    · rename_i es
      split at h
      · rename_i hl
        obtain ⟨hFb, ws, hHb, rw_⟩ := ho
        obtain ⟨l', e1', hF1, vs1, h3, h4⟩ := E1.ow i _ q
        rw [e1] at e1'; cases e1'
        refine ⟨l, b, vs1, ws, rfl, rfl, h3, hHb, by rw [h4.length, rw_.length]; exact hl, ?_⟩
        obtain ⟨E2, S2⟩ := mut_ok false (z := .lst (ds ++ es)) (o := .lst (vs1 ++ ws)) E1 q e1 hF1 ⟨hF1, _, upd_same, reps_app h4 rw_⟩
        exact h σ F1 _ (g1.sx.trans S2) E2
      · exact h.elim
    · exact h.elim
  · exact h.elim
/-! ### list(range(i, j, c)) -/
def rcV (i c : Int) (n : Nat) : List V := (List.range n).map fun (k : Nat) => V.int (i + (k : Int) * c)
def rListRg3 : List V → Hp → VK → Prop := fun vs H Q => ∃ (i j c : Int) (n : Nat), vs = [.int i, .int j, .int c] ∧ RgC i j c n ∧ n ≤ 2 ^ 24 ∧ ∀ q, H q = none → Q (.ref q) (upd H q (.lst (rcV i c n)))
theorem vals_rc {i c : Int} {n : Nat} {acc : Array Value} (h : ItemsOf (fun k v => ∃ t, v = .int (i + k * c) t) acc n) : Vals (rcV i c n) acc.toList := by
  have e : acc.toList.length = n := by rw [Array.length_toList]; exact h.1
  unfold rcV
  rw [← e]
  refine vals_of_get acc.toList _ fun j u hj => ?_
  obtain ⟨t, rfl⟩ := h.2 j u (by rw [← hj, Array.getElem?_toList])
  exact ⟨t, rfl⟩
theorem pe_listRg3 {ta : TA} (hcm : X.calm = true) (hgl : Gl X "list") (hml : X.mg "list" = none) (hg : Gl X "range") (hm : X.mg "range" = none) (ha : PA X [a, b, c] ta)
    (hs : starEach [a, b, c] X.env = (false, eval a X.env) :: starEach [b, c] X.env := by rfl) (hpl : (backTo p2 (starEach [b, c] X.env)).any (·.1) = false := by rfl)
    (na : starEach [Expr.Call (.Name "range" p) [a, b, c] [] p2] X.env = (false, eval (.Call (.Name "range" p) [a, b, c] [] p2) X.env) :: starEach [] X.env := by rfl) :
    PE X (.Call (.Name "list" p3) [.Call (.Name "range" p) [a, b, c] [] p2] [] pos) (fun σ H Q => ta σ H fun vs H1 => rListRg3 vs H1 Q) := by
  refine ⟨fun pins s σ H Q I h => ?_⟩
  have inner : wpAny (model X.prog X.w) X.A (eval (.Call (.Name "range" p) [a, b, c] [] p2) X.env) (fun x s' => ∃ r i j k t u v n H', x = .ref r ∧ IsRange s'.heap r i j k t u v ∧ Inv X pins σ H' s' ∧ RgC i j k n ∧ n ≤ 2 ^ 24 ∧ ∀ q, H' q = none → Q (.ref q) (upd H' q (.lst (rcV i k n)))) X.xe s := by
    refine Call_ (ld_blt I hg hm boot_range (PyProof.Rows.callWith_type1 (thn (ha.run p2 pins s σ H _ I h) fun us s1 ⟨vs, H1, I1, r1, q1⟩ => ?_) hs hpl))
    obtain ⟨i, j, k, n, e, ⟨c0, c1, c2, c3⟩, hn, q⟩ := q1
    subst e
    cases r1 with
    | cons r rr =>
      cases rr with
      | cons r' rr =>
        cases rr with
        | cons r'' rr =>
          cases rr
          obtain ⟨t, rfl⟩ := r
          obtain ⟨t', rfl⟩ := r'
          obtain ⟨t'', rfl⟩ := r''
          refine call_range_3 c0 ?_ (.inl (PyProof.noPylong_small c1))
          exact ⟨_, i, j, k, _, _, _, n, H1, rfl, IsRange.new .., I1.kept (t' := s1.toks) fun b o e => Heap.get?_push_of_some _ e, ⟨c0, c1, c2, c3⟩, hn, q⟩
  refine Call_ (ld_blt I hgl hml boot_list (PyProof.Rows.callWith_type1 (args_cons (thn inner fun x s1 ⟨r, i, j, k, t, u, v, n, H1, ex, hr, I1, ⟨c0, c1, c2, c3⟩, hn, q⟩ => args_nil ?_) na) na))
  subst ex
  refine call_list_range (n := n) (I1.ok.hd hcm) hr c2 c3 hn fun h' tk acc c' hk e' hi => ?_
  refine ⟨.ref s1.heap.objs.size, upd H1 s1.heap.objs.size (.lst (rcV i k n)), I1.laid hk (Nat.le_refl _) (show ObjOk X.prog X.w _ _ _ (.lst (rcV i k n)) from ⟨?_, acc.toList, c', vals_rc hi, ?_⟩), rfl, q _ (I1.hok.fresh (Nat.le_refl _))⟩
  · unfold rcV; rw [List.length_map, List.length_range, sizeLine_eq]; omega
  · rw [Array.toArray_toList]; exact e'
def cRg3 : List D → Option D
  | [.int i, .int j, .int c] => if c ≠ 0 ∧ c.natAbs < 1073741824 ∧ Builtin.Range.small i j c = true ∧ 0 ≤ Builtin.Range.rangeSize i j c ∧ Builtin.Range.rangeSize i j c ≤ 16777216 then some (.lst ((List.range (Builtin.Range.rangeSize i j c).toNat).map fun (k : Nat) => D.int (i + (k : Int) * c))) else none
  | _ => none
theorem reps_rc {K : PySem.W.Frag} {F : Hp} (i c : Int) : ∀ (l : List Nat), Reps K ct F (l.map fun (k : Nat) => D.int (i + (k : Int) * c)) (l.map fun (k : Nat) => V.int (i + (k : Int) * c))
  | [] => rfl
  | k :: l => ⟨_, _, rfl, rfl, reps_rc i c l⟩
theorem spc_rg3 {K : PySem.W.Frag} : SpC K ct [false, false, false] (mN K ct) rListRg3 cRg3 := by
  intro F H vs ds z Q ex hA hz hQ
  obtain ⟨d, ds', v, vs', rfl, rfl, r1, ra⟩ := hA
  obtain ⟨e, g, w, u, rfl, rfl, r2, r3⟩ := args2 ra
  cases d <;> cases e <;> cases g <;> first | (cases hz; done) | skip
  rename_i i j c
  cases (show v = .int i from r1)
  cases (show w = .int j from r2)
  cases (show u = .int c from r3)
  simp only [cRg3] at hz
  split at hz
  · rename_i hj
    cases hz
    exact ⟨i, j, c, (Builtin.Range.rangeSize i j c).toNat, rfl, ⟨hj.1, hj.2.1, hj.2.2.1, (Int.toNat_of_nonneg hj.2.2.2.1).symm⟩, by omega, fun p hp => hQ _ F _ (Gr.own ex hp) ⟨p, rfl, hp, Ex.free ex hp, _, upd_same, reps_rc i c _⟩⟩
  · cases hz
theorem e_listRg3 (hcm : X.calm = true) (hgl : Gl X "list") (hml : X.mg "list" = none) (hg : Gl X "range") (hm : X.mg "range" = none) (ha : PA X [a, b, c] (tA X.K ct W [false, false, false] fs))
    (hs : starEach [a, b, c] X.env = (false, eval a X.env) :: starEach [b, c] X.env := by rfl) (hpl : (backTo p2 (starEach [b, c] X.env)).any (·.1) = false := by rfl)
    (na : starEach [Expr.Call (.Name "range" p) [a, b, c] [] p2] X.env = (false, eval (.Call (.Name "range" p) [a, b, c] [] p2) X.env) :: starEach [] X.env := by rfl) :
    PE X (.Call (.Name "list" p3) [.Call (.Name "range" p) [a, b, c] [] p2] [] pos) (EN X.K ct W (sCall cRg3 fs)) :=
  PE.imp (pe_listRg3 hcm hgl hml hg hm ha hs hpl na) fun σ H Q h => tcb mN_ok spc_rg3 h
/-! ### * of great numbers -/
def dMulW : D → D → Option D
  | .int i, .int j => if i.natAbs.log2 + j.natAbs.log2 < 1000000 then some (.int (i * j)) else none
  | _, _ => none
theorem sp_mulW {K : PySem.W.Frag} {m1 m2 : Bool} : Sp2 K ct m1 m2 (mR K ct) (rI CMulW fun i j => .int (i * j)) dMulW := sp_int fun d e z h => by
  cases d <;> cases e <;> first | (cases h; done) | skip
  simp only [dMulW] at h
  split at h
  · rename_i hc
    cases h
    exact ⟨_, _, _, rfl, rfl, rfl, fun H Q q => ⟨_, _, rfl, rfl, hc, q⟩⟩
  · cases h
theorem e_mulW {g : SE} (ha : PE X a (ER X.K ct W f)) (hb : PE X b (ER X.K ct W g)) : PE X (.BinOp a .Mult b pos) (ER X.K ct W (s2 dMulW f g)) := e_op op_mulW mR_ok (sp_mulW (m1 := false) (m2 := false)) ha hb
end
end Ps

namespace Tm
open Ps

/-! ### typed results, texts, data -/
inductive M (α : Type) where
  | ok (a : α) | er (c : Nat) (fs : List (PySem.Str × D)) | st
def M.bind {α β : Type} (x : M α) (k : α → M β) : M β := match x with
  | .ok a => k a
  | .er c fs => .er c fs
  | .st => .st
@[simp] theorem bind_ok {α β : Type} (a : α) (k : α → M β) : (M.ok a).bind k = k a := rfl
@[simp] theorem bind_er {α β : Type} (c : Nat) (fs : List (PySem.Str × D)) (k : α → M β) : (M.er c fs : M α).bind k = .er c fs := rfl
@[simp] theorem bind_st {α β : Type} (k : α → M β) : (M.st : M α).bind k = .st := rfl
/-- bind_ok, not to be taken for an unfolding -/
theorem bindk {α β : Type} (a : α) (k : α → M β) : (M.ok a).bind k = k a := (Eq.refl _).trans rfl
/-- a guard -/
@[irreducible] def gd {α : Type} (c : Prop) [Decidable c] (x : M α) : M α := if c then x else .st
theorem gd_ok {α : Type} {c : Prop} [Decidable c] {x : M α} (h : c) : gd c x = x := by unfold gd; exact if_pos h
abbrev Tx := List Char
def str (x : Tx) : PySem.Str := ⟨(x.map Char.toNat).toArray⟩
theorem str_len (x : Tx) : (str x).length = x.length := by simp [str, PySem.Str.length]
theorem str_cps (x : Tx) : (str x).cps.toList = x.map Char.toNat := by simp [str]
theorem str_app (x y : Tx) : str (x ++ y) = str x ++ str y := by
  show _ = (⟨(str x).cps ++ (str y).cps⟩ : PySem.Str)
  simp [str]
theorem toNat_inj {a b : Char} (h : a.toNat = b.toNat) : a = b := by
  apply Char.ext; apply UInt32.toNat_inj.mp; exact h
theorem map_inj {x y : Tx} (h : x.map Char.toNat = y.map Char.toNat) : x = y := List.map_inj_right (fun a b h => toNat_inj h) |>.mp h
theorem str_inj {x y : Tx} (h : str x = str y) : x = y := by
  have : (str x).cps.toList = (str y).cps.toList := by rw [h]
  rw [str_cps, str_cps] at this
  exact map_inj this
theorem str_eq (x y : Tx) : (str x = str y) = (x = y) := propext ⟨str_inj, fun h => by rw [h]⟩
theorem str_of (s : String) : PySem.Str.ofString s = str s.toList := PySem.Str.ofString_eq_toList s
theorem toNat_lt (c : Char) : c.toNat < 0x110000 := by
  have := c.valid
  simp only [UInt32.isValidChar, Nat.isValidChar] at this
  show c.val.toNat < _
  omega
theorem str_ok (x : Tx) : PySem.PyData.strOk (str x) = true := by
  unfold PySem.PyData.strOk
  rw [← Array.all_toList, str_cps, List.all_map, List.all_eq_true]
  intro c _
  simpa using toNat_lt c
/-- a sign as a text -/
def sg (c : Char) : Tx := [c]
theorem str_sg (c : Char) : str [c] = ⟨#[c.toNat]⟩ := rfl

class Emb (α : Type) where
  d : α → D
open Emb (d)
structure Scr where
  ns : List Int
structure P3 (α β γ : Type) where
  a : α
  b : β
  c : γ
structure P4 (α β γ δ : Type) where
  a : α
  b : β
  c : γ
  e : δ
structure Exc where
  c : Nat
  fs : List (PySem.Str × D)
structure Dct (κ α : Type) where
  l : List (κ × α)
instance : Emb D := ⟨id⟩
instance : Emb Int := ⟨D.int⟩
instance : Emb Bool := ⟨D.bl⟩
instance : Emb Unit := ⟨fun _ => .non⟩
instance : Emb Tx := ⟨fun x => .str (str x)⟩
instance {α : Type} [Emb α] : Emb (List α) := ⟨fun xs => .lst (xs.map d)⟩
instance {α β : Type} [Emb α] [Emb β] : Emb (α × β) := ⟨fun x => .tup [d x.1, d x.2]⟩
instance {α β γ : Type} [Emb α] [Emb β] [Emb γ] : Emb (P3 α β γ) := ⟨fun x => .tup [d x.a, d x.b, d x.c]⟩
instance {α β γ δ : Type} [Emb α] [Emb β] [Emb γ] [Emb δ] : Emb (P4 α β γ δ) := ⟨fun x => .tup [d x.a, d x.b, d x.c, d x.e]⟩
instance {α : Type} [Emb α] : Emb (Option α) := ⟨fun x => match x with | none => .non | some a => d a⟩
instance : Emb Scr := ⟨fun x => .scr x.ns⟩
instance : Emb Exc := ⟨fun x => .exo x.c x.fs⟩
theorem d_txt (x : Tx) : d x = D.str (str x) := rfl
theorem d_lst {α : Type} [Emb α] (x : List α) : d x = D.lst (x.map d) := rfl

/-- keys of dicts -/
class Ke (κ : Type) extends Emb κ where
  dec : DecidableEq κ
  k : κ → L2.Key
  kd : ∀ a, keyD (d a) = some (k a)
  inj : ∀ a b, k a = k b → a = b
  dk : ∀ a, dKey (k a) = d a
instance {κ : Type} [Ke κ] : DecidableEq κ := Ke.dec
instance : Ke Int := ⟨inferInstance, Sum.inl, fun _ => rfl, fun _ _ h => Sum.inl.inj h, fun _ => rfl⟩
instance : Ke Tx := ⟨inferInstance, fun x => Sum.inr (str x), fun _ => rfl, fun _ _ h => str_inj (Sum.inr.inj h), fun _ => rfl⟩
/-- what a dict's key is: one, or a tuple -/
class Kt (κ : Type) extends Emb κ where
  dec : DecidableEq κ
  k : κ → List L2.Key
  ds : κ → List D
  dt : ∀ a, d a = .tup (ds a)
  kd : ∀ a, keysD (ds a) = some (k a)
  inj : ∀ a b, k a = k b → a = b
instance {κ ι : Type} [Ke κ] [Ke ι] : Kt (κ × ι) where
  dec := inferInstance
  k x := [Ke.k x.1, Ke.k x.2]
  ds x := [d x.1, d x.2]
  dt _ := rfl
  kd x := by simp [keysD, Ke.kd]
  inj a b h := by
    simp only [List.cons.injEq, and_true] at h
    exact Prod.ext (Ke.inj _ _ h.1) (Ke.inj _ _ h.2)
class Dc (κ : Type) extends Emb κ where
  dec : DecidableEq κ
  K : Type
  kdec : DecidableEq K
  k : κ → K
  inj : ∀ a b, k a = k b → a = b
  mkD : List (K × D) → D
  val : ∀ l a, dIx (mkD l) (d a) = valD l (k a)
  put : ∀ l a v, dPut (mkD l) (d a) v = if l.length < PySem.sizeLine then some (mkD (putD l (k a) v)) else none
  has : ∀ l a, inD (d a) (mkD l) = some (valD l (k a)).isSome
  own : ∀ l, isOwnable (mkD l) = true
  noScr : ∀ l, Ps.noScr (mkD l) = true
instance {κ : Type} [Dc κ] : DecidableEq (Dc.K κ) := Dc.kdec
instance {κ : Type} [Ke κ] : Dc κ where
  dec := Ke.dec
  K := L2.Key
  kdec := inferInstance
  k := Ke.k
  inj := Ke.inj
  mkD := .dk
  val l a := by simp [dIx, Ke.kd]
  put l a v := by simp [dPut, Ke.kd]
  has l a := by simp [inD, Ke.kd]
  own _ := rfl
  noScr _ := rfl
instance {κ : Type} [Kt κ] : Dc κ where
  dec := Kt.dec
  K := List L2.Key
  kdec := inferInstance
  k := Kt.k
  inj := Kt.inj
  mkD := .dt
  val l a := by simp [dIx, Kt.dt, Kt.kd]
  put l a v := by simp [dPut, Kt.dt, Kt.kd]
  has l a := by simp [inD, Kt.dt, Kt.kd]
  own _ := rfl
  noScr _ := rfl
instance dctEmb {κ α : Type} [Dc κ] [Emb α] : Emb (Dct κ α) := ⟨fun m => Dc.mkD (κ := κ) (m.l.map fun p => (Dc.k p.1, d p.2))⟩
section
variable {κ α : Type} [Dc κ]
instance dcDec : DecidableEq κ := Dc.dec
def Dct.get? (m : Dct κ α) (a : κ) : Option α := (m.l.find? fun p => decide (p.1 = a)).map (·.2)
def Dct.put (m : Dct κ α) (a : κ) (v : α) : Dct κ α := ⟨if m.l.any (fun p => decide (p.1 = a)) then m.l.map (fun p => if p.1 = a then (p.1, v) else p) else m.l ++ [(a, v)]⟩
def Dct.keys (m : Dct κ α) : List κ := m.l.map (·.1)
theorem key_dec (a b : κ) : decide (Dc.k a = Dc.k b) = decide (a = b) := by
  by_cases h : a = b
  · subst h; simp
  · have : Dc.k a ≠ Dc.k b := fun z => h (Dc.inj _ _ z)
    simp [h, this]
theorem val_get [Emb α] (a : κ) : ∀ l : List (κ × α), valD (l.map fun p => (Dc.k p.1, d p.2)) (Dc.k a) = ((l.find? fun p => decide (p.1 = a)).map (·.2)).map d
  | [] => rfl
  | p :: l => by
    have ih := val_get a l
    unfold valD at ih ⊢
    simp only [List.map_cons, List.find?_cons, key_dec]
    by_cases h : p.1 = a
    · simp [h]
    · simp only [h, decide_false]
      exact ih
theorem put_put [Emb α] (a : κ) (v : α) (l : List (κ × α)) : putD (l.map fun p => (Dc.k p.1, d p.2)) (Dc.k a) (d v) = (if l.any (fun p => decide (p.1 = a)) then l.map (fun p => if p.1 = a then (p.1, v) else p) else l ++ [(a, v)]).map fun p => (Dc.k p.1, d p.2) := by
  unfold putD
  have e : (l.map fun p => (Dc.k p.1, d p.2)).any (fun kv => decide (kv.1 = Dc.k a)) = l.any (fun p => decide (p.1 = a)) := by
    rw [List.any_map]; congr 1; funext p; simp only [Function.comp_apply, key_dec]
  rw [e]
  split
  · simp only [List.map_map]
    refine List.map_congr_left fun p _ => ?_
    have := key_dec p.1 a
    simp only [Function.comp_apply]
    by_cases h : p.1 = a
    · simp [h]
    · have h2 : Dc.k p.1 ≠ Dc.k a := fun z => h (Dc.inj _ _ z)
      simp [h, h2]
  · simp
end

/-- comparable data -/
class Cm (α : Type) extends Emb α where
  dec : DecidableEq α
  p : α → PySem.PyData
  n : Nat
  toP : ∀ a, Ps.toP (d a) = some (p a)
  lay : ∀ a, (p a).canLay0 = true
  dep : ∀ a, (p a).depth ≤ n
  eqv : ∀ a b, PySem.PyData.eqv (p a) (p b) = decide (a = b)
/-- never None -/
class Nn (α : Type) extends Cm α where
  n1 : ∀ a, PySem.PyData.eqv .none (p a) = false
  n2 : ∀ a, PySem.PyData.eqv (p a) .none = false
instance : Nn Int where
  dec := inferInstance
  p := .int
  n := 0
  toP _ := rfl
  lay _ := by simp [PySem.PyData.canLay0]
  dep _ := by simp [PySem.PyData.depth]
  eqv a b := by simp only [PySem.PyData.eqv]; rw [Bool.eq_iff_iff]; simp
  n1 _ := rfl
  n2 _ := rfl
instance : Nn Bool where
  dec := inferInstance
  p := .bool
  n := 0
  toP _ := rfl
  lay _ := by simp [PySem.PyData.canLay0]
  dep _ := by simp [PySem.PyData.depth]
  eqv a b := by simp only [PySem.PyData.eqv]; rw [Bool.eq_iff_iff]; simp
  n1 _ := rfl
  n2 _ := rfl
instance : Cm Unit where
  dec := inferInstance
  p _ := .none
  n := 0
  toP _ := rfl
  lay _ := by simp [PySem.PyData.canLay0]
  dep _ := by simp [PySem.PyData.depth]
  eqv a b := by simp [PySem.PyData.eqv]
instance : Nn Tx where
  dec := inferInstance
  p x := .str (str x)
  n := 0
  toP _ := rfl
  lay x := by simp [PySem.PyData.canLay0, str_ok]
  dep _ := by simp [PySem.PyData.depth]
  eqv a b := by simp only [PySem.PyData.eqv]; rw [Bool.eq_iff_iff]; simp [str_eq]
  n1 _ := rfl
  n2 _ := rfl
theorem toPs_map {α : Type} [Cm α] : ∀ l : List α, toPs (l.map d) = some (l.map Cm.p)
  | [] => rfl
  | a :: l => by
    show ((Ps.toP (d a)).bind fun p => (toPs (l.map d)).map fun ps => p :: ps) = _
    rw [Cm.toP, toPs_map l]; rfl
theorem layAll {α : Type} [Cm α] : ∀ l : List α, PySem.PyData.canLayAll0 (l.map Cm.p) = true
  | [] => by simp [PySem.PyData.canLayAll0]
  | a :: l => by simp [PySem.PyData.canLayAll0, Cm.lay, layAll l]
theorem depAll {α : Type} [Cm α] : ∀ l : List α, PySem.PyData.depthAll (l.map Cm.p) ≤ Cm.n α
  | [] => by simp [PySem.PyData.depthAll]
  | a :: l => by
    simp only [List.map_cons, PySem.PyData.depthAll]
    exact Nat.max_le.mpr ⟨Cm.dep a, depAll l⟩
theorem eqvAll {α : Type} [Cm α] [DecidableEq α] : ∀ l m : List α, PySem.PyData.eqvAll (l.map Cm.p) (m.map Cm.p) = decide (l = m)
  | [], [] => by simp [PySem.PyData.eqvAll]
  | a :: l, [] => by simp [PySem.PyData.eqvAll]
  | [], a :: l => by simp [PySem.PyData.eqvAll]
  | a :: l, b :: m => by
    have h := eqvAll l m
    have h2 := Cm.eqv a b
    simp only [List.map_cons, PySem.PyData.eqvAll, h, h2]
    rw [Bool.eq_iff_iff]
    simp
instance {α : Type} [Cm α] : Nn (List α) where
  dec := @instDecidableEqList α Cm.dec
  p l := .list (l.map Cm.p)
  n := Cm.n α + 1
  toP l := by
    show (toPs (l.map d)).map PySem.PyData.list = _
    rw [toPs_map]; rfl
  lay l := by simp [PySem.PyData.canLay0, layAll]
  dep l := by simp only [PySem.PyData.depth]; have := depAll l; omega
  eqv a b := by
    simp only [PySem.PyData.eqv]
    letI := (Cm.dec : DecidableEq α)
    rw [eqvAll]

  n1 _ := rfl
  n2 _ := rfl
instance {α β : Type} [Cm α] [Cm β] : Nn (α × β) where
  dec := @instDecidableEqProd α β Cm.dec Cm.dec
  p x := .tuple [Cm.p x.1, Cm.p x.2]
  n := max (Cm.n α) (Cm.n β) + 1
  toP x := by
    show ((Ps.toP (d x.1)).bind fun p => ((Ps.toP (d x.2)).bind fun q => ((some []).map fun ps => q :: ps)).map fun ps => p :: ps).map PySem.PyData.tuple = _
    rw [Cm.toP, Cm.toP]; rfl
  lay x := by simp [PySem.PyData.canLay0, PySem.PyData.canLayAll0, Cm.lay]
  dep x := by
    simp only [PySem.PyData.depth, PySem.PyData.depthAll]
    have := Cm.dep x.1
    have := Cm.dep x.2
    omega
  eqv a b := by
    simp only [PySem.PyData.eqv, PySem.PyData.eqvAll, Cm.eqv]
    rw [Bool.eq_iff_iff]; simp [Prod.ext_iff]
  n1 _ := rfl
  n2 _ := rfl
instance {α β γ : Type} [Cm α] [Cm β] [Cm γ] : Nn (P3 α β γ) where
  dec := fun x y => letI := (Cm.dec : DecidableEq α); letI := (Cm.dec : DecidableEq β); letI := (Cm.dec : DecidableEq γ); decidable_of_iff (x.a = y.a ∧ x.b = y.b ∧ x.c = y.c) (by cases x; cases y; simp)
  p x := .tuple [Cm.p x.a, Cm.p x.b, Cm.p x.c]
  n := max (Cm.n α) (max (Cm.n β) (Cm.n γ)) + 1
  toP x := by
    show ((Ps.toP (d x.a)).bind fun p => ((Ps.toP (d x.b)).bind fun q => ((Ps.toP (d x.c)).bind fun r => ((some []).map fun ps => r :: ps)).map fun ps => q :: ps).map fun ps => p :: ps).map PySem.PyData.tuple = _
    rw [Cm.toP, Cm.toP, Cm.toP]; rfl
  lay x := by simp [PySem.PyData.canLay0, PySem.PyData.canLayAll0, Cm.lay]
  dep x := by
    simp only [PySem.PyData.depth, PySem.PyData.depthAll]
    have := Cm.dep x.a
    have := Cm.dep x.b
    have := Cm.dep x.c
    omega
  eqv a b := by
    cases a; cases b
    simp only [PySem.PyData.eqv, PySem.PyData.eqvAll, Cm.eqv]
    rw [Bool.eq_iff_iff]; simp
  n1 _ := rfl
  n2 _ := rfl
instance {α : Type} [Nn α] : Cm (Option α) where
  dec := letI := (Cm.dec : DecidableEq α); inferInstance
  p x := match x with | none => .none | some a => Cm.p a
  n := Cm.n α
  toP x := by
    cases x with
    | none => rfl
    | some a => exact Cm.toP a
  lay x := by
    cases x with
    | none => simp [PySem.PyData.canLay0]
    | some a => exact Cm.lay a
  dep x := by
    cases x with
    | none => simp [PySem.PyData.depth]
    | some a => exact Cm.dep a
  eqv a b := by
    cases a with
    | none =>
      cases b with
      | none => simp [PySem.PyData.eqv]
      | some b => simp [Nn.n1]
    | some a =>
      cases b with
      | none => simp [Nn.n2]
      | some b => simp [Cm.eqv]
end Tm

namespace Tm
open Ps
open Emb (d)

def Ref {α : Type} [Emb α] (r : R) (t : M α) : Prop := match t with
  | .ok a => r = .ok (d a)
  | .er c fs => r = .er c fs
  | .st => True
/-- an __init__ -/
def RefI {α : Type} [Emb α] (c : Nat) (r : RI) (t : M α) : Prop := match t with
  | .ok a => ∃ fs, r = .ok fs ∧ d a = .obj c fs
  | _ => True
def mkR' (c : Nat) (r : RI) : R := match r with
  | .ok gs => .ok (.obj c gs)
  | .er _ _ => .st
  | .st => .st
def mkM {α : Type} (t : M α) : M α := match t with
  | .ok a => .ok a
  | _ => .st
theorem refMk {α : Type} [Emb α] {c : Nat} {r : RI} {t : M α} (h : RefI c r t) : Ref (mkR' c r) (mkM t) := by
  cases t with
  | ok a => obtain ⟨fs, h1, h2⟩ := h; subst h1; exact congrArg R.ok h2.symm
  | er c fs => trivial
  | st => trivial
section
variable {α β γ δ : Type} [Emb α] [Emb β] [Emb γ] [Emb δ]
theorem ref_bnd {r : R} {k : D → R} {t : M α} {u : α → M β} (h : Ref r t) (hk : ∀ a, Ref (k (d a)) (u a)) : Ref (bnd r k) (t.bind u) := by
  cases t with
  | ok a => rw [show r = .ok (d a) from h]; exact hk a
  | er c fs => rw [show r = .er c fs from h]; exact rfl
  | st => trivial
theorem ref_st {r : R} : Ref r (M.st : M α) := trivial
theorem ref_gd {c : Prop} [Decidable c] {r : R} {t : M α} (h : c → Ref r t) : Ref r (gd c t) := by
  unfold gd; split
  · rename_i hc; exact h hc
  · trivial
theorem args1 {A0 : Type} [Emb A0] {β : Type} [Emb β] {f0 : SE} {env : En} {t0 : M A0} {k : List D → R} {u : A0 → M β} (h0 : Ref (f0 env) t0) (hm : ∀ (x0 : A0), Ref (k [d x0]) (u x0)) : Ref (bndA ((aCons f0 aNil) env) k) (t0.bind fun x0 => u x0) := by
  cases t0 with
  | er c fs => exact (show bndA ((aCons f0 aNil) env) k = .er c fs by simp only [aCons, aNil, show f0 env = .er c fs from h0, bndA])
  | st => trivial
  | ok x0 =>
  have e : (aCons f0 aNil) env = .ok [d x0] := by simp only [aCons, aNil, show f0 env = .ok (d x0) from h0]
  rw [e]
  exact hm x0
theorem rf_fn1 {A0 : Type} [Emb A0] {β : Type} [Emb β] {f0 : SE} {env : En} {t0 : M A0} {m : List D → R} {u : A0 → M β} (h0 : Ref (f0 env) t0) (hm : ∀ (x0 : A0), Ref (m [d x0]) (u x0)) : Ref (sFn m (aCons f0 aNil) env) (t0.bind fun x0 => u x0) := args1 h0 hm
theorem rf_meth1 {A0 : Type} [Emb A0] {β : Type} [Emb β] {f0 : SE} {env : En} {t0 : M A0} {A : Type} [Emb A] {f : SE} {t : M A} {cc : Nat} {m : List D → R} {u : A → A0 → M β} (h : Ref (f env) t) (h0 : Ref (f0 env) t0) (ho : ∀ r : A, isObjD cc (d r) = true) (hm : ∀ (r : A) (x0 : A0), Ref (m (d r :: [d x0])) (u r x0)) : Ref (sMeth cc m f (aCons f0 aNil) env) (t.bind fun r => t0.bind fun x0 => u r x0) := by
  refine ref_bnd h fun r => ?_
  rw [ho r]
  exact args1 h0 (hm r)
theorem rf_mk1 {A0 : Type} [Emb A0] {β : Type} [Emb β] {f0 : SE} {env : En} {t0 : M A0} {cc : Nat} {m : List D → RI} {u : A0 → M β} (h0 : Ref (f0 env) t0) (hn : ∀ (x0 : A0), ([d x0] : List D).all noScr = true) (hm : ∀ (x0 : A0), RefI cc (m [d x0]) (u x0)) : Ref (sMk cc m (aCons f0 aNil) env) (t0.bind fun x0 => mkM (u x0)) := args1 h0 fun x0 => by
  rw [hn x0, if_pos rfl]
  exact refMk (hm x0)
theorem args2 {A0 : Type} [Emb A0] {A1 : Type} [Emb A1] {β : Type} [Emb β] {f0 f1 : SE} {env : En} {t0 : M A0} {t1 : M A1} {k : List D → R} {u : A0 → A1 → M β} (h0 : Ref (f0 env) t0) (h1 : Ref (f1 env) t1) (hm : ∀ (x0 : A0) (x1 : A1), Ref (k [d x0, d x1]) (u x0 x1)) : Ref (bndA ((aCons f0 (aCons f1 aNil)) env) k) (t0.bind fun x0 => t1.bind fun x1 => u x0 x1) := by
  cases t0 with
  | er c fs => exact (show bndA ((aCons f0 (aCons f1 aNil)) env) k = .er c fs by simp only [aCons, aNil, show f0 env = .er c fs from h0, bndA])
  | st => trivial
  | ok x0 =>
  cases t1 with
  | er c fs => exact (show bndA ((aCons f0 (aCons f1 aNil)) env) k = .er c fs by simp only [aCons, aNil, show f0 env = .ok (d x0) from h0, show f1 env = .er c fs from h1, bndA])
  | st => trivial
  | ok x1 =>
  have e : (aCons f0 (aCons f1 aNil)) env = .ok [d x0, d x1] := by simp only [aCons, aNil, show f0 env = .ok (d x0) from h0, show f1 env = .ok (d x1) from h1]
  rw [e]
  exact hm x0 x1
theorem rf_fn2 {A0 : Type} [Emb A0] {A1 : Type} [Emb A1] {β : Type} [Emb β] {f0 f1 : SE} {env : En} {t0 : M A0} {t1 : M A1} {m : List D → R} {u : A0 → A1 → M β} (h0 : Ref (f0 env) t0) (h1 : Ref (f1 env) t1) (hm : ∀ (x0 : A0) (x1 : A1), Ref (m [d x0, d x1]) (u x0 x1)) : Ref (sFn m (aCons f0 (aCons f1 aNil)) env) (t0.bind fun x0 => t1.bind fun x1 => u x0 x1) := args2 h0 h1 hm
theorem rf_meth2 {A0 : Type} [Emb A0] {A1 : Type} [Emb A1] {β : Type} [Emb β] {f0 f1 : SE} {env : En} {t0 : M A0} {t1 : M A1} {A : Type} [Emb A] {f : SE} {t : M A} {cc : Nat} {m : List D → R} {u : A → A0 → A1 → M β} (h : Ref (f env) t) (h0 : Ref (f0 env) t0) (h1 : Ref (f1 env) t1) (ho : ∀ r : A, isObjD cc (d r) = true) (hm : ∀ (r : A) (x0 : A0) (x1 : A1), Ref (m (d r :: [d x0, d x1])) (u r x0 x1)) : Ref (sMeth cc m f (aCons f0 (aCons f1 aNil)) env) (t.bind fun r => t0.bind fun x0 => t1.bind fun x1 => u r x0 x1) := by
  refine ref_bnd h fun r => ?_
  rw [ho r]
  exact args2 h0 h1 (hm r)
theorem rf_mk2 {A0 : Type} [Emb A0] {A1 : Type} [Emb A1] {β : Type} [Emb β] {f0 f1 : SE} {env : En} {t0 : M A0} {t1 : M A1} {cc : Nat} {m : List D → RI} {u : A0 → A1 → M β} (h0 : Ref (f0 env) t0) (h1 : Ref (f1 env) t1) (hn : ∀ (x0 : A0) (x1 : A1), ([d x0, d x1] : List D).all noScr = true) (hm : ∀ (x0 : A0) (x1 : A1), RefI cc (m [d x0, d x1]) (u x0 x1)) : Ref (sMk cc m (aCons f0 (aCons f1 aNil)) env) (t0.bind fun x0 => t1.bind fun x1 => mkM (u x0 x1)) := args2 h0 h1 fun x0 x1 => by
  rw [hn x0 x1, if_pos rfl]
  exact refMk (hm x0 x1)
theorem args3 {A0 : Type} [Emb A0] {A1 : Type} [Emb A1] {A2 : Type} [Emb A2] {β : Type} [Emb β] {f0 f1 f2 : SE} {env : En} {t0 : M A0} {t1 : M A1} {t2 : M A2} {k : List D → R} {u : A0 → A1 → A2 → M β} (h0 : Ref (f0 env) t0) (h1 : Ref (f1 env) t1) (h2 : Ref (f2 env) t2) (hm : ∀ (x0 : A0) (x1 : A1) (x2 : A2), Ref (k [d x0, d x1, d x2]) (u x0 x1 x2)) : Ref (bndA ((aCons f0 (aCons f1 (aCons f2 aNil))) env) k) (t0.bind fun x0 => t1.bind fun x1 => t2.bind fun x2 => u x0 x1 x2) := by
  cases t0 with
  | er c fs => exact (show bndA ((aCons f0 (aCons f1 (aCons f2 aNil))) env) k = .er c fs by simp only [aCons, aNil, show f0 env = .er c fs from h0, bndA])
  | st => trivial
  | ok x0 =>
  cases t1 with
  | er c fs => exact (show bndA ((aCons f0 (aCons f1 (aCons f2 aNil))) env) k = .er c fs by simp only [aCons, aNil, show f0 env = .ok (d x0) from h0, show f1 env = .er c fs from h1, bndA])
  | st => trivial
  | ok x1 =>
  cases t2 with
  | er c fs => exact (show bndA ((aCons f0 (aCons f1 (aCons f2 aNil))) env) k = .er c fs by simp only [aCons, aNil, show f0 env = .ok (d x0) from h0, show f1 env = .ok (d x1) from h1, show f2 env = .er c fs from h2, bndA])
  | st => trivial
  | ok x2 =>
  have e : (aCons f0 (aCons f1 (aCons f2 aNil))) env = .ok [d x0, d x1, d x2] := by simp only [aCons, aNil, show f0 env = .ok (d x0) from h0, show f1 env = .ok (d x1) from h1, show f2 env = .ok (d x2) from h2]
  rw [e]
  exact hm x0 x1 x2
theorem rf_fn3 {A0 : Type} [Emb A0] {A1 : Type} [Emb A1] {A2 : Type} [Emb A2] {β : Type} [Emb β] {f0 f1 f2 : SE} {env : En} {t0 : M A0} {t1 : M A1} {t2 : M A2} {m : List D → R} {u : A0 → A1 → A2 → M β} (h0 : Ref (f0 env) t0) (h1 : Ref (f1 env) t1) (h2 : Ref (f2 env) t2) (hm : ∀ (x0 : A0) (x1 : A1) (x2 : A2), Ref (m [d x0, d x1, d x2]) (u x0 x1 x2)) : Ref (sFn m (aCons f0 (aCons f1 (aCons f2 aNil))) env) (t0.bind fun x0 => t1.bind fun x1 => t2.bind fun x2 => u x0 x1 x2) := args3 h0 h1 h2 hm
theorem rf_meth3 {A0 : Type} [Emb A0] {A1 : Type} [Emb A1] {A2 : Type} [Emb A2] {β : Type} [Emb β] {f0 f1 f2 : SE} {env : En} {t0 : M A0} {t1 : M A1} {t2 : M A2} {A : Type} [Emb A] {f : SE} {t : M A} {cc : Nat} {m : List D → R} {u : A → A0 → A1 → A2 → M β} (h : Ref (f env) t) (h0 : Ref (f0 env) t0) (h1 : Ref (f1 env) t1) (h2 : Ref (f2 env) t2) (ho : ∀ r : A, isObjD cc (d r) = true) (hm : ∀ (r : A) (x0 : A0) (x1 : A1) (x2 : A2), Ref (m (d r :: [d x0, d x1, d x2])) (u r x0 x1 x2)) : Ref (sMeth cc m f (aCons f0 (aCons f1 (aCons f2 aNil))) env) (t.bind fun r => t0.bind fun x0 => t1.bind fun x1 => t2.bind fun x2 => u r x0 x1 x2) := by
  refine ref_bnd h fun r => ?_
  rw [ho r]
  exact args3 h0 h1 h2 (hm r)
theorem rf_mk3 {A0 : Type} [Emb A0] {A1 : Type} [Emb A1] {A2 : Type} [Emb A2] {β : Type} [Emb β] {f0 f1 f2 : SE} {env : En} {t0 : M A0} {t1 : M A1} {t2 : M A2} {cc : Nat} {m : List D → RI} {u : A0 → A1 → A2 → M β} (h0 : Ref (f0 env) t0) (h1 : Ref (f1 env) t1) (h2 : Ref (f2 env) t2) (hn : ∀ (x0 : A0) (x1 : A1) (x2 : A2), ([d x0, d x1, d x2] : List D).all noScr = true) (hm : ∀ (x0 : A0) (x1 : A1) (x2 : A2), RefI cc (m [d x0, d x1, d x2]) (u x0 x1 x2)) : Ref (sMk cc m (aCons f0 (aCons f1 (aCons f2 aNil))) env) (t0.bind fun x0 => t1.bind fun x1 => t2.bind fun x2 => mkM (u x0 x1 x2)) := args3 h0 h1 h2 fun x0 x1 x2 => by
  rw [hn x0 x1 x2, if_pos rfl]
  exact refMk (hm x0 x1 x2)
theorem args4 {A0 : Type} [Emb A0] {A1 : Type} [Emb A1] {A2 : Type} [Emb A2] {A3 : Type} [Emb A3] {β : Type} [Emb β] {f0 f1 f2 f3 : SE} {env : En} {t0 : M A0} {t1 : M A1} {t2 : M A2} {t3 : M A3} {k : List D → R} {u : A0 → A1 → A2 → A3 → M β} (h0 : Ref (f0 env) t0) (h1 : Ref (f1 env) t1) (h2 : Ref (f2 env) t2) (h3 : Ref (f3 env) t3) (hm : ∀ (x0 : A0) (x1 : A1) (x2 : A2) (x3 : A3), Ref (k [d x0, d x1, d x2, d x3]) (u x0 x1 x2 x3)) : Ref (bndA ((aCons f0 (aCons f1 (aCons f2 (aCons f3 aNil)))) env) k) (t0.bind fun x0 => t1.bind fun x1 => t2.bind fun x2 => t3.bind fun x3 => u x0 x1 x2 x3) := by
  cases t0 with
  | er c fs => exact (show bndA ((aCons f0 (aCons f1 (aCons f2 (aCons f3 aNil)))) env) k = .er c fs by simp only [aCons, aNil, show f0 env = .er c fs from h0, bndA])
  | st => trivial
  | ok x0 =>
  cases t1 with
  | er c fs => exact (show bndA ((aCons f0 (aCons f1 (aCons f2 (aCons f3 aNil)))) env) k = .er c fs by simp only [aCons, aNil, show f0 env = .ok (d x0) from h0, show f1 env = .er c fs from h1, bndA])
  | st => trivial
  | ok x1 =>
  cases t2 with
  | er c fs => exact (show bndA ((aCons f0 (aCons f1 (aCons f2 (aCons f3 aNil)))) env) k = .er c fs by simp only [aCons, aNil, show f0 env = .ok (d x0) from h0, show f1 env = .ok (d x1) from h1, show f2 env = .er c fs from h2, bndA])
  | st => trivial
  | ok x2 =>
  cases t3 with
  | er c fs => exact (show bndA ((aCons f0 (aCons f1 (aCons f2 (aCons f3 aNil)))) env) k = .er c fs by simp only [aCons, aNil, show f0 env = .ok (d x0) from h0, show f1 env = .ok (d x1) from h1, show f2 env = .ok (d x2) from h2, show f3 env = .er c fs from h3, bndA])
  | st => trivial
  | ok x3 =>
  have e : (aCons f0 (aCons f1 (aCons f2 (aCons f3 aNil)))) env = .ok [d x0, d x1, d x2, d x3] := by simp only [aCons, aNil, show f0 env = .ok (d x0) from h0, show f1 env = .ok (d x1) from h1, show f2 env = .ok (d x2) from h2, show f3 env = .ok (d x3) from h3]
  rw [e]
  exact hm x0 x1 x2 x3
theorem rf_fn4 {A0 : Type} [Emb A0] {A1 : Type} [Emb A1] {A2 : Type} [Emb A2] {A3 : Type} [Emb A3] {β : Type} [Emb β] {f0 f1 f2 f3 : SE} {env : En} {t0 : M A0} {t1 : M A1} {t2 : M A2} {t3 : M A3} {m : List D → R} {u : A0 → A1 → A2 → A3 → M β} (h0 : Ref (f0 env) t0) (h1 : Ref (f1 env) t1) (h2 : Ref (f2 env) t2) (h3 : Ref (f3 env) t3) (hm : ∀ (x0 : A0) (x1 : A1) (x2 : A2) (x3 : A3), Ref (m [d x0, d x1, d x2, d x3]) (u x0 x1 x2 x3)) : Ref (sFn m (aCons f0 (aCons f1 (aCons f2 (aCons f3 aNil)))) env) (t0.bind fun x0 => t1.bind fun x1 => t2.bind fun x2 => t3.bind fun x3 => u x0 x1 x2 x3) := args4 h0 h1 h2 h3 hm
theorem rf_meth4 {A0 : Type} [Emb A0] {A1 : Type} [Emb A1] {A2 : Type} [Emb A2] {A3 : Type} [Emb A3] {β : Type} [Emb β] {f0 f1 f2 f3 : SE} {env : En} {t0 : M A0} {t1 : M A1} {t2 : M A2} {t3 : M A3} {A : Type} [Emb A] {f : SE} {t : M A} {cc : Nat} {m : List D → R} {u : A → A0 → A1 → A2 → A3 → M β} (h : Ref (f env) t) (h0 : Ref (f0 env) t0) (h1 : Ref (f1 env) t1) (h2 : Ref (f2 env) t2) (h3 : Ref (f3 env) t3) (ho : ∀ r : A, isObjD cc (d r) = true) (hm : ∀ (r : A) (x0 : A0) (x1 : A1) (x2 : A2) (x3 : A3), Ref (m (d r :: [d x0, d x1, d x2, d x3])) (u r x0 x1 x2 x3)) : Ref (sMeth cc m f (aCons f0 (aCons f1 (aCons f2 (aCons f3 aNil)))) env) (t.bind fun r => t0.bind fun x0 => t1.bind fun x1 => t2.bind fun x2 => t3.bind fun x3 => u r x0 x1 x2 x3) := by
  refine ref_bnd h fun r => ?_
  rw [ho r]
  exact args4 h0 h1 h2 h3 (hm r)
theorem rf_mk4 {A0 : Type} [Emb A0] {A1 : Type} [Emb A1] {A2 : Type} [Emb A2] {A3 : Type} [Emb A3] {β : Type} [Emb β] {f0 f1 f2 f3 : SE} {env : En} {t0 : M A0} {t1 : M A1} {t2 : M A2} {t3 : M A3} {cc : Nat} {m : List D → RI} {u : A0 → A1 → A2 → A3 → M β} (h0 : Ref (f0 env) t0) (h1 : Ref (f1 env) t1) (h2 : Ref (f2 env) t2) (h3 : Ref (f3 env) t3) (hn : ∀ (x0 : A0) (x1 : A1) (x2 : A2) (x3 : A3), ([d x0, d x1, d x2, d x3] : List D).all noScr = true) (hm : ∀ (x0 : A0) (x1 : A1) (x2 : A2) (x3 : A3), RefI cc (m [d x0, d x1, d x2, d x3]) (u x0 x1 x2 x3)) : Ref (sMk cc m (aCons f0 (aCons f1 (aCons f2 (aCons f3 aNil)))) env) (t0.bind fun x0 => t1.bind fun x1 => t2.bind fun x2 => t3.bind fun x3 => mkM (u x0 x1 x2 x3)) := args4 h0 h1 h2 h3 fun x0 x1 x2 x3 => by
  rw [hn x0 x1 x2 x3, if_pos rfl]
  exact refMk (hm x0 x1 x2 x3)
theorem args5 {A0 : Type} [Emb A0] {A1 : Type} [Emb A1] {A2 : Type} [Emb A2] {A3 : Type} [Emb A3] {A4 : Type} [Emb A4] {β : Type} [Emb β] {f0 f1 f2 f3 f4 : SE} {env : En} {t0 : M A0} {t1 : M A1} {t2 : M A2} {t3 : M A3} {t4 : M A4} {k : List D → R} {u : A0 → A1 → A2 → A3 → A4 → M β} (h0 : Ref (f0 env) t0) (h1 : Ref (f1 env) t1) (h2 : Ref (f2 env) t2) (h3 : Ref (f3 env) t3) (h4 : Ref (f4 env) t4) (hm : ∀ (x0 : A0) (x1 : A1) (x2 : A2) (x3 : A3) (x4 : A4), Ref (k [d x0, d x1, d x2, d x3, d x4]) (u x0 x1 x2 x3 x4)) : Ref (bndA ((aCons f0 (aCons f1 (aCons f2 (aCons f3 (aCons f4 aNil))))) env) k) (t0.bind fun x0 => t1.bind fun x1 => t2.bind fun x2 => t3.bind fun x3 => t4.bind fun x4 => u x0 x1 x2 x3 x4) := by
  cases t0 with
  | er c fs => exact (show bndA ((aCons f0 (aCons f1 (aCons f2 (aCons f3 (aCons f4 aNil))))) env) k = .er c fs by simp only [aCons, aNil, show f0 env = .er c fs from h0, bndA])
  | st => trivial
  | ok x0 =>
  cases t1 with
  | er c fs => exact (show bndA ((aCons f0 (aCons f1 (aCons f2 (aCons f3 (aCons f4 aNil))))) env) k = .er c fs by simp only [aCons, aNil, show f0 env = .ok (d x0) from h0, show f1 env = .er c fs from h1, bndA])
  | st => trivial
  | ok x1 =>
  cases t2 with
  | er c fs => exact (show bndA ((aCons f0 (aCons f1 (aCons f2 (aCons f3 (aCons f4 aNil))))) env) k = .er c fs by simp only [aCons, aNil, show f0 env = .ok (d x0) from h0, show f1 env = .ok (d x1) from h1, show f2 env = .er c fs from h2, bndA])
  | st => trivial
  | ok x2 =>
  cases t3 with
  | er c fs => exact (show bndA ((aCons f0 (aCons f1 (aCons f2 (aCons f3 (aCons f4 aNil))))) env) k = .er c fs by simp only [aCons, aNil, show f0 env = .ok (d x0) from h0, show f1 env = .ok (d x1) from h1, show f2 env = .ok (d x2) from h2, show f3 env = .er c fs from h3, bndA])
  | st => trivial
  | ok x3 =>
  cases t4 with
  | er c fs => exact (show bndA ((aCons f0 (aCons f1 (aCons f2 (aCons f3 (aCons f4 aNil))))) env) k = .er c fs by simp only [aCons, aNil, show f0 env = .ok (d x0) from h0, show f1 env = .ok (d x1) from h1, show f2 env = .ok (d x2) from h2, show f3 env = .ok (d x3) from h3, show f4 env = .er c fs from h4, bndA])
  | st => trivial
  | ok x4 =>
  have e : (aCons f0 (aCons f1 (aCons f2 (aCons f3 (aCons f4 aNil))))) env = .ok [d x0, d x1, d x2, d x3, d x4] := by simp only [aCons, aNil, show f0 env = .ok (d x0) from h0, show f1 env = .ok (d x1) from h1, show f2 env = .ok (d x2) from h2, show f3 env = .ok (d x3) from h3, show f4 env = .ok (d x4) from h4]
  rw [e]
  exact hm x0 x1 x2 x3 x4
theorem rf_fn5 {A0 : Type} [Emb A0] {A1 : Type} [Emb A1] {A2 : Type} [Emb A2] {A3 : Type} [Emb A3] {A4 : Type} [Emb A4] {β : Type} [Emb β] {f0 f1 f2 f3 f4 : SE} {env : En} {t0 : M A0} {t1 : M A1} {t2 : M A2} {t3 : M A3} {t4 : M A4} {m : List D → R} {u : A0 → A1 → A2 → A3 → A4 → M β} (h0 : Ref (f0 env) t0) (h1 : Ref (f1 env) t1) (h2 : Ref (f2 env) t2) (h3 : Ref (f3 env) t3) (h4 : Ref (f4 env) t4) (hm : ∀ (x0 : A0) (x1 : A1) (x2 : A2) (x3 : A3) (x4 : A4), Ref (m [d x0, d x1, d x2, d x3, d x4]) (u x0 x1 x2 x3 x4)) : Ref (sFn m (aCons f0 (aCons f1 (aCons f2 (aCons f3 (aCons f4 aNil))))) env) (t0.bind fun x0 => t1.bind fun x1 => t2.bind fun x2 => t3.bind fun x3 => t4.bind fun x4 => u x0 x1 x2 x3 x4) := args5 h0 h1 h2 h3 h4 hm
theorem rf_meth5 {A0 : Type} [Emb A0] {A1 : Type} [Emb A1] {A2 : Type} [Emb A2] {A3 : Type} [Emb A3] {A4 : Type} [Emb A4] {β : Type} [Emb β] {f0 f1 f2 f3 f4 : SE} {env : En} {t0 : M A0} {t1 : M A1} {t2 : M A2} {t3 : M A3} {t4 : M A4} {A : Type} [Emb A] {f : SE} {t : M A} {cc : Nat} {m : List D → R} {u : A → A0 → A1 → A2 → A3 → A4 → M β} (h : Ref (f env) t) (h0 : Ref (f0 env) t0) (h1 : Ref (f1 env) t1) (h2 : Ref (f2 env) t2) (h3 : Ref (f3 env) t3) (h4 : Ref (f4 env) t4) (ho : ∀ r : A, isObjD cc (d r) = true) (hm : ∀ (r : A) (x0 : A0) (x1 : A1) (x2 : A2) (x3 : A3) (x4 : A4), Ref (m (d r :: [d x0, d x1, d x2, d x3, d x4])) (u r x0 x1 x2 x3 x4)) : Ref (sMeth cc m f (aCons f0 (aCons f1 (aCons f2 (aCons f3 (aCons f4 aNil))))) env) (t.bind fun r => t0.bind fun x0 => t1.bind fun x1 => t2.bind fun x2 => t3.bind fun x3 => t4.bind fun x4 => u r x0 x1 x2 x3 x4) := by
  refine ref_bnd h fun r => ?_
  rw [ho r]
  exact args5 h0 h1 h2 h3 h4 (hm r)
theorem rf_mk5 {A0 : Type} [Emb A0] {A1 : Type} [Emb A1] {A2 : Type} [Emb A2] {A3 : Type} [Emb A3] {A4 : Type} [Emb A4] {β : Type} [Emb β] {f0 f1 f2 f3 f4 : SE} {env : En} {t0 : M A0} {t1 : M A1} {t2 : M A2} {t3 : M A3} {t4 : M A4} {cc : Nat} {m : List D → RI} {u : A0 → A1 → A2 → A3 → A4 → M β} (h0 : Ref (f0 env) t0) (h1 : Ref (f1 env) t1) (h2 : Ref (f2 env) t2) (h3 : Ref (f3 env) t3) (h4 : Ref (f4 env) t4) (hn : ∀ (x0 : A0) (x1 : A1) (x2 : A2) (x3 : A3) (x4 : A4), ([d x0, d x1, d x2, d x3, d x4] : List D).all noScr = true) (hm : ∀ (x0 : A0) (x1 : A1) (x2 : A2) (x3 : A3) (x4 : A4), RefI cc (m [d x0, d x1, d x2, d x3, d x4]) (u x0 x1 x2 x3 x4)) : Ref (sMk cc m (aCons f0 (aCons f1 (aCons f2 (aCons f3 (aCons f4 aNil))))) env) (t0.bind fun x0 => t1.bind fun x1 => t2.bind fun x2 => t3.bind fun x3 => t4.bind fun x4 => mkM (u x0 x1 x2 x3 x4)) := args5 h0 h1 h2 h3 h4 fun x0 x1 x2 x3 x4 => by
  rw [hn x0 x1 x2 x3 x4, if_pos rfl]
  exact refMk (hm x0 x1 x2 x3 x4)
theorem args6 {A0 : Type} [Emb A0] {A1 : Type} [Emb A1] {A2 : Type} [Emb A2] {A3 : Type} [Emb A3] {A4 : Type} [Emb A4] {A5 : Type} [Emb A5] {β : Type} [Emb β] {f0 f1 f2 f3 f4 f5 : SE} {env : En} {t0 : M A0} {t1 : M A1} {t2 : M A2} {t3 : M A3} {t4 : M A4} {t5 : M A5} {k : List D → R} {u : A0 → A1 → A2 → A3 → A4 → A5 → M β} (h0 : Ref (f0 env) t0) (h1 : Ref (f1 env) t1) (h2 : Ref (f2 env) t2) (h3 : Ref (f3 env) t3) (h4 : Ref (f4 env) t4) (h5 : Ref (f5 env) t5) (hm : ∀ (x0 : A0) (x1 : A1) (x2 : A2) (x3 : A3) (x4 : A4) (x5 : A5), Ref (k [d x0, d x1, d x2, d x3, d x4, d x5]) (u x0 x1 x2 x3 x4 x5)) : Ref (bndA ((aCons f0 (aCons f1 (aCons f2 (aCons f3 (aCons f4 (aCons f5 aNil)))))) env) k) (t0.bind fun x0 => t1.bind fun x1 => t2.bind fun x2 => t3.bind fun x3 => t4.bind fun x4 => t5.bind fun x5 => u x0 x1 x2 x3 x4 x5) := by
  cases t0 with
  | er c fs => exact (show bndA ((aCons f0 (aCons f1 (aCons f2 (aCons f3 (aCons f4 (aCons f5 aNil)))))) env) k = .er c fs by simp only [aCons, aNil, show f0 env = .er c fs from h0, bndA])
  | st => trivial
  | ok x0 =>
  cases t1 with
  | er c fs => exact (show bndA ((aCons f0 (aCons f1 (aCons f2 (aCons f3 (aCons f4 (aCons f5 aNil)))))) env) k = .er c fs by simp only [aCons, aNil, show f0 env = .ok (d x0) from h0, show f1 env = .er c fs from h1, bndA])
  | st => trivial
  | ok x1 =>
  cases t2 with
  | er c fs => exact (show bndA ((aCons f0 (aCons f1 (aCons f2 (aCons f3 (aCons f4 (aCons f5 aNil)))))) env) k = .er c fs by simp only [aCons, aNil, show f0 env = .ok (d x0) from h0, show f1 env = .ok (d x1) from h1, show f2 env = .er c fs from h2, bndA])
  | st => trivial
  | ok x2 =>
  cases t3 with
  | er c fs => exact (show bndA ((aCons f0 (aCons f1 (aCons f2 (aCons f3 (aCons f4 (aCons f5 aNil)))))) env) k = .er c fs by simp only [aCons, aNil, show f0 env = .ok (d x0) from h0, show f1 env = .ok (d x1) from h1, show f2 env = .ok (d x2) from h2, show f3 env = .er c fs from h3, bndA])
  | st => trivial
  | ok x3 =>
  cases t4 with
  | er c fs => exact (show bndA ((aCons f0 (aCons f1 (aCons f2 (aCons f3 (aCons f4 (aCons f5 aNil)))))) env) k = .er c fs by simp only [aCons, aNil, show f0 env = .ok (d x0) from h0, show f1 env = .ok (d x1) from h1, show f2 env = .ok (d x2) from h2, show f3 env = .ok (d x3) from h3, show f4 env = .er c fs from h4, bndA])
  | st => trivial
  | ok x4 =>
  cases t5 with
  | er c fs => exact (show bndA ((aCons f0 (aCons f1 (aCons f2 (aCons f3 (aCons f4 (aCons f5 aNil)))))) env) k = .er c fs by simp only [aCons, aNil, show f0 env = .ok (d x0) from h0, show f1 env = .ok (d x1) from h1, show f2 env = .ok (d x2) from h2, show f3 env = .ok (d x3) from h3, show f4 env = .ok (d x4) from h4, show f5 env = .er c fs from h5, bndA])
  | st => trivial
  | ok x5 =>
  have e : (aCons f0 (aCons f1 (aCons f2 (aCons f3 (aCons f4 (aCons f5 aNil)))))) env = .ok [d x0, d x1, d x2, d x3, d x4, d x5] := by simp only [aCons, aNil, show f0 env = .ok (d x0) from h0, show f1 env = .ok (d x1) from h1, show f2 env = .ok (d x2) from h2, show f3 env = .ok (d x3) from h3, show f4 env = .ok (d x4) from h4, show f5 env = .ok (d x5) from h5]
  rw [e]
  exact hm x0 x1 x2 x3 x4 x5
theorem rf_fn6 {A0 : Type} [Emb A0] {A1 : Type} [Emb A1] {A2 : Type} [Emb A2] {A3 : Type} [Emb A3] {A4 : Type} [Emb A4] {A5 : Type} [Emb A5] {β : Type} [Emb β] {f0 f1 f2 f3 f4 f5 : SE} {env : En} {t0 : M A0} {t1 : M A1} {t2 : M A2} {t3 : M A3} {t4 : M A4} {t5 : M A5} {m : List D → R} {u : A0 → A1 → A2 → A3 → A4 → A5 → M β} (h0 : Ref (f0 env) t0) (h1 : Ref (f1 env) t1) (h2 : Ref (f2 env) t2) (h3 : Ref (f3 env) t3) (h4 : Ref (f4 env) t4) (h5 : Ref (f5 env) t5) (hm : ∀ (x0 : A0) (x1 : A1) (x2 : A2) (x3 : A3) (x4 : A4) (x5 : A5), Ref (m [d x0, d x1, d x2, d x3, d x4, d x5]) (u x0 x1 x2 x3 x4 x5)) : Ref (sFn m (aCons f0 (aCons f1 (aCons f2 (aCons f3 (aCons f4 (aCons f5 aNil)))))) env) (t0.bind fun x0 => t1.bind fun x1 => t2.bind fun x2 => t3.bind fun x3 => t4.bind fun x4 => t5.bind fun x5 => u x0 x1 x2 x3 x4 x5) := args6 h0 h1 h2 h3 h4 h5 hm
theorem rf_meth6 {A0 : Type} [Emb A0] {A1 : Type} [Emb A1] {A2 : Type} [Emb A2] {A3 : Type} [Emb A3] {A4 : Type} [Emb A4] {A5 : Type} [Emb A5] {β : Type} [Emb β] {f0 f1 f2 f3 f4 f5 : SE} {env : En} {t0 : M A0} {t1 : M A1} {t2 : M A2} {t3 : M A3} {t4 : M A4} {t5 : M A5} {A : Type} [Emb A] {f : SE} {t : M A} {cc : Nat} {m : List D → R} {u : A → A0 → A1 → A2 → A3 → A4 → A5 → M β} (h : Ref (f env) t) (h0 : Ref (f0 env) t0) (h1 : Ref (f1 env) t1) (h2 : Ref (f2 env) t2) (h3 : Ref (f3 env) t3) (h4 : Ref (f4 env) t4) (h5 : Ref (f5 env) t5) (ho : ∀ r : A, isObjD cc (d r) = true) (hm : ∀ (r : A) (x0 : A0) (x1 : A1) (x2 : A2) (x3 : A3) (x4 : A4) (x5 : A5), Ref (m (d r :: [d x0, d x1, d x2, d x3, d x4, d x5])) (u r x0 x1 x2 x3 x4 x5)) : Ref (sMeth cc m f (aCons f0 (aCons f1 (aCons f2 (aCons f3 (aCons f4 (aCons f5 aNil)))))) env) (t.bind fun r => t0.bind fun x0 => t1.bind fun x1 => t2.bind fun x2 => t3.bind fun x3 => t4.bind fun x4 => t5.bind fun x5 => u r x0 x1 x2 x3 x4 x5) := by
  refine ref_bnd h fun r => ?_
  rw [ho r]
  exact args6 h0 h1 h2 h3 h4 h5 (hm r)
theorem rf_mk6 {A0 : Type} [Emb A0] {A1 : Type} [Emb A1] {A2 : Type} [Emb A2] {A3 : Type} [Emb A3] {A4 : Type} [Emb A4] {A5 : Type} [Emb A5] {β : Type} [Emb β] {f0 f1 f2 f3 f4 f5 : SE} {env : En} {t0 : M A0} {t1 : M A1} {t2 : M A2} {t3 : M A3} {t4 : M A4} {t5 : M A5} {cc : Nat} {m : List D → RI} {u : A0 → A1 → A2 → A3 → A4 → A5 → M β} (h0 : Ref (f0 env) t0) (h1 : Ref (f1 env) t1) (h2 : Ref (f2 env) t2) (h3 : Ref (f3 env) t3) (h4 : Ref (f4 env) t4) (h5 : Ref (f5 env) t5) (hn : ∀ (x0 : A0) (x1 : A1) (x2 : A2) (x3 : A3) (x4 : A4) (x5 : A5), ([d x0, d x1, d x2, d x3, d x4, d x5] : List D).all noScr = true) (hm : ∀ (x0 : A0) (x1 : A1) (x2 : A2) (x3 : A3) (x4 : A4) (x5 : A5), RefI cc (m [d x0, d x1, d x2, d x3, d x4, d x5]) (u x0 x1 x2 x3 x4 x5)) : Ref (sMk cc m (aCons f0 (aCons f1 (aCons f2 (aCons f3 (aCons f4 (aCons f5 aNil)))))) env) (t0.bind fun x0 => t1.bind fun x1 => t2.bind fun x2 => t3.bind fun x3 => t4.bind fun x4 => t5.bind fun x5 => mkM (u x0 x1 x2 x3 x4 x5)) := args6 h0 h1 h2 h3 h4 h5 fun x0 x1 x2 x3 x4 x5 => by
  rw [hn x0 x1 x2 x3 x4 x5, if_pos rfl]
  exact refMk (hm x0 x1 x2 x3 x4 x5)
theorem args7 {A0 : Type} [Emb A0] {A1 : Type} [Emb A1] {A2 : Type} [Emb A2] {A3 : Type} [Emb A3] {A4 : Type} [Emb A4] {A5 : Type} [Emb A5] {A6 : Type} [Emb A6] {β : Type} [Emb β] {f0 f1 f2 f3 f4 f5 f6 : SE} {env : En} {t0 : M A0} {t1 : M A1} {t2 : M A2} {t3 : M A3} {t4 : M A4} {t5 : M A5} {t6 : M A6} {k : List D → R} {u : A0 → A1 → A2 → A3 → A4 → A5 → A6 → M β} (h0 : Ref (f0 env) t0) (h1 : Ref (f1 env) t1) (h2 : Ref (f2 env) t2) (h3 : Ref (f3 env) t3) (h4 : Ref (f4 env) t4) (h5 : Ref (f5 env) t5) (h6 : Ref (f6 env) t6) (hm : ∀ (x0 : A0) (x1 : A1) (x2 : A2) (x3 : A3) (x4 : A4) (x5 : A5) (x6 : A6), Ref (k [d x0, d x1, d x2, d x3, d x4, d x5, d x6]) (u x0 x1 x2 x3 x4 x5 x6)) : Ref (bndA ((aCons f0 (aCons f1 (aCons f2 (aCons f3 (aCons f4 (aCons f5 (aCons f6 aNil))))))) env) k) (t0.bind fun x0 => t1.bind fun x1 => t2.bind fun x2 => t3.bind fun x3 => t4.bind fun x4 => t5.bind fun x5 => t6.bind fun x6 => u x0 x1 x2 x3 x4 x5 x6) := by
  cases t0 with
  | er c fs => exact (show bndA ((aCons f0 (aCons f1 (aCons f2 (aCons f3 (aCons f4 (aCons f5 (aCons f6 aNil))))))) env) k = .er c fs by simp only [aCons, aNil, show f0 env = .er c fs from h0, bndA])
  | st => trivial
  | ok x0 =>
  cases t1 with
  | er c fs => exact (show bndA ((aCons f0 (aCons f1 (aCons f2 (aCons f3 (aCons f4 (aCons f5 (aCons f6 aNil))))))) env) k = .er c fs by simp only [aCons, aNil, show f0 env = .ok (d x0) from h0, show f1 env = .er c fs from h1, bndA])
  | st => trivial
  | ok x1 =>
  cases t2 with
  | er c fs => exact (show bndA ((aCons f0 (aCons f1 (aCons f2 (aCons f3 (aCons f4 (aCons f5 (aCons f6 aNil))))))) env) k = .er c fs by simp only [aCons, aNil, show f0 env = .ok (d x0) from h0, show f1 env = .ok (d x1) from h1, show f2 env = .er c fs from h2, bndA])
  | st => trivial
  | ok x2 =>
  cases t3 with
  | er c fs => exact (show bndA ((aCons f0 (aCons f1 (aCons f2 (aCons f3 (aCons f4 (aCons f5 (aCons f6 aNil))))))) env) k = .er c fs by simp only [aCons, aNil, show f0 env = .ok (d x0) from h0, show f1 env = .ok (d x1) from h1, show f2 env = .ok (d x2) from h2, show f3 env = .er c fs from h3, bndA])
  | st => trivial
  | ok x3 =>
  cases t4 with
  | er c fs => exact (show bndA ((aCons f0 (aCons f1 (aCons f2 (aCons f3 (aCons f4 (aCons f5 (aCons f6 aNil))))))) env) k = .er c fs by simp only [aCons, aNil, show f0 env = .ok (d x0) from h0, show f1 env = .ok (d x1) from h1, show f2 env = .ok (d x2) from h2, show f3 env = .ok (d x3) from h3, show f4 env = .er c fs from h4, bndA])
  | st => trivial
  | ok x4 =>
  cases t5 with
  | er c fs => exact (show bndA ((aCons f0 (aCons f1 (aCons f2 (aCons f3 (aCons f4 (aCons f5 (aCons f6 aNil))))))) env) k = .er c fs by simp only [aCons, aNil, show f0 env = .ok (d x0) from h0, show f1 env = .ok (d x1) from h1, show f2 env = .ok (d x2) from h2, show f3 env = .ok (d x3) from h3, show f4 env = .ok (d x4) from h4, show f5 env = .er c fs from h5, bndA])
  | st => trivial
  | ok x5 =>
  cases t6 with
  | er c fs => exact (show bndA ((aCons f0 (aCons f1 (aCons f2 (aCons f3 (aCons f4 (aCons f5 (aCons f6 aNil))))))) env) k = .er c fs by simp only [aCons, aNil, show f0 env = .ok (d x0) from h0, show f1 env = .ok (d x1) from h1, show f2 env = .ok (d x2) from h2, show f3 env = .ok (d x3) from h3, show f4 env = .ok (d x4) from h4, show f5 env = .ok (d x5) from h5, show f6 env = .er c fs from h6, bndA])
  | st => trivial
  | ok x6 =>
  have e : (aCons f0 (aCons f1 (aCons f2 (aCons f3 (aCons f4 (aCons f5 (aCons f6 aNil))))))) env = .ok [d x0, d x1, d x2, d x3, d x4, d x5, d x6] := by simp only [aCons, aNil, show f0 env = .ok (d x0) from h0, show f1 env = .ok (d x1) from h1, show f2 env = .ok (d x2) from h2, show f3 env = .ok (d x3) from h3, show f4 env = .ok (d x4) from h4, show f5 env = .ok (d x5) from h5, show f6 env = .ok (d x6) from h6]
  rw [e]
  exact hm x0 x1 x2 x3 x4 x5 x6
theorem rf_fn7 {A0 : Type} [Emb A0] {A1 : Type} [Emb A1] {A2 : Type} [Emb A2] {A3 : Type} [Emb A3] {A4 : Type} [Emb A4] {A5 : Type} [Emb A5] {A6 : Type} [Emb A6] {β : Type} [Emb β] {f0 f1 f2 f3 f4 f5 f6 : SE} {env : En} {t0 : M A0} {t1 : M A1} {t2 : M A2} {t3 : M A3} {t4 : M A4} {t5 : M A5} {t6 : M A6} {m : List D → R} {u : A0 → A1 → A2 → A3 → A4 → A5 → A6 → M β} (h0 : Ref (f0 env) t0) (h1 : Ref (f1 env) t1) (h2 : Ref (f2 env) t2) (h3 : Ref (f3 env) t3) (h4 : Ref (f4 env) t4) (h5 : Ref (f5 env) t5) (h6 : Ref (f6 env) t6) (hm : ∀ (x0 : A0) (x1 : A1) (x2 : A2) (x3 : A3) (x4 : A4) (x5 : A5) (x6 : A6), Ref (m [d x0, d x1, d x2, d x3, d x4, d x5, d x6]) (u x0 x1 x2 x3 x4 x5 x6)) : Ref (sFn m (aCons f0 (aCons f1 (aCons f2 (aCons f3 (aCons f4 (aCons f5 (aCons f6 aNil))))))) env) (t0.bind fun x0 => t1.bind fun x1 => t2.bind fun x2 => t3.bind fun x3 => t4.bind fun x4 => t5.bind fun x5 => t6.bind fun x6 => u x0 x1 x2 x3 x4 x5 x6) := args7 h0 h1 h2 h3 h4 h5 h6 hm
theorem rf_meth7 {A0 : Type} [Emb A0] {A1 : Type} [Emb A1] {A2 : Type} [Emb A2] {A3 : Type} [Emb A3] {A4 : Type} [Emb A4] {A5 : Type} [Emb A5] {A6 : Type} [Emb A6] {β : Type} [Emb β] {f0 f1 f2 f3 f4 f5 f6 : SE} {env : En} {t0 : M A0} {t1 : M A1} {t2 : M A2} {t3 : M A3} {t4 : M A4} {t5 : M A5} {t6 : M A6} {A : Type} [Emb A] {f : SE} {t : M A} {cc : Nat} {m : List D → R} {u : A → A0 → A1 → A2 → A3 → A4 → A5 → A6 → M β} (h : Ref (f env) t) (h0 : Ref (f0 env) t0) (h1 : Ref (f1 env) t1) (h2 : Ref (f2 env) t2) (h3 : Ref (f3 env) t3) (h4 : Ref (f4 env) t4) (h5 : Ref (f5 env) t5) (h6 : Ref (f6 env) t6) (ho : ∀ r : A, isObjD cc (d r) = true) (hm : ∀ (r : A) (x0 : A0) (x1 : A1) (x2 : A2) (x3 : A3) (x4 : A4) (x5 : A5) (x6 : A6), Ref (m (d r :: [d x0, d x1, d x2, d x3, d x4, d x5, d x6])) (u r x0 x1 x2 x3 x4 x5 x6)) : Ref (sMeth cc m f (aCons f0 (aCons f1 (aCons f2 (aCons f3 (aCons f4 (aCons f5 (aCons f6 aNil))))))) env) (t.bind fun r => t0.bind fun x0 => t1.bind fun x1 => t2.bind fun x2 => t3.bind fun x3 => t4.bind fun x4 => t5.bind fun x5 => t6.bind fun x6 => u r x0 x1 x2 x3 x4 x5 x6) := by
  refine ref_bnd h fun r => ?_
  rw [ho r]
  exact args7 h0 h1 h2 h3 h4 h5 h6 (hm r)
theorem rf_mk7 {A0 : Type} [Emb A0] {A1 : Type} [Emb A1] {A2 : Type} [Emb A2] {A3 : Type} [Emb A3] {A4 : Type} [Emb A4] {A5 : Type} [Emb A5] {A6 : Type} [Emb A6] {β : Type} [Emb β] {f0 f1 f2 f3 f4 f5 f6 : SE} {env : En} {t0 : M A0} {t1 : M A1} {t2 : M A2} {t3 : M A3} {t4 : M A4} {t5 : M A5} {t6 : M A6} {cc : Nat} {m : List D → RI} {u : A0 → A1 → A2 → A3 → A4 → A5 → A6 → M β} (h0 : Ref (f0 env) t0) (h1 : Ref (f1 env) t1) (h2 : Ref (f2 env) t2) (h3 : Ref (f3 env) t3) (h4 : Ref (f4 env) t4) (h5 : Ref (f5 env) t5) (h6 : Ref (f6 env) t6) (hn : ∀ (x0 : A0) (x1 : A1) (x2 : A2) (x3 : A3) (x4 : A4) (x5 : A5) (x6 : A6), ([d x0, d x1, d x2, d x3, d x4, d x5, d x6] : List D).all noScr = true) (hm : ∀ (x0 : A0) (x1 : A1) (x2 : A2) (x3 : A3) (x4 : A4) (x5 : A5) (x6 : A6), RefI cc (m [d x0, d x1, d x2, d x3, d x4, d x5, d x6]) (u x0 x1 x2 x3 x4 x5 x6)) : Ref (sMk cc m (aCons f0 (aCons f1 (aCons f2 (aCons f3 (aCons f4 (aCons f5 (aCons f6 aNil))))))) env) (t0.bind fun x0 => t1.bind fun x1 => t2.bind fun x2 => t3.bind fun x3 => t4.bind fun x4 => t5.bind fun x5 => t6.bind fun x6 => mkM (u x0 x1 x2 x3 x4 x5 x6)) := args7 h0 h1 h2 h3 h4 h5 h6 fun x0 x1 x2 x3 x4 x5 x6 => by
  rw [hn x0 x1 x2 x3 x4 x5 x6, if_pos rfl]
  exact refMk (hm x0 x1 x2 x3 x4 x5 x6)
theorem rf_meth0 {β : Type} [Emb β] {env : En} {A : Type} [Emb A] {f : SE} {t : M A} {cc : Nat} {m : List D → R} {u : A → M β} (h : Ref (f env) t) (ho : ∀ r : A, isObjD cc (d r) = true) (hm : ∀ r : A, Ref (m [d r]) (u r)) : Ref (sMeth cc m f aNil env) (t.bind fun r => u r) := by
  refine ref_bnd h fun r => ?_
  rw [ho r]
  exact hm r
variable {f g h : SE} {env : En} {t : M α} {u : M β} {v : M γ}
theorem rf_loc (i : Nat) {a : α} (h : env[i]? = some (.sh (d a))) : Ref (sLoc i env) (.ok a) := by unfold sLoc; rw [h]; rfl
theorem rf_locB (i : Nat) {a : α} (h : env[i]? = some (.ow (d a))) : Ref (sLocB i env) (.ok a) := by unfold sLocB; rw [h]; rfl
theorem rf_locS (i : Nat) {a : α} (h : env[i]? = some (.bo (d a))) : Ref (sLocB i env) (.ok a) := by unfold sLocB; rw [h]; rfl
theorem rf_locH (i : Nat) {a : α} (h : env[i]? = some (.sh (d a))) : Ref (sLocB i env) (.ok a) := by unfold sLocB; rw [h]; rfl
theorem rf_locO (i : Nat) {a : α} {c : Nat} {fs : List (PySem.Str × D)} {gs : List (PySem.Str × Nat)} (h : env[i]? = some (.oo c fs gs)) (e : .obj c fs = d a) : Ref (sLocB i env) (.ok a) := by unfold sLocB; rw [h]; exact congrArg R.ok e
theorem rf_c {x : D} {a : α} (h : x = d a) : Ref (sC x env) (.ok a) := congrArg R.ok h
theorem rf_txt {s : PySem.Str} {x : Tx} (h : s = str x) : Ref (sC (.str s) env) (.ok x) := by rw [h]; rfl
theorem rf_coe (k : α → β) (hk : ∀ a, d (k a) = d a) {r : R} (h : Ref r t) : Ref r (t.bind fun a => .ok (k a)) := by
  cases t with
  | ok a => exact (show r = .ok (d a) from h).trans (congrArg R.ok (hk a).symm)
  | er c fs => exact h
  | st => trivial
/-- an operation on data does what the typed one does -/
def P2 (op : D → D → Option D) (p : α → β → M γ) : Prop := ∀ a b, Ref (ofO (op (d a) (d b))) (p a b)
theorem rf_s2 {op : D → D → Option D} {p : α → β → M γ} (hp : P2 op p) (h1 : Ref (f env) t) (h2 : Ref (g env) u) : Ref (s2 op f g env) (t.bind fun a => u.bind fun b => p a b) :=
  ref_bnd h1 fun a => ref_bnd h2 fun b => hp a b
theorem rf_not {t : M Bool} (h : Ref (f env) t) : Ref (sNot f env) (t.bind fun b => .ok (!b)) := ref_bnd h fun _ => rfl
theorem rf_neg {t : M Int} (h : Ref (f env) t) : Ref (sNeg f env) (t.bind fun b => .ok (-b)) := ref_bnd h fun _ => rfl
theorem rf_and {t u : M Bool} (h1 : Ref (f env) t) (h2 : Ref (g env) u) : Ref (sAnd f g env) (t.bind fun b => if b then u else .ok false) := ref_bnd h1 fun b => by cases b <;> first | exact h2 | rfl
theorem rf_or {t u : M Bool} (h1 : Ref (f env) t) (h2 : Ref (g env) u) : Ref (sOr f g env) (t.bind fun b => if b then .ok true else u) := ref_bnd h1 fun b => by cases b <;> first | exact h2 | rfl
theorem rf_if {t : M Bool} {u v : M α} (h1 : Ref (f env) t) (h2 : Ref (g env) u) (h3 : Ref (h env) v) : Ref (sIf f g h env) (t.bind fun b => if b then u else v) := ref_bnd h1 fun b => by cases b <;> first | exact h2 | exact h3
theorem rf_fld {c : Nat} {n : PySem.Str} {p : α → M β} (hf : ∀ a, Ref (fldR c n (.ok (d a))) (p a)) (h1 : Ref (f env) t) : Ref (sFld c n f env) (t.bind p) := ref_bnd h1 hf
def P1 (op : List D → Option D) (p : α → M β) : Prop := ∀ a, Ref (ofO (op [d a])) (p a)
theorem rf_call1 {op : List D → Option D} {p : α → M β} (hp : P1 op p) (h1 : Ref (f env) t) : Ref (sCall op (aCons f aNil) env) (t.bind p) := args1 h1 hp
def P12 (op : List D → Option D) (p : α → β → M γ) : Prop := ∀ a b, Ref (ofO (op [d a, d b])) (p a b)
theorem rf_call2 {op : List D → Option D} {p : α → β → M γ} (hp : P12 op p) (h1 : Ref (f env) t) (h2 : Ref (g env) u) : Ref (sCall op (aCons f (aCons g aNil)) env) (t.bind fun a => u.bind fun b => p a b) := args2 h1 h2 hp
theorem rf_m1 {op : D → D → Option D} {t : M Tx} {p : Tx → β → M γ} (hp : P2 op p) (h1 : Ref (f env) t) (h2 : Ref (g env) u) : Ref (sM1 op f g env) (t.bind fun a => u.bind fun b => p a b) :=
  ref_bnd h1 fun a => ref_bnd h2 fun b => hp a b
theorem rf_isi {tb : Kd → Option Bool} {b : Bool} (hb : ∀ a : α, tb (kd (d a)) = some b) (h1 : Ref (f env) t) : Ref (sIsi tb f env) (t.bind fun _ => .ok b) := ref_bnd h1 fun a => by rw [hb a]; rfl
/-- isinstance of a thing whose kind isn't known -/
def isiT (tb : Kd → Option Bool) (a : α) : M Bool := match tb (kd (d a)) with
  | some b => .ok b
  | none => .st
theorem rf_isiD {tb : Kd → Option Bool} (h1 : Ref (f env) t) : Ref (sIsi tb f env) (t.bind fun a => isiT tb a) := ref_bnd h1 fun a => by
  unfold isiT; cases tb (kd (d a)) with
  | some b => rfl
  | none => trivial
/-- the ends of a slice -/
def RefP (r : R) (t : M (Option Int)) : Prop := match t with
  | .ok o => ∃ x, r = .ok x ∧ oI x = some o
  | .er c fs => r = .er c fs
  | .st => True
theorem rp_none : RefP (sC .non env) (.ok none) := ⟨_, rfl, rfl⟩
theorem rp_some {t : M Int} (h1 : Ref (f env) t) : RefP (sPart f env) (t.bind fun i => .ok (some i)) := by
  cases t with
  | ok a => exact ⟨.int a, by unfold sPart; rw [show f env = .ok (d a) from h1]; rfl, rfl⟩
  | er c fs => show sPart f env = _; unfold sPart; rw [show f env = .er c fs from h1]; rfl
  | st => trivial
theorem rf_sl {op : D → Option Int → Option Int → Option D} {lo hi : SE} {tl th : M (Option Int)} {p : α → Option Int → Option Int → M β} (hp : ∀ a l u, Ref (ofO (op (d a) l u)) (p a l u)) (h1 : Ref (f env) t) (h2 : RefP (lo env) tl) (h3 : RefP (hi env) th) :
    Ref (sSl op f lo hi env) (t.bind fun a => tl.bind fun l => th.bind fun u => p a l u) := by
  refine ref_bnd h1 fun a => ?_
  cases tl with
  | er c fs => rw [show lo env = .er c fs from h2]; rfl
  | st => trivial
  | ok l =>
    obtain ⟨x, e1, e2⟩ := h2
    rw [e1]
    show Ref (match oI x with | some l => _ | none => R.st) _
    rw [e2]
    cases th with
    | er c fs => rw [show hi env = .er c fs from h3]; rfl
    | st => trivial
    | ok u =>
      obtain ⟨y, e3, e4⟩ := h3
      rw [e3]
      show Ref (match oI y with | some u => _ | none => R.st) _
      rw [e4]
      exact hp a l u
theorem rf_chain {o1 o2 : D → D → Option D} {p : α → β → M Bool} {q : β → γ → M Bool} (hp : P2 o1 p) (hq : P2 o2 q) (hpe : ∀ a b, ∃ x, p a b = .ok x ∨ p a b = .st) (h1 : Ref (f env) t) (h2 : Ref (g env) u) (h3 : Ref (h env) v) :
    Ref (sChain o1 o2 f g h env) (t.bind fun a => u.bind fun b => (p a b).bind fun c => if c then v.bind fun z => q b z else .ok false) := by
  refine ref_bnd h1 fun a => ref_bnd h2 fun b => ?_
  have hh := hp a b
  obtain ⟨x, hx | hx⟩ := hpe a b
  · rw [hx] at hh ⊢
    cases e : o1 (d a) (d b) with
    | none => rw [e] at hh; cases hh
    | some z =>
      rw [e] at hh
      cases (R.ok.inj hh : z = .bl x)
      cases x with
      | true =>
        show Ref _ (v.bind fun z => q b z)
        exact ref_bnd h3 fun z => hq b z
      | false => rfl
  · rw [hx]; trivial
/-- a display of a list -/
def RefL (n : Nat) (r : RA) (t : M (List α)) : Prop := match t with
  | .ok l => r = .ok (l.map d) ∧ l.length = n
  | .er c fs => r = .er c fs
  | .st => True
theorem rl_nil : RefL 0 (aNil env) (.ok ([] : List α)) := ⟨rfl, rfl⟩
theorem rl_cons {n : Nat} {fs : SA} {t : M α} {u : M (List α)} (h1 : Ref (f env) t) (h2 : RefL n (fs env) u) : RefL (n + 1) (aCons f fs env) (t.bind fun a => u.bind fun l => .ok (a :: l)) := by
  cases t with
  | er c fs => show aCons f _ env = _; unfold aCons; rw [show f env = .er c fs from h1]
  | st => trivial
  | ok a =>
    cases u with
    | er c fs => show aCons f _ env = _; unfold aCons; rw [show f env = .ok (d a) from h1, show _ = RA.er c fs from h2]
    | st => trivial
    | ok l => exact ⟨by unfold aCons; rw [show f env = .ok (d a) from h1, h2.1]; rfl, by simp [h2.2]⟩
theorem rf_lst {n : Nat} {fs : SA} {t : M (List α)} (hn : n ≤ 1000) (h : RefL n (fs env) t) : Ref (sLst fs env) t := by
  cases t with
  | er c fs => show sLst _ env = _; unfold sLst; rw [show _ = RA.er c fs from h]; rfl
  | st => trivial
  | ok l =>
    show sLst fs env = _
    unfold sLst
    rw [h.1]
    show (if (l.map d).length ≤ PySem.sizeLine then R.ok (.lst (l.map d)) else .st) = _
    rw [if_pos (small_le (by rw [List.length_map, h.2]; omega))]
    rfl
theorem rf_tup2 (h1 : Ref (f env) t) (h2 : Ref (g env) u) : Ref (sTup (aCons f (aCons g aNil)) env) (t.bind fun a => u.bind fun b => .ok (a, b)) := args2 h1 h2 fun a b => by
  rw [if_pos (small_le (by simp))]; rfl
theorem rf_tup3 (h1 : Ref (f env) t) (h2 : Ref (g env) u) (h3 : Ref (h env) v) : Ref (sTup (aCons f (aCons g (aCons h aNil))) env) (t.bind fun a => u.bind fun b => v.bind fun c => .ok (⟨a, b, c⟩ : P3 α β γ)) := args3 h1 h2 h3 fun a b c => by
  rw [if_pos (small_le (by simp))]; rfl
theorem rf_tup4 {h' : SE} {v' : M δ} (h1 : Ref (f env) t) (h2 : Ref (g env) u) (h3 : Ref (h env) v) (h4 : Ref (h' env) v') : Ref (sTup (aCons f (aCons g (aCons h (aCons h' aNil)))) env) (t.bind fun a => u.bind fun b => v.bind fun c => v'.bind fun e => .ok (⟨a, b, c, e⟩ : P4 α β γ δ)) := args4 h1 h2 h3 h4 fun a b c e => by
  rw [if_pos (small_le (by simp))]; rfl
/-- comprehensions -/
def mapT (k : α → M β) : List α → M (List β)
  | [] => .ok []
  | a :: l => match k a with
    | .ok b => (mapT k l).bind fun r => .ok (b :: r)
    | _ => .st
def fmapT (p : α → M Bool) (k : α → M β) : List α → M (List β)
  | [] => .ok []
  | a :: l => match p a with
    | .ok true => (match k a with
      | .ok b => (fmapT p k l).bind fun r => .ok (b :: r)
      | _ => .st)
    | .ok false => fmapT p k l
    | _ => .st
theorem mapT_nr (k : α → M β) (l : List α) : (∃ r, mapT k l = .ok r) ∨ mapT k l = .st := by
  induction l with
  | nil => exact .inl ⟨[], rfl⟩
  | cons a l ih =>
    unfold mapT
    cases k a with
    | ok b =>
      rcases ih with ⟨r, h⟩ | h
      · exact .inl ⟨b :: r, by simp [h]⟩
      · exact .inr (by simp [h])
    | er c fs => exact .inr rfl
    | st => exact .inr rfl
theorem fmapT_nr (p : α → M Bool) (k : α → M β) (l : List α) : (∃ r, fmapT p k l = .ok r) ∨ fmapT p k l = .st := by
  induction l with
  | nil => exact .inl ⟨[], rfl⟩
  | cons a l ih =>
    unfold fmapT
    cases p a with
    | ok b =>
      cases b with
      | true =>
        cases k a with
        | ok b =>
          rcases ih with ⟨r, h⟩ | h
          · exact .inl ⟨b :: r, by simp [h]⟩
          · exact .inr (by simp [h])
        | er c fs => exact .inr rfl
        | st => exact .inr rfl
      | false => exact ih
    | er c fs => exact .inr rfl
    | st => exact .inr rfl
theorem compL_map {T : Tgt} {env : En} {E : α → En} {fe : SE} {k : α → M β} (hb : ∀ a, bindT T (d a) env = some (E a)) (he : ∀ a, Ref (fe (E a)) (k a)) : ∀ l r, mapT k l = .ok r → compL T env (sC (.bl true)) fe (l.map d) = some (r.map d)
  | [], r, h => by cases h; rfl
  | a :: l, r, h => by
    unfold mapT at h
    have h1 := he a
    cases e : k a with
    | er c fs => rw [e] at h; cases h
    | st => rw [e] at h; cases h
    | ok b =>
      rw [e] at h h1
      cases e2 : mapT k l with
      | er c fs => rw [e2] at h; cases h
      | st => rw [e2] at h; cases h
      | ok r' =>
        rw [e2] at h
        cases h
        show (match bindT T (d a) env with | none => none | some e => _) = _
        rw [hb a]
        simp only [sC, show fe (E a) = .ok (d b) from h1, compL_map hb he l r' e2]
        rfl
theorem compL_fmap {T : Tgt} {env : En} {E : α → En} {ft fe : SE} {p : α → M Bool} {k : α → M β} (hb : ∀ a, bindT T (d a) env = some (E a)) (ht : ∀ a, Ref (ft (E a)) (p a)) (he : ∀ a, Ref (fe (E a)) (k a)) : ∀ l r, fmapT p k l = .ok r → compL T env ft fe (l.map d) = some (r.map d)
  | [], r, h => by cases h; rfl
  | a :: l, r, h => by
    unfold fmapT at h
    have h1 := he a
    have h0 := ht a
    cases q : p a with
    | er c fs => rw [q] at h; cases h
    | st => rw [q] at h; cases h
    | ok x =>
      rw [q] at h h0
      show (match bindT T (d a) env with | none => none | some e => _) = _
      rw [hb a]
      cases x with
      | false =>
        simp only [show ft (E a) = .ok (.bl false) from h0]
        exact compL_fmap hb ht he l r h
      | true =>
        cases e : k a with
        | er c fs => rw [e] at h; cases h
        | st => rw [e] at h; cases h
        | ok b =>
          rw [e] at h h1
          cases e2 : fmapT p k l with
          | er c fs => rw [e2] at h; cases h
          | st => rw [e2] at h; cases h
          | ok r' =>
            rw [e2] at h
            cases h
            simp only [show ft (E a) = .ok (.bl true) from h0, show fe (E a) = .ok (d b) from h1, compL_fmap hb ht he l r' e2]
            rfl
theorem rf_comp {T : Tgt} {vs : List Nat} {fi fe : SE} {E : α → En} {ti : M (List α)} {k : α → M β} (hi : Ref (fi env) ti) (hw : wipeOk env vs = true) (hb : ∀ a, bindT T (d a) (wipeE env vs) = some (E a)) (he : ∀ a, Ref (fe (E a)) (k a)) :
    Ref (sComp T vs fi (sC (.bl true)) fe env) (ti.bind fun l => gd (l.length < 16777216) (mapT k l)) := by
  refine ref_bnd hi fun l => ref_gd fun hl => ?_
  show Ref (if (l.map d).length < PySem.sizeLine ∧ wipeOk env vs = true then _ else _) _
  rw [if_pos ⟨by rw [PySem.sizeLine_eq, List.length_map]; exact hl, hw⟩]
  rcases mapT_nr k l with ⟨r, h⟩ | h
  · rw [h, compL_map hb he l r h]; rfl
  · rw [h]; trivial
theorem rf_fcomp {T : Tgt} {vs : List Nat} {fi ft fe : SE} {E : α → En} {ti : M (List α)} {p : α → M Bool} {k : α → M β} (hi : Ref (fi env) ti) (hw : wipeOk env vs = true) (hb : ∀ a, bindT T (d a) (wipeE env vs) = some (E a)) (ht : ∀ a, Ref (ft (E a)) (p a)) (he : ∀ a, Ref (fe (E a)) (k a)) :
    Ref (sComp T vs fi ft fe env) (ti.bind fun l => gd (l.length < 16777216) (fmapT p k l)) := by
  refine ref_bnd hi fun l => ref_gd fun hl => ?_
  show Ref (if (l.map d).length < PySem.sizeLine ∧ wipeOk env vs = true then _ else _) _
  rw [if_pos ⟨by rw [PySem.sizeLine_eq, List.length_map]; exact hl, hw⟩]
  rcases fmapT_nr p k l with ⟨r, h⟩ | h
  · rw [h, compL_fmap hb ht he l r h]; rfl
  · rw [h]; trivial
/-- what is walked -/
theorem ri_lst {t : M (List α)} (h1 : Ref (f env) t) : Ref (sItems f env) t := by
  have := ref_bnd (k := fun x => match itemsD x with | some ds => .ok (.lst ds) | none => .st) (u := fun l => M.ok l) h1 fun l => rfl
  cases t <;> exact this
theorem ri_scr {t : M Scr} (h1 : Ref (f env) t) : Ref (sItems f env) (t.bind fun s => .ok s.ns) := ref_bnd h1 fun l => rfl
theorem ri_txt {t : M Tx} (h1 : Ref (f env) t) : Ref (sItems f env) (t.bind fun s => .ok (s.map sg)) := ref_bnd h1 fun l => by
  show R.ok (.lst ((str l).cps.toList.map sgn)) = .ok (.lst ((l.map sg).map d))
  rw [str_cps, List.map_map, List.map_map]
  rfl
def inR62 (i : Int) : Prop := -(2 ^ 62) ≤ i ∧ i < 2 ^ 62
instance : DecidablePred inR62 := fun i => inferInstanceAs (Decidable (_ ∧ _))
theorem inR62_iff {i : Int} (h : inR62 i) : inR i = true := by unfold inR; obtain ⟨h1, h2⟩ := h; simp only [Bool.and_eq_true, decide_eq_true_eq]; exact ⟨h1, h2⟩
/-- range(n) -/
def rgT (n : Int) : List Int := (List.range n.toNat).map fun (i : Nat) => (i : Int)
def rg2T (lo hi : Int) : List Int := (List.range (hi - lo).toNat).map fun (i : Nat) => lo + (i : Int)
theorem ri_rng1 {t : M Int} (h1 : Ref (f env) t) : Ref (sRng rng1 (aCons f aNil) env) (t.bind fun n => gd (inR62 n) (.ok (rgT n))) := args1 h1 fun n => ref_gd fun hn => by
  show (match (if inR n then _ else _) with | some xs => R.ok (.lst xs) | none => .st) = _
  rw [if_pos (inR62_iff hn)]
  show R.ok (.lst _) = .ok (.lst ((rgT n).map d))
  unfold rgT
  rw [List.map_map]
  congr 2
  refine List.map_congr_left fun i _ => ?_
  show D.int (0 + (i : Int)) = D.int (i : Int)
  rw [Int.zero_add]
theorem ri_rng2 {t u : M Int} (h1 : Ref (f env) t) (h2 : Ref (g env) u) : Ref (sRng rng2 (aCons f (aCons g aNil)) env) (t.bind fun n => u.bind fun m => gd (inR62 n ∧ inR62 m) (.ok (rg2T n m))) := args2 h1 h2 fun n m => ref_gd fun hn => by
  show (match (if inR n && inR m then _ else _) with | some xs => R.ok (.lst xs) | none => .st) = _
  rw [if_pos (by rw [inR62_iff hn.1, inR62_iff hn.2]; rfl)]
  show R.ok (.lst _) = .ok (.lst ((rg2T n m).map d))
  unfold rg2T
  rw [List.map_map]
  rfl
def enT : Int → List α → List (Int × α)
  | _, [] => []
  | k, a :: l => (k, a) :: enT (k + 1) l
theorem enum_en {α : Type} [Emb α] : ∀ (k : Nat) (l : List α), enumD k (l.map d) = (enT k l).map d
  | _, [] => rfl
  | k, a :: l => by
    show D.tup [.int k, d a] :: enumD (k + 1) (l.map d) = d ((k : Int), a) :: (enT ((k : Int) + 1) l).map d
    rw [enum_en (k + 1) l]; rfl
theorem ri_enum {t : M (List α)} (h1 : Ref (f env) t) : Ref (sEnum f env) (t.bind fun l => .ok (enT 0 l)) := ref_bnd h1 fun l => congrArg (fun x => R.ok (.lst x)) (enum_en 0 l)
theorem rf_rev {t : M (List α)} (h1 : Ref (f env) t) : Ref (sRev f env) (t.bind fun l => .ok l.reverse) := ref_bnd h1 fun l => by
  show R.ok (.lst ((l.map d).reverse)) = .ok (.lst (l.reverse.map d))
  rw [List.map_reverse]
end
end Tm

namespace Tm
open Ps
open Emb (d)

class Nnd (α : Type) [Emb α] : Prop where
  nn : ∀ a : α, isNonD (d a) = false
instance : Nnd Int := ⟨fun _ => rfl⟩
instance : Nnd Bool := ⟨fun _ => rfl⟩
instance : Nnd Tx := ⟨fun _ => rfl⟩
instance {α : Type} [Emb α] : Nnd (List α) := ⟨fun _ => rfl⟩
instance {α β : Type} [Emb α] [Emb β] : Nnd (α × β) := ⟨fun _ => rfl⟩
instance {α β γ : Type} [Emb α] [Emb β] [Emb γ] : Nnd (P3 α β γ) := ⟨fun _ => rfl⟩
instance : Nnd Exc := ⟨fun _ => rfl⟩
instance : Nnd Scr := ⟨fun _ => rfl⟩
section
theorem p_addI : P2 dAddU fun (a b : Int) => .ok (a + b) := fun a b => rfl
theorem p_addS : P2 dAddU fun (a b : Tx) => gd (a.length + b.length ≤ 16777216) (.ok (a ++ b)) := fun a b => ref_gd fun h => by
  have e : dAddU (.str (str a)) (.str (str b)) = some (.str (str a ++ str b)) := by
    show orD (if (str a).length + (str b).length ≤ PySem.sizeLine then _ else _) _ = _
    rw [str_len, str_len, if_pos (small_le h)]; rfl
  show ofO (dAddU (.str (str a)) (.str (str b))) = _
  rw [e, ← str_app]; rfl
theorem p_addL {α : Type} [Emb α] : P2 dAddU fun (a b : List α) => gd (a.length + b.length ≤ 16777216) (.ok (a ++ b)) := fun a b => ref_gd fun h => by
  show ofO (dAddU (.lst (a.map d)) (.lst (b.map d))) = _
  have e : dAddU (.lst (a.map d)) (.lst (b.map d)) = some (.lst (a.map d ++ b.map d)) := by
    show orD none (if (a.map d).length + (b.map d).length ≤ PySem.sizeLine then _ else _) = _
    rw [List.length_map, List.length_map, if_pos (small_le h)]; rfl
  rw [e, ← List.map_append]; rfl
theorem p_catL {α : Type} [Emb α] : P2 dCat fun (a b : List α) => gd (a.length + b.length ≤ 16777216) (.ok (a ++ b)) := fun a b => ref_gd fun h => by
  show ofO (if (a.map d).length + (b.map d).length ≤ PySem.sizeLine then _ else _) = _
  rw [List.length_map, List.length_map, if_pos (small_le h), ← List.map_append]; rfl
theorem p_sub : P2 dSub fun (a b : Int) => .ok (a - b) := fun a b => rfl
theorem p_mul : P2 dMulU fun (a b : Int) => gd ((-(2 ^ 64) < a ∧ a < 2 ^ 64) ∨ (-(2 ^ 64) < b ∧ b < 2 ^ 64)) (.ok (a * b)) := fun a b => ref_gd fun h => by
  show ofO (dMulU (.int a) (.int b)) = _
  rw [dMulU_int h]; rfl
/-- text * int -/
def mulT (x : Tx) (n : Int) : M Tx := if n < 1 then gd (-(2 ^ 63 : Int) ≤ n) (.ok []) else if n = 1 then .ok x else gd (n ≤ 1000 ∧ 0 < x.length ∧ x.length ≤ 1000) (.ok (List.replicate n.toNat x).flatten)
theorem foldl_cps (a : Array Nat) : ∀ (n : Nat) (acc : Array Nat), ((List.replicate n a).foldl (· ++ ·) acc).toList = acc.toList ++ (List.replicate n a.toList).flatten
  | 0, acc => by simp
  | n + 1, acc => by
    rw [List.replicate_succ, List.foldl_cons, foldl_cps a n, List.replicate_succ, List.flatten_cons]; simp
theorem str_ext {x y : PySem.Str} (h : x.cps.toList = y.cps.toList) : x = y := by
  cases x; cases y; congr; exact Array.toList_inj.mp h
theorem repS_str (x : Tx) (n : Nat) : repS (str x) n = str (List.replicate n x).flatten := str_ext (by
  rw [str_cps]
  unfold repS
  show ((List.replicate n (str x).cps).foldl (· ++ ·) #[]).toList = _
  rw [foldl_cps, str_cps]
  simp [List.map_flatten])
theorem p_mulS : P2 dMulU mulT := fun x n => by
  have e : dMulU (d x) (d n) = (mulS (str x) n).map .str := by
    show orD none ((mulS (str x) n).map D.str) = _
    cases mulS (str x) n <;> rfl
  rw [e]
  unfold mulT mulS
  split
  · refine ref_gd fun h => ?_
    rw [if_pos h]; rfl
  · split
    · rfl
    · refine ref_gd fun ⟨h1, h2, h3⟩ => ?_
      rw [if_pos ⟨h1, by rw [str_len]; exact h2, by rw [str_len]; exact h3, by
        rw [repS_str, str_len, PySem.sizeLine_eq]
        simp only [List.length_flatten, List.map_replicate, List.sum_replicate_nat]
        have : n.toNat ≤ 1000 := by omega
        exact Nat.le_trans (Nat.mul_le_mul this h3) (by decide)⟩, repS_str]
      rfl
theorem p_fdiv : P2 dFdiv fun (a b : Int) => gd (0 < b ∧ b < 1073741824) (.ok (a / b)) := fun a b => ref_gd fun h => by
  show ofO (dFdiv (.int a) (.int b)) = _
  rw [dFdiv_int h.1 h.2]; rfl
theorem p_mod : P2 dMod fun (a b : Int) => gd (0 < b) (.ok (a % b)) := fun a b => ref_gd fun h => by
  show ofO (dMod (.int a) (.int b)) = _
  rw [dMod_int h]; rfl
theorem p_pow : P2 dPow fun (a b : Int) => gd (0 ≤ b ∧ b ≤ 1000000 ∧ a.natAbs < 2 ^ 64) (.ok (a ^ b.toNat)) := fun a b => ref_gd fun h => by
  show ofO (if _ then _ else _) = _
  rw [if_pos h]; rfl
theorem p_lt : P2 dLt fun (a b : Int) => .ok (decide (a < b)) := fun a b => rfl
theorem p_le : P2 dLe fun (a b : Int) => .ok (decide (a ≤ b)) := fun a b => rfl
theorem p_gt : P2 dGt fun (a b : Int) => .ok (decide (b < a)) := fun a b => rfl
theorem p_ge : P2 dGe fun (a b : Int) => .ok (decide (b ≤ a)) := fun a b => rfl
/-- == -/
def eqT {α : Type} [Cm α] (a b : α) : Bool := @decide (a = b) (Cm.dec a b)
theorem eqT_eq {α : Type} [Cm α] [i : DecidableEq α] (a b : α) : eqT a b = decide (a = b) := by unfold eqT; congr
theorem shaped_of {α : Type} [Cm α] (hn : Cm.n α ≤ 64) (a : α) : PySem.SeqAt.shaped (Cm.p a) = true := by
  unfold PySem.SeqAt.shaped
  rw [Cm.lay a, decide_eq_true (Nat.le_trans (Cm.dep a) hn)]; rfl
theorem p_eq {α : Type} [Cm α] (hn : Cm.n α ≤ 64 := by decide) : P2 dEq fun (a b : α) => .ok (eqT a b) := fun a b => by
  show ofO ((toP (d a)).bind fun p => (toP (d b)).bind fun q => _) = _
  rw [Cm.toP a, Cm.toP b]
  show ofO (if PySem.SeqAt.shaped (Cm.p a) && PySem.SeqAt.shaped (Cm.p b) then _ else _) = _
  rw [shaped_of hn a, shaped_of hn b]
  show R.ok (.bl (PySem.PyData.eqv _ _)) = R.ok (.bl (eqT a b))
  rw [Cm.eqv]; unfold eqT; congr
theorem p_ne {α : Type} [Cm α] (hn : Cm.n α ≤ 64 := by decide) : P2 dNe fun (a b : α) => .ok (!eqT a b) := fun a b => by
  show ofO ((toP (d a)).bind fun p => (toP (d b)).bind fun q => _) = _
  rw [Cm.toP a, Cm.toP b]
  show ofO (if PySem.SeqAt.shaped (Cm.p a) && PySem.SeqAt.shaped (Cm.p b) then _ else _) = _
  rw [shaped_of hn a, shaped_of hn b]
  show R.ok (.bl (!PySem.PyData.eqv _ _)) = R.ok (.bl (!eqT a b))
  rw [Cm.eqv]; unfold eqT; congr
/-- a test on data that isn't known: what the data say -/
def bT (o : Option D) : M Bool := match o with
  | some (.bl b) => .ok b
  | _ => .st
theorem ref_bT (o : Option D) : Ref (ofO o) (bT o) := by
  cases o with
  | none => trivial
  | some z => cases z <;> first | rfl | trivial
theorem p_dyn {α β : Type} [Emb α] [Emb β] {op : D → D → Option D} : P2 op fun (a : α) (b : β) => bT (op (d a) (d b)) := fun a b => ref_bT _
theorem p_is {α : Type} [Emb α] [Nnd α] : P2 dIs fun (a : Option α) (_ : Unit) => .ok a.isNone := fun a _ => by
  cases a with
  | none => rfl
  | some a =>
    show R.ok (.bl (isNonD (d a))) = R.ok (.bl false)
    rw [Nnd.nn]
theorem p_isNot {α : Type} [Emb α] [Nnd α] : P2 dIsNot fun (a : Option α) (_ : Unit) => .ok a.isSome := fun a _ => by
  cases a with
  | none => rfl
  | some a =>
    show R.ok (.bl (!isNonD (d a))) = R.ok (.bl true)
    rw [Nnd.nn]; rfl
theorem p_isD : P2 dIs fun (a : D) (_ : Unit) => .ok (isNonD a) := fun a _ => rfl
theorem p_isNotD : P2 dIsNot fun (a : D) (_ : Unit) => .ok (!isNonD a) := fun a _ => rfl
theorem p_isNn {α : Type} [Emb α] [Nnd α] : P2 dIs fun (a : α) (_ : Unit) => .ok false := fun a _ => by
  show R.ok (.bl (isNonD (d a))) = R.ok (.bl false)
  rw [Nnd.nn]
theorem p_isNotNn {α : Type} [Emb α] [Nnd α] : P2 dIsNot fun (a : α) (_ : Unit) => .ok true := fun a _ => by
  show R.ok (.bl (!isNonD (d a))) = R.ok (.bl true)
  rw [Nnd.nn]; rfl
/-- flat data -/
class Fl (α : Type) extends Cm α where
  fl : ∀ a, dFlat (d a) = true
  fv : ∀ a b, L2.eqV (toV (d a)) (toV (d b)) = PySem.PyData.eqv (p a) (p b)
class Fn (α : Type) extends Nn α, Fl α where
  f1 : ∀ a, L2.eqV .non (toV (d a)) = false
  f2 : ∀ a, L2.eqV (toV (d a)) .non = false
instance : Fn Int := { fl := fun _ => rfl, fv := fun _ _ => rfl, f1 := fun _ => rfl, f2 := fun _ => rfl }
instance : Fn Bool := { fl := fun _ => rfl, fv := fun _ _ => rfl, f1 := fun _ => rfl, f2 := fun _ => rfl }
instance : Fn Tx := { fl := fun _ => rfl, fv := fun _ _ => rfl, f1 := fun _ => rfl, f2 := fun _ => rfl }
instance {α : Type} [Fn α] : Fl (Option α) where
  fl x := by
    cases x with
    | none => rfl
    | some a => exact Fl.fl a
  fv a b := by
    cases a with
    | none =>
      cases b with
      | none => rfl
      | some b => exact (Fn.f1 b).trans (Nn.n1 b).symm
    | some a =>
      cases b with
      | none => exact (Fn.f2 a).trans (Nn.n2 a).symm
      | some b => exact Fl.fv a b
def inT {α : Type} [Cm α] (a : α) (l : List α) : Bool := l.any fun b => eqT b a
theorem inT_eq {α : Type} [Cm α] [DecidableEq α] (a : α) (l : List α) : inT a l = decide (a ∈ l) := by
  unfold inT
  rw [Bool.eq_iff_iff]
  simp [eqT_eq]
theorem inV_map {α : Type} [Fl α] (a : α) (l : List α) : L2.inV (toV (d a)) ((l.map d).map toV) = inT a l := by
  unfold L2.inV inT
  rw [List.map_map, List.any_map]
  congr 1; funext b
  show L2.eqV (toV (d b)) (toV (d a)) = _
  rw [Fl.fv, Cm.eqv]; rfl
theorem inD_l {α : Type} [Fl α] (a : α) (l : List α) : inD (d a) (d l) = some (inT a l) := by
  show (if dFlat (d a) && (l.map d).all dFlat then some (L2.inV (toV (d a)) ((l.map d).map toV)) else none) = _
  have h1 : (l.map d).all dFlat = true := by
    rw [List.all_map, List.all_eq_true]; exact fun b _ => Fl.fl b
  rw [Fl.fl a, h1, inV_map]; rfl
theorem p_inL {α : Type} [Fl α] : P2 dIn fun (a : α) (l : List α) => .ok (inT a l) := fun a l => by
  show ofO ((inD (d a) (d l)).map .bl) = _
  rw [inD_l]; rfl
theorem p_notInL {α : Type} [Fl α] : P2 dNotIn fun (a : α) (l : List α) => .ok (!inT a l) := fun a l => by
  show ofO ((inD (d a) (d l)).map fun b => .bl (!b)) = _
  rw [inD_l]; rfl
/-- text in text -/
def hasT (x : Tx) : Tx → Bool
  | [] => x.isEmpty
  | c :: y => x.isPrefixOf (c :: y) || hasT x y
theorem hasT_iff (x : Tx) : ∀ y : Tx, hasT x y = true ↔ ∃ i, i + x.length ≤ y.length ∧ (y.drop i).take x.length = x
  | [] => by
    unfold hasT
    cases x with
    | nil => simp
    | cons c x => simp
  | c :: y => by
    unfold hasT
    rw [Bool.or_eq_true, hasT_iff x y, List.isPrefixOf_iff_prefix]
    constructor
    · rintro (h | ⟨i, h1, h2⟩)
      · exact ⟨0, by simpa using h.length_le, by rw [List.drop_zero]; exact (List.prefix_iff_eq_take.mp h).symm⟩
      · exact ⟨i + 1, by simp; omega, by simpa using h2⟩
    · rintro ⟨i, h1, h2⟩
      cases i with
      | zero => left; rw [List.prefix_iff_eq_take]; simpa using h2.symm
      | succ i => right; exact ⟨i, by simp at h1; omega, by simpa using h2⟩
theorem hasT_infix (x y : Tx) : hasT x y = true ↔ x <:+: y := by
  rw [hasT_iff]
  constructor
  · rintro ⟨i, h1, h2⟩
    refine ⟨y.take i, (y.drop i).drop x.length, ?_⟩
    have : y = y.take i ++ ((y.drop i).take x.length ++ (y.drop i).drop x.length) := by rw [List.take_append_drop, List.take_append_drop]
    rw [h2, ← List.append_assoc] at this
    exact this.symm
  · rintro ⟨s, t, rfl⟩
    exact ⟨s.length, by simp, by simp⟩
theorem sub_at (x y : Tx) (i : Nat) : PySem.Builtin.Str.subAt (str y) (str x) i = ((y.drop i).take x.length == x) := by
  rw [PySem.StrLaws.subAt_eq, str_cps, str_cps, str_len, ← List.map_drop, ← List.map_take, Bool.eq_iff_iff, beq_iff_eq, beq_iff_eq]
  exact ⟨map_inj, fun h => by rw [h]⟩
theorem occ_has (x y : Tx) : (!(PySem.Builtin.Str.occurrences (str y) (str x) 0 (str y).length 1).isEmpty) = hasT x y := by
  rw [Bool.eq_iff_iff, PySem.StrLaws.found_iff, hasT_iff]
  simp only [str_len, sub_at, beq_iff_eq]
theorem p_inS : P2 dIn fun (x y : Tx) => .ok (hasT x y) := fun x y => by
  show R.ok (.bl _) = R.ok (.bl _)
  rw [← occ_has]
theorem p_notInS : P2 dNotIn fun (x y : Tx) => .ok (!hasT x y) := fun x y => by
  show R.ok (.bl _) = R.ok (.bl _)
  rw [← occ_has]
theorem p_inD {κ α : Type} [Dc κ] [Emb α] : P2 dIn fun (k : κ) (m : Dct κ α) => .ok (m.get? k).isSome := fun k m => by
  show ofO ((inD (d k) (Dc.mkD (m.l.map _))).map .bl) = _
  rw [Dc.has, val_get]
  unfold Dct.get?
  cases (m.l.find? fun p => decide (p.1 = k)) <;> rfl
theorem p_notInD {κ α : Type} [Dc κ] [Emb α] : P2 dNotIn fun (k : κ) (m : Dct κ α) => .ok (!(m.get? k).isSome) := fun k m => by
  show ofO ((inD (d k) (Dc.mkD (m.l.map _))).map fun b => .bl (!b)) = _
  rw [Dc.has, val_get]
  unfold Dct.get?
  cases (m.l.find? fun p => decide (p.1 = k)) <;> rfl
/-- xs[i] -/
def oM {α : Type} (o : Option α) : M α := match o with
  | some a => .ok a
  | none => .st
@[simp] theorem oM_some {α : Type} (a : α) : oM (some a) = .ok a := rfl
@[simp] theorem oM_none {α : Type} : oM (none : Option α) = .st := rfl
theorem ref_o {α : Type} [Emb α] (o : Option α) : Ref (ofO (o.map d)) (oM o) := by
  cases o with
  | none => trivial
  | some a => rfl
theorem atI_map {α β : Type} (k : α → β) (l : List α) (i : Int) : L2.atI (l.map k) i = (L2.atI l i).map k := by
  unfold L2.atI
  rw [List.length_map]
  cases L2.ixN l.length i with
  | none => rfl
  | some j => exact List.getElem?_map
theorem p_ixL {α : Type} [Emb α] : P2 dIx fun (l : List α) (i : Int) => oM (L2.atI l i) := fun l i => by
  show Ref (ofO (L2.atI (l.map d) i)) _
  rw [atI_map]
  exact ref_o _
theorem p_ixScr : P2 dIx fun (l : Scr) (i : Int) => oM (L2.atI l.ns i) := fun l i => by
  exact ref_o (L2.atI l.ns i)
theorem p_ixS : P2 dIx fun (x : Tx) (i : Int) => gd (x.length ≤ 16777216) (oM ((L2.atI x i).map sg)) := fun x i => ref_gd fun h => by
  show Ref (ofO (if (str x).length ≤ PySem.sizeLine then (L2.atI (str x).cps.toList i).map _ else none)) _
  rw [str_len, if_pos (small_le h), str_cps, atI_map]
  cases L2.atI x i with
  | none => trivial
  | some a => rfl
theorem p_ixD {κ α : Type} [Dc κ] [Emb α] : P2 dIx fun (m : Dct κ α) (k : κ) => oM (m.get? k) := fun m k => by
  show Ref (ofO (dIx (Dc.mkD (m.l.map _)) (d k))) _
  rw [Dc.val, val_get]
  exact ref_o _
theorem p_t21 {α β : Type} [Emb α] [Emb β] : P2 dIx fun (x : α × β) (i : Int) => if i = 0 then .ok x.1 else .st := fun x i => by
  show Ref _ (if _ then _ else _)
  split
  · rename_i h; subst h; rfl
  · trivial
theorem p_t22 {α β : Type} [Emb α] [Emb β] : P2 dIx fun (x : α × β) (i : Int) => if i = 1 then .ok x.2 else .st := fun x i => by
  show Ref _ (if _ then _ else _)
  split
  · rename_i h; subst h; rfl
  · trivial
theorem p_t31 {α β γ : Type} [Emb α] [Emb β] [Emb γ] : P2 dIx fun (x : P3 α β γ) (i : Int) => if i = 0 then .ok x.a else .st := fun x i => by
  show Ref _ (if _ then _ else _)
  split
  · rename_i h; subst h; rfl
  · trivial
theorem p_t32 {α β γ : Type} [Emb α] [Emb β] [Emb γ] : P2 dIx fun (x : P3 α β γ) (i : Int) => if i = 1 then .ok x.b else .st := fun x i => by
  show Ref _ (if _ then _ else _)
  split
  · rename_i h; subst h; rfl
  · trivial
theorem p_t33 {α β γ : Type} [Emb α] [Emb β] [Emb γ] : P2 dIx fun (x : P3 α β γ) (i : Int) => if i = 2 then .ok x.c else .st := fun x i => by
  show Ref _ (if _ then _ else _)
  split
  · rename_i h; subst h; rfl
  · trivial
/-- xs[i:j] -/
def cut {α : Type} (l : List α) (lo hi : Option Int) : List α := (l.drop (HT.sIx l.length 0 lo)).take (HT.sIx l.length l.length hi - HT.sIx l.length 0 lo)
theorem cut_map {α β : Type} (k : α → β) (l : List α) (lo hi : Option Int) : cut (l.map k) lo hi = (cut l lo hi).map k := by
  unfold cut; rw [List.length_map, List.map_take, List.map_drop]
theorem p_slLN {α : Type} [Emb α] (l : List α) (lo hi : Option Int) : Ref (ofO (dSlN (d l) lo hi)) (M.ok (cut l lo hi)) := by
  show R.ok (.lst (cut (l.map d) lo hi)) = _
  rw [cut_map]; rfl
theorem p_slL {α : Type} [Emb α] (l : List α) (lo hi : Option Int) : Ref (ofO (dSlU (d l) lo hi)) (M.ok (cut l lo hi)) := by
  show R.ok (.lst (cut (l.map d) lo hi)) = _
  rw [cut_map]; rfl
theorem p_slScr (l : Scr) (lo hi : Option Int) : Ref (ofO (dSlU (d l) lo hi)) (M.ok (cut l.ns lo hi)) := rfl
theorem p_slScrN (l : Scr) (lo hi : Option Int) : Ref (ofO (dSlN (d l) lo hi)) (M.ok (cut l.ns lo hi)) := rfl
theorem p_slS (x : Tx) (lo hi : Option Int) : Ref (ofO (dSlU (d x) lo hi)) (gd (x.length ≤ 16777216) (M.ok (cut x lo hi))) := ref_gd fun h => by
  show ofO (orD none (if (str x).length ≤ PySem.sizeLine then some (.str (L2.cutS (str x) lo hi)) else none)) = _
  rw [if_pos (small_le (by rw [str_len]; exact h))]
  show R.ok (.str _) = R.ok (.str _)
  congr 2
  refine str_ext ?_
  show (((str x).cps.toList.drop _).take _).toArray.toList = _
  rw [str_cps, str_cps, str_len]
  rw [← cut_map]
  unfold cut
  rw [List.length_map]
/-- built-ins -/
theorem p_lenL {α : Type} [Emb α] : P1 cLen fun (l : List α) => .ok (l.length : Int) := fun l => by
  show R.ok (.int ((l.map d).length : Nat)) = _
  rw [List.length_map]; rfl
theorem p_lenScr : P1 cLen fun (l : Scr) => .ok (l.ns.length : Int) := fun l => rfl
theorem p_lenS : P1 cLen fun (x : Tx) => gd (x.length ≤ 16777216) (.ok (x.length : Int)) := fun x => ref_gd fun h => by
  show ofO (if (str x).length ≤ PySem.sizeLine then some (.int (str x).length) else none) = _
  rw [str_len, if_pos (small_le h)]; rfl
theorem p_lenD {κ α : Type} [Ke κ] [Emb α] : P1 cLen fun (m : Dct κ α) => .ok (m.l.length : Int) := fun m => by
  show R.ok (.int ((m.l.map _).length : Nat)) = _
  rw [List.length_map]; rfl
theorem unInts_map : ∀ l : List Int, unInts (l.map d) = some l
  | [] => rfl
  | a :: l => by
    show (unInts (l.map d)).map _ = _
    rw [unInts_map l]; rfl
theorem unBls_map : ∀ l : List Bool, unBls (l.map d) = some l
  | [] => rfl
  | a :: l => by
    show (unBls (l.map d)).map _ = _
    rw [unBls_map l]; rfl
theorem unStrs_map : ∀ l : List Tx, unStrs (l.map d) = some (l.map str)
  | [] => rfl
  | a :: l => by
    show (unStrs (l.map d)).map _ = _
    rw [unStrs_map l]; rfl
theorem p_sum : P1 cSum fun (l : List Int) => .ok l.sum := fun l => by
  show ofO ((unInts (l.map d)).map _) = _
  rw [unInts_map]; rfl
theorem p_any : P1 cAny fun (l : List Bool) => .ok (l.any id) := fun l => by
  show ofO ((unBls (l.map d)).map _) = _
  rw [unBls_map]; rfl
theorem p_all : P1 cAll fun (l : List Bool) => .ok (l.all id) := fun l => by
  show ofO ((unBls (l.map d)).map _) = _
  rw [unBls_map]; rfl
theorem p_list {α : Type} [Emb α] : P1 cList fun (l : List α) => .ok l := fun l => rfl
theorem p_listScr : P1 cList fun (l : Scr) => .ok l.ns := fun l => rfl
theorem p_max2 : P12 cMax2 fun (a b : Int) => .ok (max a b) := fun a b => by
  show R.ok (.int _) = R.ok (.int _)
  congr 2; omega
theorem p_min2 : P12 cMin2 fun (a b : Int) => .ok (min a b) := fun a b => by
  show R.ok (.int _) = R.ok (.int _)
  congr 2; omega
theorem p_abs : P1 cAbs fun (a : Int) => .ok (a.natAbs : Int) := fun a => by
  show R.ok (.int _) = R.ok (.int _)
  congr 2; split <;> omega
theorem p_intI : P1 cInt fun (a : Int) => .ok a := fun a => rfl
theorem p_intB : P1 cInt fun (a : Bool) => .ok (if a then (1 : Int) else 0) := fun a => rfl
theorem p_cRg : P1 cRg fun (n : Int) => gd (0 ≤ n ∧ n ≤ 16777216) (.ok (rgT n)) := fun n => ref_gd fun h => by
  show ofO (if _ then _ else _) = _
  rw [if_pos h]
  show R.ok (.lst _) = R.ok (.lst ((rgT n).map d))
  unfold rgT
  rw [List.map_map]; rfl
/-- texts in their order -/
def leT (x y : Tx) : Bool := decide (x.map Char.toNat ≤ y.map Char.toNat)
def srtT (l : List Tx) : List Tx := l.mergeSort leT
theorem leS_str (x y : Tx) : leS (str x) (str y) = leT x y := by
  rw [Bool.eq_iff_iff, leS_iff, str_cps, str_cps]; unfold leT; simp
theorem srt_map (l : List Tx) : srt (l.map str) = (srtT l).map str := by
  unfold srt srtT
  rw [List.map_mergeSort (r := leT) (s := leS) (f := str)]
  intro a _ b _
  exact (leS_str a b).symm
theorem p_sortL : P1 cSorted fun (l : List Tx) => gd (l.length < 64) (.ok (srtT l)) := fun l => ref_gd fun h => by
  show ofO ((unStrs (l.map d)).bind _) = _
  rw [unStrs_map]
  show ofO (if (l.map str).length < 64 then _ else _) = _
  rw [List.length_map, if_pos h, srt_map, List.map_map]; rfl
theorem unKeys_map {α : Type} [Emb α] : ∀ l : List (Tx × α), unKeys (l.map fun p => ((Dc.k p.1 : L2.Key), d p.2)) = some (l.map fun p => str p.1)
  | [] => rfl
  | a :: l => by
    show (unKeys (l.map _)).map _ = _
    rw [unKeys_map l]; rfl
theorem p_sortD {α : Type} [Emb α] : P1 cSorted fun (m : Dct Tx α) => gd (m.l.length < 64) (.ok (srtT m.keys)) := fun m => ref_gd fun h => by
  show ofO ((unKeys (m.l.map _)).bind _) = _
  rw [unKeys_map]
  show ofO (if (m.l.map _).length < 64 then _ else _) = _
  rw [List.length_map, if_pos h, show (m.l.map fun p => str p.1) = m.keys.map str from by unfold Dct.keys; rw [List.map_map]; rfl, srt_map, List.map_map]; rfl
/-- join -/
def joinT (s : Tx) : List Tx → Tx
  | [] => []
  | [x] => x
  | x :: l => x ++ s ++ joinT s l
theorem glue_fold (s : Tx) : ∀ (l : List Tx) (acc : Array Nat), ((l.map str).foldl (fun acc p => acc ++ (str s).cps ++ p.cps) acc).toList = acc.toList ++ (l.map fun x => s.map Char.toNat ++ x.map Char.toNat).flatten
  | [], acc => by simp
  | x :: l, acc => by
    rw [List.map_cons, List.foldl_cons, glue_fold s l]
    simp [str]
theorem joinT_cons (s x : Tx) : ∀ l : List Tx, joinT s (x :: l) = x ++ (l.map fun y => s ++ y).flatten
  | [] => by simp [joinT]
  | y :: l => by
    show x ++ s ++ joinT s (y :: l) = _
    rw [joinT_cons s y l]; simp
theorem join_str (s : Tx) (l : List Tx) : PySem.Txt.join (str s) (l.map str) = str (joinT s l) := by
  refine str_ext ?_
  unfold PySem.Txt.join PySem.Builtin.Str.glued
  cases l with
  | nil => rfl
  | cons x l =>
    rw [joinT_cons, str_cps]
    show ((l.map str).foldl _ (str x).cps).toList = _
    rw [glue_fold, str_cps]
    simp only [List.map_append, List.map_flatten, List.map_map, Function.comp_def]
theorem p_join : P2 mJoin fun (s : Tx) (l : List Tx) => gd ((l.map List.length).sum + l.length * s.length ≤ 16777216) (.ok (joinT s l)) := fun s l => ref_gd fun h => by
  show ofO ((unStrs (l.map d)).bind _) = _
  rw [unStrs_map]
  show ofO (if ((l.map str).map (·.length)).sum + (l.map str).length * (str s).length ≤ 16777216 then _ else _) = _
  have e : (l.map str).map (·.length) = l.map List.length := by
    rw [List.map_map]; exact List.map_congr_left fun x _ => str_len x
  rw [e, List.length_map, str_len, if_pos h, join_str]; rfl
def startsT (x y : Tx) : Bool := y.isPrefixOf x
def endsT (x y : Tx) : Bool := y.isSuffixOf x
theorem p_starts : P2 mStartswith fun (x y : Tx) => .ok (startsT x y) := fun x y => by
  show R.ok (.bl (decide (0 + (str y).length ≤ (str x).length) && PySem.Builtin.Str.subAt (str x) (str y) 0)) = R.ok (.bl _)
  congr 2
  rw [sub_at, str_len, str_len, Bool.eq_iff_iff]
  unfold startsT
  rw [List.isPrefixOf_iff_prefix, Bool.and_eq_true, decide_eq_true_eq, beq_iff_eq, List.drop_zero, List.prefix_iff_eq_take]
  constructor
  · rintro ⟨_, h⟩; exact h.symm
  · intro h; exact ⟨by have := (List.prefix_iff_eq_take.mpr h).length_le; omega, h.symm⟩
theorem p_ends : P2 mEndswith fun (x y : Tx) => .ok (endsT x y) := fun x y => by
  show R.ok (.bl (decide (0 + (str y).length ≤ (str x).length) && PySem.Builtin.Str.subAt (str x) (str y) ((str x).length - (str y).length))) = R.ok (.bl _)
  congr 2
  rw [sub_at, str_len, str_len, Bool.eq_iff_iff]
  unfold endsT
  rw [List.isSuffixOf_iff_suffix, Bool.and_eq_true, decide_eq_true_eq, beq_iff_eq, List.suffix_iff_eq_drop]
  have key : y.length ≤ x.length → (x.drop (x.length - y.length)).take y.length = x.drop (x.length - y.length) := fun h => List.take_of_length_le (by simp; omega)
  constructor
  · rintro ⟨h, h2⟩
    rw [key (by omega)] at h2; exact h2.symm
  · intro h
    have : y.length ≤ x.length := by
      have := congrArg List.length h
      simp at this; omega
    exact ⟨by omega, by rw [key this]; exact h.symm⟩
def countT (x y : Tx) : Int := PySem.Txt.count (str x) (str y)
def findT (x y : Tx) : Int := PySem.Txt.find (str x) (str y)
theorem p_count : P2 mCount fun (x y : Tx) => .ok (countT x y) := fun x y => rfl
theorem p_find : P2 mFind fun (x y : Tx) => .ok (findT x y) := fun x y => rfl
/-- dicts -/
def pairsT {κ α : Type} [Ke κ] (l : List (κ × α)) : Dct κ α := l.foldl (fun m p => m.put p.1 p.2) ⟨[]⟩
theorem unPairs_map {κ α : Type} [Ke κ] [Emb α] : ∀ l : List (κ × α), unPairs (l.map d) = some (l.map fun p => (Ke.k p.1, d p.2))
  | [] => rfl
  | a :: l => by
    show (keyD (d a.1)).bind (fun k => (unPairs (l.map d)).map fun r => (k, d a.2) :: r) = _
    rw [Ke.kd, unPairs_map l]; rfl
theorem merge_fold {κ α : Type} [Ke κ] [Emb α] : ∀ (l : List (κ × α)) (m : Dct κ α), mergeD (m.l.map fun p => (Ke.k p.1, d p.2)) (l.map fun p => (Ke.k p.1, d p.2)) = (l.foldl (fun m p => m.put p.1 p.2) m).l.map fun p => (Ke.k p.1, d p.2)
  | [], m => rfl
  | a :: l, m => by
    rw [List.foldl_cons, ← merge_fold l (m.put a.1 a.2)]
    show mergeD (putD (m.l.map fun p => (Ke.k p.1, d p.2)) (Ke.k a.1) (d a.2)) (l.map fun p => (Ke.k p.1, d p.2)) = _
    congr 1
    exact put_put (κ := κ) a.1 a.2 m.l
theorem p_dict {κ α : Type} [Ke κ] [Emb α] : P1 cDict fun (l : List (κ × α)) => .ok (pairsT l) := fun l => by
  show ofO ((unPairs (l.map d)).map fun kvs => D.dk (mergeD [] kvs)) = _
  rw [unPairs_map]
  have := merge_fold l (⟨[]⟩ : Dct κ α)
  show R.ok (.dk (mergeD [] _)) = R.ok (.dk _)
  exact congrArg (fun x => R.ok (.dk x)) this
theorem p_dictD {κ α : Type} [Ke κ] [Emb α] : P1 cDict fun (m : Dct κ α) => .ok m := fun m => rfl
section
variable {κ α : Type} {f g h : SE} {env : En}
theorem rf_get2 [Dc κ] [Emb α] {t : M (Dct κ α)} {u : M κ} {v : M α} (h1 : Ref (f env) t) (h2 : Ref (g env) u) (h3 : Ref (h env) v) (hd : ∀ l, isDict (Dc.mkD (κ := κ) l) = true) (hg : ∀ l (a : κ) z, dGet2 (Dc.mkD l) (d a) z = some ((valD l (Dc.k a)).getD z)) :
    Ref (sGetD f g h env) (t.bind fun m => u.bind fun k => v.bind fun z => .ok ((m.get? k).getD z)) := by
  refine ref_bnd h1 fun m => ?_
  show Ref (if isDict (Dc.mkD (m.l.map _)) then _ else _) _
  rw [hd, if_pos rfl]
  refine ref_bnd h2 fun k => ref_bnd h3 fun z => ?_
  show Ref (ofO (dGet2 (Dc.mkD (m.l.map _)) (d k) (d z))) _
  rw [hg, val_get]
  unfold Dct.get?
  cases (m.l.find? fun p => decide (p.1 = k)) <;> rfl
theorem rf_disp1 [Ke κ] [Emb α] {u : M κ} {v : M α} (h2 : Ref (f env) u) (h3 : Ref (g env) v) : Ref (sDisp1 f g env) (u.bind fun k => v.bind fun z => .ok (⟨[(k, z)]⟩ : Dct κ α)) := by
  refine ref_bnd h2 fun k => ref_bnd h3 fun z => ?_
  rw [Ke.kd]; rfl
end
end
end Tm

namespace Tm
open Ps
open Emb (d)

/-! ### statements -/
inductive Ot (σ ρ : Type) where
  | nx (s : σ) | bk (s : σ) | ct (s : σ) | rt (r : ρ)
inductive Lt (σ ρ : Type) where
  | nx (s : σ) | rt (r : ρ)
def RefO {β : Type} (em : β → O → Prop) (o : O) (t : M β) : Prop := match t with
  | .ok b => em b o
  | .er c fs => ∃ e, o = .er c fs e
  | .st => True
def rtO (fr : Bool) (x : D) : O := if fr then .rn x else .rt x
def emN {σ : Type} (E : σ → En) : σ → O → Prop := fun s o => o = .nx (E s)
def emF {ρ : Type} [Emb ρ] (fr : Bool) : ρ → O → Prop := fun r o => o = rtO fr (d r)
def emG {σ ρ : Type} [Emb ρ] (fr : Bool) (E : σ → En) : Ot σ ρ → O → Prop
  | .nx s, o => o = .nx (E s)
  | .bk s, o => o = .bk (E s)
  | .ct s, o => o = .ct (E s)
  | .rt r, o => o = rtO fr (d r)
def emL {σ ρ : Type} [Emb ρ] (fr : Bool) (E : σ → En) : Lt σ ρ → O → Prop
  | .nx s, o => o = .nx (E s)
  | .rt r, o => o = rtO fr (d r)
def emX {β : Type} (em : β → O → Prop) : β → O → Prop := fun b o => em b o ∧ ∀ e, o ≠ .nx e
theorem rtO_ne {fr : Bool} {x : D} {e : En} : rtO fr x ≠ .nx e := by cases fr <;> exact fun h => nomatch h
def Lt.f {σ ρ : Type} (k : σ → M ρ) : Lt σ ρ → M ρ
  | .nx s => k s
  | .rt r => .ok r
def Lt.g {σ τ ρ : Type} (k : σ → M (Ot τ ρ)) : Lt σ ρ → M (Ot τ ρ)
  | .nx s => k s
  | .rt r => .ok (.rt r)
section
variable {α β σ τ ρ : Type} [Emb α] [Emb ρ] {em : β → O → Prop} {o : O} {a b : SS} {env env' : En} {f : SE} {t : M α} {fr : Bool} {i : Nat}
theorem xX {t : M β} (h : RefO (emX em) o t) : RefO (emX (emX em)) o t := by
  cases t with
  | ok b => exact ⟨h, h.2⟩
  | er c fs => exact h
  | st => trivial
theorem xF {t : M ρ} (h : RefO (emF fr) o t) : RefO (emX (emF fr)) o t := by
  cases t with
  | ok b => exact ⟨h, fun e z => rtO_ne ((show o = rtO fr (d b) from h).symm.trans z)⟩
  | er c fs => exact h
  | st => trivial
theorem rs_seq {E : σ → En} {t1 : M σ} {k : σ → M β} (h1 : RefO (emN E) (a env) t1) (h2 : ∀ s, RefO em (b (E s)) (k s)) : RefO em (ssSeq a b env) (t1.bind k) := by
  cases t1 with
  | ok s =>
    show RefO em (match a env with | .nx e => b e | o => o) (k s)
    rw [show a env = .nx (E s) from h1]
    exact h2 s
  | er c fs =>
    obtain ⟨e, h⟩ := h1
    exact ⟨e, by unfold ssSeq; rw [h]⟩
  | st => trivial
theorem rs_pre {t : M β} (h : a env = .nx env') (h2 : RefO em (b env') t) : RefO em (ssSeq a b env) t := by
  show RefO em (match a env with | .nx e => b e | o => o) t
  rw [h]
  exact h2
theorem rs_next {E : σ → En} {s : σ} (h : env = E s := by rfl) : RefO (emN E) (ssNext env) (.ok s) := congrArg O.nx h
theorem rg_next {E : σ → En} {s : σ} (h : env = E s := by rfl) : RefO (emG (ρ := ρ) fr E) (ssNext env) (.ok (.nx s)) := congrArg O.nx h
theorem rx_brk {E : σ → En} {s : σ} (h : env = E s := by rfl) : RefO (emX (emG (ρ := ρ) fr E)) (ssBrk env) (.ok (.bk s)) := ⟨congrArg O.bk h, fun _ z => nomatch z⟩
theorem rx_cont {E : σ → En} {s : σ} (h : env = E s := by rfl) : RefO (emX (emG (ρ := ρ) fr E)) (ssCont env) (.ok (.ct s)) := ⟨congrArg O.ct h, fun _ z => nomatch z⟩
theorem un_x {t : M β} (h : RefO (emX em) o t) : RefO em o t := by
  cases t with
  | ok b => exact h.1
  | er c fs => exact h
  | st => trivial
theorem rs_ret {t : M ρ} (h : Ref (f env) t) : RefO (emF false) (ssRet f env) t := by
  cases t with
  | ok r => show bndS (f env) env _ = _; rw [show f env = .ok (d r) from h]; rfl
  | er c fs => exact ⟨env, by unfold ssRet; rw [show f env = .er c fs from h]; rfl⟩
  | st => trivial
theorem rs_retN {t : M ρ} (h : Ref (f env) t) : RefO (emF true) (ssRetN f env) t := by
  cases t with
  | ok r => show bndS (f env) env _ = _; rw [show f env = .ok (d r) from h]; rfl
  | er c fs => exact ⟨env, by unfold ssRetN; rw [show f env = .er c fs from h]; rfl⟩
  | st => trivial
theorem rs_retOw {r : ρ} (h : env[i]? = some (.ow (d r))) : RefO (emF true) (ssRetOw i env) (.ok r) := by
  show ssRetOw i env = _
  unfold ssRetOw; rw [h]; rfl
theorem rx_ret {E : σ → En} {t : M ρ} {g : SS} (h : RefO (emF fr) (g env) t) : RefO (emX (emG fr E)) (g env) (t.bind fun r => .ok (.rt r)) := by
  cases t with
  | ok r => exact ⟨h, fun e z => rtO_ne ((show _ = rtO fr (d r) from h).symm.trans z)⟩
  | er c fs => exact h
  | st => trivial
theorem rs_raise {c : Nat} : RefO em (ssRaise c env) (.er c []) := ⟨env, rfl⟩
theorem rs_expr {u : M α} (h : Ref (f env) u) : RefO (emN fun _ : Unit => env) (ssExpr f env) (u.bind fun _ => .ok ()) := by
  cases u with
  | ok r => show bndS (f env) env _ = _; rw [show f env = .ok (d r) from h]; rfl
  | er c fs => exact ⟨env, by unfold ssExpr; rw [show f env = .er c fs from h]; rfl⟩
  | st => trivial
theorem rs_asg {T : Tgt} {E : α → En} (h : Ref (f env) t) (hE : ∀ x, bindT T (d x) env = some (E x)) : RefO (emN E) (ssAsg T f env) t := by
  cases t with
  | ok r =>
    show bndS (f env) env _ = _
    rw [show f env = .ok (d r) from h]
    show (match bindT T (d r) env with | some e => O.nx e | none => .st) = _
    rw [hE r]
  | er c fs => exact ⟨env, by unfold ssAsg; rw [show f env = .er c fs from h]; rfl⟩
  | st => trivial
theorem rs_own {E : α → En} (h : Ref (f env) t) (hE : ∀ x, setSl env i (.ow (d x)) = some (E x)) : RefO (emN E) (ssOwn i f env) t := by
  cases t with
  | ok r =>
    show bndS (f env) env _ = _
    rw [show f env = .ok (d r) from h]
    show (match setSl env i (.ow (d r)) with | some e => O.nx e | none => .st) = _
    rw [hE r]
  | er c fs => exact ⟨env, by unfold ssOwn; rw [show f env = .er c fs from h]; rfl⟩
  | st => trivial
theorem rs_app {E : List α → En} {l : List α} (hx : env[i]? = some (.ow (d l))) (h : Ref (f env) t) (hE : ∀ l', env.set i (.ow (d l')) = E l') : RefO (emN E) (ssApp i f env) (t.bind fun x => gd (l.length < 16777216) (.ok (l ++ [x]))) := by
  have e : ssApp i f env = bndS (f env) env fun x => if (l.map d).length < PySem.sizeLine then .nx (env.set i (.ow (.lst (l.map d ++ [x])))) else .st := by unfold ssApp; rw [hx]; rfl
  cases t with
  | ok r =>
    show RefO _ _ (gd _ _)
    unfold gd
    split
    · rename_i hl
      show ssApp i f env = _
      rw [e, show f env = .ok (d r) from h]
      show (if _ then _ else _) = _
      rw [if_pos (by rw [PySem.sizeLine_eq, List.length_map]; exact hl), ← hE]
      show O.nx _ = O.nx _
      rw [d_lst, List.map_append]; rfl
    · trivial
  | er c fs => exact ⟨env, by rw [e, show f env = .er c fs from h]; rfl⟩
  | st => trivial
theorem rs_putD {κ : Type} [Dc κ] {fk fv : SE} {E : Dct κ α → En} {m : Dct κ α} {tk : M κ} (hx : env[i]? = some (.ow (d m))) (hv : Ref (fv env) t) (hk : Ref (fk env) tk) (hE : ∀ m', env.set i (.ow (d m')) = E m') :
    RefO (emN E) (ssPut i fk fv env) (t.bind fun v => tk.bind fun k => gd (m.l.length < 16777216) (.ok (m.put k v))) := by
  cases t with
  | er c fs => exact ⟨env, by unfold ssPut; rw [show fv env = .er c fs from hv]; rfl⟩
  | st => trivial
  | ok v =>
    have e : ssPut i fk fv env = bndS (fk env) env fun k => (match dPut (d m) k (d v) with | some z => .nx (env.set i (.ow z)) | none => .st) := by
      unfold ssPut; rw [show fv env = .ok (d v) from hv, hx]; rfl
    cases tk with
    | er c fs => exact ⟨env, by rw [e, show fk env = .er c fs from hk]; rfl⟩
    | st => trivial
    | ok k =>
      show RefO _ _ (gd _ _)
      unfold gd
      split
      · rename_i hl
        show ssPut i fk fv env = _
        rw [e, show fk env = .ok (d k) from hk]
        show (match dPut (Dc.mkD (m.l.map fun p => (Dc.k p.1, d p.2))) (d k) (d v) with | some z => O.nx (env.set i (.ow z)) | none => .st) = _
        rw [Dc.put, if_pos (by rw [PySem.sizeLine_eq, List.length_map]; exact hl), put_put]
        exact congrArg O.nx (hE (m.put k v))
      · trivial
theorem rs_putL {fk fv : SE} {E : List α → En} {l : List α} {tk : M Int} (hx : env[i]? = some (.ow (d l))) (hv : Ref (fv env) t) (hk : Ref (fk env) tk) (hE : ∀ m', env.set i (.ow (d m')) = E m') :
    RefO (emN E) (ssPut i fk fv env) (t.bind fun v => tk.bind fun k => oM ((L2.ixN l.length k).map fun j => l.set j v)) := by
  cases t with
  | er c fs => exact ⟨env, by unfold ssPut; rw [show fv env = .er c fs from hv]; rfl⟩
  | st => trivial
  | ok v =>
    have e : ssPut i fk fv env = bndS (fk env) env fun k => (match dPut (d l) k (d v) with | some z => .nx (env.set i (.ow z)) | none => .st) := by
      unfold ssPut; rw [show fv env = .ok (d v) from hv, hx]; rfl
    cases tk with
    | er c fs => exact ⟨env, by rw [e, show fk env = .er c fs from hk]; rfl⟩
    | st => trivial
    | ok k =>
      have e2 : dPut (d l) (d k) (d v) = (L2.ixN l.length k).map fun j => d (l.set j v) := by
        show ((L2.ixN (l.map d).length k).map fun j => D.lst ((l.map d).set j (d v))) = _
        rw [List.length_map]
        congr 1; funext j
        rw [← List.map_set]; rfl
      show RefO _ _ (oM _)
      cases q : L2.ixN l.length k with
      | none => trivial
      | some j =>
        show ssPut i fk fv env = _
        rw [e, show fk env = .ok (d k) from hk]
        show (match dPut (d l) (d k) (d v) with | some z => O.nx (env.set i (.ow z)) | none => .st) = _
        rw [e2, q]
        exact congrArg O.nx (hE (l.set j v))
theorem rs_if {tc : M Bool} {ta tb : M β} (hc : Ref (f env) tc) (ha : RefO em (a env) ta) (hb : RefO em (b env) tb) : RefO em (ssIf f a b env) (tc.bind fun c => if c then ta else tb) := by
  cases tc with
  | ok c =>
    show RefO em (bndS (f env) env _) _
    rw [show f env = .ok (.bl c) from hc]
    cases c with
    | true => exact ha
    | false => exact hb
  | er c fs => exact ⟨env, by unfold ssIf; rw [show f env = .er c fs from hc]; rfl⟩
  | st => trivial
theorem rs_ifx {tc : M Bool} {ta tb : M β} {g : SS} (hc : Ref (f env) tc) (ha : RefO (emX em) (a env) ta) (hb : RefO em (ssSeq b g env) tb) : RefO em (ssSeq (ssIf f a b) g env) (tc.bind fun c => if c then ta else tb) := by
  cases tc with
  | ok c =>
    have e : ssIf f a b env = if c then a env else b env := by
      unfold ssIf; rw [show f env = .ok (.bl c) from hc]; cases c <;> rfl
    cases c with
    | true =>
      show RefO em (ssSeq (ssIf f a b) g env) ta
      have e2 : ssIf f a b env = a env := e
      cases ta with
      | ok x =>
        show em x (ssSeq (ssIf f a b) g env)
        have : ssSeq (ssIf f a b) g env = a env := by
          unfold ssSeq
          rw [e2]
          have := ha.2
          cases q : a env <;> first | rfl | exact absurd q (this _)
        rw [this]; exact ha.1
      | er c fs => obtain ⟨x, hx⟩ := ha; exact ⟨x, by unfold ssSeq; rw [e2, hx]⟩
      | st => trivial
    | false =>
      show RefO em (ssSeq (ssIf f a b) g env) tb
      have : ssSeq (ssIf f a b) g env = ssSeq b g env := by unfold ssSeq; rw [show ssIf f a b env = b env from e]
      rw [this]; exact hb
  | er c fs => exact ⟨env, by unfold ssSeq ssIf; rw [show f env = .er c fs from hc]; rfl⟩
  | st => trivial
theorem rs_skip {t : M β} (h : RefO em (b env) t) : RefO em (ssSeq ssNext b env) t := h
/-- loops -/
def foldT (tb : σ → α → M σ) : List α → σ → M σ
  | [], s => .ok s
  | a :: l, s => (tb s a).bind fun s => foldT tb l s
def forT (tb : σ → α → M (Ot σ ρ)) : List α → σ → M (Lt σ ρ)
  | [], s => .ok (.nx s)
  | a :: l, s => (tb s a).bind fun x => match x with
    | .nx s => forT tb l s
    | .ct s => forT tb l s
    | .bk s => .ok (.nx s)
    | .rt r => .ok (.rt r)
theorem loop_fold {T : Tgt} {body : SS} {E : σ → En} {E' : σ → α → En} {tb : σ → α → M σ} (hb : ∀ s x, bindT T (d x) (E s) = some (E' s x)) (hbody : ∀ s x, RefO (emN E) (body (E' s x)) (tb s x)) : ∀ (l : List α) (s : σ), RefO (emN E) (loopF T body (l.map d) (E s)) (foldT tb l s)
  | [], s => rfl
  | x :: l, s => by
    show RefO _ (match bindT T (d x) (E s) with | none => O.st | some e => stepL (body e) (loopF T body (l.map d))) _
    rw [hb s x]
    have h := hbody s x
    show RefO _ (stepL (body (E' s x)) _) ((tb s x).bind _)
    cases q : tb s x with
    | ok s' =>
      rw [q] at h
      rw [show body (E' s x) = .nx (E s') from h]
      exact loop_fold hb hbody l s'
    | er c fs =>
      rw [q] at h
      obtain ⟨e, h⟩ := h
      exact ⟨e, by rw [h]; rfl⟩
    | st => trivial
theorem loop_for {T : Tgt} {body : SS} {E : σ → En} {E' : σ → α → En} {tb : σ → α → M (Ot σ ρ)} (hb : ∀ s x, bindT T (d x) (E s) = some (E' s x)) (hbody : ∀ s x, RefO (emG fr E) (body (E' s x)) (tb s x)) : ∀ (l : List α) (s : σ), RefO (emL fr E) (loopF T body (l.map d) (E s)) (forT tb l s)
  | [], s => rfl
  | x :: l, s => by
    show RefO _ (match bindT T (d x) (E s) with | none => O.st | some e => stepL (body e) (loopF T body (l.map d))) _
    rw [hb s x]
    have h := hbody s x
    show RefO _ (stepL (body (E' s x)) _) ((tb s x).bind _)
    cases q : tb s x with
    | ok y =>
      rw [q] at h
      cases y with
      | nx s' => rw [show body (E' s x) = .nx (E s') from h]; exact loop_for hb hbody l s'
      | ct s' => rw [show body (E' s x) = .ct (E s') from h]; exact loop_for hb hbody l s'
      | bk s' => rw [show body (E' s x) = .bk (E s') from h]; rfl
      | rt r =>
        rw [show body (E' s x) = rtO fr (d r) from h]
        show stepL (rtO fr (d r)) _ = rtO fr (d r)
        cases fr <;> rfl
    | er c fs =>
      rw [q] at h
      obtain ⟨e, h⟩ := h
      exact ⟨e, by rw [h]; rfl⟩
    | st => trivial
theorem rs_for {T : Tgt} {it : SE} {body : SS} {E : σ → En} {E' : σ → α → En} {tx : M (List α)} {tb : σ → α → M σ} (s0 : σ) (h0 : env = E s0) (hi : Ref (it env) tx) (hb : ∀ s x, bindT T (d x) (E s) = some (E' s x)) (hbody : ∀ s x, RefO (emN E) (body (E' s x)) (tb s x)) :
    RefO (emN E) (ssFor T it body env) (tx.bind fun l => foldT tb l s0) := by
  cases tx with
  | ok l =>
    show RefO _ (bndS (it env) env _) _
    rw [show it env = .ok (d l) from hi, h0]
    exact loop_fold hb hbody l s0
  | er c fs => exact ⟨env, by unfold ssFor; rw [show it env = .er c fs from hi]; rfl⟩
  | st => trivial
theorem rl_for {T : Tgt} {it : SE} {body : SS} {E : σ → En} {E' : σ → α → En} {tx : M (List α)} {tb : σ → α → M (Ot σ ρ)} (s0 : σ) (h0 : env = E s0) (hi : Ref (it env) tx) (hb : ∀ s x, bindT T (d x) (E s) = some (E' s x)) (hbody : ∀ s x, RefO (emG fr E) (body (E' s x)) (tb s x)) :
    RefO (emL fr E) (ssFor T it body env) (tx.bind fun l => forT tb l s0) := by
  cases tx with
  | ok l =>
    show RefO _ (bndS (it env) env _) _
    rw [show it env = .ok (d l) from hi, h0]
    exact loop_for hb hbody l s0
  | er c fs => exact ⟨env, by unfold ssFor; rw [show it env = .er c fs from hi]; rfl⟩
  | st => trivial
def whlT (tc : σ → M Bool) (tb : σ → M σ) : Nat → σ → M σ
  | 0, _ => .st
  | n + 1, s => (tc s).bind fun c => if c then (tb s).bind fun s => whlT tc tb n s else .ok s
def whileT (tc : σ → M Bool) (tb : σ → M (Ot σ ρ)) : Nat → σ → M (Lt σ ρ)
  | 0, _ => .st
  | n + 1, s => (tc s).bind fun c => if c then (tb s).bind fun x => (match x with
    | .nx s => whileT tc tb n s
    | .ct s => whileT tc tb n s
    | .bk s => .ok (.nx s)
    | .rt r => .ok (.rt r)) else .ok (.nx s)
theorem rs_whl {c : SE} {body : SS} {E : σ → En} {tc : σ → M Bool} {tb : σ → M σ} (hc : ∀ s, Ref (c (E s)) (tc s)) (hbody : ∀ s, RefO (emN E) (body (E s)) (tb s)) : ∀ (n : Nat) (s0 : σ), RefO (emN E) (ssWhile n c body (E s0)) (whlT tc tb n s0)
  | 0, _ => trivial
  | n + 1, s => by
    have h1 := hc s
    show RefO _ (bndS (c (E s)) (E s) _) ((tc s).bind _)
    cases q : tc s with
    | er x fs => rw [q] at h1; exact ⟨_, by rw [show c (E s) = .er x fs from h1]; rfl⟩
    | st => trivial
    | ok x =>
      rw [q] at h1
      rw [show c (E s) = .ok (.bl x) from h1]
      cases x with
      | false => rfl
      | true =>
        have h := hbody s
        show RefO _ (stepL (body (E s)) (whileN c body n)) ((tb s).bind _)
        cases q : tb s with
        | ok s' =>
          rw [q] at h
          rw [show body (E s) = .nx (E s') from h]
          exact rs_whl hc hbody n s'
        | er c fs =>
          rw [q] at h
          obtain ⟨e, h⟩ := h
          exact ⟨e, by rw [h]; rfl⟩
        | st => trivial
theorem rl_whl {c : SE} {body : SS} {E : σ → En} {tc : σ → M Bool} {tb : σ → M (Ot σ ρ)} (hc : ∀ s, Ref (c (E s)) (tc s)) (hbody : ∀ s, RefO (emG fr E) (body (E s)) (tb s)) : ∀ (n : Nat) (s0 : σ), RefO (emL fr E) (ssWhile n c body (E s0)) (whileT tc tb n s0)
  | 0, _ => trivial
  | n + 1, s => by
    have h1 := hc s
    show RefO _ (bndS (c (E s)) (E s) _) ((tc s).bind _)
    cases q : tc s with
    | er x fs => rw [q] at h1; exact ⟨_, by rw [show c (E s) = .er x fs from h1]; rfl⟩
    | st => trivial
    | ok x =>
      rw [q] at h1
      rw [show c (E s) = .ok (.bl x) from h1]
      cases x with
      | false => rfl
      | true =>
        have h := hbody s
        show RefO _ (stepL (body (E s)) (whileN c body n)) ((tb s).bind _)
        cases q : tb s with
        | ok y =>
          rw [q] at h
          cases y with
          | nx s' => rw [show body (E s) = .nx (E s') from h]; exact rl_whl hc hbody n s'
          | ct s' => rw [show body (E s) = .ct (E s') from h]; exact rl_whl hc hbody n s'
          | bk s' => rw [show body (E s) = .bk (E s') from h]; rfl
          | rt r =>
            rw [show body (E s) = rtO fr (d r) from h]
            show stepL (rtO fr (d r)) _ = rtO fr (d r)
            cases fr <;> rfl
        | er c fs =>
          rw [q] at h
          obtain ⟨e, h⟩ := h
          exact ⟨e, by rw [h]; rfl⟩
        | st => trivial
theorem rs_seqF {E : σ → En} {t1 : M (Lt σ ρ)} {k : σ → M ρ} (h1 : RefO (emL fr E) (a env) t1) (h2 : ∀ s, RefO (emF fr) (b (E s)) (k s)) : RefO (emF fr) (ssSeq a b env) (t1.bind fun x => x.f k) := by
  cases t1 with
  | ok x =>
    cases x with
    | nx s =>
      show RefO _ (match a env with | .nx e => b e | o => o) (k s)
      rw [show a env = .nx (E s) from h1]
      exact h2 s
    | rt r =>
      show (match a env with | .nx e => b e | o => o) = rtO fr (d r)
      rw [show a env = rtO fr (d r) from h1]
      cases fr <;> rfl
  | er c fs =>
    obtain ⟨e, h⟩ := h1
    exact ⟨e, by unfold ssSeq; rw [h]⟩
  | st => trivial
theorem rs_seqG {E : σ → En} {E2 : τ → En} {t1 : M (Lt σ ρ)} {k : σ → M (Ot τ ρ)} (h1 : RefO (emL fr E) (a env) t1) (h2 : ∀ s, RefO (emG fr E2) (b (E s)) (k s)) : RefO (emG fr E2) (ssSeq a b env) (t1.bind fun x => x.g k) := by
  cases t1 with
  | ok x =>
    cases x with
    | nx s =>
      show RefO _ (match a env with | .nx e => b e | o => o) (k s)
      rw [show a env = .nx (E s) from h1]
      exact h2 s
    | rt r =>
      show (match a env with | .nx e => b e | o => o) = rtO fr (d r)
      rw [show a env = rtO fr (d r) from h1]
      cases fr <;> rfl
  | er c fs =>
    obtain ⟨e, h⟩ := h1
    exact ⟨e, by unfold ssSeq; rw [h]⟩
  | st => trivial
theorem rs_seqX {E : σ → En} {E2 : τ → En} {t1 : M (Lt σ ρ)} {k : σ → M (Ot τ ρ)} (h1 : RefO (emL fr E) (a env) t1) (h2 : ∀ s, RefO (emX (emG fr E2)) (b (E s)) (k s)) : RefO (emX (emG fr E2)) (ssSeq a b env) (t1.bind fun x => x.g k) := by
  cases t1 with
  | ok x =>
    cases x with
    | nx s =>
      show RefO _ (match a env with | .nx e => b e | o => o) (k s)
      rw [show a env = .nx (E s) from h1]
      exact h2 s
    | rt r =>
      have e : (match a env with | .nx e => b e | o => o) = rtO fr (d r) := by
        rw [show a env = rtO fr (d r) from h1]
        cases fr <;> rfl
      exact ⟨e, fun e2 z => rtO_ne (e.symm.trans z)⟩
  | er c fs =>
    obtain ⟨e, h⟩ := h1
    exact ⟨e, by unfold ssSeq; rw [h]⟩
  | st => trivial
/-- the whole def -/
theorem rf_run {n : Nat} {ms : List Bool} {body : SS} {ds : List D} {t : M ρ} (h : RefO (emF fr) (body (env0 n ms ds)) t) : Ref (runF n ms fr body ds) t := by
  show Ref (runR (body (env0 n ms ds)) fr) t
  cases t with
  | ok r => rw [show body _ = rtO fr (d r) from h]; cases fr <;> rfl
  | er c fs => obtain ⟨e, h⟩ := h; rw [h]; rfl
  | st => trivial
/-- .. that ends without a return -/
theorem rf_runU {n : Nat} {ms : List Bool} {body : SS} {ds : List D} {E : σ → En} {t : M (Lt σ Unit)} (h : RefO (emL false E) (body (env0 n ms ds)) t) : Ref (runF n ms false body ds) (t.bind fun _ => .ok ()) := by
  show Ref (runR (body (env0 n ms ds)) false) _
  cases t with
  | ok r =>
    cases r with
    | nx s => rw [show body _ = .nx (E s) from h]; rfl
    | rt r => rw [show body _ = rtO false (d r) from h]; rfl
  | er c fs => obtain ⟨e, h⟩ := h; rw [h]; rfl
  | st => trivial
theorem rf_runV {n : Nat} {ms : List Bool} {body : SS} {ds : List D} {E : σ → En} {t : M σ} (h : RefO (emN E) (body (env0 n ms ds)) t) : Ref (runF n ms false body ds) (t.bind fun _ => .ok ()) := by
  show Ref (runR (body (env0 n ms ds)) false) _
  cases t with
  | ok s => rw [show body _ = .nx (E s) from h]; rfl
  | er c fs => obtain ⟨e, h⟩ := h; rw [h]; rfl
  | st => trivial
/-- an __init__ -/
theorem ri_run {n c : Nat} {ms : List Bool} {body : SS} {ds : List D} {E : σ → En} {t : M σ} {k : σ → ρ} {fs : σ → List (PySem.Str × D)} (h : RefO (emN E) (body (envI n c ms ds)) t) (hE : ∀ s, runI c (.nx (E s)) = .ok (fs s)) (hd : ∀ s, d (k s) = .obj c (fs s)) : RefI c (runInit n c ms body ds) (t.bind fun s => .ok (k s)) := by
  cases t with
  | ok s => exact ⟨fs s, by show runI c (body _) = _; rw [show body _ = .nx (E s) from h]; exact hE s, hd s⟩
  | er c fs => trivial
  | st => trivial
theorem rs_fld {c : Nat} {n : PySem.Str} {fs : List (PySem.Str × D)} {gs : List (PySem.Str × Nat)} {E : α → En} (h0 : env[i]? = some (.oo c fs gs)) (hn : n ∈ clsF c) (hg : noG n gs = true) (hf : hasF n fs = false) (hl : fs.length + gs.length < 800) (h : Ref (f env) t) (hE : ∀ x, env.set i (.oo c (fs ++ [(n, d x)]) gs) = E x) : RefO (emN E) (ssFld c i n f env) t := by
  have e : ssFld c i n f env = bndS (f env) env fun x => .nx (env.set i (.oo c (fs ++ [(n, x)]) gs)) := by
    unfold ssFld; rw [h0]; exact if_pos ⟨rfl, hn, hg, hf, hl⟩
  cases t with
  | ok r =>
    show ssFld c i n f env = _
    rw [e, show f env = .ok (d r) from h]
    exact congrArg O.nx (hE r)
  | er x fs => exact ⟨env, by rw [e, show f env = .er x fs from h]; rfl⟩
  | st => trivial
theorem rs_fldG {c g : Nat} {n : PySem.Str} {fs : List (PySem.Str × D)} {gs : List (PySem.Str × Nat)} {E : α → En} (h0 : env[i]? = some (.oo c fs gs)) (h1 : env[g]? = some .no) (hn : n ∈ clsF c) (hg : noG n gs = true) (hf : hasF n fs = false) (hl : fs.length + gs.length < 800) (h : Ref (f env) t) (hE : ∀ x, (env.set i (.oo c fs ((n, g) :: gs))).set g (.gh (d x)) = E x) : RefO (emN E) (ssFldG c i n g f env) t := by
  have e : ssFldG c i n g f env = bndS (f env) env fun x => .nx ((env.set i (.oo c fs ((n, g) :: gs))).set g (.gh x)) := by
    unfold ssFldG; rw [h0, h1]; exact if_pos ⟨rfl, hn, hg, hf, hl⟩
  cases t with
  | ok r =>
    show ssFldG c i n g f env = _
    rw [e, show f env = .ok (d r) from h]
    exact congrArg O.nx (hE r)
  | er x fs => exact ⟨env, by rw [e, show f env = .er x fs from h]; rfl⟩
  | st => trivial
theorem rs_putG {κ : Type} [Dc κ] {c g : Nat} {n : PySem.Str} {fk fv : SE} {fs : List (PySem.Str × D)} {gs : List (PySem.Str × Nat)} {E : Dct κ α → En} {m : Dct κ α} {tk : M κ} (h0 : env[i]? = some (.oo c fs gs)) (h1 : env[g]? = some (.gh (d m))) (hg : (n, g) ∈ gs) (hv : Ref (fv env) t) (hk : Ref (fk env) tk) (hE : ∀ m', env.set g (.gh (d m')) = E m') :
    RefO (emN E) (ssPutG c i n g fk fv env) (t.bind fun v => tk.bind fun k => gd (m.l.length < 16777216) (.ok (m.put k v))) := by
  cases t with
  | er x fs => exact ⟨env, by unfold ssPutG; rw [show fv env = .er x fs from hv]; rfl⟩
  | st => trivial
  | ok v =>
    have e : ssPutG c i n g fk fv env = bndS (fk env) env fun k => (match dPut (d m) k (d v) with | some z => .nx (env.set g (.gh z)) | none => .st) := by
      unfold ssPutG; rw [show fv env = .ok (d v) from hv, h0, h1]; exact if_pos ⟨rfl, hg⟩
    cases tk with
    | er x fs => exact ⟨env, by rw [e, show fk env = .er x fs from hk]; rfl⟩
    | st => trivial
    | ok k =>
      show RefO _ _ (gd _ _)
      unfold gd
      split
      · rename_i hl
        show ssPutG c i n g fk fv env = _
        rw [e, show fk env = .ok (d k) from hk]
        show (match dPut (Dc.mkD (m.l.map fun p => (Dc.k p.1, d p.2))) (d k) (d v) with | some z => O.nx (env.set g (.gh z)) | none => .st) = _
        rw [Dc.put, if_pos (by rw [PySem.sizeLine_eq, List.length_map]; exact hl), put_put]
        exact congrArg O.nx (hE (m.put k v))
      · trivial
/-- try -/
def RefY (env : En) (em : β → O → Prop) (o : O) (t : M β) : Prop := match t with
  | .ok b => em b o ∧ ∀ c fs e, o ≠ .er c fs e
  | .er c fs => o = .er c fs env
  | .st => True
def tryT (cat : Nat → Option Bool) (tb : M β) (tg : Exc → M β) : M β := match tb with
  | .er c fs => (match cat c with
    | some true => mkM (tg ⟨c, fs⟩)
    | some false => .er c fs
    | none => .st)
  | .ok b => .ok b
  | .st => .st
theorem ry_asg {T : Tgt} {E : α → En} (h : Ref (f env) t) (hE : ∀ x, bindT T (d x) env = some (E x)) : RefY env (emN E) (ssSeq (ssAsg T f) ssNext env) t := by
  cases t with
  | ok r =>
    have e : ssSeq (ssAsg T f) ssNext env = .nx (E r) := by
      unfold ssSeq ssAsg
      rw [show f env = .ok (d r) from h]
      show (match (match bindT T (d r) env with | some e => O.nx e | none => .st) with | .nx e => ssNext e | o => o) = _
      rw [hE r]; rfl
    exact ⟨e, fun _ _ _ z => by rw [e] at z; cases z⟩
  | er c fs => show _ = _; unfold ssSeq ssAsg; rw [show f env = .er c fs from h]; rfl
  | st => trivial
theorem ry_expr {u : M α} (h : Ref (f env) u) : RefY env (emN fun _ : Unit => env) (ssSeq (ssExpr f) ssNext env) (u.bind fun _ => .ok ()) := by
  cases u with
  | ok r =>
    have e : ssSeq (ssExpr f) ssNext env = .nx env := by
      unfold ssSeq ssExpr
      rw [show f env = .ok (d r) from h]; rfl
    exact ⟨e, fun _ _ _ z => by rw [e] at z; cases z⟩
  | er c fs => show _ = _; unfold ssSeq ssExpr; rw [show f env = .er c fs from h]; rfl
  | st => trivial
theorem ry_exprU {E : σ → En} {s : σ} (h : Ref (f env) t) (hE : env = E s) : RefY env (emN E) (ssSeq (ssExpr f) ssNext env) (t.bind fun _ => .ok s) := by
  cases t with
  | ok r =>
    have e : ssSeq (ssExpr f) ssNext env = .nx (E s) := by
      unfold ssSeq ssExpr
      rw [show f env = .ok (d r) from h, ← hE]; rfl
    exact ⟨e, fun _ _ _ z => by rw [e] at z; cases z⟩
  | er c fs => show _ = _; unfold ssSeq ssExpr; rw [show f env = .er c fs from h]; rfl
  | st => trivial
theorem ry_if {tc : M Bool} {ta tb : M β} (hc : Ref (f env) tc) (ha : RefY env em (a env) ta) (hb : RefY env em (b env) tb) : RefY env em (ssSeq (ssIf f a b) ssNext env) (tc.bind fun c => if c then ta else tb) := by
  have e : ssSeq (ssIf f a b) ssNext env = ssIf f a b env := by unfold ssSeq ssNext; cases ssIf f a b env <;> rfl
  rw [e]
  cases tc with
  | ok c =>
    have e2 : ssIf f a b env = if c then a env else b env := by
      unfold ssIf; rw [show f env = .ok (.bl c) from hc]; cases c <;> rfl
    rw [e2]
    cases c with
    | true => exact ha
    | false => exact hb
  | er c fs => show _ = _; unfold ssIf; rw [show f env = .er c fs from hc]; rfl
  | st => trivial
theorem rs_try {cat : Nat → Option Bool} {E Eg : σ → En} {Eh : Exc → En} {tb : M σ} {tg : Exc → M σ} (hb : RefY env (emN E) (a env) tb) (hset : ∀ x : Exc, setSl env i (.sh (d x)) = some (Eh x)) (hg : ∀ x, RefO (emN Eg) (b (Eh x)) (tg x)) (hw : ∀ s, setSl (Eg s) i .no = some (E s)) : RefO (emN E) (ssTry cat i a b env) (tryT cat tb tg) := by
  cases tb with
  | ok s =>
    show ssTry cat i a b env = _
    unfold ssTry
    rw [show a env = .nx (E s) from hb.1]
  | st => trivial
  | er c fs =>
    have e : ssTry cat i a b env = (match cat c with | some true => wipeO i (b (Eh ⟨c, fs⟩)) | some false => .er c fs env | none => .st) := by
      unfold ssTry
      rw [show a env = .er c fs env from hb]
      have hs := hset ⟨c, fs⟩
      show (match cat c with | some true => (match setSl env i (.sh (d (⟨c, fs⟩ : Exc))) with | some e1 => wipeO i (b e1) | none => .st) | some false => .er c fs env | none => .st) = _
      rw [hs]
    show RefO _ _ (match cat c with | some true => mkM (tg ⟨c, fs⟩) | some false => .er c fs | none => .st)
    cases q : cat c with
    | none => trivial
    | some x =>
      rw [q] at e
      cases x with
      | false => exact ⟨env, e⟩
      | true =>
        have h := hg ⟨c, fs⟩
        cases q2 : tg ⟨c, fs⟩ with
        | st => trivial
        | er _ _ => trivial
        | ok s =>
          rw [q2] at h
          show ssTry cat i a b env = _
          rw [e, show b (Eh ⟨c, fs⟩) = .nx (Eg s) from h]
          show (match setSl (Eg s) i .no with | some e' => O.nx e' | none => .st) = _
          rw [hw s]
end
end Tm

namespace Tm
open Ps
open Emb (d)

/-! ### named operations -/
def addS (a b : Tx) : M Tx := gd (a.length + b.length ≤ 16777216) (.ok (a ++ b))
def addL {α : Type} (a b : List α) : M (List α) := gd (a.length + b.length ≤ 16777216) (.ok (a ++ b))
def mulI (a b : Int) : M Int := gd ((-(2 ^ 64) < a ∧ a < 2 ^ 64) ∨ (-(2 ^ 64) < b ∧ b < 2 ^ 64)) (.ok (a * b))
def divI (a b : Int) : M Int := gd (0 < b ∧ b < 1073741824) (.ok (a / b))
def modI (a b : Int) : M Int := gd (0 < b) (.ok (a % b))
def powI (a b : Int) : M Int := gd (0 ≤ b ∧ b ≤ 1000000 ∧ a.natAbs < 2 ^ 64) (.ok (a ^ b.toNat))
def ixL {α : Type} (l : List α) (i : Int) : M α := oM (L2.atI l i)
def ixS (x : Tx) (i : Int) : M Tx := gd (x.length ≤ 16777216) (oM ((L2.atI x i).map sg))
def ixD {κ α : Type} [Dc κ] (m : Dct κ α) (k : κ) : M α := oM (m.get? k)
def slS (x : Tx) (lo hi : Option Int) : M Tx := gd (x.length ≤ 16777216) (.ok (cut x lo hi))
def lenS (x : Tx) : M Int := gd (x.length ≤ 16777216) (.ok (x.length : Int))
def joinS (s : Tx) (l : List Tx) : M Tx := gd ((l.map List.length).sum + l.length * s.length ≤ 16777216) (.ok (joinT s l))
def sortL (l : List Tx) : M (List Tx) := gd (l.length < 64) (.ok (srtT l))
def sortD {α : Type} (m : Dct Tx α) : M (List Tx) := gd (m.l.length < 64) (.ok (srtT m.keys))
def rgM (n : Int) : M (List Int) := gd (inR62 n) (.ok (rgT n))
def rg2M (n m : Int) : M (List Int) := gd (inR62 n ∧ inR62 m) (.ok (rg2T n m))
def rgL (n : Int) : M (List Int) := gd (0 ≤ n ∧ n ≤ 16777216) (.ok (rgT n))
def compM {α β : Type} (k : α → M β) (l : List α) : M (List β) := gd (l.length < 16777216) (mapT k l)
def fcompM {α β : Type} (p : α → M Bool) (k : α → M β) (l : List α) : M (List β) := gd (l.length < 16777216) (fmapT p k l)
def appM {α : Type} (l : List α) (x : α) : M (List α) := gd (l.length < 16777216) (.ok (l ++ [x]))
def putM {κ α : Type} [Dc κ] (m : Dct κ α) (k : κ) (v : α) : M (Dct κ α) := gd (m.l.length < 16777216) (.ok (m.put k v))
def putL {α : Type} (l : List α) (k : Int) (v : α) : M (List α) := oM ((L2.ixN l.length k).map fun j => l.set j v)
theorem addS_ok {a b : Tx} (h : a.length + b.length ≤ 16777216) : addS a b = .ok (a ++ b) := gd_ok h
theorem addL_ok {α : Type} {a b : List α} (h : a.length + b.length ≤ 16777216) : addL a b = .ok (a ++ b) := gd_ok h
theorem mulI_ok {a b : Int} (h : (-(2 ^ 64) < a ∧ a < 2 ^ 64) ∨ (-(2 ^ 64) < b ∧ b < 2 ^ 64)) : mulI a b = .ok (a * b) := gd_ok h
theorem divI_ok {a b : Int} (h : 0 < b ∧ b < 1073741824) : divI a b = .ok (a / b) := gd_ok h
theorem modI_ok {a b : Int} (h : 0 < b) : modI a b = .ok (a % b) := gd_ok h
theorem powI_ok {a b : Int} (h : 0 ≤ b ∧ b ≤ 1000000 ∧ a.natAbs < 2 ^ 64) : powI a b = .ok (a ^ b.toNat) := gd_ok h
theorem slS_ok {x : Tx} {lo hi : Option Int} (h : x.length ≤ 16777216) : slS x lo hi = .ok (cut x lo hi) := gd_ok h
theorem lenS_ok {x : Tx} (h : x.length ≤ 16777216) : lenS x = .ok (x.length : Int) := gd_ok h
theorem joinS_ok {s : Tx} {l : List Tx} (h : (l.map List.length).sum + l.length * s.length ≤ 16777216) : joinS s l = .ok (joinT s l) := gd_ok h
theorem sortL_ok {l : List Tx} (h : l.length < 64) : sortL l = .ok (srtT l) := gd_ok h
theorem sortD_ok {α : Type} {m : Dct Tx α} (h : m.l.length < 64) : sortD m = .ok (srtT m.keys) := gd_ok h
theorem rgM_ok {n : Int} (h : -1000000 ≤ n ∧ n ≤ 100000000) : rgM n = .ok (rgT n) := gd_ok ⟨by omega, by omega⟩
theorem rg2M_ok {n m : Int} (h : -1000000 ≤ n ∧ n ≤ 100000000 ∧ -1000000 ≤ m ∧ m ≤ 100000000) : rg2M n m = .ok (rg2T n m) := gd_ok ⟨⟨by omega, by omega⟩, by omega, by omega⟩
theorem rgL_ok {n : Int} (h : 0 ≤ n ∧ n ≤ 16777216) : rgL n = .ok (rgT n) := gd_ok h
theorem appM_ok {α : Type} {l : List α} {x : α} (h : l.length < 16777216) : appM l x = .ok (l ++ [x]) := gd_ok h
theorem putM_ok {κ α : Type} [Dc κ] {m : Dct κ α} {k : κ} {v : α} (h : m.l.length < 16777216) : putM m k v = .ok (m.put k v) := gd_ok h
theorem compM_ok {α β : Type} {k : α → M β} {l : List α} (h : l.length < 16777216) : compM k l = mapT k l := gd_ok h
theorem fcompM_ok {α β : Type} {p : α → M Bool} {k : α → M β} {l : List α} (h : l.length < 16777216) : fcompM p k l = fmapT p k l := gd_ok h
theorem ixL_nat {α : Type} {l : List α} {i : Nat} (h : i < l.length) : ixL l (i : Int) = .ok l[i] := by
  unfold ixL L2.atI L2.ixN
  rw [if_pos (by omega), if_pos (by omega)]
  simp [h]
theorem ixL_ok {α : Type} {l : List α} {i : Int} (h0 : 0 ≤ i) (h1 : i < l.length) : ixL l i = .ok (l[i.toNat]'(by omega)) := by
  unfold ixL L2.atI L2.ixN
  rw [if_pos h0, if_pos h1]
  have : i.toNat < l.length := by omega
  simp [this]
theorem ixS_ok {x : Tx} {i : Int} (h0 : 0 ≤ i) (h1 : i < x.length) (h2 : x.length ≤ 16777216) : ixS x i = .ok [x[i.toNat]'(by omega)] := by
  unfold ixS gd L2.atI L2.ixN
  rw [if_pos h2, if_pos h0, if_pos h1]
  have : i.toNat < x.length := by omega
  simp [this, sg]
@[simp] theorem mapT_pure {α β : Type} (k : α → β) : ∀ l : List α, mapT (fun a => M.ok (k a)) l = .ok (l.map k)
  | [] => rfl
  | a :: l => by unfold mapT; rw [mapT_pure k l]; rfl
theorem mapT_ok {α β : Type} {k : α → M β} {g : α → β} : ∀ {l : List α}, (∀ a ∈ l, k a = .ok (g a)) → mapT k l = .ok (l.map g)
  | [], _ => rfl
  | a :: l, h => by
    unfold mapT
    rw [h a List.mem_cons_self, mapT_ok fun b hb => h b (List.mem_cons_of_mem _ hb)]; rfl
theorem fmapT_ok {α β : Type} {p : α → M Bool} {k : α → M β} {q : α → Bool} {g : α → β} : ∀ {l : List α}, (∀ a ∈ l, p a = .ok (q a)) → (∀ a ∈ l, q a = true → k a = .ok (g a)) → fmapT p k l = .ok ((l.filter q).map g)
  | [], _, _ => rfl
  | a :: l, hp, h => by
    unfold fmapT
    rw [hp a List.mem_cons_self]
    have ih := fmapT_ok (fun b hb => hp b (List.mem_cons_of_mem _ hb)) (fun b hb => h b (List.mem_cons_of_mem _ hb))
    cases q' : q a with
    | true => simp only [h a List.mem_cons_self q', ih, List.filter_cons, q']; rfl
    | false => simp only [ih, List.filter_cons, q']; rfl
@[simp] theorem foldT_nil {α σ : Type} (tb : σ → α → M σ) (s : σ) : foldT tb [] s = .ok s := rfl
@[simp] theorem foldT_cons {α σ : Type} (tb : σ → α → M σ) (a : α) (l : List α) (s : σ) : foldT tb (a :: l) s = (tb s a).bind fun s => foldT tb l s := rfl
theorem foldT_ok {α σ : Type} {tb : σ → α → M σ} {g : σ → α → σ} (P : σ → Prop) : ∀ {l : List α} {s : σ}, P s → (∀ s, ∀ a ∈ l, P s → tb s a = .ok (g s a) ∧ P (g s a)) → foldT tb l s = .ok (l.foldl g s) ∧ P (l.foldl g s)
  | [], s, h, _ => ⟨rfl, h⟩
  | a :: l, s, h, k => by
    obtain ⟨h1, h2⟩ := k s a List.mem_cons_self h
    rw [foldT_cons, h1]
    exact foldT_ok P h2 fun s b hb => k s b (List.mem_cons_of_mem _ hb)
/-- a loop by an invariant over the items gone through -/
theorem foldT_inv {α σ : Type} {tb : σ → α → M σ} (P : List α → σ → Prop) {l : List α} {s : σ} (h0 : P [] s) (h : ∀ pre a post s, l = pre ++ a :: post → P pre s → ∃ s', tb s a = .ok s' ∧ P (pre ++ [a]) s') : ∃ s', foldT tb l s = .ok s' ∧ P l s' := by
  have key : ∀ (post pre : List α) (s : σ), l = pre ++ post → P pre s → ∃ s', foldT tb post s = .ok s' ∧ P l s' := by
    intro post
    induction post with
    | nil => intro pre s e hp; exact ⟨s, rfl, by rw [e, List.append_nil]; exact hp⟩
    | cons a post ih =>
      intro pre s e hp
      obtain ⟨s', h1, h2⟩ := h pre a post s e hp
      obtain ⟨s2, h3, h4⟩ := ih (pre ++ [a]) s' (by rw [e]; simp) h2
      exact ⟨s2, by rw [foldT_cons, h1]; exact h3, h4⟩
  exact key l [] s rfl h0
@[simp] theorem forT_nil {α σ ρ : Type} (tb : σ → α → M (Ot σ ρ)) (s : σ) : forT tb [] s = .ok (.nx s) := rfl
@[simp] theorem forT_cons {α σ ρ : Type} (tb : σ → α → M (Ot σ ρ)) (a : α) (l : List α) (s : σ) : forT tb (a :: l) s = (tb s a).bind fun x => match x with
    | .nx s => forT tb l s
    | .ct s => forT tb l s
    | .bk s => .ok (.nx s)
    | .rt r => .ok (.rt r) := rfl
/-- a loop that goes on to its end -/
theorem forT_inv {α σ ρ : Type} {tb : σ → α → M (Ot σ ρ)} (P : List α → σ → Prop) {l : List α} {s : σ} (h0 : P [] s) (h : ∀ pre a post s, l = pre ++ a :: post → P pre s → ∃ s', (tb s a = .ok (.nx s') ∨ tb s a = .ok (.ct s')) ∧ P (pre ++ [a]) s') : ∃ s', forT tb l s = .ok (.nx s') ∧ P l s' := by
  have key : ∀ (post pre : List α) (s : σ), l = pre ++ post → P pre s → ∃ s', forT tb post s = .ok (.nx s') ∧ P l s' := by
    intro post
    induction post with
    | nil => intro pre s e hp; exact ⟨s, rfl, by rw [e, List.append_nil]; exact hp⟩
    | cons a post ih =>
      intro pre s e hp
      obtain ⟨s', h1, h2⟩ := h pre a post s e hp
      obtain ⟨s2, h3, h4⟩ := ih (pre ++ [a]) s' (by rw [e]; simp) h2
      refine ⟨s2, ?_, h4⟩
      rcases h1 with h1 | h1 <;> (rw [forT_cons, h1]; exact h3)
  exact key l [] s rfl h0
/-- a loop that searches: it goes on, or hands back -/
theorem forT_find {α σ ρ : Type} {tb : σ → α → M (Ot σ ρ)} {s : σ} {g : α → Option ρ} : ∀ {l : List α}, (∀ a ∈ l, tb s a = .ok (match g a with | some r => .rt r | none => .nx s)) → forT tb l s = .ok (match l.findSome? g with | some r => .rt r | none => .nx s)
  | [], _ => rfl
  | a :: l, h => by
    rw [forT_cons, h a List.mem_cons_self, List.findSome?_cons]
    cases g a with
    | some r => rfl
    | none => exact forT_find fun b hb => h b (List.mem_cons_of_mem _ hb)
@[simp] theorem Lt_f_nx {σ ρ : Type} (k : σ → M ρ) (s : σ) : (Lt.nx s).f k = k s := rfl
@[simp] theorem Lt_f_rt {σ ρ : Type} (k : σ → M ρ) (r : ρ) : (Lt.rt r : Lt σ ρ).f k = .ok r := rfl
@[simp] theorem Lt_g_nx {σ τ ρ : Type} (k : σ → M (Ot τ ρ)) (s : σ) : (Lt.nx s).g k = k s := rfl
@[simp] theorem Lt_g_rt {σ τ ρ : Type} (k : σ → M (Ot τ ρ)) (r : ρ) : (Lt.rt r : Lt σ ρ).g k = .ok (.rt r) := rfl
theorem rgT_mem {n i : Int} : i ∈ rgT n ↔ 0 ≤ i ∧ i < n := by
  unfold rgT
  rw [List.mem_map]
  constructor
  · rintro ⟨k, h, rfl⟩
    have := List.mem_range.mp h
    omega
  · rintro ⟨h1, h2⟩
    exact ⟨i.toNat, List.mem_range.mpr (by omega), by omega⟩
theorem rg2T_mem {a b i : Int} : i ∈ rg2T a b ↔ a ≤ i ∧ i < b := by
  unfold rg2T
  rw [List.mem_map]
  constructor
  · rintro ⟨k, h, rfl⟩
    have := List.mem_range.mp h
    omega
  · rintro ⟨h1, h2⟩
    exact ⟨(i - a).toNat, List.mem_range.mpr (by omega), by omega⟩
theorem rgT_len (n : Int) : (rgT n).length = n.toNat := by simp [rgT]

/-! ### rules for written operands -/
section
variable {α β : Type} [Emb α] [Emb β] {f g h : SE} {env : En}
theorem cv {r : R} {t t' : M α} (h : Ref r t') (e : t' = t := by rfl) : Ref r t := e ▸ h
theorem cvL {n : Nat} {r : RA} {t t' : M (List α)} (h : RefL n r t') (e : t' = t := by rfl) : RefL n r t := e ▸ h
theorem rf_modc {k : Int} {t : M Int} (h : Ref (f env) t) (hk : 0 < k := by decide) : Ref (s2 dMod f (sC (.int k)) env) (t.bind fun a => .ok (a % k)) := ref_bnd h fun a => by
  show Ref (ofO (dMod (.int a) (.int k))) _
  rw [dMod_int hk]; rfl
theorem rf_divc {k : Int} {t : M Int} (h : Ref (f env) t) (hk : 0 < k := by decide) (hk2 : k < 1073741824 := by decide) : Ref (s2 dFdiv f (sC (.int k)) env) (t.bind fun a => .ok (a / k)) := ref_bnd h fun a => by
  show Ref (ofO (dFdiv (.int a) (.int k))) _
  rw [dFdiv_int hk hk2]; rfl
theorem rf_mulc {k : Int} {t : M Int} (h : Ref (f env) t) (hk : -(2 ^ 64) < k ∧ k < 2 ^ 64 := by decide) : Ref (s2 dMulU f (sC (.int k)) env) (t.bind fun a => .ok (a * k)) := ref_bnd h fun a => by
  show Ref (ofO (dMulU (.int a) (.int k))) _
  rw [dMulU_int (.inr hk)]; rfl
theorem rf_cmul {k : Int} {t : M Int} (h : Ref (f env) t) (hk : -(2 ^ 64) < k ∧ k < 2 ^ 64 := by decide) : Ref (s2 dMulU (sC (.int k)) f env) (t.bind fun a => .ok (k * a)) := by
  have h0 : Ref (sC (.int k) env) (.ok k) := rfl
  have := rf_s2 (op := dMulU) (p := fun (a b : Int) => if a = k then M.ok (k * b) else .st) (fun a b => by
    show Ref _ (if _ then _ else _)
    split
    · rename_i e; subst e
      show ofO (dMulU (.int a) (.int b)) = _
      rw [dMulU_int (.inl hk)]; rfl
    · trivial) h0 h
  cases t with
  | ok a =>
    have e : (if k = k then M.ok (k * a) else .st) = M.ok (k * a) := if_pos rfl
    show Ref _ (M.ok (k * a))
    rw [← e]; exact this
  | er c fs => exact this
  | st => trivial
theorem rf_powc {k : Int} {n : Nat} (hk : k.natAbs < 2 ^ 64 := by decide) (hn : n ≤ 1000000 := by decide) : Ref (s2 dPow (sC (.int k)) (sC (.int n)) env) (.ok (k ^ n : Int)) := by
  show Ref (ofO (if _ then _ else _)) _
  rw [if_pos ⟨by omega, by omega, hk⟩]; rfl
theorem rf_andp {a b : Bool} (h1 : Ref (f env) (.ok a)) (h2 : Ref (g env) (.ok b)) : Ref (sAnd f g env) (.ok (a && b)) := by
  have := rf_and h1 h2
  cases a <;> exact this
theorem rf_orp {a b : Bool} (h1 : Ref (f env) (.ok a)) (h2 : Ref (g env) (.ok b)) : Ref (sOr f g env) (.ok (a || b)) := by
  have := rf_or h1 h2
  cases a <;> exact this
theorem rf_ifp {c : Bool} {a b : α} (h1 : Ref (f env) (.ok c)) (h2 : Ref (g env) (.ok a)) (h3 : Ref (h env) (.ok b)) : Ref (sIf f g h env) (.ok (if c then a else b)) := by
  have := rf_if h1 h2 h3
  cases c <;> exact this
theorem rf_chainp {β γ : Type} [Emb β] [Emb γ] {o1 o2 : D → D → Option D} {p : α → β → Bool} {q : β → γ → Bool} {a : α} {b : β} {c : γ} (hp : P2 o1 fun x y => .ok (p x y)) (hq : P2 o2 fun x y => .ok (q x y)) (h1 : Ref (f env) (.ok a)) (h2 : Ref (g env) (.ok b)) (h3 : Ref (h env) (.ok c)) :
    Ref (sChain o1 o2 f g h env) (.ok (p a b && q b c)) := by
  have := rf_chain (p := fun x y => .ok (p x y)) (q := fun x y => .ok (q x y)) hp hq (fun a b => ⟨_, .inl rfl⟩) h1 h2 h3
  have e : ((M.ok a).bind fun a => (M.ok b).bind fun b => (M.ok (p a b)).bind fun x => if x then (M.ok c).bind fun z => .ok (q b z) else .ok false) = .ok (p a b && q b c) := by
    show (if p a b then M.ok (q b c) else .ok false) = _
    cases p a b <;> rfl
  exact e ▸ this
theorem rf_fst {t : M (α × β)} (h : Ref (f env) t) : Ref (s2 dIx f (sC (.int 0)) env) (t.bind fun a => .ok a.1) := ref_bnd h fun _ => rfl
theorem rf_snd {t : M (α × β)} (h : Ref (f env) t) : Ref (s2 dIx f (sC (.int 1)) env) (t.bind fun a => .ok a.2) := ref_bnd h fun _ => rfl
theorem rf_t31 {γ : Type} [Emb γ] {t : M (P3 α β γ)} (h : Ref (f env) t) : Ref (s2 dIx f (sC (.int 0)) env) (t.bind fun a => .ok a.a) := ref_bnd h fun _ => rfl
theorem rf_t32 {γ : Type} [Emb γ] {t : M (P3 α β γ)} (h : Ref (f env) t) : Ref (s2 dIx f (sC (.int 1)) env) (t.bind fun a => .ok a.b) := ref_bnd h fun _ => rfl
theorem rf_t33 {γ : Type} [Emb γ] {t : M (P3 α β γ)} (h : Ref (f env) t) : Ref (s2 dIx f (sC (.int 2)) env) (t.bind fun a => .ok a.c) := ref_bnd h fun _ => rfl
theorem rf_tupD {n : Nat} {fs : SA} {t : M (List D)} (hn : n ≤ 1000) (h : RefL n (fs env) t) : Ref (sTup fs env) (t.bind fun l => .ok (D.tup l)) := by
  cases t with
  | er c fs => show sTup _ env = _; unfold sTup; rw [show _ = RA.er c fs from h]; rfl
  | st => trivial
  | ok l =>
    show sTup fs env = _
    unfold sTup
    rw [h.1]
    show (if (l.map d).length ≤ PySem.sizeLine then R.ok (.tup (l.map d)) else .st) = _
    rw [if_pos (small_le (by rw [List.length_map, h.2]; omega)), show l.map (d : D → D) = l from List.map_id l]
    rfl
end
end Tm

namespace Tm
open Ps
open Emb (d)

section
variable {α β γ δ : Type} [Emb α] [Emb β] [Emb γ] [Emb δ]
theorem coe_lst {f : α → β} (h : ∀ a, d (f a) = d a) (l : List α) : d (l.map f) = d l := by
  rw [d_lst, d_lst, List.map_map]
  congr 1
  exact List.map_congr_left fun a _ => h a
theorem coe_opt {f : α → β} (h : ∀ a, d (f a) = d a) (o : Option α) : d (o.map f) = d o := by
  cases o with
  | none => rfl
  | some a => exact h a
theorem coe_tup {f : α → γ} {g : β → δ} (h1 : ∀ a, d (f a) = d a) (h2 : ∀ a, d (g a) = d a) (x : α × β) : d (((f x.1, g x.2)) : γ × δ) = d x := by
  show D.tup [d (f x.1), d (g x.2)] = D.tup [d x.1, d x.2]
  rw [h1, h2]
/-- a thing that is there -/
theorem rf_unopt {r : R} {t : M (Option α)} (h : Ref r t) : Ref r (t.bind fun o => oM o) := by
  cases t with
  | ok o =>
    cases o with
    | none => trivial
    | some a => exact h
  | er c fs => exact h
  | st => trivial
open Classical in
/-- a thing of a kind -/
noncomputable def unD (α : Type) [Emb α] (v : D) : M α := if h : ∃ a : α, v = d a then .ok h.choose else .st
theorem rf_unD {r : R} {t : M D} (h : Ref r t) : Ref r (t.bind fun v => unD α v) := by
  cases t with
  | ok v =>
    show Ref r (unD α v)
    unfold unD
    split
    · rename_i e
      exact (show r = .ok v from h).trans (congrArg R.ok e.choose_spec)
    · trivial
  | er c fs => exact h
  | st => trivial
theorem unD_tx (x : Tx) : unD Tx (d x) = .ok x := by
  have h : ∃ a : Tx, d x = d a := ⟨x, rfl⟩
  unfold unD
  rw [dif_pos h]
  have := h.choose_spec
  have e : str x = str h.choose := D.str.inj this
  rw [← str_inj e]
theorem unD_int (x : Int) : unD Int (d x) = .ok x := by
  have h : ∃ a : Int, d x = d a := ⟨x, rfl⟩
  unfold unD
  rw [dif_pos h]
  have := h.choose_spec
  rw [← D.int.inj this]
end
def noErM {α : Type} (t : M α) : M α := match t with
  | .ok a => .ok a
  | _ => .st
@[simp] theorem noErM_ok {α : Type} (a : α) : noErM (.ok a) = .ok a := rfl
section
variable {κ α β : Type} [Ke κ] [Emb α] [Emb β] {f : SE} {env : En}
theorem keys_map (m : Dct κ α) : (m.l.map fun p => (Ke.k p.1, d p.2)).map (fun p => dKey p.1) = m.keys.map d := by
  unfold Dct.keys
  rw [List.map_map, List.map_map]
  exact List.map_congr_left fun p _ => Ke.dk p.1
theorem ri_keys {t : M (Dct κ α)} (h1 : Ref (f env) t) : Ref (sKeys f env) (t.bind fun m => .ok m.keys) := ref_bnd h1 fun m => by
  show R.ok (.lst ((m.l.map fun p => (Ke.k p.1, d p.2)).map fun p => dKey p.1)) = .ok (.lst (m.keys.map d))
  rw [keys_map]
theorem isDk {i : Nat} {m : Dct κ α} (h : env[i]? = some (.sh (d m))) : isDkSl env i = true := by
  unfold isDkSl; rw [h]; rfl
theorem ref_lk {i : Nat} {m : Dct κ α} {g : SE} {t : M β} (h : env[i]? = some (.sh (d m))) (hr : Ref (g env) t) (hn : (∃ a, t = .ok a) ∨ t = .st) : Ref (sLk i g env) t := by
  rcases hn with ⟨a, rfl⟩ | rfl
  · show sLk i g env = _
    unfold sLk
    rw [isDk h, if_pos rfl, show g env = .ok (d a) from hr]; rfl
  · trivial
theorem gd_nr {c : Prop} [Decidable c] {t : M β} (h : (∃ a, t = .ok a) ∨ t = .st) : (∃ a, gd c t = .ok a) ∨ gd c t = .st := by
  unfold gd
  split
  · exact h
  · exact .inr rfl
theorem rf_compK (i : Nat) {m : Dct κ α} {T : Tgt} {vs : List Nat} {fe : SE} {E : κ → En} {k : κ → M β} (h : env[i]? = some (.sh (d m))) (hw : wipeOk env vs = true) (hb : ∀ a, bindT T (d a) (wipeE env vs) = some (E a)) (he : ∀ a, Ref (fe (E a)) (k a)) :
    Ref (sLk i (sComp T vs (sKeys (sLoc i)) (sC (.bl true)) fe) env) (compM k m.keys) :=
  ref_lk h (rf_comp (ri_keys (rf_loc i h)) hw hb he) (gd_nr (mapT_nr k _))
theorem rf_fcompK (i : Nat) {m : Dct κ α} {T : Tgt} {vs : List Nat} {ft fe : SE} {E : κ → En} {p : κ → M Bool} {k : κ → M β} (h : env[i]? = some (.sh (d m))) (hw : wipeOk env vs = true) (hb : ∀ a, bindT T (d a) (wipeE env vs) = some (E a)) (ht : ∀ a, Ref (ft (E a)) (p a)) (he : ∀ a, Ref (fe (E a)) (k a)) :
    Ref (sLk i (sComp T vs (sKeys (sLoc i)) ft fe) env) (fcompM p k m.keys) :=
  ref_lk h (rf_fcomp (ri_keys (rf_loc i h)) hw hb ht he) (gd_nr (fmapT_nr p k _))
variable {σ ρ : Type} [Emb ρ] {fr : Bool}
theorem refO_lk {γ : Type} {i : Nat} {m : Dct κ α} {g : SS} {em : γ → O → Prop} {t : M γ} (h : env[i]? = some (.sh (d m))) (hr : RefO em (g env) t) (hne : ∀ b o, em b o → noErO o = o) : RefO em (ssLk i g env) (noErM t) := by
  cases t with
  | ok b =>
    have e : ssLk i g env = g env := by
      unfold ssLk
      rw [isDk h, if_pos rfl]
      exact hne b _ hr
    show em b _
    rw [e]; exact hr
  | er c fs => trivial
  | st => trivial
theorem emN_ne {E : σ → En} : ∀ b o, emN E b o → noErO o = o := fun b o h => by rw [show o = .nx (E b) from h]; rfl
theorem emL_ne {E : σ → En} : ∀ b o, emL (ρ := ρ) fr E b o → noErO o = o := fun b o h => by
  cases b with
  | nx s => rw [show o = .nx (E s) from h]; rfl
  | rt r => rw [show o = rtO fr (d r) from h]; cases fr <;> rfl
theorem rs_forK (i : Nat) {m : Dct κ α} {T : Tgt} {body : SS} {E : σ → En} {E' : σ → κ → En} {tb : σ → κ → M σ} (s0 : σ) (h0 : env = E s0) (h : env[i]? = some (.sh (d m))) (hb : ∀ s x, bindT T (d x) (E s) = some (E' s x)) (hbody : ∀ s x, RefO (emN E) (body (E' s x)) (tb s x)) :
    RefO (emN E) (ssLk i (ssFor T (sKeys (sLoc i)) body) env) (noErM (foldT tb m.keys s0)) :=
  refO_lk h (rs_for s0 h0 (ri_keys (rf_loc i h)) hb hbody) emN_ne
theorem rl_forK (i : Nat) {m : Dct κ α} {T : Tgt} {body : SS} {E : σ → En} {E' : σ → κ → En} {tb : σ → κ → M (Ot σ ρ)} (s0 : σ) (h0 : env = E s0) (h : env[i]? = some (.sh (d m))) (hb : ∀ s x, bindT T (d x) (E s) = some (E' s x)) (hbody : ∀ s x, RefO (emG fr E) (body (E' s x)) (tb s x)) :
    RefO (emL fr E) (ssLk i (ssFor T (sKeys (sLoc i)) body) env) (noErM (forT tb m.keys s0)) :=
  refO_lk h (rl_for s0 h0 (ri_keys (rf_loc i h)) hb hbody) emL_ne
theorem rs_ownK (i : Nat) {m : Dct κ α} {j : Nat} {T : Tgt} {vs : List Nat} {ft fe : SE} {E : β → En} {t : M β} (h : env[i]? = some (.sh (d m))) (hr : Ref (sLk i (sComp T vs (sKeys (sLoc i)) ft fe) env) t) (hE : ∀ x, setSl env j (.ow (d x)) = some (E x)) :
    RefO (emN E) (ssLk i (ssOwn j (sComp T vs (sKeys (sLoc i)) ft fe)) env) t := by
  cases t with
  | st => trivial
  | er c fs =>
    have q : sLk i (sComp T vs (sKeys (sLoc i)) ft fe) env = .er c fs := hr
    unfold sLk at q
    rw [isDk h, if_pos rfl] at q
    cases z : sComp T vs (sKeys (sLoc i)) ft fe env <;> rw [z] at q <;> cases q
  | ok b =>
    have q : sLk i (sComp T vs (sKeys (sLoc i)) ft fe) env = .ok (d b) := hr
    unfold sLk at q
    rw [isDk h, if_pos rfl] at q
    have q2 : Ref (sComp T vs (sKeys (sLoc i)) ft fe env) (M.ok b) := by
      cases z : sComp T vs (sKeys (sLoc i)) ft fe env <;> rw [z] at q <;> first | exact q | cases q
    have := refO_lk (g := ssOwn j (sComp T vs (sKeys (sLoc i)) ft fe)) h (rs_own q2 hE) emN_ne
    exact this
def hasO (m : Dct κ α) : Option κ → Bool
  | some k => (m.get? k).isSome
  | none => false
theorem p_inDo : P2 dInN fun (k : Option κ) (m : Dct κ α) => .ok (hasO m k) := fun k m => by
  cases k with
  | none =>
    show R.ok _ = _
    rfl
  | some k =>
    have h := p_inD (κ := κ) (α := α) k m
    have h2 : dIn (d k) (d m) = some (.bl (m.get? k).isSome) := by
      have h3 : ofO (dIn (d k) (d m)) = .ok (.bl (m.get? k).isSome) := h
      cases q : dIn (d k) (d m) <;> rw [q] at h3 <;> cases h3
      rfl
    show ofO (orD (dIn (d k) (d m)) _) = _
    rw [h2]; rfl
theorem p_notInDo : P2 dNotInN fun (k : Option κ) (m : Dct κ α) => .ok (!hasO m k) := fun k m => by
  cases k with
  | none =>
    show R.ok _ = _
    rfl
  | some k =>
    have h := p_notInD (κ := κ) (α := α) k m
    have h2 : dNotIn (d k) (d m) = some (.bl (!(m.get? k).isSome)) := by
      have h3 : ofO (dNotIn (d k) (d m)) = .ok (.bl (!(m.get? k).isSome)) := h
      cases q : dNotIn (d k) (d m) <;> rw [q] at h3 <;> cases h3
      rfl
    show ofO (orD (dNotIn (d k) (d m)) _) = _
    rw [h2]; rfl
theorem p_listD : P1 cListD fun (m : Dct κ α) => .ok m.keys := fun m => by
  show R.ok (.lst ((m.l.map fun p => (Ke.k p.1, d p.2)).map fun p => dKey p.1)) = .ok (.lst (m.keys.map d))
  rw [keys_map]
end
theorem p_listS : P1 cListS fun (x : Tx) => gd (x.length ≤ 16777216) (.ok (x.map sg)) := fun x => ref_gd fun h => by
  show ofO (if (str x).length ≤ PySem.sizeLine then some (D.lst ((str x).cps.toList.map sgn)) else none) = _
  rw [if_pos (small_le (by rw [str_len]; exact h)), str_cps, List.map_map]
  show R.ok (.lst _) = R.ok (.lst ((x.map sg).map d))
  rw [List.map_map]; rfl
def listS (x : Tx) : M (List Tx) := gd (x.length ≤ 16777216) (.ok (x.map sg))
theorem listS_ok {x : Tx} (h : x.length ≤ 16777216) : listS x = .ok (x.map sg) := gd_ok h
section
variable {κ α : Type} [Ke κ] [Fl α]
/-- dicts alike -/
def eqDct (a b : Dct κ α) : Bool := a.l.length == b.l.length && a.l.all fun p => match b.get? p.1 with | some v => eqT p.2 v | none => false
theorem flat_all (m : Dct κ α) : (m.l.map fun p => ((Dc.k p.1 : L2.Key), d p.2)).all (fun p => dFlat p.2) = true := by
  rw [List.all_map, List.all_eq_true]; exact fun p _ => Fl.fl p.2
theorem eqKD_dct (a b : Dct κ α) : eqKD (a.l.map fun p => ((Dc.k p.1 : L2.Key), d p.2)) (b.l.map fun p => ((Dc.k p.1 : L2.Key), d p.2)) = eqDct a b := by
  unfold eqKD eqDct
  rw [List.length_map, List.length_map, List.all_map]
  congr 2
  funext p
  have e := val_get (κ := κ) p.1 b.l
  simp only [Function.comp_apply]
  rw [e]
  unfold Dct.get?
  cases (b.l.find? fun q => decide (q.1 = p.1)) with
  | none => rfl
  | some q =>
    show L2.eqV (toV (d p.2)) (toV (d q.2)) = eqT p.2 q.2
    rw [Fl.fv, Cm.eqv]; unfold eqT; congr
theorem p_eqK : P2 dEqK fun (a b : Dct κ α) => .ok (eqDct a b) := fun a b => by
  show ofO (if ((a.l.map fun p => ((Dc.k p.1 : L2.Key), d p.2)).all fun p => dFlat p.2) && (b.l.map fun p => ((Dc.k p.1 : L2.Key), d p.2)).all fun p => dFlat p.2 then some (D.bl (eqKD _ _)) else none) = _
  rw [flat_all, flat_all, eqKD_dct]; rfl
theorem p_neK : P2 dNeK fun (a b : Dct κ α) => .ok (!eqDct a b) := fun a b => by
  show ofO (if ((a.l.map fun p => ((Dc.k p.1 : L2.Key), d p.2)).all fun p => dFlat p.2) && (b.l.map fun p => ((Dc.k p.1 : L2.Key), d p.2)).all fun p => dFlat p.2 then some (D.bl (!eqKD _ _)) else none) = _
  rw [flat_all, flat_all, eqKD_dct]; rfl
end
section
variable {α β : Type} [Emb α] [Emb β]
theorem rf_lsN1 {f0 : SE} {env : En} {t0 : M α} (h0 : Ref (f0 env) t0) : Ref (sLst (aCons f0 aNil) env) (t0.bind fun x0 => .ok [x0]) := args1 h0 fun x0 => by
  rw [if_pos (small_le (by simp))]; rfl
theorem rf_lsN2 {f0 f1 : SE} {env : En} {t0 t1 : M α} (h0 : Ref (f0 env) t0) (h1 : Ref (f1 env) t1) : Ref (sLst (aCons f0 (aCons f1 aNil)) env) (t0.bind fun x0 => t1.bind fun x1 => .ok [x0, x1]) := args2 h0 h1 fun x0 x1 => by
  rw [if_pos (small_le (by simp))]; rfl
theorem rf_lsN3 {f0 f1 f2 : SE} {env : En} {t0 t1 t2 : M α} (h0 : Ref (f0 env) t0) (h1 : Ref (f1 env) t1) (h2 : Ref (f2 env) t2) : Ref (sLst (aCons f0 (aCons f1 (aCons f2 aNil))) env) (t0.bind fun x0 => t1.bind fun x1 => t2.bind fun x2 => .ok [x0, x1, x2]) := args3 h0 h1 h2 fun x0 x1 x2 => by
  rw [if_pos (small_le (by simp))]; rfl
theorem rf_lsN4 {f0 f1 f2 f3 : SE} {env : En} {t0 t1 t2 t3 : M α} (h0 : Ref (f0 env) t0) (h1 : Ref (f1 env) t1) (h2 : Ref (f2 env) t2) (h3 : Ref (f3 env) t3) : Ref (sLst (aCons f0 (aCons f1 (aCons f2 (aCons f3 aNil)))) env) (t0.bind fun x0 => t1.bind fun x1 => t2.bind fun x2 => t3.bind fun x3 => .ok [x0, x1, x2, x3]) := args4 h0 h1 h2 h3 fun x0 x1 x2 x3 => by
  rw [if_pos (small_le (by simp))]; rfl
theorem rf_lsN5 {f0 f1 f2 f3 f4 : SE} {env : En} {t0 t1 t2 t3 t4 : M α} (h0 : Ref (f0 env) t0) (h1 : Ref (f1 env) t1) (h2 : Ref (f2 env) t2) (h3 : Ref (f3 env) t3) (h4 : Ref (f4 env) t4) : Ref (sLst (aCons f0 (aCons f1 (aCons f2 (aCons f3 (aCons f4 aNil))))) env) (t0.bind fun x0 => t1.bind fun x1 => t2.bind fun x2 => t3.bind fun x3 => t4.bind fun x4 => .ok [x0, x1, x2, x3, x4]) := args5 h0 h1 h2 h3 h4 fun x0 x1 x2 x3 x4 => by
  rw [if_pos (small_le (by simp))]; rfl
theorem rf_lsN6 {f0 f1 f2 f3 f4 f5 : SE} {env : En} {t0 t1 t2 t3 t4 t5 : M α} (h0 : Ref (f0 env) t0) (h1 : Ref (f1 env) t1) (h2 : Ref (f2 env) t2) (h3 : Ref (f3 env) t3) (h4 : Ref (f4 env) t4) (h5 : Ref (f5 env) t5) : Ref (sLst (aCons f0 (aCons f1 (aCons f2 (aCons f3 (aCons f4 (aCons f5 aNil)))))) env) (t0.bind fun x0 => t1.bind fun x1 => t2.bind fun x2 => t3.bind fun x3 => t4.bind fun x4 => t5.bind fun x5 => .ok [x0, x1, x2, x3, x4, x5]) := args6 h0 h1 h2 h3 h4 h5 fun x0 x1 x2 x3 x4 x5 => by
  rw [if_pos (small_le (by simp))]; rfl
theorem rf_lsN7 {f0 f1 f2 f3 f4 f5 f6 : SE} {env : En} {t0 t1 t2 t3 t4 t5 t6 : M α} (h0 : Ref (f0 env) t0) (h1 : Ref (f1 env) t1) (h2 : Ref (f2 env) t2) (h3 : Ref (f3 env) t3) (h4 : Ref (f4 env) t4) (h5 : Ref (f5 env) t5) (h6 : Ref (f6 env) t6) : Ref (sLst (aCons f0 (aCons f1 (aCons f2 (aCons f3 (aCons f4 (aCons f5 (aCons f6 aNil))))))) env) (t0.bind fun x0 => t1.bind fun x1 => t2.bind fun x2 => t3.bind fun x3 => t4.bind fun x4 => t5.bind fun x5 => t6.bind fun x6 => .ok [x0, x1, x2, x3, x4, x5, x6]) := args7 h0 h1 h2 h3 h4 h5 h6 fun x0 x1 x2 x3 x4 x5 x6 => by
  rw [if_pos (small_le (by simp))]; rfl
theorem fl_mk {x : α} {c : Nat} {n : PySem.Str} {fs : List (PySem.Str × D)} {t : M β} (h : d x = D.obj c fs) (hl : Ref (ofO (fs.lookup n)) t) : Ref (fldR c n (.ok (d x))) t := by
  rw [h, fldR_ok]; exact hl
end
end Tm

namespace Tm
open Ps
open Emb (d)
section
variable {α β γ : Type} [Emb β] [Emb γ] {f g : SE} {env : En}
def idxM [Fl α] (l : List α) (a : α) : M Int := oM ((l.findIdx? fun b => eqT b a).map fun j => (j : Int))
theorem idx_map [Fl α] (a : α) (l : List α) : ((l.map d).map toV).findIdx? (fun y => L2.eqV y (toV (d a))) = l.findIdx? fun b => eqT b a := by
  rw [List.map_map, List.findIdx?_map]
  congr 1; funext b
  show L2.eqV (toV (d b)) (toV (d a)) = _
  rw [Fl.fv, Cm.eqv]; rfl
theorem rf_idx [Fl α] {t : M (List α)} {u : M α} (h1 : Ref (f env) t) (h2 : Ref (g env) u) : Ref (sIdx f g env) (t.bind fun l => u.bind fun a => idxM l a) := by
  cases t with
  | st => trivial
  | er c fs => show sIdx f g env = _; unfold sIdx; rw [show f env = .er c fs from h1]; rfl
  | ok l =>
    cases u with
    | st => trivial
    | er c fs => show sIdx f g env = _; unfold sIdx; rw [show f env = .ok (d l) from h1, show g env = .er c fs from h2]; rfl
    | ok a =>
      show Ref (sIdx f g env) (idxM l a)
      have e : sIdx f g env = ofO (dIdx (d l) (d a)) := by
        unfold sIdx; rw [show f env = .ok (d l) from h1, show g env = .ok (d a) from h2]; rfl
      rw [e]
      have h3 : (l.map d).all dFlat = true := by
        rw [List.all_map, List.all_eq_true]; exact fun b _ => Fl.fl b
      have e2 : dIdx (d l) (d a) = ((l.findIdx? fun b => eqT b a).map fun j => .int (j : Nat)) := by
        show (if dFlat (d a) && (l.map d).all dFlat then (((l.map d).map toV).findIdx? fun y => L2.eqV y (toV (d a))).map fun j => D.int (j : Nat) else none) = _
        rw [Fl.fl a, h3, idx_map]; rfl
      rw [e2]
      unfold idxM
      cases l.findIdx? fun b => eqT b a with
      | none => trivial
      | some j => rfl
theorem idxM_ok [Fl α] [DecidableEq α] {l : List α} {a : α} (h : a ∈ l) : ∃ j : Nat, idxM l a = .ok (j : Int) ∧ j < l.length := by
  unfold idxM
  have : (l.findIdx? fun b => eqT b a).isSome = true := by
    rw [List.findIdx?_isSome, List.any_eq_true]
    exact ⟨a, h, by rw [eqT_eq]; simp⟩
  obtain ⟨j, hj⟩ := Option.isSome_iff_exists.mp this
  obtain ⟨hlt, _⟩ := List.findIdx?_eq_some_iff_getElem.mp hj
  exact ⟨j, by rw [hj]; rfl, hlt⟩
theorem p_lenT2 : P1 cLen fun (x : β × γ) => .ok (2 : Int) := fun x => rfl
end
end Tm

namespace Tm
open Ps
open Emb (d)
section
variable {α : Type} [Emb α] {env : En} {t : M α}
theorem rs_putN {κ : Type} [Dc κ] {i g : Nat} {fk fv : SE} {E : Dct κ α → En} {m : Dct κ α} {tk : M κ} (h0 : env[i]? = some (.ln g)) (h1 : env[g]? = some (.gh (d m))) (hv : Ref (fv env) t) (hk : Ref (fk env) tk) (hE : ∀ m', env.set g (.gh (d m')) = E m') :
    RefO (emN E) (ssPutN i g fk fv env) (t.bind fun v => tk.bind fun k => putM m k v) := by
  cases t with
  | er x fs => exact ⟨env, by unfold ssPutN; rw [show fv env = .er x fs from hv]; rfl⟩
  | st => trivial
  | ok v =>
    have e : ssPutN i g fk fv env = bndS (fk env) env fun k => (match dPut (d m) k (d v) with | some z => .nx (env.set g (.gh z)) | none => .st) := by
      unfold ssPutN; rw [show fv env = .ok (d v) from hv, h0, h1]; exact if_pos rfl
    cases tk with
    | er x fs => exact ⟨env, by rw [e, show fk env = .er x fs from hk]; rfl⟩
    | st => trivial
    | ok k =>
      show RefO _ _ (putM m k v)
      unfold putM gd
      split
      · rename_i hl
        show ssPutN i g fk fv env = _
        rw [e, show fk env = .ok (d k) from hk]
        show (match dPut (Dc.mkD (m.l.map fun p => (Dc.k p.1, d p.2))) (d k) (d v) with | some z => O.nx (env.set g (.gh z)) | none => .st) = _
        rw [Dc.put, if_pos (by rw [PySem.sizeLine_eq, List.length_map]; exact hl), put_put]
        exact congrArg O.nx (hE (m.put k v))
      · trivial
end
end Tm

namespace Tm
open Ps
open Emb (d)
def maxL (l : List Int) : M Int := oM (maxI l)
def minL (l : List Int) : M Int := oM (minI l)
theorem p_maxL : P1 cMaxL maxL := fun l => by
  show Ref (ofO ((unInts (l.map d)).bind fun ns => (maxI ns).map D.int)) (oM (maxI l))
  rw [unInts_map]
  exact ref_o (maxI l)
theorem p_minL : P1 cMinL minL := fun l => by
  show Ref (ofO ((unInts (l.map d)).bind fun ns => (minI ns).map D.int)) (oM (minI l))
  rw [unInts_map]
  exact ref_o (minI l)
theorem maxL_ok {l : List Int} (h : l ≠ []) : ∃ m, maxL l = .ok m ∧ m ∈ l ∧ ∀ y ∈ l, y ≤ m := by
  cases l with
  | nil => exact absurd rfl h
  | cons n ns =>
    obtain ⟨a, b, c⟩ := foldl_max ns n
    refine ⟨ns.foldl max n, rfl, ?_, fun y hy => ?_⟩
    · rcases c with c | c
      · rw [c]; exact List.mem_cons_self
      · exact List.mem_cons_of_mem _ c
    · rcases List.mem_cons.mp hy with rfl | hy
      · exact a
      · exact b y hy
theorem minL_ok {l : List Int} (h : l ≠ []) : ∃ m, minL l = .ok m ∧ m ∈ l ∧ ∀ y ∈ l, m ≤ y := by
  cases l with
  | nil => exact absurd rfl h
  | cons n ns =>
    obtain ⟨a, b, c⟩ := foldl_min ns n
    refine ⟨ns.foldl min n, rfl, ?_, fun y hy => ?_⟩
    · rcases c with c | c
      · rw [c]; exact List.mem_cons_self
      · exact List.mem_cons_of_mem _ c
    · rcases List.mem_cons.mp hy with rfl | hy
      · exact a
      · exact b y hy
end Tm

namespace Tm
open Ps
open Emb (d)
section
variable {σ ρ : Type} [Emb ρ] {fr : Bool} {a b : SS} {env : En}
/-- behind an if that may hand back -/
def Ot.f (k : σ → M ρ) : Ot σ ρ → M ρ
  | .nx s => k s
  | .rt r => .ok r
  | _ => .st
theorem rs_seqO {E : σ → En} {t1 : M (Ot σ ρ)} {k : σ → M ρ} (h1 : RefO (emG fr E) (a env) t1) (h2 : ∀ s, RefO (emF fr) (b (E s)) (k s)) : RefO (emF fr) (ssSeq a b env) (t1.bind fun x => x.f k) := by
  cases t1 with
  | ok x =>
    cases x with
    | nx s =>
      show RefO _ (match a env with | .nx e => b e | o => o) (k s)
      rw [show a env = .nx (E s) from h1]
      exact h2 s
    | rt r =>
      show (match a env with | .nx e => b e | o => o) = rtO fr (d r)
      rw [show a env = rtO fr (d r) from h1]
      cases fr <;> rfl
    | ct s => trivial
    | bk s => trivial
  | er c fs =>
    obtain ⟨e, h⟩ := h1
    exact ⟨e, by unfold ssSeq; rw [h]⟩
  | st => trivial
end
end Tm

namespace Tm
open Ps
open Emb (d)
/-- list * int -/
def repL {α : Type} (l : List α) (k : Int) : M (List α) := gd (0 ≤ k ∧ k ≤ 1000000 ∧ l.length * k.toNat ≤ 16777216) (.ok (List.replicate k.toNat l).flatten)
theorem rep_map {α β : Type} (f : α → β) (l : List α) : ∀ n : Nat, (List.replicate n (l.map f)).flatten = (List.replicate n l).flatten.map f
  | 0 => rfl
  | n + 1 => by rw [List.replicate_succ, List.replicate_succ, List.flatten_cons, List.flatten_cons, List.map_append, rep_map f l n]
theorem p_repL {α : Type} [Emb α] : P2 dRep fun (l : List α) (k : Int) => repL l k := fun l k => ref_gd fun h => by
  show ofO (if -(2 ^ 63 : Int) ≤ k ∧ k < 2 ^ 63 ∧ (l.map d).length * k.toNat ≤ PySem.sizeLine then some (.lst (List.replicate k.toNat (l.map d)).flatten) else none) = _
  rw [if_pos ⟨by omega, by omega, by rw [List.length_map, PySem.sizeLine_eq]; omega⟩, rep_map]
  rfl
theorem repL_ok {α : Type} {l : List α} {k : Int} (h : 0 ≤ k ∧ k ≤ 1000000 ∧ l.length * k.toNat ≤ 16777216) : repL l k = .ok (List.replicate k.toNat l).flatten := gd_ok h
end Tm

namespace Tm
open Ps
open Emb (d)
theorem p_isB : P2 dIsB fun (a b : Bool) => .ok (decide (a = b)) := fun a b => rfl
theorem p_isNotB : P2 dIsNotB fun (a b : Bool) => .ok (!decide (a = b)) := fun a b => rfl
theorem p_ixDyn {β : Type} [Emb β] : P2 dIx fun (a : D) (b : β) => oM (dIx a (d b)) := fun a b => by
  show Ref (ofO (dIx a (d b))) (oM (dIx a (d b)))
  cases dIx a (d b) with
  | none => trivial
  | some z => rfl
end Tm

namespace Tm
open Ps
open Emb (d)
/-- triples as keys -/
instance {κ ι ρ : Type} [Ke κ] [Ke ι] [Ke ρ] : Kt (P3 κ ι ρ) where
  dec := fun ⟨a, b, c⟩ ⟨a', b', c'⟩ => if h : a = a' ∧ b = b' ∧ c = c' then isTrue (by obtain ⟨rfl, rfl, rfl⟩ := h; rfl) else isFalse fun z => h (by cases z; exact ⟨rfl, rfl, rfl⟩)
  k x := [Ke.k x.a, Ke.k x.b, Ke.k x.c]
  ds x := [d x.a, d x.b, d x.c]
  dt _ := rfl
  kd x := by simp [keysD, Ke.kd]
  inj a b h := by
    simp only [List.cons.injEq, and_true] at h
    obtain ⟨a1, a2, a3⟩ := a
    obtain ⟨b1, b2, b3⟩ := b
    obtain ⟨h1, h2, h3⟩ := h
    have e1 := Ke.inj _ _ h1
    have e2 := Ke.inj _ _ h2
    have e3 := Ke.inj _ _ h3
    simp only at e1 e2 e3
    rw [e1, e2, e3]
end Tm

namespace Tm
open Ps
open Emb (d)
/-- a sign drawn out of a pool -/
def drawT (z f : Tx) (i : Int) : M (P3 Tx Tx Tx) := match L2.atI z i with
  | some c => gd (z.length ≤ 16777216 ∧ f.length < 16777216) (.ok ⟨[c], f ++ [c], z.filter (fun x => x != c)⟩)
  | none => .st
theorem filter_map_nat (z : Tx) (c : Char) : (z.map Char.toNat).filter (fun x => x != c.toNat) = (z.filter (fun x => x != c)).map Char.toNat := by
  induction z with
  | nil => rfl
  | cons a r ih =>
    by_cases h : a = c
    · subst h
      rw [List.map_cons, List.filter_cons_of_neg (by simp), List.filter_cons_of_neg (by simp), ih]
    · have h1 : a.toNat ≠ c.toNat := fun e => h (toNat_inj e)
      rw [List.map_cons, List.filter_cons_of_pos (by simpa using h1), List.filter_cons_of_pos (by simpa using h), List.map_cons, ih]
theorem strike_str (z : Tx) (c : Char) : PySem.Txt.replace (str z) ⟨#[c.toNat]⟩ ⟨#[]⟩ = str (z.filter (fun x => x != c)) := by
  apply TL.ext_tl
  show (PySem.Txt.replace (str z) ⟨#[c.toNat]⟩ ⟨#[]⟩).cps.toList = (str (z.filter (fun x => x != c))).cps.toList
  rw [PyProof.Rows.replace_strikes, str_cps, str_cps, filter_map_nat]
theorem rs_draw {is ik iF : Nat} {env : En} {fi : SE} {t : M Int} {E : P3 Tx Tx Tx → En} {z f : Tx} (hz : env[ik]? = some (.sh (d z))) (hf : env[iF]? = some (.sh (d f))) (h : Ref (fi env) t)
    (hE : ∀ x : P3 Tx Tx Tx, bindL [is, iF, ik] [d x.a, d x.b, d x.c] env = some (E x)) : RefO (emN E) (ssDraw is ik iF fi env) (t.bind fun i => drawT z f i) := by
  have hz' : env[ik]? = some (.sh (.str (str z))) := hz
  have hf' : env[iF]? = some (.sh (.str (str f))) := hf
  cases t with
  | st => trivial
  | er c fs =>
    have h' : fi env = .er c fs := h
    refine ⟨env, ?_⟩
    unfold ssDraw
    rw [hz', hf']
    show bndS (fi env) env _ = _
    rw [h']; rfl
  | ok i =>
    have h' : fi env = .ok (.int i) := h
    show RefO _ _ (drawT z f i)
    unfold drawT
    cases q : L2.atI z i with
    | none => trivial
    | some c =>
      show RefO _ _ (gd _ _)
      unfold gd
      split
      · rename_i hl
        have e1 : L2.atI (str z).cps.toList i = some c.toNat := by rw [str_cps, atI_map, q]; rfl
        have hb := hE ⟨[c], f ++ [c], z.filter (fun x => x != c)⟩
        have hb' : bindL [is, iF, ik] [.str ⟨#[c.toNat]⟩, .str (str f ++ (⟨#[c.toNat]⟩ : PySem.Str)), .str (PySem.Txt.replace (str z) ⟨#[c.toNat]⟩ ⟨#[]⟩)] env = some (E ⟨[c], f ++ [c], z.filter (fun x => x != c)⟩) := by
          rw [strike_str, ← str_sg, ← str_app]; exact hb
        show ssDraw is ik iF fi env = .nx _
        unfold ssDraw
        rw [hz', hf']
        show bndS (fi env) env _ = _
        rw [h']
        show (match L2.atI (str z).cps.toList i with
          | some c => if (str z).length ≤ PySem.sizeLine ∧ (str f).length + 1 ≤ PySem.sizeLine then (match bindL [is, iF, ik] [.str ⟨#[c]⟩, .str (str f ++ (⟨#[c]⟩ : PySem.Str)), .str (PySem.Txt.replace (str z) ⟨#[c]⟩ ⟨#[]⟩)] env with
            | some e => O.nx e
            | none => .st) else .st
          | none => .st) = _
        rw [e1]
        show (if (str z).length ≤ PySem.sizeLine ∧ (str f).length + 1 ≤ PySem.sizeLine then (match bindL [is, iF, ik] [.str ⟨#[c.toNat]⟩, .str (str f ++ (⟨#[c.toNat]⟩ : PySem.Str)), .str (PySem.Txt.replace (str z) ⟨#[c.toNat]⟩ ⟨#[]⟩)] env with
            | some e => O.nx e
            | none => .st) else .st) = _
        rw [if_pos ⟨by rw [str_len, PySem.sizeLine_eq]; exact hl.1, by rw [str_len, PySem.sizeLine_eq]; omega⟩, hb']
      · trivial
theorem drawT_ok {z f : Tx} {i : Int} {c : Char} (h : L2.atI z i = some c) (hz : z.length ≤ 16777216) (hf : f.length < 16777216) : drawT z f i = .ok (⟨[c], f ++ [c], z.filter (fun x => x != c)⟩ : P3 Tx Tx Tx) := by
  unfold drawT; rw [h]; exact gd_ok ⟨hz, hf⟩
end Tm

namespace Tm
open Ps
open Emb (d)
section
variable {α β γ : Type} [Emb α] [Emb β] {f g : SE} {env : En} {em : γ → O → Prop} {t : M α} {u : M β}
/-- raise X(..) with fields -/
theorem rs_raise1 {c : Nat} {n : PySem.Str} (h : Ref (f env) t) : RefO em (ssRaise1 c n f env) (t.bind fun v => .er c [(n, d v)]) := by
  cases t with
  | st => trivial
  | er c' fs => exact ⟨env, by unfold ssRaise1; rw [show f env = .er c' fs from h]; rfl⟩
  | ok a => exact ⟨env, by unfold ssRaise1; rw [show f env = .ok (d a) from h]; rfl⟩
theorem rs_raise2 {c : Nat} {n m : PySem.Str} (h : Ref (f env) t) (h2 : Ref (g env) u) : RefO em (ssRaise2 c n m f g env) (t.bind fun v => u.bind fun w => .er c [(m, d w), (n, d v)]) := by
  cases t with
  | st => trivial
  | er c' fs => exact ⟨env, by unfold ssRaise2; rw [show f env = .er c' fs from h]; rfl⟩
  | ok a =>
    have e : ssRaise2 c n m f g env = bndS (g env) env fun e => .er c [(m, e), (n, d a)] env := by unfold ssRaise2; rw [show f env = .ok (d a) from h]; rfl
    cases u with
    | st => trivial
    | er c' fs => exact ⟨env, by rw [e, show g env = .er c' fs from h2]; rfl⟩
    | ok b => exact ⟨env, by rw [e, show g env = .ok (d b) from h2]; rfl⟩
/-- a field of a caught error -/
def xfM (cs : List Nat) (n : PySem.Str) (e : Exc) : M D := if e.c ∈ cs then oM (e.fs.lookup n) else .st
theorem rf_xf {cs : List Nat} {n : PySem.Str} {t : M Exc} (h : Ref (f env) t) : Ref (sXf cs n f env) (t.bind fun e => xfM cs n e) := ref_bnd h fun e => by
  show Ref (if e.c ∈ cs then ofO (e.fs.lookup n) else .st) (if e.c ∈ cs then oM (e.fs.lookup n) else .st)
  split
  · cases e.fs.lookup n <;> first | rfl | trivial
  · trivial
theorem xfM_hd {cs : List Nat} {n : PySem.Str} {c : Nat} {v : D} {r : List (PySem.Str × D)} (h : c ∈ cs) : xfM cs n ⟨c, (n, v) :: r⟩ = .ok v := by
  unfold xfM
  rw [if_pos h, look1D]
  rfl
where look1D {n : PySem.Str} {v : D} {r : List (PySem.Str × D)} : ((n, v) :: r).lookup n = some v := by simp [List.lookup]
/-- a loop that may be left within a suite that falls through: no hand-back -/
def Lt.n {σ ρ β : Type} (k : σ → M β) : Lt σ ρ → M β
  | .nx s => k s
  | .rt _ => .st
end
section
variable {σ ρ β : Type} [Emb ρ] {fr : Bool} {a b : SS} {env : En} {em : β → O → Prop}
theorem rs_seqN {E : σ → En} {t1 : M (Lt σ ρ)} {k : σ → M β} (h1 : RefO (emL fr E) (a env) t1) (h2 : ∀ s, RefO em (b (E s)) (k s)) : RefO em (ssSeq a b env) (t1.bind fun x => x.n k) := by
  cases t1 with
  | ok x =>
    cases x with
    | nx s =>
      show RefO em (match a env with | .nx e => b e | o => o) (k s)
      rw [show a env = .nx (E s) from h1]
      exact h2 s
    | rt r => trivial
  | er c fs =>
    obtain ⟨e, h⟩ := h1
    exact ⟨e, by unfold ssSeq; rw [h]⟩
  | st => trivial
@[simp] theorem Lt_n_nx (k : σ → M β) (s : σ) : (Lt.nx s : Lt σ ρ).n k = k s := rfl
end
end Tm

namespace Tm
open Ps
open Emb (d)
section
variable {α σ ρ : Type} [Emb α] [Emb ρ] {fr : Bool} {g : SS} {env : En} {i : Nat} {l : List α}
theorem ri_bo (h : env[i]? = some (.bo (d l))) : Ref (sBo i env) (M.ok l) := by
  have h' : env[i]? = some (.bo (.lst (l.map d))) := h
  show sBo i env = _
  unfold sBo
  rw [h']; rfl
theorem lend_eq (hi : env[i]? = some (.ow (d l))) : ssLend i g env = backO (env.set i (.bo (d l))) i (d l) (g (env.set i (.bo (d l)))) := by
  have h' : env[i]? = some (.ow (.lst (l.map d))) := hi
  unfold ssLend
  rw [h']; rfl
theorem rs_lendN {E Eb : σ → En} {t : M σ} (hi : env[i]? = some (.ow (d l))) (h : RefO (emN Eb) (g (env.set i (.bo (d l)))) t) (hE : ∀ s, (Eb s).set i (.ow (d l)) = E s)
    (hb : ∀ s, boSame (env.set i (.bo (d l))) (Eb s) = true) : RefO (emN E) (ssLend i g env) (noErM t) := by
  cases t with
  | st => trivial
  | er c fs => trivial
  | ok s =>
    have h' : g (env.set i (.bo (d l))) = .nx (Eb s) := h
    show ssLend i g env = .nx (E s)
    rw [lend_eq hi, h']
    show (if boSame (env.set i (.bo (d l))) (Eb s) then O.nx ((Eb s).set i (.ow (d l))) else .st) = _
    rw [if_pos (hb s), hE s]
theorem rs_lendL {E Eb : σ → En} {t : M (Lt σ ρ)} (hi : env[i]? = some (.ow (d l))) (h : RefO (emL fr Eb) (g (env.set i (.bo (d l)))) t) (hE : ∀ s, (Eb s).set i (.ow (d l)) = E s)
    (hb : ∀ s, boSame (env.set i (.bo (d l))) (Eb s) = true) : RefO (emL fr E) (ssLend i g env) (noErM t) := by
  cases t with
  | st => trivial
  | er c fs => trivial
  | ok x =>
    cases x with
    | nx s =>
      have h' : g (env.set i (.bo (d l))) = .nx (Eb s) := h
      show ssLend i g env = .nx (E s)
      rw [lend_eq hi, h']
      show (if boSame (env.set i (.bo (d l))) (Eb s) then O.nx ((Eb s).set i (.ow (d l))) else .st) = _
      rw [if_pos (hb s), hE s]
    | rt r =>
      have h' : g (env.set i (.bo (d l))) = rtO fr (d r) := h
      show ssLend i g env = rtO fr (d r)
      rw [lend_eq hi, h']
      cases fr <;> rfl
@[simp] theorem noEr_ok {β : Type} (b : β) : noErM (M.ok b) = M.ok b := rfl
end
end Tm

namespace Tm
open Ps
open Emb (d)
section
variable {σ : Type} {a b : SS} {env : En} {i : Nat}
/-- try .. except X as e: the suite's end may name the error -/
theorem rs_tryE {cat : Nat → Option Bool} {E : σ → En} {Eg : Exc → σ → En} {Eh : Exc → En} {tb : M σ} {tg : Exc → M σ} (hb : RefY env (emN E) (a env) tb) (hset : ∀ x : Exc, setSl env i (.sh (d x)) = some (Eh x)) (hg : ∀ x, RefO (emN (Eg x)) (b (Eh x)) (tg x)) (hw : ∀ x s, setSl (Eg x s) i .no = some (E s)) : RefO (emN E) (ssTry cat i a b env) (tryT cat tb tg) := by
  cases tb with
  | ok s =>
    show ssTry cat i a b env = _
    unfold ssTry
    rw [show a env = .nx (E s) from hb.1]
  | st => trivial
  | er c fs =>
    have e : ssTry cat i a b env = (match cat c with | some true => wipeO i (b (Eh ⟨c, fs⟩)) | some false => .er c fs env | none => .st) := by
      unfold ssTry
      rw [show a env = .er c fs env from hb]
      have hs := hset ⟨c, fs⟩
      show (match cat c with | some true => (match setSl env i (.sh (d (⟨c, fs⟩ : Exc))) with | some e1 => wipeO i (b e1) | none => .st) | some false => .er c fs env | none => .st) = _
      rw [hs]
    show RefO _ _ (match cat c with | some true => mkM (tg ⟨c, fs⟩) | some false => .er c fs | none => .st)
    cases q : cat c with
    | none => trivial
    | some x =>
      rw [q] at e
      cases x with
      | false => exact ⟨env, e⟩
      | true =>
        have h := hg ⟨c, fs⟩
        cases q2 : tg ⟨c, fs⟩ with
        | st => trivial
        | er _ _ => trivial
        | ok s =>
          rw [q2] at h
          show ssTry cat i a b env = _
          rw [e, show b (Eh ⟨c, fs⟩) = .nx (Eg ⟨c, fs⟩ s) from h]
          show (match setSl (Eg ⟨c, fs⟩ s) i .no with | some e' => O.nx e' | none => .st) = _
          rw [hw ⟨c, fs⟩ s]
end
end Tm

namespace Tm
open Ps
open Emb (d)
section
variable {f : SE} {env : En}
theorem sgns_en (l : Tx) : (str l).cps.toList.map sgn = (l.map sg).map d := by
  show (str l).cps.toList.map sgn = _
  rw [str_cps, List.map_map, List.map_map]
  rfl
theorem ri_enumS {t : M Tx} (h1 : Ref (f env) t) : Ref (sEnS f env) (t.bind fun l => .ok (enT 0 (l.map sg))) := ref_bnd h1 fun l => congrArg (fun x => R.ok (.lst x)) ((congrArg (enumD 0) (sgns_en l)).trans (enum_en 0 (l.map sg)))
end
end Tm

namespace Tm
open Ps
open Emb (d)
section
variable {f g h : SE} {env : En}
/-- range with a step -/
def rg3T (i j c : Int) : List Int := (List.range (PySem.Builtin.Range.rangeSize i j c).toNat).map fun (k : Nat) => i + (k : Int) * c
def rg3M (i j c : Int) : M (List Int) := gd (c ≠ 0 ∧ c.natAbs < 1073741824 ∧ PySem.Builtin.Range.small i j c = true ∧ 0 ≤ PySem.Builtin.Range.rangeSize i j c) (.ok (rg3T i j c))
theorem ri_rng3 {t u v : M Int} (h1 : Ref (f env) t) (h2 : Ref (g env) u) (h3 : Ref (h env) v) : Ref (sRng rng3 (aCons f (aCons g (aCons h aNil))) env) (t.bind fun n => u.bind fun m => v.bind fun c => rg3M n m c) := args3 h1 h2 h3 fun n m c => ref_gd fun hn => by
  show (match (if _ then _ else _) with | some xs => R.ok (.lst xs) | none => .st) = _
  rw [if_pos hn]
  show R.ok (.lst _) = .ok (.lst ((rg3T n m c).map d))
  unfold rg3T
  rw [List.map_map]
  rfl
end
section
variable {α β : Type} [Emb α] {f : SE} {env : En} {t : M α}
/-- a name set within a try, as a part of the suite's state -/
theorem ry_asgS {T : Tgt} {E : β → En} {k : α → β} (h : Ref (f env) t) (hE : ∀ x, bindT T (d x) env = some (E (k x))) : RefY env (emN E) (ssSeq (ssAsg T f) ssNext env) (t.bind fun x => .ok (k x)) := by
  have h' := ry_asg (E := fun x => E (k x)) h hE
  cases t with
  | ok r => exact h'
  | er c fs => exact h'
  | st => trivial
end
end Tm

namespace Tm
open Ps
open Emb (d)
section
variable {α σ : Type} [Emb α] {env : En} {i : Nat} {l : List α}
theorem ri_boE (h : env[i]? = some (.bo (d l))) : Ref (sBoE i env) (M.ok (enT 0 l)) := by
  have h' : env[i]? = some (.bo (.lst (l.map d))) := h
  show sBoE i env = _
  unfold sBoE
  rw [h']
  exact congrArg (fun x => R.ok (.lst x)) (enum_en 0 l)
theorem rs_clr {E : List α → En} (h : env[i]? = some (.ow (d l))) (hE : ∀ l', env.set i (.ow (d l')) = E l') : RefO (emN E) (ssClr i env) (M.ok []) := by
  have h' : env[i]? = some (.ow (.lst (l.map d))) := h
  show ssClr i env = .nx (E [])
  unfold ssClr
  rw [h', ← hE []]
  rfl
end
end Tm

namespace Tm
open Ps
open Emb (d)

theorem args12 {α β : Type} [Emb α] [Emb β] {f0 f1 f2 f3 f4 f5 f6 f7 f8 f9 f10 f11 : SE} {env : En} {t0 t1 t2 t3 t4 t5 t6 t7 t8 t9 t10 t11 : M α} {k : List D → R} {u : α → α → α → α → α → α → α → α → α → α → α → α → M β} (h0 : Ref (f0 env) t0) (h1 : Ref (f1 env) t1) (h2 : Ref (f2 env) t2) (h3 : Ref (f3 env) t3) (h4 : Ref (f4 env) t4) (h5 : Ref (f5 env) t5) (h6 : Ref (f6 env) t6) (h7 : Ref (f7 env) t7) (h8 : Ref (f8 env) t8) (h9 : Ref (f9 env) t9) (h10 : Ref (f10 env) t10) (h11 : Ref (f11 env) t11) (hm : ∀ (x0 : α) (x1 : α) (x2 : α) (x3 : α) (x4 : α) (x5 : α) (x6 : α) (x7 : α) (x8 : α) (x9 : α) (x10 : α) (x11 : α), Ref (k [d x0, d x1, d x2, d x3, d x4, d x5, d x6, d x7, d x8, d x9, d x10, d x11]) (u x0 x1 x2 x3 x4 x5 x6 x7 x8 x9 x10 x11)) : Ref (bndA ((aCons f0 (aCons f1 (aCons f2 (aCons f3 (aCons f4 (aCons f5 (aCons f6 (aCons f7 (aCons f8 (aCons f9 (aCons f10 (aCons f11 aNil)))))))))))) env) k) (t0.bind fun x0 => t1.bind fun x1 => t2.bind fun x2 => t3.bind fun x3 => t4.bind fun x4 => t5.bind fun x5 => t6.bind fun x6 => t7.bind fun x7 => t8.bind fun x8 => t9.bind fun x9 => t10.bind fun x10 => t11.bind fun x11 => u x0 x1 x2 x3 x4 x5 x6 x7 x8 x9 x10 x11) := by
  cases t0 with
  | er c fs => exact (show bndA ((aCons f0 (aCons f1 (aCons f2 (aCons f3 (aCons f4 (aCons f5 (aCons f6 (aCons f7 (aCons f8 (aCons f9 (aCons f10 (aCons f11 aNil)))))))))))) env) k = .er c fs by simp only [aCons, aNil, show f0 env = .er c fs from h0, bndA])
  | st => trivial
  | ok x0 =>
  cases t1 with
  | er c fs => exact (show bndA ((aCons f0 (aCons f1 (aCons f2 (aCons f3 (aCons f4 (aCons f5 (aCons f6 (aCons f7 (aCons f8 (aCons f9 (aCons f10 (aCons f11 aNil)))))))))))) env) k = .er c fs by simp only [aCons, aNil, show f0 env = .ok (d x0) from h0, show f1 env = .er c fs from h1, bndA])
  | st => trivial
  | ok x1 =>
  cases t2 with
  | er c fs => exact (show bndA ((aCons f0 (aCons f1 (aCons f2 (aCons f3 (aCons f4 (aCons f5 (aCons f6 (aCons f7 (aCons f8 (aCons f9 (aCons f10 (aCons f11 aNil)))))))))))) env) k = .er c fs by simp only [aCons, aNil, show f0 env = .ok (d x0) from h0, show f1 env = .ok (d x1) from h1, show f2 env = .er c fs from h2, bndA])
  | st => trivial
  | ok x2 =>
  cases t3 with
  | er c fs => exact (show bndA ((aCons f0 (aCons f1 (aCons f2 (aCons f3 (aCons f4 (aCons f5 (aCons f6 (aCons f7 (aCons f8 (aCons f9 (aCons f10 (aCons f11 aNil)))))))))))) env) k = .er c fs by simp only [aCons, aNil, show f0 env = .ok (d x0) from h0, show f1 env = .ok (d x1) from h1, show f2 env = .ok (d x2) from h2, show f3 env = .er c fs from h3, bndA])
  | st => trivial
  | ok x3 =>
  cases t4 with
  | er c fs => exact (show bndA ((aCons f0 (aCons f1 (aCons f2 (aCons f3 (aCons f4 (aCons f5 (aCons f6 (aCons f7 (aCons f8 (aCons f9 (aCons f10 (aCons f11 aNil)))))))))))) env) k = .er c fs by simp only [aCons, aNil, show f0 env = .ok (d x0) from h0, show f1 env = .ok (d x1) from h1, show f2 env = .ok (d x2) from h2, show f3 env = .ok (d x3) from h3, show f4 env = .er c fs from h4, bndA])
  | st => trivial
  | ok x4 =>
  cases t5 with
  | er c fs => exact (show bndA ((aCons f0 (aCons f1 (aCons f2 (aCons f3 (aCons f4 (aCons f5 (aCons f6 (aCons f7 (aCons f8 (aCons f9 (aCons f10 (aCons f11 aNil)))))))))))) env) k = .er c fs by simp only [aCons, aNil, show f0 env = .ok (d x0) from h0, show f1 env = .ok (d x1) from h1, show f2 env = .ok (d x2) from h2, show f3 env = .ok (d x3) from h3, show f4 env = .ok (d x4) from h4, show f5 env = .er c fs from h5, bndA])
  | st => trivial
  | ok x5 =>
  cases t6 with
  | er c fs => exact (show bndA ((aCons f0 (aCons f1 (aCons f2 (aCons f3 (aCons f4 (aCons f5 (aCons f6 (aCons f7 (aCons f8 (aCons f9 (aCons f10 (aCons f11 aNil)))))))))))) env) k = .er c fs by simp only [aCons, aNil, show f0 env = .ok (d x0) from h0, show f1 env = .ok (d x1) from h1, show f2 env = .ok (d x2) from h2, show f3 env = .ok (d x3) from h3, show f4 env = .ok (d x4) from h4, show f5 env = .ok (d x5) from h5, show f6 env = .er c fs from h6, bndA])
  | st => trivial
  | ok x6 =>
  cases t7 with
  | er c fs => exact (show bndA ((aCons f0 (aCons f1 (aCons f2 (aCons f3 (aCons f4 (aCons f5 (aCons f6 (aCons f7 (aCons f8 (aCons f9 (aCons f10 (aCons f11 aNil)))))))))))) env) k = .er c fs by simp only [aCons, aNil, show f0 env = .ok (d x0) from h0, show f1 env = .ok (d x1) from h1, show f2 env = .ok (d x2) from h2, show f3 env = .ok (d x3) from h3, show f4 env = .ok (d x4) from h4, show f5 env = .ok (d x5) from h5, show f6 env = .ok (d x6) from h6, show f7 env = .er c fs from h7, bndA])
  | st => trivial
  | ok x7 =>
  cases t8 with
  | er c fs => exact (show bndA ((aCons f0 (aCons f1 (aCons f2 (aCons f3 (aCons f4 (aCons f5 (aCons f6 (aCons f7 (aCons f8 (aCons f9 (aCons f10 (aCons f11 aNil)))))))))))) env) k = .er c fs by simp only [aCons, aNil, show f0 env = .ok (d x0) from h0, show f1 env = .ok (d x1) from h1, show f2 env = .ok (d x2) from h2, show f3 env = .ok (d x3) from h3, show f4 env = .ok (d x4) from h4, show f5 env = .ok (d x5) from h5, show f6 env = .ok (d x6) from h6, show f7 env = .ok (d x7) from h7, show f8 env = .er c fs from h8, bndA])
  | st => trivial
  | ok x8 =>
  cases t9 with
  | er c fs => exact (show bndA ((aCons f0 (aCons f1 (aCons f2 (aCons f3 (aCons f4 (aCons f5 (aCons f6 (aCons f7 (aCons f8 (aCons f9 (aCons f10 (aCons f11 aNil)))))))))))) env) k = .er c fs by simp only [aCons, aNil, show f0 env = .ok (d x0) from h0, show f1 env = .ok (d x1) from h1, show f2 env = .ok (d x2) from h2, show f3 env = .ok (d x3) from h3, show f4 env = .ok (d x4) from h4, show f5 env = .ok (d x5) from h5, show f6 env = .ok (d x6) from h6, show f7 env = .ok (d x7) from h7, show f8 env = .ok (d x8) from h8, show f9 env = .er c fs from h9, bndA])
  | st => trivial
  | ok x9 =>
  cases t10 with
  | er c fs => exact (show bndA ((aCons f0 (aCons f1 (aCons f2 (aCons f3 (aCons f4 (aCons f5 (aCons f6 (aCons f7 (aCons f8 (aCons f9 (aCons f10 (aCons f11 aNil)))))))))))) env) k = .er c fs by simp only [aCons, aNil, show f0 env = .ok (d x0) from h0, show f1 env = .ok (d x1) from h1, show f2 env = .ok (d x2) from h2, show f3 env = .ok (d x3) from h3, show f4 env = .ok (d x4) from h4, show f5 env = .ok (d x5) from h5, show f6 env = .ok (d x6) from h6, show f7 env = .ok (d x7) from h7, show f8 env = .ok (d x8) from h8, show f9 env = .ok (d x9) from h9, show f10 env = .er c fs from h10, bndA])
  | st => trivial
  | ok x10 =>
  cases t11 with
  | er c fs => exact (show bndA ((aCons f0 (aCons f1 (aCons f2 (aCons f3 (aCons f4 (aCons f5 (aCons f6 (aCons f7 (aCons f8 (aCons f9 (aCons f10 (aCons f11 aNil)))))))))))) env) k = .er c fs by simp only [aCons, aNil, show f0 env = .ok (d x0) from h0, show f1 env = .ok (d x1) from h1, show f2 env = .ok (d x2) from h2, show f3 env = .ok (d x3) from h3, show f4 env = .ok (d x4) from h4, show f5 env = .ok (d x5) from h5, show f6 env = .ok (d x6) from h6, show f7 env = .ok (d x7) from h7, show f8 env = .ok (d x8) from h8, show f9 env = .ok (d x9) from h9, show f10 env = .ok (d x10) from h10, show f11 env = .er c fs from h11, bndA])
  | st => trivial
  | ok x11 =>
  have e : (aCons f0 (aCons f1 (aCons f2 (aCons f3 (aCons f4 (aCons f5 (aCons f6 (aCons f7 (aCons f8 (aCons f9 (aCons f10 (aCons f11 aNil)))))))))))) env = .ok [d x0, d x1, d x2, d x3, d x4, d x5, d x6, d x7, d x8, d x9, d x10, d x11] := by simp only [aCons, aNil, show f0 env = .ok (d x0) from h0, show f1 env = .ok (d x1) from h1, show f2 env = .ok (d x2) from h2, show f3 env = .ok (d x3) from h3, show f4 env = .ok (d x4) from h4, show f5 env = .ok (d x5) from h5, show f6 env = .ok (d x6) from h6, show f7 env = .ok (d x7) from h7, show f8 env = .ok (d x8) from h8, show f9 env = .ok (d x9) from h9, show f10 env = .ok (d x10) from h10, show f11 env = .ok (d x11) from h11]
  rw [e]
  exact hm x0 x1 x2 x3 x4 x5 x6 x7 x8 x9 x10 x11
theorem rf_lsN12 {α : Type} [Emb α] {f0 f1 f2 f3 f4 f5 f6 f7 f8 f9 f10 f11 : SE} {env : En} {t0 t1 t2 t3 t4 t5 t6 t7 t8 t9 t10 t11 : M α} (h0 : Ref (f0 env) t0) (h1 : Ref (f1 env) t1) (h2 : Ref (f2 env) t2) (h3 : Ref (f3 env) t3) (h4 : Ref (f4 env) t4) (h5 : Ref (f5 env) t5) (h6 : Ref (f6 env) t6) (h7 : Ref (f7 env) t7) (h8 : Ref (f8 env) t8) (h9 : Ref (f9 env) t9) (h10 : Ref (f10 env) t10) (h11 : Ref (f11 env) t11) : Ref (sLst (aCons f0 (aCons f1 (aCons f2 (aCons f3 (aCons f4 (aCons f5 (aCons f6 (aCons f7 (aCons f8 (aCons f9 (aCons f10 (aCons f11 aNil)))))))))))) env) (t0.bind fun x0 => t1.bind fun x1 => t2.bind fun x2 => t3.bind fun x3 => t4.bind fun x4 => t5.bind fun x5 => t6.bind fun x6 => t7.bind fun x7 => t8.bind fun x8 => t9.bind fun x9 => t10.bind fun x10 => t11.bind fun x11 => .ok [x0, x1, x2, x3, x4, x5, x6, x7, x8, x9, x10, x11]) := args12 h0 h1 h2 h3 h4 h5 h6 h7 h8 h9 h10 h11 fun x0 x1 x2 x3 x4 x5 x6 x7 x8 x9 x10 x11 => by
  rw [if_pos (small_le (by simp))]; rfl
end Tm

namespace Tm
open Ps
open Emb (d)
section
variable {σ : Type} {a b : SS} {env : En} {i : Nat}
/-- try .. except X -/
theorem rs_try0 {cat : Nat → Option Bool} {E : σ → En} {tb tg : M σ} (hb : RefY env (emN E) (a env) tb) (hg : RefO (emN E) (b env) tg) : RefO (emN E) (ssTry0 cat a b env) (tryT cat tb fun _ => tg) := by
  cases tb with
  | ok s =>
    show ssTry0 cat a b env = _
    unfold ssTry0
    rw [show a env = .nx (E s) from hb.1]
  | st => trivial
  | er c fs =>
    have e : ssTry0 cat a b env = (match cat c with | some true => (match b env with | .er _ _ _ => .st | o => o) | some false => .er c fs env | none => .st) := by
      unfold ssTry0
      rw [show a env = .er c fs env from hb] <;> rfl
    show RefO _ _ (match cat c with | some true => mkM tg | some false => .er c fs | none => .st)
    cases q : cat c with
    | none => trivial
    | some x =>
      rw [q] at e
      cases x with
      | false => exact ⟨env, e⟩
      | true =>
        cases q2 : tg with
        | st => trivial
        | er _ _ => trivial
        | ok s =>
          rw [q2] at hg
          show ssTry0 cat a b env = _
          rw [e, show b env = .nx (E s) from hg]
end
section
variable {α : Type} [Emb α] {i : Nat} {env : En} {f : SE} {t : M (List α)}
def extM {α : Type} (l m : List α) : M (List α) := gd (l.length + m.length ≤ 16777216) (.ok (l ++ m))
theorem extM_ok {α : Type} {l m : List α} (h : l.length + m.length ≤ 16777216) : extM l m = .ok (l ++ m) := gd_ok h
theorem rs_ext {E : List α → En} {l : List α} (hx : env[i]? = some (.ow (d l))) (h : Ref (f env) t) (hE : ∀ l', env.set i (.ow (d l')) = E l') : RefO (emN E) (ssExt i f env) (t.bind fun x => extM l x) := by
  have e : ssExt i f env = bndS (f env) env fun x => (match x with | .lst es => if (l.map d).length + es.length ≤ PySem.sizeLine then .nx (env.set i (.ow (.lst (l.map d ++ es)))) else .st | _ => .st) := by unfold ssExt; rw [hx]; rfl
  cases t with
  | ok r =>
    show RefO _ _ (gd _ _)
    unfold gd
    split
    · rename_i hl
      show ssExt i f env = _
      rw [e, show f env = .ok (d r) from h]
      show (if (l.map d).length + (r.map d).length ≤ PySem.sizeLine then O.nx (env.set i (.ow (.lst (l.map d ++ r.map d)))) else .st) = _
      rw [if_pos (by rw [PySem.sizeLine_eq, List.length_map, List.length_map]; exact hl), ← hE]
      show O.nx _ = O.nx _
      rw [d_lst, List.map_append]
    · trivial
  | er c fs => exact ⟨_, by rw [e, show f env = .er c fs from h]; rfl⟩
  | st => trivial
end
def rgL3 (i j c : Int) : M (List Int) := gd (c ≠ 0 ∧ c.natAbs < 1073741824 ∧ PySem.Builtin.Range.small i j c = true ∧ 0 ≤ PySem.Builtin.Range.rangeSize i j c ∧ PySem.Builtin.Range.rangeSize i j c ≤ 16777216) (.ok (rg3T i j c))
theorem rgL3_ok {i j c : Int} (h : c ≠ 0 ∧ c.natAbs < 1073741824 ∧ PySem.Builtin.Range.small i j c = true ∧ 0 ≤ PySem.Builtin.Range.rangeSize i j c ∧ PySem.Builtin.Range.rangeSize i j c ≤ 16777216) : rgL3 i j c = .ok (rg3T i j c) := gd_ok h
theorem rf_listRg3 {f g h : SE} {env : En} {t u v : M Int} (h1 : Ref (f env) t) (h2 : Ref (g env) u) (h3 : Ref (h env) v) : Ref (sCall cRg3 (aCons f (aCons g (aCons h aNil))) env) (t.bind fun n => u.bind fun m => v.bind fun c => rgL3 n m c) := args3 h1 h2 h3
  fun n m c => ref_gd fun hh => by
  show ofO (if _ then _ else _) = _
  rw [if_pos hh]
  show R.ok (.lst _) = .ok (.lst ((rg3T n m c).map d))
  unfold rg3T
  rw [List.map_map]; rfl
def mulW (a b : Int) : M Int := gd (a.natAbs.log2 + b.natAbs.log2 < 1000000) (.ok (a * b))
theorem mulW_ok {a b : Int} (h : a.natAbs.log2 + b.natAbs.log2 < 1000000) : mulW a b = .ok (a * b) := gd_ok h
theorem p_mulW : P2 dMulW fun (a b : Int) => mulW a b := fun a b => ref_gd fun h => by
  show ofO (if a.natAbs.log2 + b.natAbs.log2 < 1000000 then some (D.int (a * b)) else none) = _
  rw [if_pos h]; rfl
end Tm

namespace Tm
open Ps

theorem findSome_ite {α β : Type} (p : α → Bool) (f : α → β) : ∀ l : List α, l.findSome? (fun a => if p a then some (f a) else none) = (l.find? p).map f
  | [] => rfl
  | a :: l => by
    rw [List.findSome?_cons, List.find?_cons]
    cases p a with
    | true => rfl
    | false => exact findSome_ite p f l
theorem find_any {α : Type} (p : α → Bool) (l : List α) : (l.find? p).isSome = l.any p := by
  induction l with
  | nil => rfl
  | cons a l ih =>
    rw [List.find?_cons, List.any_cons]
    cases p a with
    | true => rfl
    | false => exact ih
/-- a search loop -/
theorem forT_search {α σ ρ : Type} {tb : σ → α → M (Ot σ ρ)} {s : σ} {p : α → Bool} {f : α → ρ} {l : List α} (h : ∀ a ∈ l, tb s a = if p a then .ok (.rt (f a)) else .ok (.nx s)) : forT tb l s = .ok (match l.find? p with | some a => .rt (f a) | none => .nx s) := by
  have := forT_find (tb := tb) (s := s) (g := fun a => if p a then some (f a) else none) (l := l) (fun a ha => by
    rw [h a ha]
    cases p a <;> rfl)
  rw [this, findSome_ite]
  cases l.find? p <;> rfl
theorem eqT_tx (a b : Tx) : eqT a b = decide (a = b) := eqT_eq a b
theorem eqT_int (a b : Int) : eqT a b = decide (a = b) := eqT_eq a b
theorem inT_tx (a : Tx) (l : List Tx) : inT a l = decide (a ∈ l) := by rw [Bool.eq_iff_iff, inT_eq]; simp
/-! ### slices -/
theorem sIx_pos (n dd : Nat) (i : Int) (h : 0 ≤ i) : HT.sIx n dd (some i) = min i.toNat n := by
  have := HT.sIx_nat n dd i.toNat
  rw [show ((i.toNat : Nat) : Int) = i by omega] at this
  exact this
theorem cut_take {α : Type} (l : List α) (j : Int) (h : 0 ≤ j) : cut l none (some j) = l.take j.toNat := by
  unfold cut
  rw [sIx_pos _ _ _ h, HT.sIx_none, List.drop_zero, Nat.sub_zero]
  rcases Nat.le_total j.toNat l.length with h1 | h1
  · rw [Nat.min_eq_left h1]
  · rw [Nat.min_eq_right h1, List.take_of_length_le (Nat.le_refl _), List.take_of_length_le h1]
theorem cut_drop {α : Type} (l : List α) (i : Int) (h : 0 ≤ i) : cut l (some i) none = l.drop i.toNat := by
  unfold cut
  rw [sIx_pos _ _ _ h, HT.sIx_none]
  rcases Nat.le_total i.toNat l.length with h1 | h1
  · rw [Nat.min_eq_left h1, List.take_of_length_le (by simp)]
  · rw [Nat.min_eq_right h1, List.drop_of_length_le h1, List.drop_of_length_le (Nat.le_refl _)]; simp
theorem cut_mid {α : Type} (l : List α) (i j : Int) (h : 0 ≤ i) (hj : i ≤ j) : cut l (some i) (some j) = (l.take j.toNat).drop i.toNat := by
  unfold cut
  rw [sIx_pos _ _ _ h, sIx_pos _ _ _ (by omega), List.drop_take]
  rcases Nat.le_total i.toNat l.length with h1 | h1
  · rw [Nat.min_eq_left h1]
    rcases Nat.le_total j.toNat l.length with h2 | h2
    · rw [Nat.min_eq_left h2]
    · rw [Nat.min_eq_right h2, List.take_of_length_le (by simp), List.take_of_length_le (by simp; omega)]
  · rw [Nat.min_eq_right h1, Nat.min_eq_right (by omega), List.drop_of_length_le h1]; simp
/-! ### dicts -/
section
variable {κ α : Type} [Dc κ]
theorem find_upd (a b : κ) (v : α) : ∀ l : List (κ × α), (((l.map fun p => if p.1 = a then (p.1, v) else p).find? fun p => decide (p.1 = b)).map (·.2)) = if a = b then (if l.any (fun p => decide (p.1 = a)) then some v else none) else ((l.find? fun p => decide (p.1 = b)).map (·.2))
  | [] => by simp
  | p :: l => by
    have ih := find_upd a b v l
    have e : decide ((if p.1 = a then (p.1, v) else p).1 = b) = decide (p.1 = b) := by split <;> rfl
    rw [List.map_cons, List.find?_cons, List.find?_cons, List.any_cons, e]
    by_cases h3 : p.1 = b
    · rw [decide_eq_true h3]
      by_cases h1 : p.1 = a
      · have h2 : a = b := h1.symm.trans h3
        simp [h1, h2]
      · have h2 : ¬ a = b := fun z => h1 (h3.trans z.symm)
        simp [h1, h2]
    · rw [decide_eq_false h3]
      simp only
      rw [ih]
      by_cases h2 : a = b
      · have h1 : ¬ p.1 = a := fun z => h3 (z.trans h2)
        rw [if_pos h2, if_pos h2, decide_eq_false h1, Bool.false_or]
      · rw [if_neg h2, if_neg h2]
theorem get_put (m : Dct κ α) (a b : κ) (v : α) : (m.put a v).get? b = if a = b then some v else m.get? b := by
  obtain ⟨l⟩ := m
  unfold Dct.get? Dct.put
  by_cases hc : l.any (fun p => decide (p.1 = a)) = true
  · simp only [hc, if_true]
    rw [find_upd, hc]
    simp
  · simp only [hc]
    have hn : l.find? (fun p => decide (p.1 = a)) = none := by
      rw [List.find?_eq_none]
      intro p hp hz
      exact hc (List.any_eq_true.mpr ⟨p, hp, hz⟩)
    simp only [Bool.false_eq_true, if_false, List.find?_append]
    by_cases h : a = b
    · subst h; rw [hn]; simp
    · simp [h]
theorem put_new {m : Dct κ α} {a : κ} (h : a ∉ m.keys) (v : α) : m.put a v = ⟨m.l ++ [(a, v)]⟩ := by
  obtain ⟨l⟩ := m
  unfold Dct.put
  have hc : ¬ l.any (fun p => decide (p.1 = a)) = true := fun z => by
    obtain ⟨p, h1, h2⟩ := List.any_eq_true.mp z
    exact h (List.mem_map.mpr ⟨p, h1, by simpa using h2⟩)
  simp only [hc]
  rfl
theorem keys_put (m : Dct κ α) (a : κ) (v : α) : (m.put a v).keys = if a ∈ m.keys then m.keys else m.keys ++ [a] := by
  by_cases h : a ∈ m.keys
  · rw [if_pos h]
    obtain ⟨l⟩ := m
    obtain ⟨p, h1, h2⟩ := List.mem_map.mp h
    have hc : l.any (fun p => decide (p.1 = a)) = true := List.any_eq_true.mpr ⟨p, h1, by simpa using h2⟩
    unfold Dct.put Dct.keys
    simp only [hc, if_true]
    rw [List.map_map]
    refine List.map_congr_left fun q _ => ?_
    simp only [Function.comp_apply]
    split <;> rfl
  · rw [if_neg h, put_new h]
    unfold Dct.keys
    rw [List.map_append]; rfl
theorem get_isSome (m : Dct κ α) (a : κ) : (m.get? a).isSome = decide (a ∈ m.keys) := by
  unfold Dct.get? Dct.keys
  rw [Option.isSome_map, find_any, Bool.eq_iff_iff]
  simp
theorem get_some_of_mem {m : Dct κ α} {a : κ} (h : a ∈ m.keys) : ∃ v, m.get? a = some v := by
  have := get_isSome m a
  rw [decide_eq_true h] at this
  exact Option.isSome_iff_exists.mp this
theorem get_none {m : Dct κ α} {a : κ} (h : a ∉ m.keys) : m.get? a = none := by
  have := get_isSome m a
  rw [decide_eq_false h] at this
  cases e : m.get? a with
  | none => rfl
  | some v => rw [e] at this; cases this
/-- a dict told by its keys -/
def mkD {β : Type} (key : β → κ) (g : β → α) (l : List β) : Dct κ α := ⟨l.map fun b => (key b, g b)⟩
theorem mkD_keys {β : Type} (key : β → κ) (g : β → α) (l : List β) : (mkD key g l).keys = l.map key := by
  unfold mkD Dct.keys; rw [List.map_map]; rfl
theorem mkD_len {β : Type} (key : β → κ) (g : β → α) (l : List β) : (mkD key g l).l.length = l.length := by unfold mkD; simp
theorem mkD_get {β : Type} (key : β → κ) (g : β → α) : ∀ (l : List β), (l.map key).Nodup → ∀ b ∈ l, (mkD key g l).get? (key b) = some (g b)
  | [], _, b, h => nomatch h
  | c :: l, nd, b, h => by
    rw [List.map_cons, List.nodup_cons] at nd
    unfold mkD Dct.get?
    rw [List.map_cons, List.find?_cons]
    by_cases e : key c = key b
    · simp only [e, decide_true, Option.map_some]
      rcases List.mem_cons.mp h with rfl | h
      · rfl
      · exact absurd (e ▸ List.mem_map_of_mem h) nd.1
    · simp only [e, decide_false]
      rcases List.mem_cons.mp h with rfl | h
      · exact absurd rfl e
      · exact mkD_get key g l nd.2 b h
theorem dfold {β : Type} (key : β → κ) (g : β → α) {tb : Dct κ α → β → M (Dct κ α)} : ∀ (l : List β) (m : Dct κ α), (l.map key).Nodup → (∀ b ∈ l, key b ∉ m.keys) → m.l.length + l.length < 16777216 →
    (∀ m b, b ∈ l → m.l.length < 16777216 → tb m b = .ok (m.put (key b) (g b))) → foldT tb l m = .ok ⟨m.l ++ l.map fun b => (key b, g b)⟩
  | [], m, _, _, _, _ => by simp
  | b :: l, m, nd, hk, hl, h => by
    rw [List.map_cons, List.nodup_cons] at nd
    rw [List.length_cons] at hl
    have hb := hk b List.mem_cons_self
    rw [foldT_cons, h m b List.mem_cons_self (by omega), bind_ok, put_new hb, dfold key g l ⟨m.l ++ [(key b, g b)]⟩ nd.2 (fun c hc z => ?_) (by simp; omega) fun m c hc => h m c (List.mem_cons_of_mem _ hc)]
    · simp
    · have z : key c ∈ m.keys ++ [key b] := by
        have : (⟨m.l ++ [(key b, g b)]⟩ : Dct κ α).keys = m.keys ++ [key b] := by unfold Dct.keys; simp
        rw [this] at z; exact z
      rcases List.mem_append.mp z with z | z
      · exact hk c (List.mem_cons_of_mem _ hc) z
      · rw [List.mem_singleton] at z
        exact nd.1 (z ▸ List.mem_map_of_mem hc)
/-- .. from the empty one -/
theorem dfold0 {β : Type} (key : β → κ) (g : β → α) {tb : Dct κ α → β → M (Dct κ α)} (l : List β) (nd : (l.map key).Nodup) (hl : l.length < 16777216)
    (h : ∀ m b, b ∈ l → m.l.length < 16777216 → tb m b = .ok (m.put (key b) (g b))) : foldT tb l ⟨[]⟩ = .ok (mkD key g l) := by
  rw [dfold key g l ⟨[]⟩ nd (fun _ _ z => nomatch z) (by simpa using hl) h]
  rfl
theorem ixD_ok {m : Dct κ α} {a : κ} {v : α} (h : m.get? a = some v) : ixD m a = .ok v := by unfold ixD; rw [h]; rfl
end
end Tm

namespace Tm
open Ps
section
variable {κ α : Type} [Dc κ]
theorem dct_len (m : Dct κ α) : m.l.length = m.keys.length := by unfold Dct.keys; simp
theorem get_cons (a : κ) (v : α) (l : List (κ × α)) (k : κ) : (⟨(a, v) :: l⟩ : Dct κ α).get? k = if a = k then some v else (⟨l⟩ : Dct κ α).get? k := by
  unfold Dct.get?
  rw [List.find?_cons]
  by_cases h : a = k <;> simp [h]
/-- a dict is told by its keys and what it answers -/
theorem dct_eta (m : Dct κ α) (nd : m.keys.Nodup) (g : κ → α) (h : ∀ k ∈ m.keys, m.get? k = some (g k)) : m = mkD id g m.keys := by
  obtain ⟨l⟩ := m
  unfold mkD Dct.keys at *
  congr 1
  induction l with
  | nil => rfl
  | cons p l ih =>
    rw [List.map_cons, List.nodup_cons] at nd
    rw [List.map_cons, List.map_cons, ← ih nd.2]
    · have := h p.1 (by simp)
      rw [show p :: l = (p.1, p.2) :: l from rfl, get_cons, if_pos rfl] at this
      rw [show p = (p.1, p.2) from rfl, Option.some.inj this]; rfl
    · intro k hk
      have := h k (List.mem_cons_of_mem _ hk)
      rw [show p :: l = (p.1, p.2) :: l from rfl, get_cons, if_neg (fun (z : p.1 = k) => nd.1 (by rw [z]; exact hk))] at this
      exact this
theorem dct_eta' [Inhabited α] (m : Dct κ α) (nd : m.keys.Nodup) : ∃ g, m = mkD id g m.keys := ⟨fun k => (m.get? k).getD default, dct_eta m nd _ fun k hk => by
  obtain ⟨v, hv⟩ := get_some_of_mem hk
  rw [hv]; rfl⟩
theorem mkD_congr {β : Type} (key : β → κ) {g g' : β → α} {l : List β} (h : ∀ b ∈ l, g b = g' b) : mkD key g l = mkD key g' l := by
  unfold mkD
  congr 1
  exact List.map_congr_left fun b hb => by rw [h b hb]
theorem mkD_get_id {g : κ → α} {l : List κ} (nd : l.Nodup) {k : κ} (h : k ∈ l) : (mkD id g l).get? k = some (g k) := mkD_get id g l (by rw [List.map_id]; exact nd) k h
theorem mkD_none {g : κ → α} {l : List κ} {k : κ} (h : k ∉ l) : (mkD id g l).get? k = none := get_none (by rw [mkD_keys, List.map_id]; exact h)
theorem mkD_keys_id (g : κ → α) (l : List κ) : (mkD id g l).keys = l := by rw [mkD_keys, List.map_id]
theorem mkD_has {g : κ → α} {l : List κ} (k : κ) : ((mkD id g l).get? k).isSome = true ↔ k ∈ l := by
  rw [get_isSome, mkD_keys_id]
  exact decide_eq_true_iff
theorem dfold_id {g : κ → α} {tb : Dct κ α → κ → M (Dct κ α)} (l : List κ) (nd : l.Nodup) (hl : l.length < 16777216)
    (h : ∀ m b, b ∈ l → m.l.length < 16777216 → tb m b = .ok (m.put b (g b))) : foldT tb l ⟨[]⟩ = .ok (mkD id g l) := dfold0 id g l (by rw [List.map_id]; exact nd) hl h
end
section
variable {κ α : Type} [Ke κ]
theorem pairs_fold : ∀ (l : List (κ × α)) (m : Dct κ α), (l.map (·.1)).Nodup → (∀ p ∈ l, p.1 ∉ m.keys) → l.foldl (fun m p => m.put p.1 p.2) m = ⟨m.l ++ l⟩
  | [], m, _, _ => by simp
  | p :: l, m, nd, h => by
    rw [List.map_cons, List.nodup_cons] at nd
    rw [List.foldl_cons, put_new (h p List.mem_cons_self), pairs_fold l ⟨m.l ++ [(p.1, p.2)]⟩ nd.2 fun q hq z => ?_]
    · simp
    · have e : (⟨m.l ++ [(p.1, p.2)]⟩ : Dct κ α).keys = m.keys ++ [p.1] := by unfold Dct.keys; simp
      rw [e] at z
      rcases List.mem_append.mp z with z | z
      · exact h q (List.mem_cons_of_mem _ hq) z
      · rw [List.mem_singleton] at z
        exact nd.1 (z ▸ List.mem_map_of_mem hq)
theorem pairsT_nd {l : List (κ × α)} (nd : (l.map (·.1)).Nodup) : pairsT l = ⟨l⟩ := by
  unfold pairsT
  rw [pairs_fold l ⟨[]⟩ nd (fun _ _ z => nomatch z)]; rfl
variable [Fl α]
theorem eqDct_mk {g : κ → α} {a b : List κ} (hb : b.Nodup) (h : a.Perm b) : eqDct (mkD id g a) (mkD id g b) = true := by
  unfold eqDct
  rw [mkD_len, mkD_len, h.length_eq, beq_self_eq_true, Bool.true_and, List.all_eq_true]
  intro p hp
  obtain ⟨k, hk, rfl⟩ := List.mem_map.mp hp
  have := mkD_get_id (g := g) hb (h.mem_iff.mp hk)
  simp only [id_eq]
  rw [this]
  simp [eqT]
theorem eqDct_iff {g g' : κ → α} {a : List κ} (hb : a.Nodup) : eqDct (mkD id g a) (mkD id g' a) = true ↔ ∀ k ∈ a, g k = g' k := by
  unfold eqDct
  rw [mkD_len, mkD_len, beq_self_eq_true, Bool.true_and, List.all_eq_true]
  constructor
  · intro h k hk
    have := h (k, g k) (List.mem_map.mpr ⟨k, hk, rfl⟩)
    rw [mkD_get_id (g := g') hb hk] at this
    simpa [eqT] using this
  · intro h p hp
    obtain ⟨k, hk, rfl⟩ := List.mem_map.mp hp
    simp only [id_eq]
    rw [mkD_get_id (g := g') hb hk]
    simp [eqT, h k hk]
end
theorem srtT_perm (l : List Tx) : (srtT l).Perm l := List.mergeSort_perm _ _
theorem leT_trans (a b c : Tx) : leT a b = true → leT b c = true → leT a c = true := by
  unfold leT
  simp only [decide_eq_true_eq]
  exact Std.le_trans
theorem leT_total (a b : Tx) : (leT a b || leT b a) = true := by
  unfold leT
  simp only [Bool.or_eq_true, decide_eq_true_eq]
  exact Std.le_total
theorem leT_anti {a b : Tx} (h1 : leT a b = true) (h2 : leT b a = true) : a = b := by
  unfold leT at *
  simp only [decide_eq_true_eq] at *
  have e : a.map Char.toNat = b.map Char.toNat := Std.le_antisymm h1 h2
  exact (List.map_inj_right (fun x y h => toNat_inj h)).mp e
theorem srtT_sorted (l : List Tx) : (srtT l).Pairwise fun a b => leT a b = true := List.pairwise_mergeSort leT_trans leT_total l
/-- sorted texts alike in their members are one list -/
theorem sorted_ext {a b : List Tx} (ha : a.Pairwise fun a b => leT a b = true) (hb : b.Pairwise fun a b => leT a b = true) (h : a.Perm b) : a = b :=
  h.eq_of_pairwise (fun _ _ _ _ h1 h2 => leT_anti h1 h2) ha hb
end Tm

namespace Lw
open PySem PySem.Spec PyProof.Rows L2 Ps
def tb_bool (k : Kd) : Option Bool := match k with
  | .ty n => if n = "NoneType" then some false else if n = "bool" then some true else if n = "int" then some false else if n = "str" then some false else if n = "list" then some false else if n = "tuple" then some false else if n = "dict" then some false else none
  | .err n => if n = 7 then some false else if n = 8 then some false else if n = 9 then some false else if n = 10 then some false else if n = 11 then some false else if n = 12 then some false else if n = 13 then some false else none
  | _ => none
def tb_int (k : Kd) : Option Bool := match k with
  | .ty n => if n = "NoneType" then some false else if n = "bool" then some true else if n = "int" then some true else if n = "str" then some false else if n = "list" then some false else if n = "tuple" then some false else if n = "dict" then some false else none
  | .err n => if n = 7 then some false else if n = 8 then some false else if n = 9 then some false else if n = 10 then some false else if n = 11 then some false else if n = 12 then some false else if n = 13 then some false else none
  | _ => none
def tb_str (k : Kd) : Option Bool := match k with
  | .ty n => if n = "NoneType" then some false else if n = "bool" then some false else if n = "int" then some false else if n = "str" then some true else if n = "list" then some false else if n = "tuple" then some false else if n = "dict" then some false else none
  | .err n => if n = 7 then some false else if n = 8 then some false else if n = 9 then some false else if n = 10 then some false else if n = 11 then some false else if n = 12 then some false else if n = 13 then some false else none
  | _ => none
def b_are_signs : SS := (ssSeq (ssIf (sOr (sNot (sIsi tb_str (sLoc 0))) (sOr (s2 dLt (sCall cLen (aCons (sLoc 0) aNil)) (sC (.int 2))) (s2 dGt (sCall cLen (aCons (sLoc 0) aNil)) (sC (.int 4))))) (ssRet (sC (.bl false))) ssNext) (ssSeq (ssFor (.nm 1) (sItems (sLoc 0)) (ssSeq (ssIf (sOr (s2 dNotIn (sLoc 1) (sC (.str "abcdefghijklmnopqrstuvwxyz0123456789"))) (s2 dGt (sM1 mCount (sLoc 0) (sLoc 1)) (sC (.int 1)))) (ssRet (sC (.bl false))) ssNext) (ssSeq (ssFgt 1) ssNext))) (ssRet (sC (.bl true)))))
def m_are_signs : List D → R := runF 2 [false] false b_are_signs
def b_is_word : SS := (ssSeq (ssIf (sOr (sNot (sIsi tb_str (sLoc 0))) (sOr (s2 dEq (sLoc 0) (sC (.str ""))) (s2 dGt (sCall cLen (aCons (sLoc 0) aNil)) (sC (.int 5))))) (ssRet (sC (.bl false))) ssNext) (ssRet (sCall cAll (aCons (sComp (.nm 2) [2] (sItems (sLoc 0)) (sC (.bl true)) (s2 dIn (sLoc 2) (sLoc 1))) aNil))))
def m_is_word : List D → R := runF 3 [false, false] false b_is_word
def b_first_bad : SS := (ssSeq (ssFor (.nm 2) (sRng rng2 (aCons (sC (.int 1)) (aCons (s2 dAddU (sCall cLen (aCons (sLoc 1) aNil)) (sC (.int 1))) aNil))) (ssSeq (ssFor (.nm 3) (sItems (sFld 0 "barred" (sLocB 0))) (ssSeq (ssIf (s2 dEq (sSl dSlU (sLoc 1) (sPart (sCall cMax2 (aCons (sC (.int 0)) (aCons (s2 dSub (sLoc 2) (sCall cLen (aCons (sLoc 3) aNil))) aNil)))) (sPart (sLoc 2))) (sLoc 3)) (ssRet (sLoc 2)) ssNext) (ssSeq (ssFgt 3) ssNext))) (ssSeq (ssFgt 2) ssNext))) (ssRet (sC .non)))
def m_first_bad : List D → R := runF 4 [true, false] false b_first_bad
def b_Band_places : SS := (ssRet (sCall cList (aCons (sFld 0 "known" (sLocB 0)) aNil)))
def m_Band_places : List D → R := runF 1 [true] false b_Band_places
def b_law_cell : SS := (ssSeq (ssIf (s2 dGe (sLoc 1) (sCall cLen (aCons (sLoc 0) aNil))) (ssRet (sC (.int 0))) ssNext) (ssRet (s2 dIx (sLoc 0) (sLoc 1))))
def m_law_cell : List D → R := runF 2 [false, false] false b_law_cell
def b_law_draw : SS := (ssSeq (ssIf (sAnd (s2 dEq (s2 dMod (sLoc 0) (sC (.int 2))) (sC (.int 1))) (s2 dGt (sLoc 0) (s2 dPow (sC (.int 10)) (sC (.int 30))))) (ssSeq (ssAsg (.nm 3) (s2 dFdiv (sLoc 0) (sC (.int 4999)))) (ssSeq (ssFor (.nm 4) (sRng rng1 (aCons (sLoc 1) aNil)) (ssSeq (ssAsg (.nm 3) (s2 dFdiv (sLoc 3) (sC (.int 4999)))) (ssSeq (ssFgt 4) ssNext))) (ssRet (s2 dMod (s2 dMod (sLoc 3) (sC (.int 4999))) (sLoc 2))))) ssNext) (ssSeq (ssAsg (.nm 5) (s2 dAddU (s2 dAddU (s2 dMod (sLoc 0) (sC (.int 2147483629))) (s2 dMulU (sC (.int 1009)) (sLoc 1))) (sC (.int 17)))) (ssRet (s2 dMod (s2 dMod (s2 dAddU (s2 dMod (s2 dMulU (sLoc 5) (sLoc 5)) (sC (.int 999999937))) (s2 dFdiv (sLoc 5) (sC (.int 65536)))) (sC (.int 1000003))) (sLoc 2)))))
def m_law_draw : List D → R := runF 6 [false, false, false] false b_law_draw
def b_law_is_good : SS := (ssRet (sNot (sCall cAny (aCons (sComp (.nm 2) [2] (sItems (sLoc 1)) (sC (.bl true)) (s2 dIn (sLoc 2) (sLoc 0))) aNil))))
def m_law_is_good : List D → R := runF 3 [false, false] false b_law_is_good
def b_law_rows : SS := (ssSeq (ssAsg (.nm 2) (sLst (aCons (sC (.str "")) aNil))) (ssSeq (ssFor (.nm 3) (sRng rng1 (aCons (sLoc 1) aNil)) (ssSeq (ssOwn 4 (sLst aNil)) (ssSeq (ssFor (.nm 5) (sItems (sLoc 2)) (ssSeq (ssExt 4 (sComp (.nm 6) [6] (sItems (sLoc 0)) (sC (.bl true)) (s2 dAddU (sLoc 5) (sLoc 6)))) (ssSeq (ssFgt 5) ssNext))) (ssSeq (ssFrz 4) (ssSeq (ssAsg (.nm 2) (sLoc 4)) (ssSeq (ssFgt 3) (ssSeq (ssFgt 4) ssNext))))))) (ssRet (sLoc 2))))
def m_law_rows : List D → R := runF 7 [false, false] false b_law_rows
def b_law_number : SS := (ssRet (sAnd (sIsi tb_int (sLoc 0)) (sAnd (sNot (sIsi tb_bool (sLoc 0))) (s2 dEq (sLoc 0) (sLoc 1)))))
def m_law_number : List D → R := runF 2 [false, false] false b_law_number
def b_Band_found_places : SS := (ssSeq (ssOwn 1 (sDisp1 (sC (.str "")) (sC (.bl true)))) (ssSeq (ssFor (.nm 2) (sItems (sFld 0 "barred" (sLocB 0))) (ssSeq (ssFor (.nm 3) (sRng rng2 (aCons (sC (.int 1)) (aCons (sCall cLen (aCons (sLoc 2) aNil)) aNil))) (ssSeq (ssIf (s2 dIs (sFn m_first_bad (aCons (sLocB 0) (aCons (sSl dSlU (sLoc 2) (sC .non) (sPart (sLoc 3))) aNil))) (sC .non)) (ssSeq (ssPut 1 (sSl dSlU (sLoc 2) (sC .non) (sPart (sLoc 3))) (sC (.bl true))) ssNext) ssNext) (ssSeq (ssFgt 3) ssNext))) (ssSeq (ssFgt 2) ssNext))) (ssRet (sCall cSorted (aCons (sLocB 1) aNil)))))
def m_Band_found_places : List D → R := runF 4 [true] false b_Band_found_places
def b_Band_ending : SS := (ssSeq (ssIf (s2 dIsNot (sFn m_first_bad (aCons (sLocB 0) (aCons (sLoc 1) aNil))) (sC .non)) (ssRet (sC .non)) ssNext) (ssSeq (ssAsg (.nm 2) (sCall cMax2 (aCons (sC (.int 0)) (aCons (s2 dSub (sCall cLen (aCons (sLoc 1) aNil)) (sC (.int 5))) aNil)))) (ssSeq (ssWhile 1000000 (s2 dNotIn (sSl dSlU (sLoc 1) (sPart (sLoc 2)) (sC .non)) (sFld 0 "known" (sLocB 0))) (ssSeq (ssAsg (.nm 2) (s2 dAddU (sLoc 2) (sC (.int 1)))) ssNext)) (ssRet (sSl dSlU (sLoc 1) (sPart (sLoc 2)) (sC .non))))))
def m_Band_ending : List D → R := runF 3 [true, false] false b_Band_ending
def b_law_signs : SS := (ssSeq (ssAsg (.nm 1) (sC (.str "abcdefghijklmnopqrstuvwxyz0123456789"))) (ssSeq (ssAsg (.nm 2) (sC (.str ""))) (ssSeq (ssFor (.nm 3) (sRng rng1 (aCons (s2 dAddU (sC (.int 2)) (s2 dMod (sLoc 0) (sC (.int 3)))) aNil)) (ssSeq (ssDraw 4 1 2 (sFn m_law_draw (aCons (s2 dFdiv (sLoc 0) (sC (.int 3))) (aCons (sLoc 3) (aCons (sCall cLen (aCons (sLoc 1) aNil)) aNil))))) (ssSeq (ssFgt 3) (ssSeq (ssFgt 4) ssNext)))) (ssRet (sLoc 2)))))
def m_law_signs : List D → R := runF 5 [false] false b_law_signs
def b_law_word : SS := (ssSeq (ssAsg (.nm 2) (s2 dIx (sLst (aCons (sC (.int 1)) (aCons (sC (.int 2)) (aCons (sC (.int 3)) (aCons (sC (.int 3)) (aCons (sC (.int 4)) (aCons (sC (.int 4)) (aCons (sC (.int 5)) (aCons (sC (.int 5)) aNil))))))))) (sFn m_law_draw (aCons (sLoc 0) (aCons (sC (.int 5)) (aCons (sC (.int 8)) aNil)))))) (ssRet (sM1 mJoin (sC (.str "")) (sComp (.nm 3) [3] (sRng rng1 (aCons (sLoc 2) aNil)) (sC (.bl true)) (s2 dIx (sLoc 1) (sFn m_law_draw (aCons (sLoc 0) (aCons (s2 dAddU (sC (.int 11)) (s2 dMulU (sC (.int 7)) (sLoc 3))) (aCons (sCall cLen (aCons (sLoc 1) aNil)) aNil)))))))))
def m_law_word : List D → R := runF 4 [false, false] false b_law_word
def b_check_row : SS := (ssSeq (ssFor (.tp [2, 3]) (sEnS (sLoc 1)) (ssSeq (ssIf (s2 dNotIn (sLoc 3) (sFld 0 "signs" (sLocB 0))) (ssRaise1 10 "number" (sLoc 2)) ssNext) (ssSeq (ssFgt 2) (ssSeq (ssFgt 3) ssNext)))) ssNext)
def m_check_row : List D → R := runF 4 [true, false] false b_check_row
def b_Band__init_ : SS := (ssSeq (ssIf (sNot (sFn m_are_signs (aCons (sLoc 1) aNil))) (ssRaise 7) ssNext) (ssSeq (ssIf (s2 dGt (sCall cLen (aCons (sLoc 2) aNil)) (sC (.int 6))) (ssRaise1 8 "many" (sCall cLen (aCons (sLoc 2) aNil))) ssNext) (ssSeq (ssFor (.tp [3, 4]) (sEnum (sLoc 2)) (ssSeq (ssIf (sNot (sFn m_is_word (aCons (sLoc 4) (aCons (sLoc 1) aNil)))) (ssRaise1 9 "number" (sLoc 3)) ssNext) (ssSeq (ssFgt 3) (ssSeq (ssFgt 4) ssNext)))) (ssSeq (ssFld 0 0 "signs" (sLoc 1)) (ssSeq (ssFld 0 0 "barred" (sCall cList (aCons (sLoc 2) aNil))) (ssSeq (ssFld 0 0 "known" (sMeth 0 m_Band_found_places (sLocB 0) aNil)) (ssSeq (ssFldG 0 0 "ways" 7 (sC (.dt []))) (ssSeq (ssFor (.nm 5) (sItems (sFld 0 "known" (sLocB 0))) (ssSeq (ssFor (.nm 6) (sItems (sLoc 1)) (ssSeq (ssPutG 0 0 "ways" 7 (sTup (aCons (sLoc 5) (aCons (sLoc 6) aNil))) (sMeth 0 m_Band_ending (sLocB 0) (aCons (s2 dAddU (sLoc 5) (sLoc 6)) aNil))) (ssSeq (ssFgt 6) ssNext))) (ssSeq (ssFgt 5) ssNext))) ssNext))))))))
def m_Band__init_ : List D → RI := runInit 8 0 [false, false] b_Band__init_
def b_Band_led : SS := (ssSeq (ssIf (sOr (sNot (sIsi tb_str (sLoc 1))) (s2 dNotIn (sTup (aCons (sLoc 1) (aCons (s2 dIx (sFld 0 "signs" (sLocB 0)) (sC (.int 0))) aNil))) (sFld 0 "ways" (sLocB 0)))) (ssRaise1 12 "place" (sLoc 1)) ssNext) (ssRet (s2 dIx (sFld 0 "ways" (sLocB 0)) (sTup (aCons (sLoc 1) (aCons (sLoc 2) aNil))))))
def m_Band_led : List D → R := runF 3 [true, false, false] false b_Band_led
def b_law_words : SS := (ssSeq (ssOwn 4 (sLst aNil)) (ssSeq (ssFor (.nm 5) (sRng rng1 (aCons (s2 dMod (sFn m_law_cell (aCons (sLoc 0) (aCons (sLoc 1) aNil))) (s2 dAddU (sLoc 3) (sC (.int 1)))) aNil)) (ssSeq (ssAsg (.nm 6) (sFn m_law_cell (aCons (sLoc 0) (aCons (s2 dAddU (s2 dAddU (sLoc 1) (sC (.int 1))) (sLoc 5)) aNil)))) (ssSeq (ssAsg (.nm 7) (sFn m_law_word (aCons (sLoc 6) (aCons (sLoc 2) aNil)))) (ssSeq (ssIf (sAnd (s2 dGt (sLoc 5) (sC (.int 0))) (s2 dEq (s2 dMod (sLoc 6) (sC (.int 4))) (sC (.int 1)))) (ssSeq (ssAsg (.nm 7) (sSl dSlU (s2 dAddU (sSl dSlU (s2 dIx (sLocB 4) (sNeg (sC (.int 1)))) (sPart (sC (.int 1))) (sC .non)) (sLoc 7)) (sC .non) (sPart (sC (.int 5))))) ssNext) ssNext) (ssSeq (ssIf (sAnd (s2 dGt (sLoc 5) (sC (.int 0))) (s2 dEq (s2 dMod (sLoc 6) (sC (.int 16))) (sC (.int 2)))) (ssSeq (ssAsg (.nm 7) (s2 dIx (sLocB 4) (sC (.int 0)))) ssNext) ssNext) (ssSeq (ssApp 4 (sLoc 7)) (ssSeq (ssFgt 5) (ssSeq (ssFgt 6) (ssSeq (ssFgt 7) ssNext))))))))) (ssSeq (ssFrz 4) (ssRet (sLoc 4)))))
def m_law_words : List D → R := runF 8 [false, false, false, false] false b_law_words
def b_ends_of : SS := (ssSeq (ssOwn 1 (sC (.dk []))) (ssSeq (ssFor (.nm 2) (sItems (sMeth 0 m_Band_places (sLocB 0) aNil)) (ssSeq (ssOwn 3 (sComp (.nm 4) [4] (sItems (sFld 0 "signs" (sLocB 0))) (sC (.bl true)) (sMeth 0 m_Band_led (sLocB 0) (aCons (sLoc 2) (aCons (sLoc 4) aNil))))) (ssSeq (ssPut 1 (sLoc 2) (sComp (.nm 5) [5] (sItems (sLocB 3)) (s2 dIsNot (sLoc 5) (sC .non)) (sLoc 5))) (ssSeq (ssFgt 2) (ssSeq (ssFgt 3) ssNext))))) (ssSeq (ssFrz 1) (ssRet (sLoc 1)))))
def m_ends_of : List D → R := runF 6 [true] false b_ends_of
def b_check_good : SS := (ssSeq (ssExpr (sFn m_check_row (aCons (sLocB 0) (aCons (sLoc 1) aNil)))) (ssSeq (ssAsg (.nm 2) (sFn m_first_bad (aCons (sLocB 0) (aCons (sLoc 1) aNil)))) (ssSeq (ssIf (s2 dIsNot (sLoc 2) (sC .non)) (ssRaise1 11 "length" (sLoc 2)) ssNext) (ssSeq (ssFgt 2) ssNext))))
def m_check_good : List D → R := runF 3 [true, false] false b_check_good
def b_tables : SS := (ssSeq (ssAsg (.nm 2) (sFn m_ends_of (aCons (sLoc 0) aNil))) (ssSeq (ssNest 3 9) (ssSeq (ssLk 2 (ssFor (.nm 4) (sKeys (sLoc 2)) (ssSeq (ssPutN 3 9 (sLoc 4) (sC (.int 1))) (ssSeq (ssFgt 4) ssNext)))) (ssSeq (ssUnl 3 9) (ssSeq (ssFor (.nm 5) (sRng rng1 (aCons (sLoc 1) aNil)) (ssSeq (ssAsg (.nm 6) (s2 dIx (sLocB 3) (sLoc 5))) (ssSeq (ssOwn 7 (sC (.dk []))) (ssSeq (ssLk 2 (ssFor (.nm 4) (sKeys (sLoc 2)) (ssSeq (ssPut 7 (sLoc 4) (sCall cSum (aCons (sComp (.nm 8) [8] (sItems (s2 dIx (sLoc 2) (sLoc 4))) (sC (.bl true)) (s2 dIx (sLoc 6) (sLoc 8))) aNil))) (ssSeq (ssFgt 4) ssNext)))) (ssSeq (ssFrz 7) (ssSeq (ssApp 3 (sLoc 7)) (ssSeq (ssFgt 5) (ssSeq (ssFgt 6) (ssSeq (ssFgt 7) ssNext))))))))) (ssSeq (ssFrz 3) (ssRet (sLoc 3))))))))
def m_tables : List D → R := runF 10 [false, false] false b_tables
def b_count_from : SS := (ssSeq (ssExpr (sMeth 0 m_Band_led (sLoc 0) (aCons (sLoc 1) (aCons (s2 dIx (sFld 0 "signs" (sLoc 0)) (sC (.int 0))) aNil)))) (ssRet (s2 dIx (s2 dIx (sFn m_tables (aCons (sLoc 0) (aCons (sLoc 2) aNil))) (sLoc 2)) (sLoc 1))))
def m_count_from : List D → R := runF 3 [false, false, false] false b_count_from
def b_row_at : SS := (ssSeq (ssAsg (.nm 3) (sFn m_tables (aCons (sLoc 0) (aCons (sLoc 1) aNil)))) (ssSeq (ssIf (sOr (sNot (sIsi tb_int (sLoc 2))) (sIsi tb_bool (sLoc 2))) (ssRaise 13) ssNext) (ssSeq (ssIf (sOr (s2 dLt (sLoc 2) (sC (.int 0))) (s2 dGe (sLoc 2) (s2 dIx (s2 dIx (sLoc 3) (sLoc 1)) (sC (.str ""))))) (ssRaise 13) ssNext) (ssSeq (ssAsg (.nm 4) (sC (.str ""))) (ssSeq (ssAsg (.nm 5) (sC (.str ""))) (ssSeq (ssAsg (.nm 6) (sLoc 2)) (ssSeq (ssFor (.nm 7) (sRng rng3 (aCons (s2 dSub (sLoc 1) (sC (.int 1))) (aCons (sNeg (sC (.int 1))) (aCons (sNeg (sC (.int 1))) aNil)))) (ssSeq (ssFor (.nm 8) (sItems (sFld 0 "signs" (sLoc 0))) (ssSeq (ssAsg (.nm 9) (sMeth 0 m_Band_led (sLoc 0) (aCons (sLoc 5) (aCons (sLoc 8) aNil)))) (ssIf (s2 dIsNot (sLoc 9) (sC .non)) (ssSeq (ssIf (s2 dLt (sLoc 6) (s2 dIx (s2 dIx (sLoc 3) (sLoc 7)) (sLoc 9))) (ssSeq (ssAsg (.nm 4) (s2 dAddU (sLoc 4) (sLoc 8))) (ssSeq (ssAsg (.nm 5) (sLoc 9)) (ssSeq (ssFgt 8) (ssSeq (ssFgt 9) ssBrk)))) ssNext) (ssSeq (ssAsg (.nm 6) (s2 dSub (sLoc 6) (s2 dIx (s2 dIx (sLoc 3) (sLoc 7)) (sLoc 9)))) (ssSeq (ssFgt 8) (ssSeq (ssFgt 9) ssNext)))) (ssSeq (ssFgt 8) (ssSeq (ssFgt 9) ssNext))))) (ssSeq (ssFgt 7) ssNext))) (ssRet (sLoc 4)))))))))
def m_row_at : List D → R := runF 10 [false, false, false] false b_row_at
def b_number_of : SS := (ssSeq (ssExpr (sFn m_check_good (aCons (sLoc 0) (aCons (sLoc 1) aNil)))) (ssSeq (ssAsg (.nm 2) (sFn m_tables (aCons (sLoc 0) (aCons (sCall cLen (aCons (sLoc 1) aNil)) aNil)))) (ssSeq (ssAsg (.nm 3) (sC (.str ""))) (ssSeq (ssAsg (.nm 4) (sC (.int 0))) (ssSeq (ssFor (.nm 5) (sRng rng1 (aCons (sCall cLen (aCons (sLoc 1) aNil)) aNil)) (ssSeq (ssFor (.nm 6) (sItems (sFld 0 "signs" (sLoc 0))) (ssSeq (ssAsg (.nm 7) (sMeth 0 m_Band_led (sLoc 0) (aCons (sLoc 3) (aCons (sLoc 6) aNil)))) (ssSeq (ssIf (s2 dEq (sLoc 6) (s2 dIx (sLoc 1) (sLoc 5))) (ssSeq (ssAsg (.nm 3) (sLoc 7)) (ssSeq (ssFgt 6) (ssSeq (ssFgt 7) ssBrk))) ssNext) (ssSeq (ssIf (s2 dIsNot (sLoc 7) (sC .non)) (ssSeq (ssAsg (.nm 4) (s2 dAddU (sLoc 4) (s2 dIx (s2 dIx (sLoc 2) (s2 dSub (s2 dSub (sCall cLen (aCons (sLoc 1) aNil)) (sC (.int 1))) (sLoc 5))) (sLoc 7)))) ssNext) ssNext) (ssSeq (ssFgt 6) (ssSeq (ssFgt 7) ssNext)))))) (ssSeq (ssFgt 5) ssNext))) (ssRet (sLoc 4)))))))
def m_number_of : List D → R := runF 8 [false, false] false b_number_of
def b_count : SS := (ssRet (sFn m_count_from (aCons (sLoc 0) (aCons (sC (.str "")) (aCons (sLoc 1) aNil)))))
def m_count : List D → R := runF 2 [false, false] false b_count
def b_law : SS := (ssSeq (ssAsg (.nm 1) (sFn m_law_signs (aCons (sFn m_law_cell (aCons (sLoc 0) (aCons (sC (.int 0)) aNil))) aNil))) (ssSeq (ssAsg (.nm 2) (sFn m_law_words (aCons (sLoc 0) (aCons (sC (.int 1)) (aCons (sLoc 1) (aCons (sC (.int 6)) aNil)))))) (ssSeq (ssAsg (.nm 3) (sMk 0 m_Band__init_ (aCons (sLoc 1) (aCons (sCall cList (aCons (sLoc 2) aNil)) aNil)))) (ssSeq (ssAsg (.nm 4) (s2 dMod (sFn m_law_cell (aCons (sLoc 0) (aCons (sC (.int 9)) aNil))) (s2 dIx (sLst (aCons (sC (.int 7)) (aCons (sC (.int 5)) (aCons (sC (.int 4)) aNil)))) (s2 dSub (sCall cLen (aCons (sLoc 1) aNil)) (sC (.int 2)))))) (ssSeq (ssAsg (.nm 5) (sFn m_law_rows (aCons (sLoc 1) (aCons (sLoc 4) aNil)))) (ssSeq (ssOwn 6 (sComp (.nm 7) [7] (sItems (sLoc 5)) (sFn m_law_is_good (aCons (sLoc 7) (aCons (sLoc 2) aNil))) (sLoc 7))) (ssSeq (ssIf (sNot (sFn m_law_number (aCons (sFn m_count (aCons (sLoc 3) (aCons (sLoc 4) aNil))) (aCons (sCall cLen (aCons (sLocB 6) aNil)) aNil)))) (ssRet (sC (.bl false))) ssNext) (ssSeq (ssFor (.nm 8) (sItems (sMeth 0 m_Band_places (sLoc 3) aNil)) (ssSeq (ssAsg (.nm 9) (sCall cLen (aCons (sComp (.nm 7) [7] (sItems (sLoc 5)) (sFn m_law_is_good (aCons (s2 dAddU (sLoc 8) (sLoc 7)) (aCons (sLoc 2) aNil))) (sLoc 7)) aNil))) (ssSeq (ssIf (sNot (sFn m_law_number (aCons (sFn m_count_from (aCons (sLoc 3) (aCons (sLoc 8) (aCons (sLoc 4) aNil)))) (aCons (sLoc 9) aNil)))) (ssRet (sC (.bl false))) ssNext) (ssSeq (ssFgt 8) (ssSeq (ssFgt 9) ssNext))))) (ssSeq (ssAsg (.nm 10) (s2 dAddU (sC (.int 1)) (s2 dFdiv (sCall cLen (aCons (sLocB 6) aNil)) (sC (.int 24))))) (ssSeq (ssAsg (.nm 11) (sCall cRg3 (aCons (s2 dMod (sFn m_law_cell (aCons (sLoc 0) (aCons (sC (.int 11)) aNil))) (sLoc 10)) (aCons (sCall cLen (aCons (sLocB 6) aNil)) (aCons (sLoc 10) aNil))))) (ssSeq (ssIf (s2 dEq (s2 dMod (sFn m_law_cell (aCons (sLoc 0) (aCons (sC (.int 10)) aNil))) (sC (.int 2))) (sC (.int 1))) (ssSeq (ssAsg (.nm 11) (sRev (sLoc 11))) ssNext) ssNext) (ssSeq (ssFor (.nm 12) (sItems (sLoc 11)) (ssSeq (ssAsg (.nm 7) (sFn m_row_at (aCons (sLoc 3) (aCons (sLoc 4) (aCons (sLoc 12) aNil))))) (ssSeq (ssIf (sOr (sNot (sIsi tb_str (sLoc 7))) (sOr (s2 dNe (sLoc 7) (s2 dIx (sLocB 6) (sLoc 12))) (sNot (sFn m_law_number (aCons (sFn m_number_of (aCons (sLoc 3) (aCons (sLoc 7) aNil))) (aCons (sLoc 12) aNil)))))) (ssRet (sC (.bl false))) ssNext) (ssSeq (ssFgt 7) (ssSeq (ssFgt 12) ssNext))))) (ssRet (sFn m_law_number (aCons (sFn m_count (aCons (sLoc 3) (aCons (sLoc 4) aNil))) (aCons (sCall cLen (aCons (sLocB 6) aNil)) aNil))))))))))))))))
def m_law : List D → R := runF 13 [false] false b_law
end Lw

namespace Lw
open Ps Tm
open Emb (d)
noncomputable section
theorem tbk_bool_NoneType : tb_bool (.ty "NoneType") = some false := by decide +kernel
theorem tbk_bool_bool : tb_bool (.ty "bool") = some true := by decide +kernel
theorem tbk_bool_int : tb_bool (.ty "int") = some false := by decide +kernel
theorem tbk_bool_str : tb_bool (.ty "str") = some false := by decide +kernel
theorem tbk_bool_list : tb_bool (.ty "list") = some false := by decide +kernel
theorem tbk_bool_tuple : tb_bool (.ty "tuple") = some false := by decide +kernel
theorem tbk_bool_dict : tb_bool (.ty "dict") = some false := by decide +kernel
theorem tbk_int_NoneType : tb_int (.ty "NoneType") = some false := by decide +kernel
theorem tbk_int_bool : tb_int (.ty "bool") = some true := by decide +kernel
theorem tbk_int_int : tb_int (.ty "int") = some true := by decide +kernel
theorem tbk_int_str : tb_int (.ty "str") = some false := by decide +kernel
theorem tbk_int_list : tb_int (.ty "list") = some false := by decide +kernel
theorem tbk_int_tuple : tb_int (.ty "tuple") = some false := by decide +kernel
theorem tbk_int_dict : tb_int (.ty "dict") = some false := by decide +kernel
theorem tbk_str_NoneType : tb_str (.ty "NoneType") = some false := by decide +kernel
theorem tbk_str_bool : tb_str (.ty "bool") = some false := by decide +kernel
theorem tbk_str_int : tb_str (.ty "int") = some false := by decide +kernel
theorem tbk_str_str : tb_str (.ty "str") = some true := by decide +kernel
theorem tbk_str_list : tb_str (.ty "list") = some false := by decide +kernel
theorem tbk_str_tuple : tb_str (.ty "tuple") = some false := by decide +kernel
theorem tbk_str_dict : tb_str (.ty "dict") = some false := by decide +kernel
structure TBand where
  signs : Tx
  barred : (List Tx)
  known : Option (List Tx)
  ways : Option (Dct (Tx × Tx) (Option Tx))
instance : Emb TBand := ⟨fun x => .obj 0 (("signs", d x.signs) :: ("barred", d x.barred) :: (match x.known with | some v => ("known", d v) :: (match x.ways with | some v => ("ways", d v) :: [] | none => []) | none => (match x.ways with | some v => ("ways", d v) :: [] | none => [])) : List (PySem.Str × D))⟩
instance : Nnd TBand := ⟨fun _ => rfl⟩
theorem fl_Band_signs (x : TBand) : Ref (fldR 0 "signs" (.ok (d x))) (.ok x.signs) := by
  refine fl_mk rfl ?_
  rw [List.lookup_cons, show (("signs" : PySem.Str) == "signs") = true from by decide +kernel]; rfl
theorem fl_Band_barred (x : TBand) : Ref (fldR 0 "barred" (.ok (d x))) (.ok x.barred) := by
  refine fl_mk rfl ?_
  rw [List.lookup_cons, show (("barred" : PySem.Str) == "signs") = false from by decide +kernel, List.lookup_cons, show (("barred" : PySem.Str) == "barred") = true from by decide +kernel]; rfl
theorem fl_Band_known (x : TBand) : Ref (fldR 0 "known" (.ok (d x))) (oM x.known) := by
  obtain ⟨x_signs, x_barred, x_known, x_ways⟩ := x
  cases x_known <;> cases x_ways <;> (refine fl_mk rfl ?_; simp only [List.lookup_cons, List.lookup_nil, show (("known" : PySem.Str) == "signs") = false from by decide +kernel, show (("known" : PySem.Str) == "barred") = false from by decide +kernel, show (("known" : PySem.Str) == "known") = true from by decide +kernel, show (("known" : PySem.Str) == "ways") = false from by decide +kernel]; first | rfl | trivial)
theorem fl_Band_ways (x : TBand) : Ref (fldR 0 "ways" (.ok (d x))) (oM x.ways) := by
  obtain ⟨x_signs, x_barred, x_known, x_ways⟩ := x
  cases x_known <;> cases x_ways <;> (refine fl_mk rfl ?_; simp only [List.lookup_cons, List.lookup_nil, show (("ways" : PySem.Str) == "signs") = false from by decide +kernel, show (("ways" : PySem.Str) == "barred") = false from by decide +kernel, show (("ways" : PySem.Str) == "known") = false from by decide +kernel, show (("ways" : PySem.Str) == "ways") = true from by decide +kernel]; first | rfl | trivial)
def t_are_signs_L1 (v_thing : Tx) (q6 : Unit) (a7 : Tx) : M (Ot Unit Bool) :=
    (M.bind (M.ok ((!hasT a7 ("abcdefghijklmnopqrstuvwxyz0123456789".toList : Tx)) || (decide ((1 : Int) < (countT v_thing a7))))) fun c8 => if c8 then
    (M.bind (M.ok false) fun r9 => M.ok (Ot.rt r9)) else
    (M.ok (Ot.nx ())))
def t_are_signs (v_thing : Tx) : M Bool :=
    (M.bind (M.bind (M.ok (!true)) fun x4 => if x4 then M.ok true else (M.bind (M.bind (lenS v_thing) fun x1 => M.ok (decide (x1 < (2 : Int)))) fun x3 => if x3 then M.ok true else (M.bind (lenS v_thing) fun x2 => M.ok (decide ((4 : Int) < x2))))) fun c5 => if c5 then
    (M.ok false) else
    (M.bind (M.bind (M.ok (List.map sg v_thing)) fun l11 => forT (t_are_signs_L1 v_thing) l11 ()) fun y12 => y12.f fun s10 =>
    (M.ok true)))
theorem br_are_signs (v_thing : Tx) : Ref (m_are_signs [d v_thing]) (t_are_signs v_thing) :=
    rf_run
    (rs_ifx (cv (rf_or (rf_not (rf_isi (α := Tx) (fun _ => tbk_str_str) (rf_loc 0 rfl))) (rf_or (rf_s2 p_lt (rf_call1 p_lenS (rf_loc 0 rfl)) (rf_c (a := (2 : Int)) rfl)) (rf_s2 p_gt (rf_call1 p_lenS (rf_loc 0 rfl)) (rf_c (a := (4 : Int)) rfl)))))
    (xF (rs_ret (cv (rf_c (a := false) rfl))))
    (rs_skip (rs_seqF (E := (fun (q : Unit) => [.sh (d (v_thing : Tx)), .no])) (rl_for (E := (fun (q : Unit) => [.sh (d (v_thing : Tx)), .no])) (E' := (fun (q6 : Unit) (a7 : Tx) => [.sh (d (v_thing : Tx)), .sh (d (a7 : Tx))])) () rfl (cv (ri_txt (rf_loc 0 rfl))) (fun _ _ => rfl) fun q6 a7 =>
    (rs_ifx (cv (rf_orp (rf_s2 p_notInS (rf_loc 1 rfl) (rf_txt (x := "abcdefghijklmnopqrstuvwxyz0123456789".toList) (str_of _))) (rf_s2 p_gt (rf_m1 p_count (rf_loc 0 rfl) (rf_loc 1 rfl)) (rf_c (a := (1 : Int)) rfl))))
    (rx_ret (E := (fun (q : Unit) => [.sh (d (v_thing : Tx)), .no])) (rs_ret (cv (rf_c (a := false) rfl))))
    (rs_skip (rs_pre (env' := [.sh (d (v_thing : Tx)), .no]) rfl (rg_next (E := (fun (q : Unit) => [.sh (d (v_thing : Tx)), .no])) (s := ()) rfl))))) fun s10 =>
    (rs_ret (cv (rf_c (a := true) rfl))))))
def t_is_word (v_thing : Tx) (v_signs : Tx) : M Bool :=
    (M.bind (M.bind (M.ok (!true)) fun x3 => if x3 then M.ok true else (M.bind (M.ok (eqT v_thing ("".toList : Tx))) fun x2 => if x2 then M.ok true else (M.bind (lenS v_thing) fun x1 => M.ok (decide ((5 : Int) < x1))))) fun c4 => if c4 then
    (M.ok false) else
    (M.bind (compM (fun (a5 : Tx) => (M.ok (hasT a5 v_signs))) (List.map sg v_thing)) fun x6 => M.ok (List.all x6 id)))
theorem br_is_word (v_thing : Tx) (v_signs : Tx) : Ref (m_is_word [d v_thing, d v_signs]) (t_is_word v_thing v_signs) :=
    rf_run
    (rs_ifx (cv (rf_or (rf_not (rf_isi (α := Tx) (fun _ => tbk_str_str) (rf_loc 0 rfl))) (rf_or (rf_s2 p_eq (rf_loc 0 rfl) (rf_txt (x := "".toList) (str_of _))) (rf_s2 p_gt (rf_call1 p_lenS (rf_loc 0 rfl)) (rf_c (a := (5 : Int)) rfl)))))
    (xF (rs_ret (cv (rf_c (a := false) rfl))))
    (rs_skip (rs_ret (cv (rf_call1 p_all (rf_comp (E := (fun (a5 : Tx) => [.sh (d (v_thing : Tx)), .sh (d (v_signs : Tx)), .sh (d (a5 : Tx))])) (k := (fun (a5 : Tx) => (M.ok (hasT a5 v_signs)))) (ri_txt (rf_loc 0 rfl)) rfl (fun _ => rfl) (fun a5 => cv (rf_s2 p_inS (rf_loc 2 rfl) (rf_loc 1 rfl)))))))))
def t_first_bad_L1 (v_row : Tx) (a4 : Int) (q5 : Unit) (a6 : Tx) : M (Ot Unit (Option Int)) :=
    (M.bind (M.bind (M.bind (M.bind (M.bind (M.bind (lenS a6) fun x7 => M.ok (a4 - x7)) fun x8 => M.ok (max (0 : Int) x8)) fun x9 => M.ok (some x9)) fun x10 => (slS v_row x10 (some a4))) fun x11 => M.ok (eqT x11 a6)) fun c12 => if c12 then
    (M.bind (M.ok ((fun (a : Int) => some ((fun (a : Int) => a) a)) a4)) fun r13 => M.ok (Ot.rt r13)) else
    (M.ok (Ot.nx ())))
def t_first_bad_L2 (v_band : TBand) (v_row : Tx) (q3 : Unit) (a4 : Int) : M (Ot Unit (Option Int)) :=
    (M.bind (M.bind (M.ok v_band.barred) fun l15 => forT (t_first_bad_L1 v_row a4) l15 ()) fun y16 => y16.g fun s14 =>
    (M.ok (Ot.nx ())))
def t_first_bad (v_band : TBand) (v_row : Tx) : M (Option Int) :=
    (M.bind (M.bind (M.bind (M.bind (lenS v_row) fun x1 => M.ok (x1 + (1 : Int))) fun x2 => (rg2M (1 : Int) x2)) fun l18 => forT (t_first_bad_L2 v_band v_row) l18 ()) fun y19 => y19.f fun s17 =>
    (M.ok ((fun (_ : Unit) => (none : (Option Int))) ())))
theorem br_first_bad (v_band : TBand) (v_row : Tx) : Ref (m_first_bad [d v_band, d v_row]) (t_first_bad v_band v_row) :=
    rf_run
    (rs_seqF (E := (fun (q : Unit) => [.bo (d (v_band : TBand)), .sh (d (v_row : Tx)), .no, .no])) (rl_for (E := (fun (q : Unit) => [.bo (d (v_band : TBand)), .sh (d (v_row : Tx)), .no, .no])) (E' := (fun (q3 : Unit) (a4 : Int) => [.bo (d (v_band : TBand)), .sh (d (v_row : Tx)), .sh (d (a4 : Int)), .no])) () rfl (cv (ri_rng2 (rf_c (a := (1 : Int)) rfl) (rf_s2 p_addI (rf_call1 p_lenS (rf_loc 1 rfl)) (rf_c (a := (1 : Int)) rfl)))) (fun _ _ => rfl) fun q3 a4 =>
    (rs_seqG (E := (fun (q : Unit) => [.bo (d (v_band : TBand)), .sh (d (v_row : Tx)), .sh (d (a4 : Int)), .no])) (rl_for (E := (fun (q : Unit) => [.bo (d (v_band : TBand)), .sh (d (v_row : Tx)), .sh (d (a4 : Int)), .no])) (E' := (fun (q5 : Unit) (a6 : Tx) => [.bo (d (v_band : TBand)), .sh (d (v_row : Tx)), .sh (d (a4 : Int)), .sh (d (a6 : Tx))])) () rfl (cv (ri_lst (rf_fld fl_Band_barred (rf_locS 0 rfl)))) (fun _ _ => rfl) fun q5 a6 =>
    (rs_ifx (cv (rf_s2 p_eq (rf_sl p_slS (rf_loc 1 rfl) (rp_some (rf_call2 p_max2 (rf_c (a := (0 : Int)) rfl) (rf_s2 p_sub (rf_loc 2 rfl) (rf_call1 p_lenS (rf_loc 3 rfl))))) (rp_some (rf_loc 2 rfl))) (rf_loc 3 rfl)))
    (rx_ret (E := (fun (q : Unit) => [.bo (d (v_band : TBand)), .sh (d (v_row : Tx)), .sh (d (a4 : Int)), .no])) (rs_ret (cv (rf_coe (fun (a : Int) => some ((fun (a : Int) => a) a)) (fun _ => rfl) (rf_loc 2 rfl)))))
    (rs_skip (rs_pre (env' := [.bo (d (v_band : TBand)), .sh (d (v_row : Tx)), .sh (d (a4 : Int)), .no]) rfl (rg_next (E := (fun (q : Unit) => [.bo (d (v_band : TBand)), .sh (d (v_row : Tx)), .sh (d (a4 : Int)), .no])) (s := ()) rfl))))) fun s14 =>
    (rs_pre (env' := [.bo (d (v_band : TBand)), .sh (d (v_row : Tx)), .no, .no]) rfl (rg_next (E := (fun (q : Unit) => [.bo (d (v_band : TBand)), .sh (d (v_row : Tx)), .no, .no])) (s := ()) rfl)))) fun s17 =>
    (rs_ret (cv (rf_coe (fun (_ : Unit) => (none : (Option Int))) (fun _ => rfl) (rf_c (a := ()) rfl)))))
def t_Band_places (v_self : TBand) : M (List Tx) :=
    (M.bind (oM v_self.known) fun x1 => M.ok x1)
theorem br_Band_places (v_self : TBand) : Ref (m_Band_places [d v_self]) (t_Band_places v_self) :=
    rf_run
    (rs_ret (cv (rf_call1 p_list (rf_fld fl_Band_known (rf_locS 0 rfl)))))
def t_law_cell (v_script : Scr) (v_place : Int) : M Int :=
    (M.bind (M.ok (decide ((List.length v_script.ns : Int) ≤ v_place))) fun c1 => if c1 then
    (M.ok (0 : Int)) else
    (ixL v_script.ns v_place))
theorem br_law_cell (v_script : Scr) (v_place : Int) : Ref (m_law_cell [d v_script, d v_place]) (t_law_cell v_script v_place) :=
    rf_run
    (rs_ifx (cv (rf_s2 p_ge (rf_loc 1 rfl) (rf_call1 p_lenScr (rf_loc 0 rfl))))
    (xF (rs_ret (cv (rf_c (a := (0 : Int)) rfl))))
    (rs_skip (rs_ret (cv (rf_s2 p_ixScr (rf_loc 0 rfl) (rf_loc 1 rfl))))))
def t_law_draw_L1  (q3 : (Int)) (a4 : Int) : M (Int) :=
    (M.bind (M.ok (q3 / 4999)) fun v_digits_5 =>
    (M.ok v_digits_5))
def t_law_draw (v_cell_here : Int) (v_turn : Int) (v_many : Int) : M Int :=
    (M.bind (M.ok ((eqT (v_cell_here % 2) (1 : Int)) && (decide ((10 ^ 30 : Int) < v_cell_here)))) fun c1 => if c1 then
    (M.bind (M.ok (v_cell_here / 4999)) fun v_digits_2 =>
    (M.bind (M.bind (rgM v_turn) fun l7 => foldT t_law_draw_L1 l7 v_digits_2) fun s6 =>
    (modI (s6 % 4999) v_many))) else
    (M.bind (M.ok (((v_cell_here % 2147483629) + (1009 * v_turn)) + (17 : Int))) fun v_number_here_8 =>
    (M.bind (M.bind (M.bind (M.bind (mulI v_number_here_8 v_number_here_8) fun x9 => M.ok (x9 % 999999937)) fun x10 => M.ok (x10 + (v_number_here_8 / 65536))) fun x11 => M.ok (x11 % 1000003)) fun x12 => (modI x12 v_many))))
theorem br_law_draw (v_cell_here : Int) (v_turn : Int) (v_many : Int) : Ref (m_law_draw [d v_cell_here, d v_turn, d v_many]) (t_law_draw v_cell_here v_turn v_many) :=
    rf_run
    (rs_ifx (cv (rf_andp (rf_s2 p_eq (rf_modc (rf_loc 0 rfl)) (rf_c (a := (1 : Int)) rfl)) (rf_s2 p_gt (rf_loc 0 rfl) (rf_powc (k := 10) (n := 30)))))
    (xF (rs_seq (E := (fun (v_digits_2 : Int) => [.sh (d (v_cell_here : Int)), .sh (d (v_turn : Int)), .sh (d (v_many : Int)), .sh (d (v_digits_2 : Int)), .no, .no])) (rs_asg (cv (rf_divc (rf_loc 0 rfl))) (fun _ => rfl)) fun v_digits_2 =>
    (rs_seq (E := (fun (q : (Int)) => [.sh (d (v_cell_here : Int)), .sh (d (v_turn : Int)), .sh (d (v_many : Int)), .sh (d (q : Int)), .no, .no])) (rs_for (E := (fun (q : (Int)) => [.sh (d (v_cell_here : Int)), .sh (d (v_turn : Int)), .sh (d (v_many : Int)), .sh (d (q : Int)), .no, .no])) (E' := (fun (q3 : (Int)) (a4 : Int) => [.sh (d (v_cell_here : Int)), .sh (d (v_turn : Int)), .sh (d (v_many : Int)), .sh (d (q3 : Int)), .sh (d (a4 : Int)), .no])) v_digits_2 rfl (cv (ri_rng1 (rf_loc 1 rfl))) (fun _ _ => rfl) fun q3 a4 =>
    (rs_seq (E := (fun (v_digits_5 : Int) => [.sh (d (v_cell_here : Int)), .sh (d (v_turn : Int)), .sh (d (v_many : Int)), .sh (d (v_digits_5 : Int)), .sh (d (a4 : Int)), .no])) (rs_asg (cv (rf_divc (rf_loc 3 rfl))) (fun _ => rfl)) fun v_digits_5 =>
    (rs_pre (env' := [.sh (d (v_cell_here : Int)), .sh (d (v_turn : Int)), .sh (d (v_many : Int)), .sh (d (v_digits_5 : Int)), .no, .no]) rfl (rs_next (E := (fun (q : (Int)) => [.sh (d (v_cell_here : Int)), .sh (d (v_turn : Int)), .sh (d (v_many : Int)), .sh (d (q : Int)), .no, .no])) (s := v_digits_5) rfl)))) fun s6 =>
    (rs_ret (cv (rf_s2 p_mod (rf_modc (rf_loc 3 rfl)) (rf_loc 2 rfl)))))))
    (rs_skip (rs_seq (E := (fun (v_number_here_8 : Int) => [.sh (d (v_cell_here : Int)), .sh (d (v_turn : Int)), .sh (d (v_many : Int)), .no, .no, .sh (d (v_number_here_8 : Int))])) (rs_asg (cv (rf_s2 p_addI (rf_s2 p_addI (rf_modc (rf_loc 0 rfl)) (rf_cmul (rf_loc 1 rfl))) (rf_c (a := (17 : Int)) rfl))) (fun _ => rfl)) fun v_number_here_8 =>
    (rs_ret (cv (rf_s2 p_mod (rf_modc (rf_s2 p_addI (rf_modc (rf_s2 p_mul (rf_loc 5 rfl) (rf_loc 5 rfl))) (rf_divc (rf_loc 5 rfl)))) (rf_loc 2 rfl)))))))
def t_law_is_good (v_row : Tx) (v_words_here : (List Tx)) : M Bool :=
    (M.bind (M.bind (compM (fun (a1 : Tx) => (M.ok (hasT a1 v_row))) v_words_here) fun x2 => M.ok (List.any x2 id)) fun x3 => M.ok (!x3))
theorem br_law_is_good (v_row : Tx) (v_words_here : (List Tx)) : Ref (m_law_is_good [d v_row, d v_words_here]) (t_law_is_good v_row v_words_here) :=
    rf_run
    (rs_ret (cv (rf_not (rf_call1 p_any (rf_comp (E := (fun (a1 : Tx) => [.sh (d (v_row : Tx)), .sh (d (v_words_here : (List Tx))), .sh (d (a1 : Tx))])) (k := (fun (a1 : Tx) => (M.ok (hasT a1 v_row)))) (ri_lst (rf_loc 1 rfl)) rfl (fun _ => rfl) (fun a1 => cv (rf_s2 p_inS (rf_loc 2 rfl) (rf_loc 0 rfl))))))))
def t_law_rows_L1 (v_signs_here : Tx) (q5 : ((List Tx))) (a6 : Tx) : M ((List Tx)) :=
    (M.bind (M.bind (compM (fun (a8 : Tx) => (addS a6 a8)) (List.map sg v_signs_here)) fun x9 => extM q5 x9) fun v_longer_7 =>
    (M.ok v_longer_7))
def t_law_rows_L2 (v_signs_here : Tx) (q2 : ((List Tx))) (a3 : Int) : M ((List Tx)) :=
    (M.bind (M.ok ([] : List Tx)) fun v_longer_4 =>
    (M.bind (M.bind (M.ok q2) fun l11 => foldT (t_law_rows_L1 v_signs_here) l11 v_longer_4) fun s10 =>
    (M.bind (M.ok s10) fun v_found_12 =>
    (M.ok v_found_12))))
def t_law_rows (v_signs_here : Tx) (v_length : Int) : M (List Tx) :=
    (M.bind (M.ok ([("".toList : Tx)] : List Tx)) fun v_found_1 =>
    (M.bind (M.bind (rgM v_length) fun l14 => foldT (t_law_rows_L2 v_signs_here) l14 v_found_1) fun s13 =>
    (M.ok s13)))
theorem br_law_rows (v_signs_here : Tx) (v_length : Int) : Ref (m_law_rows [d v_signs_here, d v_length]) (t_law_rows v_signs_here v_length) :=
    rf_run
    (rs_seq (E := (fun (v_found_1 : (List Tx)) => [.sh (d (v_signs_here : Tx)), .sh (d (v_length : Int)), .sh (d (v_found_1 : (List Tx))), .no, .no, .no, .no])) (rs_asg (cv (rf_lst (by decide) (rl_cons (rf_txt (x := "".toList) (str_of _)) (rl_nil (α := Tx))))) (fun _ => rfl)) fun v_found_1 =>
    (rs_seq (E := (fun (q : ((List Tx))) => [.sh (d (v_signs_here : Tx)), .sh (d (v_length : Int)), .sh (d (q : (List Tx))), .no, .no, .no, .no])) (rs_for (E := (fun (q : ((List Tx))) => [.sh (d (v_signs_here : Tx)), .sh (d (v_length : Int)), .sh (d (q : (List Tx))), .no, .no, .no, .no])) (E' := (fun (q2 : ((List Tx))) (a3 : Int) => [.sh (d (v_signs_here : Tx)), .sh (d (v_length : Int)), .sh (d (q2 : (List Tx))), .sh (d (a3 : Int)), .no, .no, .no])) v_found_1 rfl (cv (ri_rng1 (rf_loc 1 rfl))) (fun _ _ => rfl) fun q2 a3 =>
    (rs_seq (E := (fun (v_longer_4 : (List Tx)) => [.sh (d (v_signs_here : Tx)), .sh (d (v_length : Int)), .sh (d (q2 : (List Tx))), .sh (d (a3 : Int)), .ow (d (v_longer_4 : (List Tx))), .no, .no])) (rs_own (cv (rf_lst (by decide) (rl_nil (α := Tx)))) (fun _ => rfl)) fun v_longer_4 =>
    (rs_seq (E := (fun (q : ((List Tx))) => [.sh (d (v_signs_here : Tx)), .sh (d (v_length : Int)), .sh (d (q2 : (List Tx))), .sh (d (a3 : Int)), .ow (d (q : (List Tx))), .no, .no])) (rs_for (E := (fun (q : ((List Tx))) => [.sh (d (v_signs_here : Tx)), .sh (d (v_length : Int)), .sh (d (q2 : (List Tx))), .sh (d (a3 : Int)), .ow (d (q : (List Tx))), .no, .no])) (E' := (fun (q5 : ((List Tx))) (a6 : Tx) => [.sh (d (v_signs_here : Tx)), .sh (d (v_length : Int)), .sh (d (q2 : (List Tx))), .sh (d (a3 : Int)), .ow (d (q5 : (List Tx))), .sh (d (a6 : Tx)), .no])) v_longer_4 rfl (cv (ri_lst (rf_loc 2 rfl))) (fun _ _ => rfl) fun q5 a6 =>
    (rs_seq (E := (fun (v_longer_7 : (List Tx)) => [.sh (d (v_signs_here : Tx)), .sh (d (v_length : Int)), .sh (d (q2 : (List Tx))), .sh (d (a3 : Int)), .ow (d (v_longer_7 : (List Tx))), .sh (d (a6 : Tx)), .no])) (rs_ext rfl (cv (rf_comp (E := (fun (a8 : Tx) => [.sh (d (v_signs_here : Tx)), .sh (d (v_length : Int)), .sh (d (q2 : (List Tx))), .sh (d (a3 : Int)), .ow (d (q5 : (List Tx))), .sh (d (a6 : Tx)), .sh (d (a8 : Tx))])) (k := (fun (a8 : Tx) => (addS a6 a8))) (ri_txt (rf_loc 0 rfl)) rfl (fun _ => rfl) (fun a8 => cv (rf_s2 p_addS (rf_loc 5 rfl) (rf_loc 6 rfl))))) (fun _ => rfl)) fun v_longer_7 =>
    (rs_pre (env' := [.sh (d (v_signs_here : Tx)), .sh (d (v_length : Int)), .sh (d (q2 : (List Tx))), .sh (d (a3 : Int)), .ow (d (v_longer_7 : (List Tx))), .no, .no]) rfl (rs_next (E := (fun (q : ((List Tx))) => [.sh (d (v_signs_here : Tx)), .sh (d (v_length : Int)), .sh (d (q2 : (List Tx))), .sh (d (a3 : Int)), .ow (d (q : (List Tx))), .no, .no])) (s := v_longer_7) rfl)))) fun s10 =>
    (rs_pre (env' := [.sh (d (v_signs_here : Tx)), .sh (d (v_length : Int)), .sh (d (q2 : (List Tx))), .sh (d (a3 : Int)), .sh (d (s10 : (List Tx))), .no, .no]) rfl (rs_seq (E := (fun (v_found_12 : (List Tx)) => [.sh (d (v_signs_here : Tx)), .sh (d (v_length : Int)), .sh (d (v_found_12 : (List Tx))), .sh (d (a3 : Int)), .sh (d (s10 : (List Tx))), .no, .no])) (rs_asg (cv (rf_loc 4 rfl)) (fun _ => rfl)) fun v_found_12 =>
    (rs_pre (env' := [.sh (d (v_signs_here : Tx)), .sh (d (v_length : Int)), .sh (d (v_found_12 : (List Tx))), .no, .sh (d (s10 : (List Tx))), .no, .no]) rfl (rs_pre (env' := [.sh (d (v_signs_here : Tx)), .sh (d (v_length : Int)), .sh (d (v_found_12 : (List Tx))), .no, .no, .no, .no]) rfl (rs_next (E := (fun (q : ((List Tx))) => [.sh (d (v_signs_here : Tx)), .sh (d (v_length : Int)), .sh (d (q : (List Tx))), .no, .no, .no, .no])) (s := v_found_12) rfl)))))))) fun s13 =>
    (rs_ret (cv (rf_loc 2 rfl)))))
def t_law_number (v_found : Int) (v_due : Int) : M Bool :=
    (M.ok (true && ((!false) && (eqT v_found v_due))))
theorem br_law_number (v_found : Int) (v_due : Int) : Ref (m_law_number [d v_found, d v_due]) (t_law_number v_found v_due) :=
    rf_run
    (rs_ret (cv (rf_andp (rf_isi (α := Int) (fun _ => tbk_int_int) (rf_loc 0 rfl)) (rf_andp (rf_not (rf_isi (α := Int) (fun _ => tbk_bool_int) (rf_loc 0 rfl))) (rf_s2 p_eq (rf_loc 0 rfl) (rf_loc 1 rfl))))))
def t_Band_found_places_L1 (v_self : TBand) (a3 : Tx) (q5 : ((Dct Tx Bool))) (a6 : Int) : M ((Dct Tx Bool)) :=
    (M.bind (M.bind (M.bind (M.bind (slS a3 (none : Option Int) (some a6)) fun x7 => (t_first_bad v_self x7)) fun x8 => M.ok (Option.isNone x8)) fun c9 => if c9 then
    (M.bind (M.bind (M.ok true) fun x11 => M.bind (slS a3 (none : Option Int) (some a6)) fun x12 => putM q5 x12 x11) fun v_found_10 =>
    (M.ok v_found_10)) else
    (M.ok q5)) fun s13 =>
    (M.ok s13))
def t_Band_found_places_L2 (v_self : TBand) (q2 : ((Dct Tx Bool))) (a3 : Tx) : M ((Dct Tx Bool)) :=
    (M.bind (M.bind (M.bind (lenS a3) fun x4 => (rg2M (1 : Int) x4)) fun l15 => foldT (t_Band_found_places_L1 v_self a3) l15 q2) fun s14 =>
    (M.ok s14))
def t_Band_found_places (v_self : TBand) : M (List Tx) :=
    (M.bind (M.ok (⟨[(("".toList : Tx), true)]⟩ : Dct Tx Bool)) fun v_found_1 =>
    (M.bind (M.bind (M.ok v_self.barred) fun l17 => foldT (t_Band_found_places_L2 v_self) l17 v_found_1) fun s16 =>
    (sortD s16)))
theorem br_Band_found_places (v_self : TBand) : Ref (m_Band_found_places [d v_self]) (t_Band_found_places v_self) :=
    rf_run
    (rs_seq (E := (fun (v_found_1 : (Dct Tx Bool)) => [.bo (d (v_self : TBand)), .ow (d (v_found_1 : (Dct Tx Bool))), .no, .no])) (rs_own (cv (rf_disp1 (rf_txt (x := "".toList) (str_of _)) (rf_c (a := true) rfl))) (fun _ => rfl)) fun v_found_1 =>
    (rs_seq (E := (fun (q : ((Dct Tx Bool))) => [.bo (d (v_self : TBand)), .ow (d (q : (Dct Tx Bool))), .no, .no])) (rs_for (E := (fun (q : ((Dct Tx Bool))) => [.bo (d (v_self : TBand)), .ow (d (q : (Dct Tx Bool))), .no, .no])) (E' := (fun (q2 : ((Dct Tx Bool))) (a3 : Tx) => [.bo (d (v_self : TBand)), .ow (d (q2 : (Dct Tx Bool))), .sh (d (a3 : Tx)), .no])) v_found_1 rfl (cv (ri_lst (rf_fld fl_Band_barred (rf_locS 0 rfl)))) (fun _ _ => rfl) fun q2 a3 =>
    (rs_seq (E := (fun (q : ((Dct Tx Bool))) => [.bo (d (v_self : TBand)), .ow (d (q : (Dct Tx Bool))), .sh (d (a3 : Tx)), .no])) (rs_for (E := (fun (q : ((Dct Tx Bool))) => [.bo (d (v_self : TBand)), .ow (d (q : (Dct Tx Bool))), .sh (d (a3 : Tx)), .no])) (E' := (fun (q5 : ((Dct Tx Bool))) (a6 : Int) => [.bo (d (v_self : TBand)), .ow (d (q5 : (Dct Tx Bool))), .sh (d (a3 : Tx)), .sh (d (a6 : Int))])) q2 rfl (cv (ri_rng2 (rf_c (a := (1 : Int)) rfl) (rf_call1 p_lenS (rf_loc 2 rfl)))) (fun _ _ => rfl) fun q5 a6 =>
    (rs_seq (E := (fun (q : ((Dct Tx Bool))) => [.bo (d (v_self : TBand)), .ow (d (q : (Dct Tx Bool))), .sh (d (a3 : Tx)), .sh (d (a6 : Int))])) (rs_if (cv (rf_s2 p_is (rf_fn2 (rf_locS 0 rfl) (rf_sl p_slS (rf_loc 2 rfl) rp_none (rp_some (rf_loc 3 rfl))) br_first_bad) (rf_c (a := ()) rfl)))
    (rs_seq (E := (fun (v_found_10 : (Dct Tx Bool)) => [.bo (d (v_self : TBand)), .ow (d (v_found_10 : (Dct Tx Bool))), .sh (d (a3 : Tx)), .sh (d (a6 : Int))])) (rs_putD rfl (cv (rf_c (a := true) rfl)) (cv (rf_sl p_slS (rf_loc 2 rfl) rp_none (rp_some (rf_loc 3 rfl)))) (fun _ => rfl)) fun v_found_10 =>
    (rs_next (E := (fun (q : ((Dct Tx Bool))) => [.bo (d (v_self : TBand)), .ow (d (q : (Dct Tx Bool))), .sh (d (a3 : Tx)), .sh (d (a6 : Int))])) (s := v_found_10) rfl))
    (rs_next (E := (fun (q : ((Dct Tx Bool))) => [.bo (d (v_self : TBand)), .ow (d (q : (Dct Tx Bool))), .sh (d (a3 : Tx)), .sh (d (a6 : Int))])) (s := q5) rfl)) fun s13 =>
    (rs_pre (env' := [.bo (d (v_self : TBand)), .ow (d (s13 : (Dct Tx Bool))), .sh (d (a3 : Tx)), .no]) rfl (rs_next (E := (fun (q : ((Dct Tx Bool))) => [.bo (d (v_self : TBand)), .ow (d (q : (Dct Tx Bool))), .sh (d (a3 : Tx)), .no])) (s := s13) rfl)))) fun s14 =>
    (rs_pre (env' := [.bo (d (v_self : TBand)), .ow (d (s14 : (Dct Tx Bool))), .no, .no]) rfl (rs_next (E := (fun (q : ((Dct Tx Bool))) => [.bo (d (v_self : TBand)), .ow (d (q : (Dct Tx Bool))), .no, .no])) (s := s14) rfl)))) fun s16 =>
    (rs_ret (cv (rf_call1 p_sortD (rf_locB 1 rfl))))))
def t_Band_ending_C1 (v_self : TBand) (v_row : Tx) (q6 : (Int)) : M Bool :=
    (M.bind (slS v_row (some q6) (none : Option Int)) fun x7 => (M.bind (oM v_self.known) fun x8 => M.ok (!inT x7 x8)))
def t_Band_ending_L2  (q6 : (Int)) : M (Int) :=
    (M.bind (M.ok (q6 + (1 : Int))) fun v_start_9 =>
    (M.ok v_start_9))
def t_Band_ending (v_self : TBand) (v_row : Tx) : M (Option Tx) :=
    (M.bind (M.bind (t_first_bad v_self v_row) fun x1 => M.ok (Option.isSome x1)) fun c2 => if c2 then
    (M.ok ((fun (_ : Unit) => (none : (Option Tx))) ())) else
    (M.bind (M.bind (M.bind (lenS v_row) fun x4 => M.ok (x4 - (5 : Int))) fun x5 => M.ok (max (0 : Int) x5)) fun v_start_3 =>
    (M.bind (whlT (t_Band_ending_C1 v_self v_row) t_Band_ending_L2 1000000 v_start_3) fun s10 =>
    (M.bind (slS v_row (some s10) (none : Option Int)) fun x11 => M.ok ((fun (a : Tx) => some ((fun (a : Tx) => a) a)) x11)))))
theorem br_Band_ending (v_self : TBand) (v_row : Tx) : Ref (m_Band_ending [d v_self, d v_row]) (t_Band_ending v_self v_row) :=
    rf_run
    (rs_ifx (cv (rf_s2 p_isNot (rf_fn2 (rf_locS 0 rfl) (rf_loc 1 rfl) br_first_bad) (rf_c (a := ()) rfl)))
    (xF (rs_ret (cv (rf_coe (fun (_ : Unit) => (none : (Option Tx))) (fun _ => rfl) (rf_c (a := ()) rfl)))))
    (rs_skip (rs_seq (E := (fun (v_start_3 : Int) => [.bo (d (v_self : TBand)), .sh (d (v_row : Tx)), .sh (d (v_start_3 : Int))])) (rs_asg (cv (rf_call2 p_max2 (rf_c (a := (0 : Int)) rfl) (rf_s2 p_sub (rf_call1 p_lenS (rf_loc 1 rfl)) (rf_c (a := (5 : Int)) rfl)))) (fun _ => rfl)) fun v_start_3 =>
    (rs_seq (E := (fun (q : (Int)) => [.bo (d (v_self : TBand)), .sh (d (v_row : Tx)), .sh (d (q : Int))])) (rs_whl (E := (fun (q : (Int)) => [.bo (d (v_self : TBand)), .sh (d (v_row : Tx)), .sh (d (q : Int))])) (tc := (t_Band_ending_C1 v_self v_row)) (tb := t_Band_ending_L2) (fun q6 => cv (rf_s2 p_notInL (rf_sl p_slS (rf_loc 1 rfl) (rp_some (rf_loc 2 rfl)) rp_none) (rf_fld fl_Band_known (rf_locS 0 rfl)))) (fun q6 =>
    (rs_seq (E := (fun (v_start_9 : Int) => [.bo (d (v_self : TBand)), .sh (d (v_row : Tx)), .sh (d (v_start_9 : Int))])) (rs_asg (cv (rf_s2 p_addI (rf_loc 2 rfl) (rf_c (a := (1 : Int)) rfl))) (fun _ => rfl)) fun v_start_9 =>
    (rs_next (E := (fun (q : (Int)) => [.bo (d (v_self : TBand)), .sh (d (v_row : Tx)), .sh (d (q : Int))])) (s := v_start_9) rfl))) 1000000 v_start_3) fun s10 =>
    (rs_ret (cv (rf_coe (fun (a : Tx) => some ((fun (a : Tx) => a) a)) (fun _ => rfl) (rf_sl p_slS (rf_loc 1 rfl) (rp_some (rf_loc 2 rfl)) rp_none))))))))
def t_law_signs_L1 (v_cell_here : Int) (q3 : (Tx × Tx)) (a4 : Int) : M (Tx × Tx) :=
    (M.bind (M.bind (M.bind (lenS q3.1) fun x5 => (t_law_draw (v_cell_here / 3) a4 x5)) fun x7 => drawT q3.1 q3.2 x7) fun w6 =>
    (M.ok (w6.c, w6.b)))
def t_law_signs (v_cell_here : Int) : M Tx :=
    (M.bind (M.ok ("abcdefghijklmnopqrstuvwxyz0123456789".toList : Tx)) fun v_pool_1 =>
    (M.bind (M.ok ("".toList : Tx)) fun v_found_2 =>
    (M.bind (M.bind (rgM ((2 : Int) + (v_cell_here % 3))) fun l9 => foldT (t_law_signs_L1 v_cell_here) l9 (v_pool_1, v_found_2)) fun s8 =>
    (M.ok s8.2))))
theorem br_law_signs (v_cell_here : Int) : Ref (m_law_signs [d v_cell_here]) (t_law_signs v_cell_here) :=
    rf_run
    (rs_seq (E := (fun (v_pool_1 : Tx) => [.sh (d (v_cell_here : Int)), .sh (d (v_pool_1 : Tx)), .no, .no, .no])) (rs_asg (cv (rf_txt (x := "abcdefghijklmnopqrstuvwxyz0123456789".toList) (str_of _))) (fun _ => rfl)) fun v_pool_1 =>
    (rs_seq (E := (fun (v_found_2 : Tx) => [.sh (d (v_cell_here : Int)), .sh (d (v_pool_1 : Tx)), .sh (d (v_found_2 : Tx)), .no, .no])) (rs_asg (cv (rf_txt (x := "".toList) (str_of _))) (fun _ => rfl)) fun v_found_2 =>
    (rs_seq (E := (fun (q : (Tx × Tx)) => [.sh (d (v_cell_here : Int)), .sh (d (q.1 : Tx)), .sh (d (q.2 : Tx)), .no, .no])) (rs_for (E := (fun (q : (Tx × Tx)) => [.sh (d (v_cell_here : Int)), .sh (d (q.1 : Tx)), .sh (d (q.2 : Tx)), .no, .no])) (E' := (fun (q3 : (Tx × Tx)) (a4 : Int) => [.sh (d (v_cell_here : Int)), .sh (d (q3.1 : Tx)), .sh (d (q3.2 : Tx)), .sh (d (a4 : Int)), .no])) (v_pool_1, v_found_2) rfl (cv (ri_rng1 (rf_s2 p_addI (rf_c (a := (2 : Int)) rfl) (rf_modc (rf_loc 0 rfl))))) (fun _ _ => rfl) fun q3 a4 =>
    (rs_seq (E := (fun (w6 : (P3 Tx Tx Tx)) => [.sh (d (v_cell_here : Int)), .sh (d (w6.c : Tx)), .sh (d (w6.b : Tx)), .sh (d (a4 : Int)), .sh (d (w6.a : Tx))])) (rs_draw rfl rfl (cv (rf_fn3 (rf_divc (rf_loc 0 rfl)) (rf_loc 3 rfl) (rf_call1 p_lenS (rf_loc 1 rfl)) br_law_draw)) (fun _ => rfl)) fun w6 =>
    (rs_pre (env' := [.sh (d (v_cell_here : Int)), .sh (d (w6.c : Tx)), .sh (d (w6.b : Tx)), .no, .sh (d (w6.a : Tx))]) rfl (rs_pre (env' := [.sh (d (v_cell_here : Int)), .sh (d (w6.c : Tx)), .sh (d (w6.b : Tx)), .no, .no]) rfl (rs_next (E := (fun (q : (Tx × Tx)) => [.sh (d (v_cell_here : Int)), .sh (d (q.1 : Tx)), .sh (d (q.2 : Tx)), .no, .no])) (s := (w6.c, w6.b)) rfl))))) fun s8 =>
    (rs_ret (cv (rf_loc 2 rfl))))))
def t_law_word (v_cell_here : Int) (v_signs_here : Tx) : M Tx :=
    (M.bind (M.bind (t_law_draw v_cell_here (5 : Int) (8 : Int)) fun x2 => (ixL ([(1 : Int), (2 : Int), (3 : Int), (3 : Int), (4 : Int), (4 : Int), (5 : Int), (5 : Int)] : List Int) x2)) fun v_long_1 =>
    (M.bind (M.bind (rgM v_long_1) fun x6 => (compM (fun (a3 : Int) => (M.bind (M.bind (lenS v_signs_here) fun x4 => (t_law_draw v_cell_here ((11 : Int) + (7 * a3)) x4)) fun x5 => (ixS v_signs_here x5))) x6)) fun x7 => (joinS ("".toList : Tx) x7)))
theorem br_law_word (v_cell_here : Int) (v_signs_here : Tx) : Ref (m_law_word [d v_cell_here, d v_signs_here]) (t_law_word v_cell_here v_signs_here) :=
    rf_run
    (rs_seq (E := (fun (v_long_1 : Int) => [.sh (d (v_cell_here : Int)), .sh (d (v_signs_here : Tx)), .sh (d (v_long_1 : Int)), .no])) (rs_asg (cv (rf_s2 p_ixL (rf_lst (by decide) (rl_cons (rf_c (a := (1 : Int)) rfl) (rl_cons (rf_c (a := (2 : Int)) rfl) (rl_cons (rf_c (a := (3 : Int)) rfl) (rl_cons (rf_c (a := (3 : Int)) rfl) (rl_cons (rf_c (a := (4 : Int)) rfl) (rl_cons (rf_c (a := (4 : Int)) rfl) (rl_cons (rf_c (a := (5 : Int)) rfl) (rl_cons (rf_c (a := (5 : Int)) rfl) (rl_nil (α := Int))))))))))) (rf_fn3 (rf_loc 0 rfl) (rf_c (a := (5 : Int)) rfl) (rf_c (a := (8 : Int)) rfl) br_law_draw))) (fun _ => rfl)) fun v_long_1 =>
    (rs_ret (cv (rf_m1 p_join (rf_txt (x := "".toList) (str_of _)) (rf_comp (E := (fun (a3 : Int) => [.sh (d (v_cell_here : Int)), .sh (d (v_signs_here : Tx)), .sh (d (v_long_1 : Int)), .sh (d (a3 : Int))])) (k := (fun (a3 : Int) => (M.bind (M.bind (lenS v_signs_here) fun x4 => (t_law_draw v_cell_here ((11 : Int) + (7 * a3)) x4)) fun x5 => (ixS v_signs_here x5)))) (ri_rng1 (rf_loc 2 rfl)) rfl (fun _ => rfl) (fun a3 => cv (rf_s2 p_ixS (rf_loc 1 rfl) (rf_fn3 (rf_loc 0 rfl) (rf_s2 p_addI (rf_c (a := (11 : Int)) rfl) (rf_cmul (rf_loc 3 rfl))) (rf_call1 p_lenS (rf_loc 1 rfl)) br_law_draw))))))))
def t_check_row_L1 (v_band : TBand) (q1 : Unit) (a2 : (Int × Tx)) : M Unit :=
    (M.bind (M.ok (!hasT a2.2 v_band.signs)) fun c3 => if c3 then
    (M.bind (M.ok a2.1) fun x4 => M.er 10 [("number", d x4)]) else
    (M.ok ()))
def t_check_row (v_band : TBand) (v_row : Tx) : M Unit :=
    (M.bind (M.bind (M.bind (M.ok (enT 0 (List.map sg v_row))) fun l6 => foldT (t_check_row_L1 v_band) l6 ()) fun s5 =>
    (M.ok ())) fun _ => M.ok ())
theorem br_check_row (v_band : TBand) (v_row : Tx) : Ref (m_check_row [d v_band, d v_row]) (t_check_row v_band v_row) :=
    rf_runV (σ := Unit)
    (rs_seq (E := (fun (q : Unit) => [.bo (d (v_band : TBand)), .sh (d (v_row : Tx)), .no, .no])) (rs_for (E := (fun (q : Unit) => [.bo (d (v_band : TBand)), .sh (d (v_row : Tx)), .no, .no])) (E' := (fun (q1 : Unit) (a2 : (Int × Tx)) => [.bo (d (v_band : TBand)), .sh (d (v_row : Tx)), .sh (d (a2.1 : Int)), .sh (d (a2.2 : Tx))])) () rfl (cv (ri_enumS (rf_loc 1 rfl))) (fun _ _ => rfl) fun q1 a2 =>
    (rs_ifx (cv (rf_s2 p_notInS (rf_loc 3 rfl) (rf_fld fl_Band_signs (rf_locS 0 rfl))))
    (rs_raise1 (cv (rf_loc 2 rfl)))
    (rs_skip (rs_pre (env' := [.bo (d (v_band : TBand)), .sh (d (v_row : Tx)), .no, .sh (d (a2.2 : Tx))]) rfl (rs_pre (env' := [.bo (d (v_band : TBand)), .sh (d (v_row : Tx)), .no, .no]) rfl (rs_next (E := (fun (q : Unit) => [.bo (d (v_band : TBand)), .sh (d (v_row : Tx)), .no, .no])) (s := ()) rfl)))))) fun s5 =>
    (rs_next (E := (fun (_ : Unit) => [.bo (d (v_band : TBand)), .sh (d (v_row : Tx)), .no, .no])) (s := ()) rfl))
def t_Band__init__L1 (v_signs : Tx) (q5 : Unit) (a6 : (Int × Tx)) : M Unit :=
    (M.bind (M.bind (t_is_word a6.2 v_signs) fun x7 => M.ok (!x7)) fun c8 => if c8 then
    (M.bind (M.ok a6.1) fun x9 => M.er 9 [("number", d x9)]) else
    (M.ok ()))
def t_Band__init__L2 (v_signs_12 : Tx) (v_barred_13 : (List Tx)) (v_known_14 : (List Tx)) (a17 : Tx) (q18 : ((Dct (Tx × Tx) (Option Tx)))) (a19 : Tx) : M ((Dct (Tx × Tx) (Option Tx))) :=
    (M.bind (M.bind (M.bind (addS a17 a19) fun x21 => (t_Band_ending ({ signs := v_signs_12, barred := v_barred_13, known := some v_known_14, ways := none } : TBand) x21)) fun x22 => M.bind (M.ok (a17, a19)) fun x23 => putM q18 x23 x22) fun v_ways_20 =>
    (M.ok v_ways_20))
def t_Band__init__L3 (v_signs : Tx) (v_signs_12 : Tx) (v_barred_13 : (List Tx)) (v_known_14 : (List Tx)) (q16 : ((Dct (Tx × Tx) (Option Tx)))) (a17 : Tx) : M ((Dct (Tx × Tx) (Option Tx))) :=
    (M.bind (M.bind (M.ok (List.map sg v_signs)) fun l25 => foldT (t_Band__init__L2 v_signs_12 v_barred_13 v_known_14 a17) l25 q16) fun s24 =>
    (M.ok s24))
def t_Band__init_ (v_signs : Tx) (v_barred : (List Tx)) : M TBand :=
    (M.bind (M.bind (M.bind (t_are_signs v_signs) fun x1 => M.ok (!x1)) fun c2 => if c2 then
    (M.er 7 []) else
    (M.bind (M.ok (decide ((6 : Int) < (List.length v_barred : Int)))) fun c3 => if c3 then
    (M.bind (M.ok (List.length v_barred : Int)) fun x4 => M.er 8 [("many", d x4)]) else
    (M.bind (M.bind (M.ok (enT 0 v_barred)) fun l11 => foldT (t_Band__init__L1 v_signs) l11 ()) fun s10 =>
    (M.bind (M.ok v_signs) fun v_signs_12 =>
    (M.bind (M.ok v_barred) fun v_barred_13 =>
    (M.bind (t_Band_found_places ({ signs := v_signs_12, barred := v_barred_13, known := none, ways := none } : TBand)) fun v_known_14 =>
    (M.bind (M.ok (⟨[]⟩ : (Dct (Tx × Tx) (Option Tx)))) fun v_ways_15 =>
    (M.bind (M.bind (oM ({ signs := v_signs_12, barred := v_barred_13, known := some v_known_14, ways := none } : TBand).known) fun l27 => foldT (t_Band__init__L3 v_signs v_signs_12 v_barred_13 v_known_14) l27 v_ways_15) fun s26 =>
    (M.ok (v_signs_12, v_barred_13, v_known_14, s26)))))))))) fun (q : (Tx × (List Tx) × (List Tx) × (Dct (Tx × Tx) (Option Tx)))) => M.ok ({ signs := q.1, barred := q.2.1, known := some q.2.2.1, ways := some q.2.2.2 } : TBand))
theorem br_Band__init_ (v_signs : Tx) (v_barred : (List Tx)) : RefI 0 (m_Band__init_ [d v_signs, d v_barred]) (t_Band__init_ v_signs v_barred) :=
    ri_run (E := (fun (q : (Tx × (List Tx) × (List Tx) × (Dct (Tx × Tx) (Option Tx)))) => [.oo 0 [("signs", d (q.1 : Tx)), ("barred", d (q.2.1 : (List Tx))), ("known", d (q.2.2.1 : (List Tx)))] [("ways", 7)], .sh (d (v_signs : Tx)), .sh (d (v_barred : (List Tx))), .no, .no, .no, .no, .gh (d (q.2.2.2 : (Dct (Tx × Tx) (Option Tx))))])) (k := fun (q : (Tx × (List Tx) × (List Tx) × (Dct (Tx × Tx) (Option Tx)))) => ({ signs := q.1, barred := q.2.1, known := some q.2.2.1, ways := some q.2.2.2 } : TBand)) (fs := fun (q : (Tx × (List Tx) × (List Tx) × (Dct (Tx × Tx) (Option Tx)))) => [("signs", d (q.1 : Tx)), ("barred", d (q.2.1 : (List Tx))), ("known", d (q.2.2.1 : (List Tx))), ("ways", d (q.2.2.2 : (Dct (Tx × Tx) (Option Tx))))])
    (rs_ifx (cv (rf_not (rf_fn1 (rf_loc 1 rfl) br_are_signs)))
    rs_raise
    (rs_skip (rs_ifx (cv (rf_s2 p_gt (rf_call1 p_lenL (rf_loc 2 rfl)) (rf_c (a := (6 : Int)) rfl)))
    (rs_raise1 (cv (rf_call1 p_lenL (rf_loc 2 rfl))))
    (rs_skip (rs_seq (E := (fun (q : Unit) => [.oo 0 [] [], .sh (d (v_signs : Tx)), .sh (d (v_barred : (List Tx))), .no, .no, .no, .no, .no])) (rs_for (E := (fun (q : Unit) => [.oo 0 [] [], .sh (d (v_signs : Tx)), .sh (d (v_barred : (List Tx))), .no, .no, .no, .no, .no])) (E' := (fun (q5 : Unit) (a6 : (Int × Tx)) => [.oo 0 [] [], .sh (d (v_signs : Tx)), .sh (d (v_barred : (List Tx))), .sh (d (a6.1 : Int)), .sh (d (a6.2 : Tx)), .no, .no, .no])) () rfl (cv (ri_enum (rf_loc 2 rfl))) (fun _ _ => rfl) fun q5 a6 =>
    (rs_ifx (cv (rf_not (rf_fn2 (rf_loc 4 rfl) (rf_loc 1 rfl) br_is_word)))
    (rs_raise1 (cv (rf_loc 3 rfl)))
    (rs_skip (rs_pre (env' := [.oo 0 [] [], .sh (d (v_signs : Tx)), .sh (d (v_barred : (List Tx))), .no, .sh (d (a6.2 : Tx)), .no, .no, .no]) rfl (rs_pre (env' := [.oo 0 [] [], .sh (d (v_signs : Tx)), .sh (d (v_barred : (List Tx))), .no, .no, .no, .no, .no]) rfl (rs_next (E := (fun (q : Unit) => [.oo 0 [] [], .sh (d (v_signs : Tx)), .sh (d (v_barred : (List Tx))), .no, .no, .no, .no, .no])) (s := ()) rfl)))))) fun s10 =>
    (rs_seq (E := (fun (v_signs_12 : Tx) => [.oo 0 [("signs", d (v_signs_12 : Tx))] [], .sh (d (v_signs : Tx)), .sh (d (v_barred : (List Tx))), .no, .no, .no, .no, .no])) (rs_fld rfl (by decide +kernel) (by decide +kernel) (by show false = false; decide +kernel) (by simp) (cv (rf_loc 1 rfl)) (fun _ => rfl)) fun v_signs_12 =>
    (rs_seq (E := (fun (v_barred_13 : (List Tx)) => [.oo 0 [("signs", d (v_signs_12 : Tx)), ("barred", d (v_barred_13 : (List Tx)))] [], .sh (d (v_signs : Tx)), .sh (d (v_barred : (List Tx))), .no, .no, .no, .no, .no])) (rs_fld rfl (by decide +kernel) (by decide +kernel) (by show (decide (("signs" : PySem.Str) = "barred") || false) = false; decide +kernel) (by simp) (cv (rf_call1 p_list (rf_loc 2 rfl))) (fun _ => rfl)) fun v_barred_13 =>
    (rs_seq (E := (fun (v_known_14 : (List Tx)) => [.oo 0 [("signs", d (v_signs_12 : Tx)), ("barred", d (v_barred_13 : (List Tx))), ("known", d (v_known_14 : (List Tx)))] [], .sh (d (v_signs : Tx)), .sh (d (v_barred : (List Tx))), .no, .no, .no, .no, .no])) (rs_fld rfl (by decide +kernel) (by decide +kernel) (by show (decide (("signs" : PySem.Str) = "known") || (decide (("barred" : PySem.Str) = "known") || false)) = false; decide +kernel) (by simp) (cv (rf_meth0 (rf_locO (a := ({ signs := v_signs_12, barred := v_barred_13, known := none, ways := none } : TBand)) 0 rfl rfl)  (fun _ => rfl) br_Band_found_places)) (fun _ => rfl)) fun v_known_14 =>
    (rs_seq (E := (fun (v_ways_15 : (Dct (Tx × Tx) (Option Tx))) => [.oo 0 [("signs", d (v_signs_12 : Tx)), ("barred", d (v_barred_13 : (List Tx))), ("known", d (v_known_14 : (List Tx)))] [("ways", 7)], .sh (d (v_signs : Tx)), .sh (d (v_barred : (List Tx))), .no, .no, .no, .no, .gh (d (v_ways_15 : (Dct (Tx × Tx) (Option Tx))))])) (rs_fldG rfl rfl (by decide +kernel) (by decide +kernel) (by show (decide (("signs" : PySem.Str) = "ways") || (decide (("barred" : PySem.Str) = "ways") || (decide (("known" : PySem.Str) = "ways") || false))) = false; decide +kernel) (by simp) (cv (rf_c (a := (⟨[]⟩ : (Dct (Tx × Tx) (Option Tx)))) rfl)) (fun _ => rfl)) fun v_ways_15 =>
    (rs_seq (E := (fun (q : ((Dct (Tx × Tx) (Option Tx)))) => [.oo 0 [("signs", d (v_signs_12 : Tx)), ("barred", d (v_barred_13 : (List Tx))), ("known", d (v_known_14 : (List Tx)))] [("ways", 7)], .sh (d (v_signs : Tx)), .sh (d (v_barred : (List Tx))), .no, .no, .no, .no, .gh (d (q : (Dct (Tx × Tx) (Option Tx))))])) (rs_for (E := (fun (q : ((Dct (Tx × Tx) (Option Tx)))) => [.oo 0 [("signs", d (v_signs_12 : Tx)), ("barred", d (v_barred_13 : (List Tx))), ("known", d (v_known_14 : (List Tx)))] [("ways", 7)], .sh (d (v_signs : Tx)), .sh (d (v_barred : (List Tx))), .no, .no, .no, .no, .gh (d (q : (Dct (Tx × Tx) (Option Tx))))])) (E' := (fun (q16 : ((Dct (Tx × Tx) (Option Tx)))) (a17 : Tx) => [.oo 0 [("signs", d (v_signs_12 : Tx)), ("barred", d (v_barred_13 : (List Tx))), ("known", d (v_known_14 : (List Tx)))] [("ways", 7)], .sh (d (v_signs : Tx)), .sh (d (v_barred : (List Tx))), .no, .no, .sh (d (a17 : Tx)), .no, .gh (d (q16 : (Dct (Tx × Tx) (Option Tx))))])) v_ways_15 rfl (cv (ri_lst (rf_fld fl_Band_known (rf_locO (a := ({ signs := v_signs_12, barred := v_barred_13, known := some v_known_14, ways := none } : TBand)) 0 rfl rfl)))) (fun _ _ => rfl) fun q16 a17 =>
    (rs_seq (E := (fun (q : ((Dct (Tx × Tx) (Option Tx)))) => [.oo 0 [("signs", d (v_signs_12 : Tx)), ("barred", d (v_barred_13 : (List Tx))), ("known", d (v_known_14 : (List Tx)))] [("ways", 7)], .sh (d (v_signs : Tx)), .sh (d (v_barred : (List Tx))), .no, .no, .sh (d (a17 : Tx)), .no, .gh (d (q : (Dct (Tx × Tx) (Option Tx))))])) (rs_for (E := (fun (q : ((Dct (Tx × Tx) (Option Tx)))) => [.oo 0 [("signs", d (v_signs_12 : Tx)), ("barred", d (v_barred_13 : (List Tx))), ("known", d (v_known_14 : (List Tx)))] [("ways", 7)], .sh (d (v_signs : Tx)), .sh (d (v_barred : (List Tx))), .no, .no, .sh (d (a17 : Tx)), .no, .gh (d (q : (Dct (Tx × Tx) (Option Tx))))])) (E' := (fun (q18 : ((Dct (Tx × Tx) (Option Tx)))) (a19 : Tx) => [.oo 0 [("signs", d (v_signs_12 : Tx)), ("barred", d (v_barred_13 : (List Tx))), ("known", d (v_known_14 : (List Tx)))] [("ways", 7)], .sh (d (v_signs : Tx)), .sh (d (v_barred : (List Tx))), .no, .no, .sh (d (a17 : Tx)), .sh (d (a19 : Tx)), .gh (d (q18 : (Dct (Tx × Tx) (Option Tx))))])) q16 rfl (cv (ri_txt (rf_loc 1 rfl))) (fun _ _ => rfl) fun q18 a19 =>
    (rs_seq (E := (fun (v_ways_20 : (Dct (Tx × Tx) (Option Tx))) => [.oo 0 [("signs", d (v_signs_12 : Tx)), ("barred", d (v_barred_13 : (List Tx))), ("known", d (v_known_14 : (List Tx)))] [("ways", 7)], .sh (d (v_signs : Tx)), .sh (d (v_barred : (List Tx))), .no, .no, .sh (d (a17 : Tx)), .sh (d (a19 : Tx)), .gh (d (v_ways_20 : (Dct (Tx × Tx) (Option Tx))))])) (rs_putG rfl rfl (List.Mem.head _) (cv (rf_meth1 (rf_locO (a := ({ signs := v_signs_12, barred := v_barred_13, known := some v_known_14, ways := none } : TBand)) 0 rfl rfl) (rf_s2 p_addS (rf_loc 5 rfl) (rf_loc 6 rfl)) (fun _ => rfl) br_Band_ending)) (cv (rf_tup2 (rf_loc 5 rfl) (rf_loc 6 rfl))) (fun _ => rfl)) fun v_ways_20 =>
    (rs_pre (env' := [.oo 0 [("signs", d (v_signs_12 : Tx)), ("barred", d (v_barred_13 : (List Tx))), ("known", d (v_known_14 : (List Tx)))] [("ways", 7)], .sh (d (v_signs : Tx)), .sh (d (v_barred : (List Tx))), .no, .no, .sh (d (a17 : Tx)), .no, .gh (d (v_ways_20 : (Dct (Tx × Tx) (Option Tx))))]) rfl (rs_next (E := (fun (q : ((Dct (Tx × Tx) (Option Tx)))) => [.oo 0 [("signs", d (v_signs_12 : Tx)), ("barred", d (v_barred_13 : (List Tx))), ("known", d (v_known_14 : (List Tx)))] [("ways", 7)], .sh (d (v_signs : Tx)), .sh (d (v_barred : (List Tx))), .no, .no, .sh (d (a17 : Tx)), .no, .gh (d (q : (Dct (Tx × Tx) (Option Tx))))])) (s := v_ways_20) rfl)))) fun s24 =>
    (rs_pre (env' := [.oo 0 [("signs", d (v_signs_12 : Tx)), ("barred", d (v_barred_13 : (List Tx))), ("known", d (v_known_14 : (List Tx)))] [("ways", 7)], .sh (d (v_signs : Tx)), .sh (d (v_barred : (List Tx))), .no, .no, .no, .no, .gh (d (s24 : (Dct (Tx × Tx) (Option Tx))))]) rfl (rs_next (E := (fun (q : ((Dct (Tx × Tx) (Option Tx)))) => [.oo 0 [("signs", d (v_signs_12 : Tx)), ("barred", d (v_barred_13 : (List Tx))), ("known", d (v_known_14 : (List Tx)))] [("ways", 7)], .sh (d (v_signs : Tx)), .sh (d (v_barred : (List Tx))), .no, .no, .no, .no, .gh (d (q : (Dct (Tx × Tx) (Option Tx))))])) (s := s24) rfl)))) fun s26 =>
    (rs_next (E := (fun (q : (Tx × (List Tx) × (List Tx) × (Dct (Tx × Tx) (Option Tx)))) => [.oo 0 [("signs", d (q.1 : Tx)), ("barred", d (q.2.1 : (List Tx))), ("known", d (q.2.2.1 : (List Tx)))] [("ways", 7)], .sh (d (v_signs : Tx)), .sh (d (v_barred : (List Tx))), .no, .no, .no, .no, .gh (d (q.2.2.2 : (Dct (Tx × Tx) (Option Tx))))])) (s := (v_signs_12, v_barred_13, v_known_14, s26)) rfl))))))))))) (fun _ => rfl) (fun _ => rfl)
def t_Band_led (v_self : TBand) (v_place : Tx) (v_sign : Tx) : M (Option Tx) :=
    (M.bind (M.bind (M.ok (!true)) fun x4 => if x4 then M.ok true else (M.bind (M.bind (ixS v_self.signs (0 : Int)) fun x1 => M.ok (v_place, x1)) fun x2 => (M.bind (oM v_self.ways) fun x3 => M.ok (!(Dct.get? x3 x2).isSome)))) fun c5 => if c5 then
    (M.bind (M.ok v_place) fun x6 => M.er 12 [("place", d x6)]) else
    (M.bind (oM v_self.ways) fun x7 => (ixD x7 (v_place, v_sign))))
theorem br_Band_led (v_self : TBand) (v_place : Tx) (v_sign : Tx) : Ref (m_Band_led [d v_self, d v_place, d v_sign]) (t_Band_led v_self v_place v_sign) :=
    rf_run
    (rs_ifx (cv (rf_or (rf_not (rf_isi (α := Tx) (fun _ => tbk_str_str) (rf_loc 1 rfl))) (rf_s2 p_notInD (rf_tup2 (rf_loc 1 rfl) (rf_s2 p_ixS (rf_fld fl_Band_signs (rf_locS 0 rfl)) (rf_c (a := (0 : Int)) rfl))) (rf_fld fl_Band_ways (rf_locS 0 rfl)))))
    (xF (rs_raise1 (cv (rf_loc 1 rfl))))
    (rs_skip (rs_ret (cv (rf_s2 p_ixD (rf_fld fl_Band_ways (rf_locS 0 rfl)) (rf_tup2 (rf_loc 1 rfl) (rf_loc 2 rfl)))))))
def t_law_words_L1 (v_script : Scr) (v_at : Int) (v_signs_here : Tx) (q4 : ((List Tx))) (a5 : Int) : M ((List Tx)) :=
    (M.bind (t_law_cell v_script ((v_at + (1 : Int)) + a5)) fun v_cell_here_6 =>
    (M.bind (t_law_word v_cell_here_6 v_signs_here) fun v_word_here_7 =>
    (M.bind (M.bind (M.ok ((decide ((0 : Int) < a5)) && (eqT (v_cell_here_6 % 4) (1 : Int)))) fun c8 => if c8 then
    (M.bind (M.bind (M.bind (M.bind (ixL q4 (-(1 : Int))) fun x10 => (slS x10 (some (1 : Int)) (none : Option Int))) fun x11 => (addS x11 v_word_here_7)) fun x12 => (slS x12 (none : Option Int) (some (5 : Int)))) fun v_word_here_9 =>
    (M.ok v_word_here_9)) else
    (M.ok v_word_here_7)) fun s13 =>
    (M.bind (M.bind (M.ok ((decide ((0 : Int) < a5)) && (eqT (v_cell_here_6 % 16) (2 : Int)))) fun c14 => if c14 then
    (M.bind (ixL q4 (0 : Int)) fun v_word_here_15 =>
    (M.ok v_word_here_15)) else
    (M.ok s13)) fun s16 =>
    (M.bind (M.bind (M.ok s16) fun x18 => appM q4 x18) fun v_found_17 =>
    (M.ok v_found_17))))))
def t_law_words (v_script : Scr) (v_at : Int) (v_signs_here : Tx) (v_most : Int) : M (List Tx) :=
    (M.bind (M.ok ([] : List Tx)) fun v_found_1 =>
    (M.bind (M.bind (M.bind (M.bind (t_law_cell v_script v_at) fun x2 => (modI x2 (v_most + (1 : Int)))) fun x3 => (rgM x3)) fun l20 => foldT (t_law_words_L1 v_script v_at v_signs_here) l20 v_found_1) fun s19 =>
    (M.ok s19)))
theorem br_law_words (v_script : Scr) (v_at : Int) (v_signs_here : Tx) (v_most : Int) : Ref (m_law_words [d v_script, d v_at, d v_signs_here, d v_most]) (t_law_words v_script v_at v_signs_here v_most) :=
    rf_run
    (rs_seq (E := (fun (v_found_1 : (List Tx)) => [.sh (d (v_script : Scr)), .sh (d (v_at : Int)), .sh (d (v_signs_here : Tx)), .sh (d (v_most : Int)), .ow (d (v_found_1 : (List Tx))), .no, .no, .no])) (rs_own (cv (rf_lst (by decide) (rl_nil (α := Tx)))) (fun _ => rfl)) fun v_found_1 =>
    (rs_seq (E := (fun (q : ((List Tx))) => [.sh (d (v_script : Scr)), .sh (d (v_at : Int)), .sh (d (v_signs_here : Tx)), .sh (d (v_most : Int)), .ow (d (q : (List Tx))), .no, .no, .no])) (rs_for (E := (fun (q : ((List Tx))) => [.sh (d (v_script : Scr)), .sh (d (v_at : Int)), .sh (d (v_signs_here : Tx)), .sh (d (v_most : Int)), .ow (d (q : (List Tx))), .no, .no, .no])) (E' := (fun (q4 : ((List Tx))) (a5 : Int) => [.sh (d (v_script : Scr)), .sh (d (v_at : Int)), .sh (d (v_signs_here : Tx)), .sh (d (v_most : Int)), .ow (d (q4 : (List Tx))), .sh (d (a5 : Int)), .no, .no])) v_found_1 rfl (cv (ri_rng1 (rf_s2 p_mod (rf_fn2 (rf_loc 0 rfl) (rf_loc 1 rfl) br_law_cell) (rf_s2 p_addI (rf_loc 3 rfl) (rf_c (a := (1 : Int)) rfl))))) (fun _ _ => rfl) fun q4 a5 =>
    (rs_seq (E := (fun (v_cell_here_6 : Int) => [.sh (d (v_script : Scr)), .sh (d (v_at : Int)), .sh (d (v_signs_here : Tx)), .sh (d (v_most : Int)), .ow (d (q4 : (List Tx))), .sh (d (a5 : Int)), .sh (d (v_cell_here_6 : Int)), .no])) (rs_asg (cv (rf_fn2 (rf_loc 0 rfl) (rf_s2 p_addI (rf_s2 p_addI (rf_loc 1 rfl) (rf_c (a := (1 : Int)) rfl)) (rf_loc 5 rfl)) br_law_cell)) (fun _ => rfl)) fun v_cell_here_6 =>
    (rs_seq (E := (fun (v_word_here_7 : Tx) => [.sh (d (v_script : Scr)), .sh (d (v_at : Int)), .sh (d (v_signs_here : Tx)), .sh (d (v_most : Int)), .ow (d (q4 : (List Tx))), .sh (d (a5 : Int)), .sh (d (v_cell_here_6 : Int)), .sh (d (v_word_here_7 : Tx))])) (rs_asg (cv (rf_fn2 (rf_loc 6 rfl) (rf_loc 2 rfl) br_law_word)) (fun _ => rfl)) fun v_word_here_7 =>
    (rs_seq (E := (fun (q : (Tx)) => [.sh (d (v_script : Scr)), .sh (d (v_at : Int)), .sh (d (v_signs_here : Tx)), .sh (d (v_most : Int)), .ow (d (q4 : (List Tx))), .sh (d (a5 : Int)), .sh (d (v_cell_here_6 : Int)), .sh (d (q : Tx))])) (rs_if (cv (rf_andp (rf_s2 p_gt (rf_loc 5 rfl) (rf_c (a := (0 : Int)) rfl)) (rf_s2 p_eq (rf_modc (rf_loc 6 rfl)) (rf_c (a := (1 : Int)) rfl))))
    (rs_seq (E := (fun (v_word_here_9 : Tx) => [.sh (d (v_script : Scr)), .sh (d (v_at : Int)), .sh (d (v_signs_here : Tx)), .sh (d (v_most : Int)), .ow (d (q4 : (List Tx))), .sh (d (a5 : Int)), .sh (d (v_cell_here_6 : Int)), .sh (d (v_word_here_9 : Tx))])) (rs_asg (cv (rf_sl p_slS (rf_s2 p_addS (rf_sl p_slS (rf_s2 p_ixL (rf_locB 4 rfl) (rf_neg (rf_c (a := (1 : Int)) rfl))) (rp_some (rf_c (a := (1 : Int)) rfl)) rp_none) (rf_loc 7 rfl)) rp_none (rp_some (rf_c (a := (5 : Int)) rfl)))) (fun _ => rfl)) fun v_word_here_9 =>
    (rs_next (E := (fun (q : (Tx)) => [.sh (d (v_script : Scr)), .sh (d (v_at : Int)), .sh (d (v_signs_here : Tx)), .sh (d (v_most : Int)), .ow (d (q4 : (List Tx))), .sh (d (a5 : Int)), .sh (d (v_cell_here_6 : Int)), .sh (d (q : Tx))])) (s := v_word_here_9) rfl))
    (rs_next (E := (fun (q : (Tx)) => [.sh (d (v_script : Scr)), .sh (d (v_at : Int)), .sh (d (v_signs_here : Tx)), .sh (d (v_most : Int)), .ow (d (q4 : (List Tx))), .sh (d (a5 : Int)), .sh (d (v_cell_here_6 : Int)), .sh (d (q : Tx))])) (s := v_word_here_7) rfl)) fun s13 =>
    (rs_seq (E := (fun (q : (Tx)) => [.sh (d (v_script : Scr)), .sh (d (v_at : Int)), .sh (d (v_signs_here : Tx)), .sh (d (v_most : Int)), .ow (d (q4 : (List Tx))), .sh (d (a5 : Int)), .sh (d (v_cell_here_6 : Int)), .sh (d (q : Tx))])) (rs_if (cv (rf_andp (rf_s2 p_gt (rf_loc 5 rfl) (rf_c (a := (0 : Int)) rfl)) (rf_s2 p_eq (rf_modc (rf_loc 6 rfl)) (rf_c (a := (2 : Int)) rfl))))
    (rs_seq (E := (fun (v_word_here_15 : Tx) => [.sh (d (v_script : Scr)), .sh (d (v_at : Int)), .sh (d (v_signs_here : Tx)), .sh (d (v_most : Int)), .ow (d (q4 : (List Tx))), .sh (d (a5 : Int)), .sh (d (v_cell_here_6 : Int)), .sh (d (v_word_here_15 : Tx))])) (rs_asg (cv (rf_s2 p_ixL (rf_locB 4 rfl) (rf_c (a := (0 : Int)) rfl))) (fun _ => rfl)) fun v_word_here_15 =>
    (rs_next (E := (fun (q : (Tx)) => [.sh (d (v_script : Scr)), .sh (d (v_at : Int)), .sh (d (v_signs_here : Tx)), .sh (d (v_most : Int)), .ow (d (q4 : (List Tx))), .sh (d (a5 : Int)), .sh (d (v_cell_here_6 : Int)), .sh (d (q : Tx))])) (s := v_word_here_15) rfl))
    (rs_next (E := (fun (q : (Tx)) => [.sh (d (v_script : Scr)), .sh (d (v_at : Int)), .sh (d (v_signs_here : Tx)), .sh (d (v_most : Int)), .ow (d (q4 : (List Tx))), .sh (d (a5 : Int)), .sh (d (v_cell_here_6 : Int)), .sh (d (q : Tx))])) (s := s13) rfl)) fun s16 =>
    (rs_seq (E := (fun (v_found_17 : (List Tx)) => [.sh (d (v_script : Scr)), .sh (d (v_at : Int)), .sh (d (v_signs_here : Tx)), .sh (d (v_most : Int)), .ow (d (v_found_17 : (List Tx))), .sh (d (a5 : Int)), .sh (d (v_cell_here_6 : Int)), .sh (d (s16 : Tx))])) (rs_app rfl (cv (rf_loc 7 rfl)) (fun _ => rfl)) fun v_found_17 =>
    (rs_pre (env' := [.sh (d (v_script : Scr)), .sh (d (v_at : Int)), .sh (d (v_signs_here : Tx)), .sh (d (v_most : Int)), .ow (d (v_found_17 : (List Tx))), .no, .sh (d (v_cell_here_6 : Int)), .sh (d (s16 : Tx))]) rfl (rs_pre (env' := [.sh (d (v_script : Scr)), .sh (d (v_at : Int)), .sh (d (v_signs_here : Tx)), .sh (d (v_most : Int)), .ow (d (v_found_17 : (List Tx))), .no, .no, .sh (d (s16 : Tx))]) rfl (rs_pre (env' := [.sh (d (v_script : Scr)), .sh (d (v_at : Int)), .sh (d (v_signs_here : Tx)), .sh (d (v_most : Int)), .ow (d (v_found_17 : (List Tx))), .no, .no, .no]) rfl (rs_next (E := (fun (q : ((List Tx))) => [.sh (d (v_script : Scr)), .sh (d (v_at : Int)), .sh (d (v_signs_here : Tx)), .sh (d (v_most : Int)), .ow (d (q : (List Tx))), .no, .no, .no])) (s := v_found_17) rfl)))))))))) fun s19 =>
    (rs_pre (env' := [.sh (d (v_script : Scr)), .sh (d (v_at : Int)), .sh (d (v_signs_here : Tx)), .sh (d (v_most : Int)), .sh (d (s19 : (List Tx))), .no, .no, .no]) rfl (rs_ret (cv (rf_loc 4 rfl))))))
def t_ends_of_L1 (v_band : TBand) (q2 : ((Dct Tx (List Tx)))) (a3 : Tx) : M ((Dct Tx (List Tx))) :=
    (M.bind (compM (fun (a5 : Tx) => (t_Band_led v_band a3 a5)) (List.map sg v_band.signs)) fun v_some_4 =>
    (M.bind (M.bind (fcompM (fun (a7 : (Option Tx)) => (M.ok (Option.isSome a7))) (fun (a7 : (Option Tx)) => (oM a7)) v_some_4) fun x8 => M.bind (M.ok a3) fun x9 => putM q2 x9 x8) fun v_found_6 =>
    (M.ok v_found_6)))
def t_ends_of (v_band : TBand) : M (Dct Tx (List Tx)) :=
    (M.bind (M.ok (⟨[]⟩ : (Dct Tx (List Tx)))) fun v_found_1 =>
    (M.bind (M.bind (t_Band_places v_band) fun l11 => foldT (t_ends_of_L1 v_band) l11 v_found_1) fun s10 =>
    (M.ok s10)))
theorem br_ends_of (v_band : TBand) : Ref (m_ends_of [d v_band]) (t_ends_of v_band) :=
    rf_run
    (rs_seq (E := (fun (v_found_1 : (Dct Tx (List Tx))) => [.bo (d (v_band : TBand)), .ow (d (v_found_1 : (Dct Tx (List Tx)))), .no, .no, .no, .no])) (rs_own (cv (rf_c (a := (⟨[]⟩ : (Dct Tx (List Tx)))) rfl)) (fun _ => rfl)) fun v_found_1 =>
    (rs_seq (E := (fun (q : ((Dct Tx (List Tx)))) => [.bo (d (v_band : TBand)), .ow (d (q : (Dct Tx (List Tx)))), .no, .no, .no, .no])) (rs_for (E := (fun (q : ((Dct Tx (List Tx)))) => [.bo (d (v_band : TBand)), .ow (d (q : (Dct Tx (List Tx)))), .no, .no, .no, .no])) (E' := (fun (q2 : ((Dct Tx (List Tx)))) (a3 : Tx) => [.bo (d (v_band : TBand)), .ow (d (q2 : (Dct Tx (List Tx)))), .sh (d (a3 : Tx)), .no, .no, .no])) v_found_1 rfl (cv (ri_lst (rf_meth0 (rf_locS 0 rfl)  (fun _ => rfl) br_Band_places))) (fun _ _ => rfl) fun q2 a3 =>
    (rs_seq (E := (fun (v_some_4 : (List (Option Tx))) => [.bo (d (v_band : TBand)), .ow (d (q2 : (Dct Tx (List Tx)))), .sh (d (a3 : Tx)), .ow (d (v_some_4 : (List (Option Tx)))), .no, .no])) (rs_own (cv (rf_comp (E := (fun (a5 : Tx) => [.bo (d (v_band : TBand)), .ow (d (q2 : (Dct Tx (List Tx)))), .sh (d (a3 : Tx)), .no, .sh (d (a5 : Tx)), .no])) (k := (fun (a5 : Tx) => (t_Band_led v_band a3 a5))) (ri_txt (rf_fld fl_Band_signs (rf_locS 0 rfl))) rfl (fun _ => rfl) (fun a5 => cv (rf_meth2 (rf_locS 0 rfl) (rf_loc 2 rfl) (rf_loc 4 rfl) (fun _ => rfl) br_Band_led)))) (fun _ => rfl)) fun v_some_4 =>
    (rs_seq (E := (fun (v_found_6 : (Dct Tx (List Tx))) => [.bo (d (v_band : TBand)), .ow (d (v_found_6 : (Dct Tx (List Tx)))), .sh (d (a3 : Tx)), .ow (d (v_some_4 : (List (Option Tx)))), .no, .no])) (rs_putD rfl (cv (rf_fcomp (E := (fun (a7 : (Option Tx)) => [.bo (d (v_band : TBand)), .ow (d (q2 : (Dct Tx (List Tx)))), .sh (d (a3 : Tx)), .ow (d (v_some_4 : (List (Option Tx)))), .no, .sh (d (a7 : (Option Tx)))])) (p := (fun (a7 : (Option Tx)) => (M.ok (Option.isSome a7)))) (k := (fun (a7 : (Option Tx)) => (oM a7))) (ri_lst (rf_locB 3 rfl)) rfl (fun _ => rfl) (fun a7 => cv (rf_s2 p_isNot (rf_loc 5 rfl) (rf_c (a := ()) rfl))) (fun a7 => cv (rf_unopt (rf_loc 5 rfl))))) (cv (rf_loc 2 rfl)) (fun _ => rfl)) fun v_found_6 =>
    (rs_pre (env' := [.bo (d (v_band : TBand)), .ow (d (v_found_6 : (Dct Tx (List Tx)))), .no, .ow (d (v_some_4 : (List (Option Tx)))), .no, .no]) rfl (rs_pre (env' := [.bo (d (v_band : TBand)), .ow (d (v_found_6 : (Dct Tx (List Tx)))), .no, .no, .no, .no]) rfl (rs_next (E := (fun (q : ((Dct Tx (List Tx)))) => [.bo (d (v_band : TBand)), .ow (d (q : (Dct Tx (List Tx)))), .no, .no, .no, .no])) (s := v_found_6) rfl)))))) fun s10 =>
    (rs_pre (env' := [.bo (d (v_band : TBand)), .sh (d (s10 : (Dct Tx (List Tx)))), .no, .no, .no, .no]) rfl (rs_ret (cv (rf_loc 1 rfl))))))
def t_check_good (v_band : TBand) (v_row : Tx) : M Unit :=
    (M.bind (M.bind (M.bind (t_check_row v_band v_row) fun _ => M.ok ()) fun u1 =>
    (M.bind (t_first_bad v_band v_row) fun v_length_2 =>
    (M.bind (M.ok (Option.isSome v_length_2)) fun c3 => if c3 then
    (M.bind (M.ok v_length_2) fun x4 => M.er 11 [("length", d x4)]) else
    (M.ok ())))) fun _ => M.ok ())
theorem br_check_good (v_band : TBand) (v_row : Tx) : Ref (m_check_good [d v_band, d v_row]) (t_check_good v_band v_row) :=
    rf_runV (σ := Unit)
    (rs_seq (E := (fun _ : Unit => [.bo (d (v_band : TBand)), .sh (d (v_row : Tx)), .no])) (rs_expr (cv (rf_fn2 (rf_locS 0 rfl) (rf_loc 1 rfl) br_check_row))) fun u1 =>
    (rs_seq (E := (fun (v_length_2 : (Option Int)) => [.bo (d (v_band : TBand)), .sh (d (v_row : Tx)), .sh (d (v_length_2 : (Option Int)))])) (rs_asg (cv (rf_fn2 (rf_locS 0 rfl) (rf_loc 1 rfl) br_first_bad)) (fun _ => rfl)) fun v_length_2 =>
    (rs_ifx (cv (rf_s2 p_isNot (rf_loc 2 rfl) (rf_c (a := ()) rfl)))
    (rs_raise1 (cv (rf_loc 2 rfl)))
    (rs_skip (rs_pre (env' := [.bo (d (v_band : TBand)), .sh (d (v_row : Tx)), .no]) rfl (rs_next (E := (fun (_ : Unit) => [.bo (d (v_band : TBand)), .sh (d (v_row : Tx)), .no])) (s := ()) rfl))))))
def t_tables_L1  (q2 : ((Dct Tx Int))) (a3 : Tx) : M ((Dct Tx Int)) :=
    (M.bind (M.bind (M.ok (1 : Int)) fun x5 => M.bind (M.ok a3) fun x6 => putM q2 x6 x5) fun v_found_4 =>
    (M.ok v_found_4))
def t_tables_L2 (v_ends_1 : (Dct Tx (List Tx))) (v_ahead_11 : (Dct Tx Int)) (q13 : ((Dct Tx Int))) (a14 : Tx) : M ((Dct Tx Int)) :=
    (M.bind (M.bind (M.bind (M.bind (ixD v_ends_1 a14) fun x17 => (compM (fun (a16 : Tx) => (ixD v_ahead_11 a16)) x17)) fun x18 => M.ok (List.sum x18)) fun x19 => M.bind (M.ok a14) fun x20 => putM q13 x20 x19) fun v_more_15 =>
    (M.ok v_more_15))
def t_tables_L3 (v_ends_1 : (Dct Tx (List Tx))) (q9 : ((List (Dct Tx Int)))) (a10 : Int) : M ((List (Dct Tx Int))) :=
    (M.bind (ixL q9 a10) fun v_ahead_11 =>
    (M.bind (M.ok (⟨[]⟩ : (Dct Tx Int))) fun v_more_12 =>
    (M.bind (noErM (foldT (t_tables_L2 v_ends_1 v_ahead_11) (Dct.keys v_ends_1) v_more_12)) fun s21 =>
    (M.bind (M.bind (M.ok s21) fun x24 => appM q9 x24) fun v_found_23 =>
    (M.ok v_found_23)))))
def t_tables (v_band : TBand) (v_length : Int) : M (List (Dct Tx Int)) :=
    (M.bind (t_ends_of v_band) fun v_ends_1 =>
    (M.bind (noErM (foldT t_tables_L1 (Dct.keys v_ends_1) (⟨[]⟩ : (Dct Tx Int)))) fun s7 =>
    (M.bind (M.bind (rgM v_length) fun l26 => foldT (t_tables_L3 v_ends_1) l26 ([s7] : (List (Dct Tx Int)))) fun s25 =>
    (M.ok s25))))
theorem br_tables (v_band : TBand) (v_length : Int) : Ref (m_tables [d v_band, d v_length]) (t_tables v_band v_length) :=
    rf_run
    (rs_seq (E := (fun (v_ends_1 : (Dct Tx (List Tx))) => [.sh (d (v_band : TBand)), .sh (d (v_length : Int)), .sh (d (v_ends_1 : (Dct Tx (List Tx)))), .no, .no, .no, .no, .no, .no, .no])) (rs_asg (cv (rf_fn1 (rf_loc 0 rfl) br_ends_of)) (fun _ => rfl)) fun v_ends_1 =>
    (rs_pre (env' := [.sh (d (v_band : TBand)), .sh (d (v_length : Int)), .sh (d (v_ends_1 : (Dct Tx (List Tx)))), .ln 9, .no, .no, .no, .no, .no, .gh (d ((⟨[]⟩ : (Dct Tx Int)) : (Dct Tx Int)))]) rfl (rs_seq (E := (fun (q : ((Dct Tx Int))) => [.sh (d (v_band : TBand)), .sh (d (v_length : Int)), .sh (d (v_ends_1 : (Dct Tx (List Tx)))), .ln 9, .no, .no, .no, .no, .no, .gh (d (q : (Dct Tx Int)))])) (rs_forK 2 (E := (fun (q : ((Dct Tx Int))) => [.sh (d (v_band : TBand)), .sh (d (v_length : Int)), .sh (d (v_ends_1 : (Dct Tx (List Tx)))), .ln 9, .no, .no, .no, .no, .no, .gh (d (q : (Dct Tx Int)))])) (E' := (fun (q2 : ((Dct Tx Int))) (a3 : Tx) => [.sh (d (v_band : TBand)), .sh (d (v_length : Int)), .sh (d (v_ends_1 : (Dct Tx (List Tx)))), .ln 9, .sh (d (a3 : Tx)), .no, .no, .no, .no, .gh (d (q2 : (Dct Tx Int)))])) (⟨[]⟩ : (Dct Tx Int)) rfl rfl (fun _ _ => rfl) fun q2 a3 =>
    (rs_seq (E := (fun (v_found_4 : (Dct Tx Int)) => [.sh (d (v_band : TBand)), .sh (d (v_length : Int)), .sh (d (v_ends_1 : (Dct Tx (List Tx)))), .ln 9, .sh (d (a3 : Tx)), .no, .no, .no, .no, .gh (d (v_found_4 : (Dct Tx Int)))])) (rs_putN rfl rfl (cv (rf_c (a := (1 : Int)) rfl)) (cv (rf_loc 4 rfl)) (fun _ => rfl)) fun v_found_4 =>
    (rs_pre (env' := [.sh (d (v_band : TBand)), .sh (d (v_length : Int)), .sh (d (v_ends_1 : (Dct Tx (List Tx)))), .ln 9, .no, .no, .no, .no, .no, .gh (d (v_found_4 : (Dct Tx Int)))]) rfl (rs_next (E := (fun (q : ((Dct Tx Int))) => [.sh (d (v_band : TBand)), .sh (d (v_length : Int)), .sh (d (v_ends_1 : (Dct Tx (List Tx)))), .ln 9, .no, .no, .no, .no, .no, .gh (d (q : (Dct Tx Int)))])) (s := v_found_4) rfl)))) fun s7 =>
    (rs_pre (env' := [.sh (d (v_band : TBand)), .sh (d (v_length : Int)), .sh (d (v_ends_1 : (Dct Tx (List Tx)))), .ow (d (([s7] : (List (Dct Tx Int))) : (List (Dct Tx Int)))), .no, .no, .no, .no, .no, .no]) rfl (rs_seq (E := (fun (q : ((List (Dct Tx Int)))) => [.sh (d (v_band : TBand)), .sh (d (v_length : Int)), .sh (d (v_ends_1 : (Dct Tx (List Tx)))), .ow (d (q : (List (Dct Tx Int)))), .no, .no, .no, .no, .no, .no])) (rs_for (E := (fun (q : ((List (Dct Tx Int)))) => [.sh (d (v_band : TBand)), .sh (d (v_length : Int)), .sh (d (v_ends_1 : (Dct Tx (List Tx)))), .ow (d (q : (List (Dct Tx Int)))), .no, .no, .no, .no, .no, .no])) (E' := (fun (q9 : ((List (Dct Tx Int)))) (a10 : Int) => [.sh (d (v_band : TBand)), .sh (d (v_length : Int)), .sh (d (v_ends_1 : (Dct Tx (List Tx)))), .ow (d (q9 : (List (Dct Tx Int)))), .no, .sh (d (a10 : Int)), .no, .no, .no, .no])) ([s7] : (List (Dct Tx Int))) rfl (cv (ri_rng1 (rf_loc 1 rfl))) (fun _ _ => rfl) fun q9 a10 =>
    (rs_seq (E := (fun (v_ahead_11 : (Dct Tx Int)) => [.sh (d (v_band : TBand)), .sh (d (v_length : Int)), .sh (d (v_ends_1 : (Dct Tx (List Tx)))), .ow (d (q9 : (List (Dct Tx Int)))), .no, .sh (d (a10 : Int)), .sh (d (v_ahead_11 : (Dct Tx Int))), .no, .no, .no])) (rs_asg (cv (rf_s2 p_ixL (rf_locB 3 rfl) (rf_loc 5 rfl))) (fun _ => rfl)) fun v_ahead_11 =>
    (rs_seq (E := (fun (v_more_12 : (Dct Tx Int)) => [.sh (d (v_band : TBand)), .sh (d (v_length : Int)), .sh (d (v_ends_1 : (Dct Tx (List Tx)))), .ow (d (q9 : (List (Dct Tx Int)))), .no, .sh (d (a10 : Int)), .sh (d (v_ahead_11 : (Dct Tx Int))), .ow (d (v_more_12 : (Dct Tx Int))), .no, .no])) (rs_own (cv (rf_c (a := (⟨[]⟩ : (Dct Tx Int))) rfl)) (fun _ => rfl)) fun v_more_12 =>
    (rs_seq (E := (fun (q : ((Dct Tx Int))) => [.sh (d (v_band : TBand)), .sh (d (v_length : Int)), .sh (d (v_ends_1 : (Dct Tx (List Tx)))), .ow (d (q9 : (List (Dct Tx Int)))), .no, .sh (d (a10 : Int)), .sh (d (v_ahead_11 : (Dct Tx Int))), .ow (d (q : (Dct Tx Int))), .no, .no])) (rs_forK 2 (E := (fun (q : ((Dct Tx Int))) => [.sh (d (v_band : TBand)), .sh (d (v_length : Int)), .sh (d (v_ends_1 : (Dct Tx (List Tx)))), .ow (d (q9 : (List (Dct Tx Int)))), .no, .sh (d (a10 : Int)), .sh (d (v_ahead_11 : (Dct Tx Int))), .ow (d (q : (Dct Tx Int))), .no, .no])) (E' := (fun (q13 : ((Dct Tx Int))) (a14 : Tx) => [.sh (d (v_band : TBand)), .sh (d (v_length : Int)), .sh (d (v_ends_1 : (Dct Tx (List Tx)))), .ow (d (q9 : (List (Dct Tx Int)))), .sh (d (a14 : Tx)), .sh (d (a10 : Int)), .sh (d (v_ahead_11 : (Dct Tx Int))), .ow (d (q13 : (Dct Tx Int))), .no, .no])) v_more_12 rfl rfl (fun _ _ => rfl) fun q13 a14 =>
    (rs_seq (E := (fun (v_more_15 : (Dct Tx Int)) => [.sh (d (v_band : TBand)), .sh (d (v_length : Int)), .sh (d (v_ends_1 : (Dct Tx (List Tx)))), .ow (d (q9 : (List (Dct Tx Int)))), .sh (d (a14 : Tx)), .sh (d (a10 : Int)), .sh (d (v_ahead_11 : (Dct Tx Int))), .ow (d (v_more_15 : (Dct Tx Int))), .no, .no])) (rs_putD rfl (cv (rf_call1 p_sum (rf_comp (E := (fun (a16 : Tx) => [.sh (d (v_band : TBand)), .sh (d (v_length : Int)), .sh (d (v_ends_1 : (Dct Tx (List Tx)))), .ow (d (q9 : (List (Dct Tx Int)))), .sh (d (a14 : Tx)), .sh (d (a10 : Int)), .sh (d (v_ahead_11 : (Dct Tx Int))), .ow (d (q13 : (Dct Tx Int))), .sh (d (a16 : Tx)), .no])) (k := (fun (a16 : Tx) => (ixD v_ahead_11 a16))) (ri_lst (rf_s2 p_ixD (rf_loc 2 rfl) (rf_loc 4 rfl))) rfl (fun _ => rfl) (fun a16 => cv (rf_s2 p_ixD (rf_loc 6 rfl) (rf_loc 8 rfl)))))) (cv (rf_loc 4 rfl)) (fun _ => rfl)) fun v_more_15 =>
    (rs_pre (env' := [.sh (d (v_band : TBand)), .sh (d (v_length : Int)), .sh (d (v_ends_1 : (Dct Tx (List Tx)))), .ow (d (q9 : (List (Dct Tx Int)))), .no, .sh (d (a10 : Int)), .sh (d (v_ahead_11 : (Dct Tx Int))), .ow (d (v_more_15 : (Dct Tx Int))), .no, .no]) rfl (rs_next (E := (fun (q : ((Dct Tx Int))) => [.sh (d (v_band : TBand)), .sh (d (v_length : Int)), .sh (d (v_ends_1 : (Dct Tx (List Tx)))), .ow (d (q9 : (List (Dct Tx Int)))), .no, .sh (d (a10 : Int)), .sh (d (v_ahead_11 : (Dct Tx Int))), .ow (d (q : (Dct Tx Int))), .no, .no])) (s := v_more_15) rfl)))) fun s21 =>
    (rs_pre (env' := [.sh (d (v_band : TBand)), .sh (d (v_length : Int)), .sh (d (v_ends_1 : (Dct Tx (List Tx)))), .ow (d (q9 : (List (Dct Tx Int)))), .no, .sh (d (a10 : Int)), .sh (d (v_ahead_11 : (Dct Tx Int))), .sh (d (s21 : (Dct Tx Int))), .no, .no]) rfl (rs_seq (E := (fun (v_found_23 : (List (Dct Tx Int))) => [.sh (d (v_band : TBand)), .sh (d (v_length : Int)), .sh (d (v_ends_1 : (Dct Tx (List Tx)))), .ow (d (v_found_23 : (List (Dct Tx Int)))), .no, .sh (d (a10 : Int)), .sh (d (v_ahead_11 : (Dct Tx Int))), .sh (d (s21 : (Dct Tx Int))), .no, .no])) (rs_app rfl (cv (rf_loc 7 rfl)) (fun _ => rfl)) fun v_found_23 =>
    (rs_pre (env' := [.sh (d (v_band : TBand)), .sh (d (v_length : Int)), .sh (d (v_ends_1 : (Dct Tx (List Tx)))), .ow (d (v_found_23 : (List (Dct Tx Int)))), .no, .no, .sh (d (v_ahead_11 : (Dct Tx Int))), .sh (d (s21 : (Dct Tx Int))), .no, .no]) rfl (rs_pre (env' := [.sh (d (v_band : TBand)), .sh (d (v_length : Int)), .sh (d (v_ends_1 : (Dct Tx (List Tx)))), .ow (d (v_found_23 : (List (Dct Tx Int)))), .no, .no, .no, .sh (d (s21 : (Dct Tx Int))), .no, .no]) rfl (rs_pre (env' := [.sh (d (v_band : TBand)), .sh (d (v_length : Int)), .sh (d (v_ends_1 : (Dct Tx (List Tx)))), .ow (d (v_found_23 : (List (Dct Tx Int)))), .no, .no, .no, .no, .no, .no]) rfl (rs_next (E := (fun (q : ((List (Dct Tx Int)))) => [.sh (d (v_band : TBand)), .sh (d (v_length : Int)), .sh (d (v_ends_1 : (Dct Tx (List Tx)))), .ow (d (q : (List (Dct Tx Int)))), .no, .no, .no, .no, .no, .no])) (s := v_found_23) rfl)))))))))) fun s25 =>
    (rs_pre (env' := [.sh (d (v_band : TBand)), .sh (d (v_length : Int)), .sh (d (v_ends_1 : (Dct Tx (List Tx)))), .sh (d (s25 : (List (Dct Tx Int)))), .no, .no, .no, .no, .no, .no]) rfl (rs_ret (cv (rf_loc 3 rfl)))))))))
def t_count_from (v_band : TBand) (v_place : Tx) (v_length : Int) : M Int :=
    (M.bind (M.bind (M.bind (ixS v_band.signs (0 : Int)) fun x1 => (t_Band_led v_band v_place x1)) fun _ => M.ok ()) fun u2 =>
    (M.bind (M.bind (t_tables v_band v_length) fun x3 => (ixL x3 v_length)) fun x4 => (ixD x4 v_place)))
theorem br_count_from (v_band : TBand) (v_place : Tx) (v_length : Int) : Ref (m_count_from [d v_band, d v_place, d v_length]) (t_count_from v_band v_place v_length) :=
    rf_run
    (rs_seq (E := (fun _ : Unit => [.sh (d (v_band : TBand)), .sh (d (v_place : Tx)), .sh (d (v_length : Int))])) (rs_expr (cv (rf_meth2 (rf_loc 0 rfl) (rf_loc 1 rfl) (rf_s2 p_ixS (rf_fld fl_Band_signs (rf_loc 0 rfl)) (rf_c (a := (0 : Int)) rfl)) (fun _ => rfl) br_Band_led))) fun u2 =>
    (rs_ret (cv (rf_s2 p_ixD (rf_s2 p_ixL (rf_fn2 (rf_loc 0 rfl) (rf_loc 2 rfl) br_tables) (rf_loc 2 rfl)) (rf_loc 1 rfl)))))
def t_row_at_L1 (v_band : TBand) (v_counts_1 : (List (Dct Tx Int))) (a11 : Int) (q12 : (Tx × Tx × Int)) (a13 : Tx) : M (Ot (Tx × Tx × Int) Tx) :=
    (M.bind (t_Band_led v_band q12.2.1 a13) fun v_end_14 =>
    (M.bind (M.ok (Option.isSome v_end_14)) fun c15 => if c15 then
    (M.bind (M.bind (M.bind (ixL v_counts_1 a11) fun x16 => (M.bind (oM v_end_14) fun x17 => (ixD x16 x17))) fun x18 => M.ok (decide (q12.2.2 < x18))) fun c19 => if c19 then
    (M.bind (addS q12.1 a13) fun v_row_20 =>
    (M.bind (oM v_end_14) fun v_place_21 =>
    (M.ok (Ot.bk (v_row_20, v_place_21, q12.2.2))))) else
    (M.bind (M.bind (M.bind (ixL v_counts_1 a11) fun x23 => (M.bind (oM v_end_14) fun x24 => (ixD x23 x24))) fun x25 => M.ok (q12.2.2 - x25)) fun v_rest_22 =>
    (M.ok (Ot.nx (q12.1, q12.2.1, v_rest_22))))) else
    (M.ok (Ot.nx (q12.1, q12.2.1, q12.2.2)))))
def t_row_at_L2 (v_band : TBand) (v_counts_1 : (List (Dct Tx Int))) (q10 : (Tx × Tx × Int)) (a11 : Int) : M (Tx × Tx × Int) :=
    (M.bind (M.bind (M.ok (List.map sg v_band.signs)) fun l27 => forT (t_row_at_L1 v_band v_counts_1 a11) l27 (q10.1, q10.2.1, q10.2.2)) fun y28 => y28.n fun s26 =>
    (M.ok (s26.1, s26.2.1, s26.2.2)))
def t_row_at (v_band : TBand) (v_length : Int) (v_number : Int) : M Tx :=
    (M.bind (t_tables v_band v_length) fun v_counts_1 =>
    (M.bind (M.ok ((!true) || false)) fun c2 => if c2 then
    (M.er 13 []) else
    (M.bind (M.bind (M.ok (decide (v_number < (0 : Int)))) fun x5 => if x5 then M.ok true else (M.bind (M.bind (ixL v_counts_1 v_length) fun x3 => (ixD x3 ("".toList : Tx))) fun x4 => M.ok (decide (x4 ≤ v_number)))) fun c6 => if c6 then
    (M.er 13 []) else
    (M.bind (M.ok ("".toList : Tx)) fun v_row_7 =>
    (M.bind (M.ok ("".toList : Tx)) fun v_place_8 =>
    (M.bind (M.ok v_number) fun v_rest_9 =>
    (M.bind (M.bind (rg3M (v_length - (1 : Int)) (-(1 : Int)) (-(1 : Int))) fun l30 => foldT (t_row_at_L2 v_band v_counts_1) l30 (v_row_7, v_place_8, v_rest_9)) fun s29 =>
    (M.ok s29.1))))))))
theorem br_row_at (v_band : TBand) (v_length : Int) (v_number : Int) : Ref (m_row_at [d v_band, d v_length, d v_number]) (t_row_at v_band v_length v_number) :=
    rf_run
    (rs_seq (E := (fun (v_counts_1 : (List (Dct Tx Int))) => [.sh (d (v_band : TBand)), .sh (d (v_length : Int)), .sh (d (v_number : Int)), .sh (d (v_counts_1 : (List (Dct Tx Int)))), .no, .no, .no, .no, .no, .no])) (rs_asg (cv (rf_fn2 (rf_loc 0 rfl) (rf_loc 1 rfl) br_tables)) (fun _ => rfl)) fun v_counts_1 =>
    (rs_ifx (cv (rf_orp (rf_not (rf_isi (α := Int) (fun _ => tbk_int_int) (rf_loc 2 rfl))) (rf_isi (α := Int) (fun _ => tbk_bool_int) (rf_loc 2 rfl))))
    (xF rs_raise)
    (rs_skip (rs_ifx (cv (rf_or (rf_s2 p_lt (rf_loc 2 rfl) (rf_c (a := (0 : Int)) rfl)) (rf_s2 p_ge (rf_loc 2 rfl) (rf_s2 p_ixD (rf_s2 p_ixL (rf_loc 3 rfl) (rf_loc 1 rfl)) (rf_txt (x := "".toList) (str_of _))))))
    (xF rs_raise)
    (rs_skip (rs_seq (E := (fun (v_row_7 : Tx) => [.sh (d (v_band : TBand)), .sh (d (v_length : Int)), .sh (d (v_number : Int)), .sh (d (v_counts_1 : (List (Dct Tx Int)))), .sh (d (v_row_7 : Tx)), .no, .no, .no, .no, .no])) (rs_asg (cv (rf_txt (x := "".toList) (str_of _))) (fun _ => rfl)) fun v_row_7 =>
    (rs_seq (E := (fun (v_place_8 : Tx) => [.sh (d (v_band : TBand)), .sh (d (v_length : Int)), .sh (d (v_number : Int)), .sh (d (v_counts_1 : (List (Dct Tx Int)))), .sh (d (v_row_7 : Tx)), .sh (d (v_place_8 : Tx)), .no, .no, .no, .no])) (rs_asg (cv (rf_txt (x := "".toList) (str_of _))) (fun _ => rfl)) fun v_place_8 =>
    (rs_seq (E := (fun (v_rest_9 : Int) => [.sh (d (v_band : TBand)), .sh (d (v_length : Int)), .sh (d (v_number : Int)), .sh (d (v_counts_1 : (List (Dct Tx Int)))), .sh (d (v_row_7 : Tx)), .sh (d (v_place_8 : Tx)), .sh (d (v_rest_9 : Int)), .no, .no, .no])) (rs_asg (cv (rf_loc 2 rfl)) (fun _ => rfl)) fun v_rest_9 =>
    (rs_seq (E := (fun (q : (Tx × Tx × Int)) => [.sh (d (v_band : TBand)), .sh (d (v_length : Int)), .sh (d (v_number : Int)), .sh (d (v_counts_1 : (List (Dct Tx Int)))), .sh (d (q.1 : Tx)), .sh (d (q.2.1 : Tx)), .sh (d (q.2.2 : Int)), .no, .no, .no])) (rs_for (E := (fun (q : (Tx × Tx × Int)) => [.sh (d (v_band : TBand)), .sh (d (v_length : Int)), .sh (d (v_number : Int)), .sh (d (v_counts_1 : (List (Dct Tx Int)))), .sh (d (q.1 : Tx)), .sh (d (q.2.1 : Tx)), .sh (d (q.2.2 : Int)), .no, .no, .no])) (E' := (fun (q10 : (Tx × Tx × Int)) (a11 : Int) => [.sh (d (v_band : TBand)), .sh (d (v_length : Int)), .sh (d (v_number : Int)), .sh (d (v_counts_1 : (List (Dct Tx Int)))), .sh (d (q10.1 : Tx)), .sh (d (q10.2.1 : Tx)), .sh (d (q10.2.2 : Int)), .sh (d (a11 : Int)), .no, .no])) (v_row_7, v_place_8, v_rest_9) rfl (cv (ri_rng3 (rf_s2 p_sub (rf_loc 1 rfl) (rf_c (a := (1 : Int)) rfl)) (rf_neg (rf_c (a := (1 : Int)) rfl)) (rf_neg (rf_c (a := (1 : Int)) rfl)))) (fun _ _ => rfl) fun q10 a11 =>
    (rs_seqN (fr := false) (E := (fun (q : (Tx × Tx × Int)) => [.sh (d (v_band : TBand)), .sh (d (v_length : Int)), .sh (d (v_number : Int)), .sh (d (v_counts_1 : (List (Dct Tx Int)))), .sh (d (q.1 : Tx)), .sh (d (q.2.1 : Tx)), .sh (d (q.2.2 : Int)), .sh (d (a11 : Int)), .no, .no])) (rl_for (E := (fun (q : (Tx × Tx × Int)) => [.sh (d (v_band : TBand)), .sh (d (v_length : Int)), .sh (d (v_number : Int)), .sh (d (v_counts_1 : (List (Dct Tx Int)))), .sh (d (q.1 : Tx)), .sh (d (q.2.1 : Tx)), .sh (d (q.2.2 : Int)), .sh (d (a11 : Int)), .no, .no])) (E' := (fun (q12 : (Tx × Tx × Int)) (a13 : Tx) => [.sh (d (v_band : TBand)), .sh (d (v_length : Int)), .sh (d (v_number : Int)), .sh (d (v_counts_1 : (List (Dct Tx Int)))), .sh (d (q12.1 : Tx)), .sh (d (q12.2.1 : Tx)), .sh (d (q12.2.2 : Int)), .sh (d (a11 : Int)), .sh (d (a13 : Tx)), .no])) (q10.1, q10.2.1, q10.2.2) rfl (cv (ri_txt (rf_fld fl_Band_signs (rf_loc 0 rfl)))) (fun _ _ => rfl) fun q12 a13 =>
    (rs_seq (E := (fun (v_end_14 : (Option Tx)) => [.sh (d (v_band : TBand)), .sh (d (v_length : Int)), .sh (d (v_number : Int)), .sh (d (v_counts_1 : (List (Dct Tx Int)))), .sh (d (q12.1 : Tx)), .sh (d (q12.2.1 : Tx)), .sh (d (q12.2.2 : Int)), .sh (d (a11 : Int)), .sh (d (a13 : Tx)), .sh (d (v_end_14 : (Option Tx)))])) (rs_asg (cv (rf_meth2 (rf_loc 0 rfl) (rf_loc 5 rfl) (rf_loc 8 rfl) (fun _ => rfl) br_Band_led)) (fun _ => rfl)) fun v_end_14 =>
    (rs_if (cv (rf_s2 p_isNot (rf_loc 9 rfl) (rf_c (a := ()) rfl)))
    (rs_ifx (cv (rf_s2 p_lt (rf_loc 6 rfl) (rf_s2 p_ixD (rf_s2 p_ixL (rf_loc 3 rfl) (rf_loc 7 rfl)) (rf_unopt (rf_loc 9 rfl)))))
    (rs_seq (E := (fun (v_row_20 : Tx) => [.sh (d (v_band : TBand)), .sh (d (v_length : Int)), .sh (d (v_number : Int)), .sh (d (v_counts_1 : (List (Dct Tx Int)))), .sh (d (v_row_20 : Tx)), .sh (d (q12.2.1 : Tx)), .sh (d (q12.2.2 : Int)), .sh (d (a11 : Int)), .sh (d (a13 : Tx)), .sh (d (v_end_14 : (Option Tx)))])) (rs_asg (cv (rf_s2 p_addS (rf_loc 4 rfl) (rf_loc 8 rfl))) (fun _ => rfl)) fun v_row_20 =>
    (rs_seq (E := (fun (v_place_21 : Tx) => [.sh (d (v_band : TBand)), .sh (d (v_length : Int)), .sh (d (v_number : Int)), .sh (d (v_counts_1 : (List (Dct Tx Int)))), .sh (d (v_row_20 : Tx)), .sh (d (v_place_21 : Tx)), .sh (d (q12.2.2 : Int)), .sh (d (a11 : Int)), .sh (d (a13 : Tx)), .sh (d (v_end_14 : (Option Tx)))])) (rs_asg (cv (rf_unopt (rf_loc 9 rfl))) (fun _ => rfl)) fun v_place_21 =>
    (rs_pre (env' := [.sh (d (v_band : TBand)), .sh (d (v_length : Int)), .sh (d (v_number : Int)), .sh (d (v_counts_1 : (List (Dct Tx Int)))), .sh (d (v_row_20 : Tx)), .sh (d (v_place_21 : Tx)), .sh (d (q12.2.2 : Int)), .sh (d (a11 : Int)), .no, .sh (d (v_end_14 : (Option Tx)))]) rfl (rs_pre (env' := [.sh (d (v_band : TBand)), .sh (d (v_length : Int)), .sh (d (v_number : Int)), .sh (d (v_counts_1 : (List (Dct Tx Int)))), .sh (d (v_row_20 : Tx)), .sh (d (v_place_21 : Tx)), .sh (d (q12.2.2 : Int)), .sh (d (a11 : Int)), .no, .no]) rfl (rx_brk (E := (fun (q : (Tx × Tx × Int)) => [.sh (d (v_band : TBand)), .sh (d (v_length : Int)), .sh (d (v_number : Int)), .sh (d (v_counts_1 : (List (Dct Tx Int)))), .sh (d (q.1 : Tx)), .sh (d (q.2.1 : Tx)), .sh (d (q.2.2 : Int)), .sh (d (a11 : Int)), .no, .no])) (s := (v_row_20, v_place_21, q12.2.2)) rfl)))))
    (rs_skip (rs_seq (E := (fun (v_rest_22 : Int) => [.sh (d (v_band : TBand)), .sh (d (v_length : Int)), .sh (d (v_number : Int)), .sh (d (v_counts_1 : (List (Dct Tx Int)))), .sh (d (q12.1 : Tx)), .sh (d (q12.2.1 : Tx)), .sh (d (v_rest_22 : Int)), .sh (d (a11 : Int)), .sh (d (a13 : Tx)), .sh (d (v_end_14 : (Option Tx)))])) (rs_asg (cv (rf_s2 p_sub (rf_loc 6 rfl) (rf_s2 p_ixD (rf_s2 p_ixL (rf_loc 3 rfl) (rf_loc 7 rfl)) (rf_unopt (rf_loc 9 rfl))))) (fun _ => rfl)) fun v_rest_22 =>
    (rs_pre (env' := [.sh (d (v_band : TBand)), .sh (d (v_length : Int)), .sh (d (v_number : Int)), .sh (d (v_counts_1 : (List (Dct Tx Int)))), .sh (d (q12.1 : Tx)), .sh (d (q12.2.1 : Tx)), .sh (d (v_rest_22 : Int)), .sh (d (a11 : Int)), .no, .sh (d (v_end_14 : (Option Tx)))]) rfl (rs_pre (env' := [.sh (d (v_band : TBand)), .sh (d (v_length : Int)), .sh (d (v_number : Int)), .sh (d (v_counts_1 : (List (Dct Tx Int)))), .sh (d (q12.1 : Tx)), .sh (d (q12.2.1 : Tx)), .sh (d (v_rest_22 : Int)), .sh (d (a11 : Int)), .no, .no]) rfl (rg_next (E := (fun (q : (Tx × Tx × Int)) => [.sh (d (v_band : TBand)), .sh (d (v_length : Int)), .sh (d (v_number : Int)), .sh (d (v_counts_1 : (List (Dct Tx Int)))), .sh (d (q.1 : Tx)), .sh (d (q.2.1 : Tx)), .sh (d (q.2.2 : Int)), .sh (d (a11 : Int)), .no, .no])) (s := (q12.1, q12.2.1, v_rest_22)) rfl))))))
    (rs_pre (env' := [.sh (d (v_band : TBand)), .sh (d (v_length : Int)), .sh (d (v_number : Int)), .sh (d (v_counts_1 : (List (Dct Tx Int)))), .sh (d (q12.1 : Tx)), .sh (d (q12.2.1 : Tx)), .sh (d (q12.2.2 : Int)), .sh (d (a11 : Int)), .no, .sh (d (v_end_14 : (Option Tx)))]) rfl (rs_pre (env' := [.sh (d (v_band : TBand)), .sh (d (v_length : Int)), .sh (d (v_number : Int)), .sh (d (v_counts_1 : (List (Dct Tx Int)))), .sh (d (q12.1 : Tx)), .sh (d (q12.2.1 : Tx)), .sh (d (q12.2.2 : Int)), .sh (d (a11 : Int)), .no, .no]) rfl (rg_next (E := (fun (q : (Tx × Tx × Int)) => [.sh (d (v_band : TBand)), .sh (d (v_length : Int)), .sh (d (v_number : Int)), .sh (d (v_counts_1 : (List (Dct Tx Int)))), .sh (d (q.1 : Tx)), .sh (d (q.2.1 : Tx)), .sh (d (q.2.2 : Int)), .sh (d (a11 : Int)), .no, .no])) (s := (q12.1, q12.2.1, q12.2.2)) rfl)))))) fun s26 =>
    (rs_pre (env' := [.sh (d (v_band : TBand)), .sh (d (v_length : Int)), .sh (d (v_number : Int)), .sh (d (v_counts_1 : (List (Dct Tx Int)))), .sh (d (s26.1 : Tx)), .sh (d (s26.2.1 : Tx)), .sh (d (s26.2.2 : Int)), .no, .no, .no]) rfl (rs_next (E := (fun (q : (Tx × Tx × Int)) => [.sh (d (v_band : TBand)), .sh (d (v_length : Int)), .sh (d (v_number : Int)), .sh (d (v_counts_1 : (List (Dct Tx Int)))), .sh (d (q.1 : Tx)), .sh (d (q.2.1 : Tx)), .sh (d (q.2.2 : Int)), .no, .no, .no])) (s := (s26.1, s26.2.1, s26.2.2)) rfl)))) fun s29 =>
    (rs_ret (cv (rf_loc 4 rfl))))))))))))
def t_number_of_L1 (v_band : TBand) (v_row : Tx) (v_counts_2 : (List (Dct Tx Int))) (a8 : Int) (q9 : (Tx × Int)) (a10 : Tx) : M (Ot (Tx × Int) Int) :=
    (M.bind (t_Band_led v_band q9.1 a10) fun v_end_11 =>
    (M.bind (M.bind (ixS v_row a8) fun x12 => M.ok (eqT a10 x12)) fun c13 => if c13 then
    (M.bind (oM v_end_11) fun v_place_14 =>
    (M.ok (Ot.bk (v_place_14, q9.2)))) else
    (M.bind (M.bind (M.ok (Option.isSome v_end_11)) fun c15 => if c15 then
    (M.bind (M.bind (M.bind (M.bind (M.bind (M.bind (lenS v_row) fun x17 => M.ok (x17 - (1 : Int))) fun x18 => M.ok (x18 - a8)) fun x19 => (ixL v_counts_2 x19)) fun x20 => (M.bind (oM v_end_11) fun x21 => (ixD x20 x21))) fun x22 => M.ok (q9.2 + x22)) fun v_number_16 =>
    (M.ok v_number_16)) else
    (M.ok q9.2)) fun s23 =>
    (M.ok (Ot.nx (q9.1, s23))))))
def t_number_of_L2 (v_band : TBand) (v_row : Tx) (v_counts_2 : (List (Dct Tx Int))) (q7 : (Tx × Int)) (a8 : Int) : M (Tx × Int) :=
    (M.bind (M.bind (M.ok (List.map sg v_band.signs)) fun l25 => forT (t_number_of_L1 v_band v_row v_counts_2 a8) l25 (q7.1, q7.2)) fun y26 => y26.n fun s24 =>
    (M.ok (s24.1, s24.2)))
def t_number_of (v_band : TBand) (v_row : Tx) : M Int :=
    (M.bind (M.bind (t_check_good v_band v_row) fun _ => M.ok ()) fun u1 =>
    (M.bind (M.bind (lenS v_row) fun x3 => (t_tables v_band x3)) fun v_counts_2 =>
    (M.bind (M.ok ("".toList : Tx)) fun v_place_4 =>
    (M.bind (M.ok (0 : Int)) fun v_number_5 =>
    (M.bind (M.bind (M.bind (lenS v_row) fun x6 => (rgM x6)) fun l28 => foldT (t_number_of_L2 v_band v_row v_counts_2) l28 (v_place_4, v_number_5)) fun s27 =>
    (M.ok s27.2))))))
theorem br_number_of (v_band : TBand) (v_row : Tx) : Ref (m_number_of [d v_band, d v_row]) (t_number_of v_band v_row) :=
    rf_run
    (rs_seq (E := (fun _ : Unit => [.sh (d (v_band : TBand)), .sh (d (v_row : Tx)), .no, .no, .no, .no, .no, .no])) (rs_expr (cv (rf_fn2 (rf_loc 0 rfl) (rf_loc 1 rfl) br_check_good))) fun u1 =>
    (rs_seq (E := (fun (v_counts_2 : (List (Dct Tx Int))) => [.sh (d (v_band : TBand)), .sh (d (v_row : Tx)), .sh (d (v_counts_2 : (List (Dct Tx Int)))), .no, .no, .no, .no, .no])) (rs_asg (cv (rf_fn2 (rf_loc 0 rfl) (rf_call1 p_lenS (rf_loc 1 rfl)) br_tables)) (fun _ => rfl)) fun v_counts_2 =>
    (rs_seq (E := (fun (v_place_4 : Tx) => [.sh (d (v_band : TBand)), .sh (d (v_row : Tx)), .sh (d (v_counts_2 : (List (Dct Tx Int)))), .sh (d (v_place_4 : Tx)), .no, .no, .no, .no])) (rs_asg (cv (rf_txt (x := "".toList) (str_of _))) (fun _ => rfl)) fun v_place_4 =>
    (rs_seq (E := (fun (v_number_5 : Int) => [.sh (d (v_band : TBand)), .sh (d (v_row : Tx)), .sh (d (v_counts_2 : (List (Dct Tx Int)))), .sh (d (v_place_4 : Tx)), .sh (d (v_number_5 : Int)), .no, .no, .no])) (rs_asg (cv (rf_c (a := (0 : Int)) rfl)) (fun _ => rfl)) fun v_number_5 =>
    (rs_seq (E := (fun (q : (Tx × Int)) => [.sh (d (v_band : TBand)), .sh (d (v_row : Tx)), .sh (d (v_counts_2 : (List (Dct Tx Int)))), .sh (d (q.1 : Tx)), .sh (d (q.2 : Int)), .no, .no, .no])) (rs_for (E := (fun (q : (Tx × Int)) => [.sh (d (v_band : TBand)), .sh (d (v_row : Tx)), .sh (d (v_counts_2 : (List (Dct Tx Int)))), .sh (d (q.1 : Tx)), .sh (d (q.2 : Int)), .no, .no, .no])) (E' := (fun (q7 : (Tx × Int)) (a8 : Int) => [.sh (d (v_band : TBand)), .sh (d (v_row : Tx)), .sh (d (v_counts_2 : (List (Dct Tx Int)))), .sh (d (q7.1 : Tx)), .sh (d (q7.2 : Int)), .sh (d (a8 : Int)), .no, .no])) (v_place_4, v_number_5) rfl (cv (ri_rng1 (rf_call1 p_lenS (rf_loc 1 rfl)))) (fun _ _ => rfl) fun q7 a8 =>
    (rs_seqN (fr := false) (E := (fun (q : (Tx × Int)) => [.sh (d (v_band : TBand)), .sh (d (v_row : Tx)), .sh (d (v_counts_2 : (List (Dct Tx Int)))), .sh (d (q.1 : Tx)), .sh (d (q.2 : Int)), .sh (d (a8 : Int)), .no, .no])) (rl_for (E := (fun (q : (Tx × Int)) => [.sh (d (v_band : TBand)), .sh (d (v_row : Tx)), .sh (d (v_counts_2 : (List (Dct Tx Int)))), .sh (d (q.1 : Tx)), .sh (d (q.2 : Int)), .sh (d (a8 : Int)), .no, .no])) (E' := (fun (q9 : (Tx × Int)) (a10 : Tx) => [.sh (d (v_band : TBand)), .sh (d (v_row : Tx)), .sh (d (v_counts_2 : (List (Dct Tx Int)))), .sh (d (q9.1 : Tx)), .sh (d (q9.2 : Int)), .sh (d (a8 : Int)), .sh (d (a10 : Tx)), .no])) (q7.1, q7.2) rfl (cv (ri_txt (rf_fld fl_Band_signs (rf_loc 0 rfl)))) (fun _ _ => rfl) fun q9 a10 =>
    (rs_seq (E := (fun (v_end_11 : (Option Tx)) => [.sh (d (v_band : TBand)), .sh (d (v_row : Tx)), .sh (d (v_counts_2 : (List (Dct Tx Int)))), .sh (d (q9.1 : Tx)), .sh (d (q9.2 : Int)), .sh (d (a8 : Int)), .sh (d (a10 : Tx)), .sh (d (v_end_11 : (Option Tx)))])) (rs_asg (cv (rf_meth2 (rf_loc 0 rfl) (rf_loc 3 rfl) (rf_loc 6 rfl) (fun _ => rfl) br_Band_led)) (fun _ => rfl)) fun v_end_11 =>
    (rs_ifx (cv (rf_s2 p_eq (rf_loc 6 rfl) (rf_s2 p_ixS (rf_loc 1 rfl) (rf_loc 5 rfl))))
    (rs_seq (E := (fun (v_place_14 : Tx) => [.sh (d (v_band : TBand)), .sh (d (v_row : Tx)), .sh (d (v_counts_2 : (List (Dct Tx Int)))), .sh (d (v_place_14 : Tx)), .sh (d (q9.2 : Int)), .sh (d (a8 : Int)), .sh (d (a10 : Tx)), .sh (d (v_end_11 : (Option Tx)))])) (rs_asg (cv (rf_unopt (rf_loc 7 rfl))) (fun _ => rfl)) fun v_place_14 =>
    (rs_pre (env' := [.sh (d (v_band : TBand)), .sh (d (v_row : Tx)), .sh (d (v_counts_2 : (List (Dct Tx Int)))), .sh (d (v_place_14 : Tx)), .sh (d (q9.2 : Int)), .sh (d (a8 : Int)), .no, .sh (d (v_end_11 : (Option Tx)))]) rfl (rs_pre (env' := [.sh (d (v_band : TBand)), .sh (d (v_row : Tx)), .sh (d (v_counts_2 : (List (Dct Tx Int)))), .sh (d (v_place_14 : Tx)), .sh (d (q9.2 : Int)), .sh (d (a8 : Int)), .no, .no]) rfl (rx_brk (E := (fun (q : (Tx × Int)) => [.sh (d (v_band : TBand)), .sh (d (v_row : Tx)), .sh (d (v_counts_2 : (List (Dct Tx Int)))), .sh (d (q.1 : Tx)), .sh (d (q.2 : Int)), .sh (d (a8 : Int)), .no, .no])) (s := (v_place_14, q9.2)) rfl))))
    (rs_skip (rs_seq (E := (fun (q : (Int)) => [.sh (d (v_band : TBand)), .sh (d (v_row : Tx)), .sh (d (v_counts_2 : (List (Dct Tx Int)))), .sh (d (q9.1 : Tx)), .sh (d (q : Int)), .sh (d (a8 : Int)), .sh (d (a10 : Tx)), .sh (d (v_end_11 : (Option Tx)))])) (rs_if (cv (rf_s2 p_isNot (rf_loc 7 rfl) (rf_c (a := ()) rfl)))
    (rs_seq (E := (fun (v_number_16 : Int) => [.sh (d (v_band : TBand)), .sh (d (v_row : Tx)), .sh (d (v_counts_2 : (List (Dct Tx Int)))), .sh (d (q9.1 : Tx)), .sh (d (v_number_16 : Int)), .sh (d (a8 : Int)), .sh (d (a10 : Tx)), .sh (d (v_end_11 : (Option Tx)))])) (rs_asg (cv (rf_s2 p_addI (rf_loc 4 rfl) (rf_s2 p_ixD (rf_s2 p_ixL (rf_loc 2 rfl) (rf_s2 p_sub (rf_s2 p_sub (rf_call1 p_lenS (rf_loc 1 rfl)) (rf_c (a := (1 : Int)) rfl)) (rf_loc 5 rfl))) (rf_unopt (rf_loc 7 rfl))))) (fun _ => rfl)) fun v_number_16 =>
    (rs_next (E := (fun (q : (Int)) => [.sh (d (v_band : TBand)), .sh (d (v_row : Tx)), .sh (d (v_counts_2 : (List (Dct Tx Int)))), .sh (d (q9.1 : Tx)), .sh (d (q : Int)), .sh (d (a8 : Int)), .sh (d (a10 : Tx)), .sh (d (v_end_11 : (Option Tx)))])) (s := v_number_16) rfl))
    (rs_next (E := (fun (q : (Int)) => [.sh (d (v_band : TBand)), .sh (d (v_row : Tx)), .sh (d (v_counts_2 : (List (Dct Tx Int)))), .sh (d (q9.1 : Tx)), .sh (d (q : Int)), .sh (d (a8 : Int)), .sh (d (a10 : Tx)), .sh (d (v_end_11 : (Option Tx)))])) (s := q9.2) rfl)) fun s23 =>
    (rs_pre (env' := [.sh (d (v_band : TBand)), .sh (d (v_row : Tx)), .sh (d (v_counts_2 : (List (Dct Tx Int)))), .sh (d (q9.1 : Tx)), .sh (d (s23 : Int)), .sh (d (a8 : Int)), .no, .sh (d (v_end_11 : (Option Tx)))]) rfl (rs_pre (env' := [.sh (d (v_band : TBand)), .sh (d (v_row : Tx)), .sh (d (v_counts_2 : (List (Dct Tx Int)))), .sh (d (q9.1 : Tx)), .sh (d (s23 : Int)), .sh (d (a8 : Int)), .no, .no]) rfl (rg_next (E := (fun (q : (Tx × Int)) => [.sh (d (v_band : TBand)), .sh (d (v_row : Tx)), .sh (d (v_counts_2 : (List (Dct Tx Int)))), .sh (d (q.1 : Tx)), .sh (d (q.2 : Int)), .sh (d (a8 : Int)), .no, .no])) (s := (q9.1, s23)) rfl)))))))) fun s24 =>
    (rs_pre (env' := [.sh (d (v_band : TBand)), .sh (d (v_row : Tx)), .sh (d (v_counts_2 : (List (Dct Tx Int)))), .sh (d (s24.1 : Tx)), .sh (d (s24.2 : Int)), .no, .no, .no]) rfl (rs_next (E := (fun (q : (Tx × Int)) => [.sh (d (v_band : TBand)), .sh (d (v_row : Tx)), .sh (d (v_counts_2 : (List (Dct Tx Int)))), .sh (d (q.1 : Tx)), .sh (d (q.2 : Int)), .no, .no, .no])) (s := (s24.1, s24.2)) rfl)))) fun s27 =>
    (rs_ret (cv (rf_loc 4 rfl))))))))
def t_count (v_band : TBand) (v_length : Int) : M Int :=
    (t_count_from v_band ("".toList : Tx) v_length)
theorem br_count (v_band : TBand) (v_length : Int) : Ref (m_count [d v_band, d v_length]) (t_count v_band v_length) :=
    rf_run
    (rs_ret (cv (rf_fn3 (rf_loc 0 rfl) (rf_txt (x := "".toList) (str_of _)) (rf_loc 1 rfl) br_count_from)))
def t_law_L1 (v_words_here_3 : (List Tx)) (v_band_4 : TBand) (v_length_5 : Int) (v_rows_here_10 : (List Tx)) (q16 : Unit) (a17 : Tx) : M (Ot Unit Bool) :=
    (M.bind (M.bind (fcompM (fun (a19 : Tx) => (M.bind (addS a17 a19) fun x20 => (t_law_is_good x20 v_words_here_3))) (fun (a19 : Tx) => (M.ok a19)) v_rows_here_10) fun x21 => M.ok (List.length x21 : Int)) fun v_due_18 =>
    (M.bind (M.bind (M.bind (t_count_from v_band_4 a17 v_length_5) fun x22 => (t_law_number x22 v_due_18)) fun x23 => M.ok (!x23)) fun c24 => if c24 then
    (M.bind (M.ok false) fun r25 => M.ok (Ot.rt r25)) else
    (M.ok (Ot.nx ()))))
def t_law_L2 (v_band_4 : TBand) (v_length_5 : Int) (v_good_11 : (List Tx)) (q37 : Unit) (a38 : Int) : M (Ot Unit Bool) :=
    (M.bind (t_row_at v_band_4 v_length_5 a38) fun v_row_39 =>
    (M.bind (M.bind (M.ok (!true)) fun x44 => if x44 then M.ok true else (M.bind (M.bind (ixL v_good_11 a38) fun x40 => M.ok (!eqT v_row_39 x40)) fun x43 => if x43 then M.ok true else (M.bind (M.bind (t_number_of v_band_4 v_row_39) fun x41 => (t_law_number x41 a38)) fun x42 => M.ok (!x42)))) fun c45 => if c45 then
    (M.bind (M.ok false) fun r46 => M.ok (Ot.rt r46)) else
    (M.ok (Ot.nx ()))))
def t_law (v_script : Scr) : M Bool :=
    (M.bind (M.bind (t_law_cell v_script (0 : Int)) fun x2 => (t_law_signs x2)) fun v_signs_here_1 =>
    (M.bind (t_law_words v_script (1 : Int) v_signs_here_1 (6 : Int)) fun v_words_here_3 =>
    (M.bind (mkM (t_Band__init_ v_signs_here_1 v_words_here_3)) fun v_band_4 =>
    (M.bind (M.bind (t_law_cell v_script (9 : Int)) fun x8 => (M.bind (M.bind (M.bind (lenS v_signs_here_1) fun x6 => M.ok (x6 - (2 : Int))) fun x7 => (ixL ([(7 : Int), (5 : Int), (4 : Int)] : List Int) x7)) fun x9 => (modI x8 x9))) fun v_length_5 =>
    (M.bind (t_law_rows v_signs_here_1 v_length_5) fun v_rows_here_10 =>
    (M.bind (fcompM (fun (a12 : Tx) => (t_law_is_good a12 v_words_here_3)) (fun (a12 : Tx) => (M.ok a12)) v_rows_here_10) fun v_good_11 =>
    (M.bind (M.bind (M.bind (t_count v_band_4 v_length_5) fun x13 => (t_law_number x13 (List.length v_good_11 : Int))) fun x14 => M.ok (!x14)) fun c15 => if c15 then
    (M.ok false) else
    (M.bind (M.bind (t_Band_places v_band_4) fun l27 => forT (t_law_L1 v_words_here_3 v_band_4 v_length_5 v_rows_here_10) l27 ()) fun y51 => y51.f fun s26 =>
    (M.bind (M.ok ((1 : Int) + ((List.length v_good_11 : Int) / 24))) fun v_step_28 =>
    (M.bind (M.bind (M.bind (t_law_cell v_script (11 : Int)) fun x30 => (modI x30 v_step_28)) fun x31 => (rgL3 x31 (List.length v_good_11 : Int) v_step_28)) fun v_numbers_29 =>
    (M.bind (M.bind (M.bind (M.bind (t_law_cell v_script (10 : Int)) fun x32 => M.ok (x32 % 2)) fun x33 => M.ok (eqT x33 (1 : Int))) fun c34 => if c34 then
    (M.bind (M.ok (List.reverse v_numbers_29)) fun v_numbers_35 =>
    (M.ok v_numbers_35)) else
    (M.ok v_numbers_29)) fun s36 =>
    (M.bind (M.bind (M.ok s36) fun l48 => forT (t_law_L2 v_band_4 v_length_5 v_good_11) l48 ()) fun y50 => y50.f fun s47 =>
    (M.bind (t_count v_band_4 v_length_5) fun x49 => (t_law_number x49 (List.length v_good_11 : Int)))))))))))))))
theorem br_law (v_script : Scr) : Ref (m_law [d v_script]) (t_law v_script) :=
    rf_run
    (rs_seq (E := (fun (v_signs_here_1 : Tx) => [.sh (d (v_script : Scr)), .sh (d (v_signs_here_1 : Tx)), .no, .no, .no, .no, .no, .no, .no, .no, .no, .no, .no])) (rs_asg (cv (rf_fn1 (rf_fn2 (rf_loc 0 rfl) (rf_c (a := (0 : Int)) rfl) br_law_cell) br_law_signs)) (fun _ => rfl)) fun v_signs_here_1 =>
    (rs_seq (E := (fun (v_words_here_3 : (List Tx)) => [.sh (d (v_script : Scr)), .sh (d (v_signs_here_1 : Tx)), .sh (d (v_words_here_3 : (List Tx))), .no, .no, .no, .no, .no, .no, .no, .no, .no, .no])) (rs_asg (cv (rf_fn4 (rf_loc 0 rfl) (rf_c (a := (1 : Int)) rfl) (rf_loc 1 rfl) (rf_c (a := (6 : Int)) rfl) br_law_words)) (fun _ => rfl)) fun v_words_here_3 =>
    (rs_seq (E := (fun (v_band_4 : TBand) => [.sh (d (v_script : Scr)), .sh (d (v_signs_here_1 : Tx)), .sh (d (v_words_here_3 : (List Tx))), .sh (d (v_band_4 : TBand)), .no, .no, .no, .no, .no, .no, .no, .no, .no])) (rs_asg (cv (rf_mk2 (rf_loc 1 rfl) (rf_call1 p_list (rf_loc 2 rfl)) (fun _ _ => rfl) br_Band__init_)) (fun _ => rfl)) fun v_band_4 =>
    (rs_seq (E := (fun (v_length_5 : Int) => [.sh (d (v_script : Scr)), .sh (d (v_signs_here_1 : Tx)), .sh (d (v_words_here_3 : (List Tx))), .sh (d (v_band_4 : TBand)), .sh (d (v_length_5 : Int)), .no, .no, .no, .no, .no, .no, .no, .no])) (rs_asg (cv (rf_s2 p_mod (rf_fn2 (rf_loc 0 rfl) (rf_c (a := (9 : Int)) rfl) br_law_cell) (rf_s2 p_ixL (rf_lst (by decide) (rl_cons (rf_c (a := (7 : Int)) rfl) (rl_cons (rf_c (a := (5 : Int)) rfl) (rl_cons (rf_c (a := (4 : Int)) rfl) (rl_nil (α := Int)))))) (rf_s2 p_sub (rf_call1 p_lenS (rf_loc 1 rfl)) (rf_c (a := (2 : Int)) rfl))))) (fun _ => rfl)) fun v_length_5 =>
    (rs_seq (E := (fun (v_rows_here_10 : (List Tx)) => [.sh (d (v_script : Scr)), .sh (d (v_signs_here_1 : Tx)), .sh (d (v_words_here_3 : (List Tx))), .sh (d (v_band_4 : TBand)), .sh (d (v_length_5 : Int)), .sh (d (v_rows_here_10 : (List Tx))), .no, .no, .no, .no, .no, .no, .no])) (rs_asg (cv (rf_fn2 (rf_loc 1 rfl) (rf_loc 4 rfl) br_law_rows)) (fun _ => rfl)) fun v_rows_here_10 =>
    (rs_seq (E := (fun (v_good_11 : (List Tx)) => [.sh (d (v_script : Scr)), .sh (d (v_signs_here_1 : Tx)), .sh (d (v_words_here_3 : (List Tx))), .sh (d (v_band_4 : TBand)), .sh (d (v_length_5 : Int)), .sh (d (v_rows_here_10 : (List Tx))), .ow (d (v_good_11 : (List Tx))), .no, .no, .no, .no, .no, .no])) (rs_own (cv (rf_fcomp (E := (fun (a12 : Tx) => [.sh (d (v_script : Scr)), .sh (d (v_signs_here_1 : Tx)), .sh (d (v_words_here_3 : (List Tx))), .sh (d (v_band_4 : TBand)), .sh (d (v_length_5 : Int)), .sh (d (v_rows_here_10 : (List Tx))), .no, .sh (d (a12 : Tx)), .no, .no, .no, .no, .no])) (p := (fun (a12 : Tx) => (t_law_is_good a12 v_words_here_3))) (k := (fun (a12 : Tx) => (M.ok a12))) (ri_lst (rf_loc 5 rfl)) rfl (fun _ => rfl) (fun a12 => cv (rf_fn2 (rf_loc 7 rfl) (rf_loc 2 rfl) br_law_is_good)) (fun a12 => cv (rf_loc 7 rfl)))) (fun _ => rfl)) fun v_good_11 =>
    (rs_ifx (cv (rf_not (rf_fn2 (rf_fn2 (rf_loc 3 rfl) (rf_loc 4 rfl) br_count) (rf_call1 p_lenL (rf_locB 6 rfl)) br_law_number)))
    (xF (rs_ret (cv (rf_c (a := false) rfl))))
    (rs_skip (rs_seqF (E := (fun (q : Unit) => [.sh (d (v_script : Scr)), .sh (d (v_signs_here_1 : Tx)), .sh (d (v_words_here_3 : (List Tx))), .sh (d (v_band_4 : TBand)), .sh (d (v_length_5 : Int)), .sh (d (v_rows_here_10 : (List Tx))), .ow (d (v_good_11 : (List Tx))), .no, .no, .no, .no, .no, .no])) (rl_for (E := (fun (q : Unit) => [.sh (d (v_script : Scr)), .sh (d (v_signs_here_1 : Tx)), .sh (d (v_words_here_3 : (List Tx))), .sh (d (v_band_4 : TBand)), .sh (d (v_length_5 : Int)), .sh (d (v_rows_here_10 : (List Tx))), .ow (d (v_good_11 : (List Tx))), .no, .no, .no, .no, .no, .no])) (E' := (fun (q16 : Unit) (a17 : Tx) => [.sh (d (v_script : Scr)), .sh (d (v_signs_here_1 : Tx)), .sh (d (v_words_here_3 : (List Tx))), .sh (d (v_band_4 : TBand)), .sh (d (v_length_5 : Int)), .sh (d (v_rows_here_10 : (List Tx))), .ow (d (v_good_11 : (List Tx))), .no, .sh (d (a17 : Tx)), .no, .no, .no, .no])) () rfl (cv (ri_lst (rf_meth0 (rf_loc 3 rfl)  (fun _ => rfl) br_Band_places))) (fun _ _ => rfl) fun q16 a17 =>
    (rs_seq (E := (fun (v_due_18 : Int) => [.sh (d (v_script : Scr)), .sh (d (v_signs_here_1 : Tx)), .sh (d (v_words_here_3 : (List Tx))), .sh (d (v_band_4 : TBand)), .sh (d (v_length_5 : Int)), .sh (d (v_rows_here_10 : (List Tx))), .ow (d (v_good_11 : (List Tx))), .no, .sh (d (a17 : Tx)), .sh (d (v_due_18 : Int)), .no, .no, .no])) (rs_asg (cv (rf_call1 p_lenL (rf_fcomp (E := (fun (a19 : Tx) => [.sh (d (v_script : Scr)), .sh (d (v_signs_here_1 : Tx)), .sh (d (v_words_here_3 : (List Tx))), .sh (d (v_band_4 : TBand)), .sh (d (v_length_5 : Int)), .sh (d (v_rows_here_10 : (List Tx))), .ow (d (v_good_11 : (List Tx))), .sh (d (a19 : Tx)), .sh (d (a17 : Tx)), .no, .no, .no, .no])) (p := (fun (a19 : Tx) => (M.bind (addS a17 a19) fun x20 => (t_law_is_good x20 v_words_here_3)))) (k := (fun (a19 : Tx) => (M.ok a19))) (ri_lst (rf_loc 5 rfl)) rfl (fun _ => rfl) (fun a19 => cv (rf_fn2 (rf_s2 p_addS (rf_loc 8 rfl) (rf_loc 7 rfl)) (rf_loc 2 rfl) br_law_is_good)) (fun a19 => cv (rf_loc 7 rfl))))) (fun _ => rfl)) fun v_due_18 =>
    (rs_ifx (cv (rf_not (rf_fn2 (rf_fn3 (rf_loc 3 rfl) (rf_loc 8 rfl) (rf_loc 4 rfl) br_count_from) (rf_loc 9 rfl) br_law_number)))
    (rx_ret (E := (fun (q : Unit) => [.sh (d (v_script : Scr)), .sh (d (v_signs_here_1 : Tx)), .sh (d (v_words_here_3 : (List Tx))), .sh (d (v_band_4 : TBand)), .sh (d (v_length_5 : Int)), .sh (d (v_rows_here_10 : (List Tx))), .ow (d (v_good_11 : (List Tx))), .no, .no, .no, .no, .no, .no])) (rs_ret (cv (rf_c (a := false) rfl))))
    (rs_skip (rs_pre (env' := [.sh (d (v_script : Scr)), .sh (d (v_signs_here_1 : Tx)), .sh (d (v_words_here_3 : (List Tx))), .sh (d (v_band_4 : TBand)), .sh (d (v_length_5 : Int)), .sh (d (v_rows_here_10 : (List Tx))), .ow (d (v_good_11 : (List Tx))), .no, .no, .sh (d (v_due_18 : Int)), .no, .no, .no]) rfl (rs_pre (env' := [.sh (d (v_script : Scr)), .sh (d (v_signs_here_1 : Tx)), .sh (d (v_words_here_3 : (List Tx))), .sh (d (v_band_4 : TBand)), .sh (d (v_length_5 : Int)), .sh (d (v_rows_here_10 : (List Tx))), .ow (d (v_good_11 : (List Tx))), .no, .no, .no, .no, .no, .no]) rfl (rg_next (E := (fun (q : Unit) => [.sh (d (v_script : Scr)), .sh (d (v_signs_here_1 : Tx)), .sh (d (v_words_here_3 : (List Tx))), .sh (d (v_band_4 : TBand)), .sh (d (v_length_5 : Int)), .sh (d (v_rows_here_10 : (List Tx))), .ow (d (v_good_11 : (List Tx))), .no, .no, .no, .no, .no, .no])) (s := ()) rfl))))))) fun s26 =>
    (rs_seq (E := (fun (v_step_28 : Int) => [.sh (d (v_script : Scr)), .sh (d (v_signs_here_1 : Tx)), .sh (d (v_words_here_3 : (List Tx))), .sh (d (v_band_4 : TBand)), .sh (d (v_length_5 : Int)), .sh (d (v_rows_here_10 : (List Tx))), .ow (d (v_good_11 : (List Tx))), .no, .no, .no, .sh (d (v_step_28 : Int)), .no, .no])) (rs_asg (cv (rf_s2 p_addI (rf_c (a := (1 : Int)) rfl) (rf_divc (rf_call1 p_lenL (rf_locB 6 rfl))))) (fun _ => rfl)) fun v_step_28 =>
    (rs_seq (E := (fun (v_numbers_29 : (List Int)) => [.sh (d (v_script : Scr)), .sh (d (v_signs_here_1 : Tx)), .sh (d (v_words_here_3 : (List Tx))), .sh (d (v_band_4 : TBand)), .sh (d (v_length_5 : Int)), .sh (d (v_rows_here_10 : (List Tx))), .ow (d (v_good_11 : (List Tx))), .no, .no, .no, .sh (d (v_step_28 : Int)), .sh (d (v_numbers_29 : (List Int))), .no])) (rs_asg (cv (rf_listRg3 (rf_s2 p_mod (rf_fn2 (rf_loc 0 rfl) (rf_c (a := (11 : Int)) rfl) br_law_cell) (rf_loc 10 rfl)) (rf_call1 p_lenL (rf_locB 6 rfl)) (rf_loc 10 rfl))) (fun _ => rfl)) fun v_numbers_29 =>
    (rs_seq (E := (fun (q : ((List Int))) => [.sh (d (v_script : Scr)), .sh (d (v_signs_here_1 : Tx)), .sh (d (v_words_here_3 : (List Tx))), .sh (d (v_band_4 : TBand)), .sh (d (v_length_5 : Int)), .sh (d (v_rows_here_10 : (List Tx))), .ow (d (v_good_11 : (List Tx))), .no, .no, .no, .sh (d (v_step_28 : Int)), .sh (d (q : (List Int))), .no])) (rs_if (cv (rf_s2 p_eq (rf_modc (rf_fn2 (rf_loc 0 rfl) (rf_c (a := (10 : Int)) rfl) br_law_cell)) (rf_c (a := (1 : Int)) rfl)))
    (rs_seq (E := (fun (v_numbers_35 : (List Int)) => [.sh (d (v_script : Scr)), .sh (d (v_signs_here_1 : Tx)), .sh (d (v_words_here_3 : (List Tx))), .sh (d (v_band_4 : TBand)), .sh (d (v_length_5 : Int)), .sh (d (v_rows_here_10 : (List Tx))), .ow (d (v_good_11 : (List Tx))), .no, .no, .no, .sh (d (v_step_28 : Int)), .sh (d (v_numbers_35 : (List Int))), .no])) (rs_asg (cv (rf_rev (rf_loc 11 rfl))) (fun _ => rfl)) fun v_numbers_35 =>
    (rs_next (E := (fun (q : ((List Int))) => [.sh (d (v_script : Scr)), .sh (d (v_signs_here_1 : Tx)), .sh (d (v_words_here_3 : (List Tx))), .sh (d (v_band_4 : TBand)), .sh (d (v_length_5 : Int)), .sh (d (v_rows_here_10 : (List Tx))), .ow (d (v_good_11 : (List Tx))), .no, .no, .no, .sh (d (v_step_28 : Int)), .sh (d (q : (List Int))), .no])) (s := v_numbers_35) rfl))
    (rs_next (E := (fun (q : ((List Int))) => [.sh (d (v_script : Scr)), .sh (d (v_signs_here_1 : Tx)), .sh (d (v_words_here_3 : (List Tx))), .sh (d (v_band_4 : TBand)), .sh (d (v_length_5 : Int)), .sh (d (v_rows_here_10 : (List Tx))), .ow (d (v_good_11 : (List Tx))), .no, .no, .no, .sh (d (v_step_28 : Int)), .sh (d (q : (List Int))), .no])) (s := v_numbers_29) rfl)) fun s36 =>
    (rs_seqF (E := (fun (q : Unit) => [.sh (d (v_script : Scr)), .sh (d (v_signs_here_1 : Tx)), .sh (d (v_words_here_3 : (List Tx))), .sh (d (v_band_4 : TBand)), .sh (d (v_length_5 : Int)), .sh (d (v_rows_here_10 : (List Tx))), .ow (d (v_good_11 : (List Tx))), .no, .no, .no, .sh (d (v_step_28 : Int)), .sh (d (s36 : (List Int))), .no])) (rl_for (E := (fun (q : Unit) => [.sh (d (v_script : Scr)), .sh (d (v_signs_here_1 : Tx)), .sh (d (v_words_here_3 : (List Tx))), .sh (d (v_band_4 : TBand)), .sh (d (v_length_5 : Int)), .sh (d (v_rows_here_10 : (List Tx))), .ow (d (v_good_11 : (List Tx))), .no, .no, .no, .sh (d (v_step_28 : Int)), .sh (d (s36 : (List Int))), .no])) (E' := (fun (q37 : Unit) (a38 : Int) => [.sh (d (v_script : Scr)), .sh (d (v_signs_here_1 : Tx)), .sh (d (v_words_here_3 : (List Tx))), .sh (d (v_band_4 : TBand)), .sh (d (v_length_5 : Int)), .sh (d (v_rows_here_10 : (List Tx))), .ow (d (v_good_11 : (List Tx))), .no, .no, .no, .sh (d (v_step_28 : Int)), .sh (d (s36 : (List Int))), .sh (d (a38 : Int))])) () rfl (cv (ri_lst (rf_loc 11 rfl))) (fun _ _ => rfl) fun q37 a38 =>
    (rs_seq (E := (fun (v_row_39 : Tx) => [.sh (d (v_script : Scr)), .sh (d (v_signs_here_1 : Tx)), .sh (d (v_words_here_3 : (List Tx))), .sh (d (v_band_4 : TBand)), .sh (d (v_length_5 : Int)), .sh (d (v_rows_here_10 : (List Tx))), .ow (d (v_good_11 : (List Tx))), .sh (d (v_row_39 : Tx)), .no, .no, .sh (d (v_step_28 : Int)), .sh (d (s36 : (List Int))), .sh (d (a38 : Int))])) (rs_asg (cv (rf_fn3 (rf_loc 3 rfl) (rf_loc 4 rfl) (rf_loc 12 rfl) br_row_at)) (fun _ => rfl)) fun v_row_39 =>
    (rs_ifx (cv (rf_or (rf_not (rf_isi (α := Tx) (fun _ => tbk_str_str) (rf_loc 7 rfl))) (rf_or (rf_s2 p_ne (rf_loc 7 rfl) (rf_s2 p_ixL (rf_locB 6 rfl) (rf_loc 12 rfl))) (rf_not (rf_fn2 (rf_fn2 (rf_loc 3 rfl) (rf_loc 7 rfl) br_number_of) (rf_loc 12 rfl) br_law_number)))))
    (rx_ret (E := (fun (q : Unit) => [.sh (d (v_script : Scr)), .sh (d (v_signs_here_1 : Tx)), .sh (d (v_words_here_3 : (List Tx))), .sh (d (v_band_4 : TBand)), .sh (d (v_length_5 : Int)), .sh (d (v_rows_here_10 : (List Tx))), .ow (d (v_good_11 : (List Tx))), .no, .no, .no, .sh (d (v_step_28 : Int)), .sh (d (s36 : (List Int))), .no])) (rs_ret (cv (rf_c (a := false) rfl))))
    (rs_skip (rs_pre (env' := [.sh (d (v_script : Scr)), .sh (d (v_signs_here_1 : Tx)), .sh (d (v_words_here_3 : (List Tx))), .sh (d (v_band_4 : TBand)), .sh (d (v_length_5 : Int)), .sh (d (v_rows_here_10 : (List Tx))), .ow (d (v_good_11 : (List Tx))), .no, .no, .no, .sh (d (v_step_28 : Int)), .sh (d (s36 : (List Int))), .sh (d (a38 : Int))]) rfl (rs_pre (env' := [.sh (d (v_script : Scr)), .sh (d (v_signs_here_1 : Tx)), .sh (d (v_words_here_3 : (List Tx))), .sh (d (v_band_4 : TBand)), .sh (d (v_length_5 : Int)), .sh (d (v_rows_here_10 : (List Tx))), .ow (d (v_good_11 : (List Tx))), .no, .no, .no, .sh (d (v_step_28 : Int)), .sh (d (s36 : (List Int))), .no]) rfl (rg_next (E := (fun (q : Unit) => [.sh (d (v_script : Scr)), .sh (d (v_signs_here_1 : Tx)), .sh (d (v_words_here_3 : (List Tx))), .sh (d (v_band_4 : TBand)), .sh (d (v_length_5 : Int)), .sh (d (v_rows_here_10 : (List Tx))), .ow (d (v_good_11 : (List Tx))), .no, .no, .no, .sh (d (v_step_28 : Int)), .sh (d (s36 : (List Int))), .no])) (s := ()) rfl))))))) fun s47 =>
    (rs_ret (cv (rf_fn2 (rf_fn2 (rf_loc 3 rfl) (rf_loc 4 rfl) br_count) (rf_call1 p_lenL (rf_locB 6 rfl)) br_law_number))))))))))))))))
end
end Lw

namespace Lw
open Ps Tm


def KNOWN : Tx := "abcdefghijklmnopqrstuvwxyz0123456789".toList

structure GoodSigns (s : Tx) : Prop where
  l2 : 2 ≤ s.length
  l4 : s.length ≤ 4
  nd : s.Nodup
  kn : ∀ c ∈ s, c ∈ KNOWN

structure GoodWords (s : Tx) (ws : List Tx) : Prop where
  l6 : ws.length ≤ 6
  ne : ∀ w ∈ ws, w ≠ []
  l5 : ∀ w ∈ ws, w.length ≤ 5
  sg : ∀ w ∈ ws, ∀ c ∈ w, c ∈ s


theorem ix_lit {α : Type} {l : List α} {i : Int} (P : α → Prop) (h0 : 0 ≤ i) (h1 : i < l.length) (hp : ∀ a ∈ l, P a) : ∃ a, ixL l i = .ok a ∧ P a :=
  ⟨_, ixL_ok h0 h1, hp _ (List.getElem_mem _)⟩

theorem known_nd : KNOWN.Nodup := by decide +kernel

theorem known_len : KNOWN.length = 36 := by decide +kernel

theorem join_nil : ∀ (l : List Tx), joinT [] l = l.flatten
  | [] => rfl
  | x :: l => by rw [joinT_cons]; simp

theorem joinS_ok' {l : List Tx} {n : Nat} (h : ∀ x ∈ l, x.length = 1) (hl : l.length ≤ n) (hn : n ≤ 1000000) : joinS ("".toList : Tx) l = .ok l.flatten := by
  rw [show ("".toList : Tx) = [] from rfl, joinS_ok, join_nil]
  have : (l.map List.length).sum = l.length := by
    clear hl
    induction l with
    | nil => rfl
    | cons x l ih =>
      rw [List.map_cons, List.sum_cons, h x List.mem_cons_self, ih fun y hy => h y (List.mem_cons_of_mem _ hy), List.length_cons]; omega
  rw [this]; simp; omega

theorem flat_one (cs : List Char) : (cs.map fun c => [c]).flatten = cs := by
  induction cs with
  | nil => rfl
  | cons c cs ih => simp [ih]

theorem rgT_eq (n : Nat) : rgT (n : Int) = (List.range n).map fun (i : Nat) => (i : Int) := by unfold rgT; simp

theorem getD_mem {α : Type} (l : List α) (k : Nat) (d : α) : l.getD k d = d ∨ l.getD k d ∈ l := by
  rw [List.getD_eq_getElem?_getD]
  cases q : l[k]? with
  | none => exact .inl rfl
  | some a => exact .inr (List.mem_of_getElem? q)

theorem bind_ok_id {α : Type} (t : M α) : t.bind M.ok = t := by cases t <;> rfl

structure GoodW (s : Tx) (w : Tx) : Prop where
  ne : w ≠ []
  l5 : w.length ≤ 5
  sg : ∀ c ∈ w, c ∈ s

theorem ixL_last {α : Type} {l : List α} (h : l ≠ []) : ∃ a ∈ l, ixL l (-1) = .ok a := by
  have hl : 0 < l.length := List.length_pos_iff.mpr h
  refine ⟨l[l.length - 1]'(by omega), List.getElem_mem _, ?_⟩
  unfold ixL L2.atI L2.ixN
  rw [if_neg (by decide), if_pos (by omega), show ((-1 : Int) + (l.length : Int)).toNat = l.length - 1 by omega]
  simp [List.getElem?_eq_getElem (show l.length - 1 < l.length by omega)]


theorem cut_mem {α : Type} {l : List α} {lo hi : Option Int} {x : α} (h : x ∈ cut l lo hi) : x ∈ l := List.mem_of_mem_drop (List.mem_of_mem_take h)
theorem cut_length {α : Type} (l : List α) (lo hi : Option Int) : (cut l lo hi).length ≤ l.length := by
  unfold cut
  rw [List.length_take, List.length_drop]; omega
theorem cell_ok (sc : Scr) (k : Int) (h : 0 ≤ k) : t_law_cell sc k = .ok (sc.ns.getD k.toNat 0) := by
  unfold t_law_cell
  rw [bind_ok]
  by_cases hk : (sc.ns.length : Int) ≤ k
  · rw [if_pos (by simpa using hk), List.getD_eq_getElem?_getD, List.getElem?_eq_none (by omega)]; rfl
  · rw [if_neg (by simpa using hk), ixL_ok h (by omega), List.getD_eq_getElem?_getD, List.getElem?_eq_getElem (by omega)]; rfl
/-- the number that a cell draws -/
def drawF (c t m : Int) : Int :=
  if c % 2 = 1 ∧ (10 ^ 30 : Int) < c then ((rgT t).foldl (fun (q : Int) (_ : Int) => q / 4999) (c / 4999)) % 4999 % m
  else ((c % 2147483629 + 1009 * t + 17) * (c % 2147483629 + 1009 * t + 17) % 999999937 + (c % 2147483629 + 1009 * t + 17) / 65536) % 1000003 % m
theorem draw_ok (c t m : Int) (hm : 0 < m) (h0 : 0 ≤ t) (h1 : t ≤ 1000) : t_law_draw c t m = .ok (drawF c t m) := by
  unfold t_law_draw drawF
  by_cases hc : c % 2 = 1 ∧ (10 ^ 30 : Int) < c
  · have hf := (foldT_ok (tb := t_law_draw_L1) (g := fun q _ => q / 4999) (fun _ => True) (l := rgT t) (s := c / 4999) trivial (fun s a _ _ => ⟨rfl, trivial⟩)).1
    have he : (eqT (c % 2) (1 : Int) && decide ((10 ^ 30 : Int) < c)) = true := by rw [eqT_int, decide_eq_true hc.1, decide_eq_true hc.2]; rfl
    rw [if_pos hc, he, bind_ok, if_pos rfl, bind_ok, rgM_ok (n := t) ⟨by omega, by omega⟩, bind_ok, hf, bind_ok, modI_ok hm]
  · have he : (eqT (c % 2) (1 : Int) && decide ((10 ^ 30 : Int) < c)) = false := by
      rw [eqT_int]
      by_cases a : c % 2 = 1
      · rw [decide_eq_false (fun b => hc ⟨a, b⟩), Bool.and_false]
      · rw [decide_eq_false a]; rfl
    rw [if_neg hc, he, bind_ok, if_neg (by decide), bind_ok]
    have l1 : 0 ≤ c % 2147483629 := Int.emod_nonneg _ (by decide)
    have l2 : c % 2147483629 < 2147483629 := Int.emod_lt_of_pos _ (by decide)
    have h3 : -(2 ^ 64 : Int) < c % 2147483629 + 1009 * t + 17 ∧ c % 2147483629 + 1009 * t + 17 < 2 ^ 64 := ⟨by omega, by omega⟩
    generalize c % 2147483629 + 1009 * t + 17 = v at *
    rw [mulI_ok (.inl h3)]
    simp only [bind_ok]
    rw [modI_ok hm]
theorem drawF_lo (c t m : Int) (hm : 0 < m) : 0 ≤ drawF c t m := by
  unfold drawF; split <;> exact Int.emod_nonneg _ (by omega)
theorem drawF_hi (c t m : Int) (hm : 0 < m) : drawF c t m < m := by
  unfold drawF; split <;> exact Int.emod_lt_of_pos _ hm
theorem atI_of {α : Type} {l : List α} {i : Int} (h0 : 0 ≤ i) (h1 : i < l.length) : ∃ c ∈ l, L2.atI l i = some c := by
  refine ⟨l[i.toNat]'(by omega), List.getElem_mem _, ?_⟩
  unfold L2.atI L2.ixN
  rw [if_pos h0, if_pos h1]
  exact List.getElem?_eq_getElem (by omega)
theorem strike_len {l : Tx} {c : Char} (nd : l.Nodup) (h : c ∈ l) : (l.filter (fun x => x != c)).length + 1 = l.length := by
  rw [← nd.erase_eq_filter, List.length_erase_of_mem h]
  have := List.length_pos_of_mem h
  omega
structure Pool (q : Tx × Tx) (n : Nat) : Prop where
  lf : q.2.length = n
  lp : q.1.length + n = 36
  nd : q.1.Nodup
  ndf : q.2.Nodup
  ap : ∀ c ∈ q.2, c ∉ q.1
  kn : ∀ c ∈ q.1, c ∈ KNOWN
  knf : ∀ c ∈ q.2, c ∈ KNOWN
theorem signs_turn (c : Int) (q : Tx × Tx) (n : Nat) (a : Int) (h : Pool q n) (hn : n ≤ 10) (h0 : 0 ≤ a) (h1 : a ≤ 10) : ∃ q', t_law_signs_L1 c q a = .ok q' ∧ Pool q' (n + 1) := by
  have lp := h.lp
  have lf := h.lf
  unfold t_law_signs_L1
  rw [lenS_ok (by omega), bind_ok, draw_ok (c / 3) a q.1.length (by omega) h0 (by omega), bind_ok]
  obtain ⟨x, hx, e⟩ := atI_of (drawF_lo (c / 3) a q.1.length (by omega)) (drawF_hi (c / 3) a q.1.length (by omega))
  rw [drawT_ok e (by omega) (by omega), bind_ok]
  refine ⟨_, rfl, ?_, ?_, ?_, ?_, ?_, ?_, ?_⟩
  · show (q.2 ++ [x]).length = _
    rw [List.length_append, List.length_singleton, lf]
  · show (q.1.filter (fun y => y != x)).length + (n + 1) = 36
    have := strike_len h.nd hx
    omega
  · exact h.nd.filter _
  · show (q.2 ++ [x]).Nodup
    rw [List.nodup_append]
    refine ⟨h.ndf, by simp, fun y hy z hz => ?_⟩
    rw [List.mem_singleton.mp hz]
    exact fun e => h.ap y hy (e ▸ hx)
  · intro y hy
    show y ∉ q.1.filter (fun y => y != x)
    rw [List.mem_filter]
    rcases List.mem_append.mp hy with hy | hy
    · exact fun z => h.ap y hy z.1
    · rw [List.mem_singleton.mp hy]; simp
  · intro y hy
    exact h.kn y ((List.mem_filter.mp hy).1)
  · intro y hy
    rcases List.mem_append.mp hy with hy | hy
    · exact h.knf y hy
    · rw [List.mem_singleton.mp hy]; exact h.kn x hx
theorem signs_ok (c : Int) : ∃ s, t_law_signs c = .ok s ∧ GoodSigns s := by
  unfold t_law_signs
  have a1 : 0 ≤ c % 3 := Int.emod_nonneg _ (by decide)
  have a2 : c % 3 < 3 := Int.emod_lt_of_pos _ (by decide)
  rw [bind_ok, bind_ok, rgM_ok ⟨by omega, by omega⟩, bind_ok]
  obtain ⟨q, h1, h2⟩ := foldT_inv (l := rgT (2 + c % 3)) (s := (("abcdefghijklmnopqrstuvwxyz0123456789".toList : Tx), ("".toList : Tx))) (tb := t_law_signs_L1 c) (fun pre q => Pool q pre.length)
    ⟨rfl, known_len, known_nd, List.nodup_nil, (fun _ h => nomatch h), (fun _ h => h), (fun _ h => nomatch h)⟩ (fun pre k post q hl hp => by
      have hk : k ∈ rgT (2 + c % 3) := by rw [hl]; simp
      have hk' := rgT_mem.mp hk
      have hpl : pre.length ≤ 4 := by
        have := congrArg List.length hl
        rw [rgT_len] at this
        simp at this; omega
      obtain ⟨q', e1, e2⟩ := signs_turn c q pre.length k hp (by omega) hk'.1 (by omega)
      exact ⟨q', e1, by rw [List.length_append, List.length_singleton]; exact e2⟩)
  rw [h1]
  have hl : (rgT (2 + c % 3)).length = (2 + c % 3).toNat := rgT_len _
  have := h2.lf
  exact ⟨q.2, rfl, by omega, by omega, h2.ndf, h2.knf⟩
/-- a word drawn sign by sign -/
theorem word_ok {s : Tx} (hs : GoodSigns s) (c : Int) : ∃ w, t_law_word c s = .ok w ∧ GoodW s w := by
  have l2 := hs.l2
  have l4 := hs.l4
  unfold t_law_word
  obtain ⟨size, q1, z1, z5⟩ := ix_lit (l := [(1 : Int), 2, 3, 3, 4, 4, 5, 5]) (i := drawF c 5 8) (fun n => 1 ≤ n ∧ n ≤ 5) (drawF_lo _ _ _ (by decide)) (by simpa using drawF_hi c 5 8 (by decide)) (by simp)
  rw [draw_ok c 5 8 (by decide) (by decide) (by decide), bind_ok, q1, bind_ok]
  let f : Int → Nat := fun k => (drawF c (11 + 7 * k) s.length).toNat
  have hf : ∀ k, f k < s.length := fun k => by
    have a := drawF_lo c (11 + 7 * k) s.length (by omega)
    have b := drawF_hi c (11 + 7 * k) s.length (by omega)
    show (drawF c (11 + 7 * k) s.length).toNat < _
    omega
  have hm : mapT (fun (a3 : Int) => (M.bind (M.bind (lenS s) fun x4 => (t_law_draw c ((11 : Int) + (7 * a3)) x4)) fun x5 => (ixS s x5))) (rgT size) = .ok ((rgT size).map fun k => [s[f k]'(hf k)]) := by
    refine mapT_ok fun k hk => ?_
    have hk' := rgT_mem.mp hk
    rw [lenS_ok (by omega), bind_ok, draw_ok c (11 + 7 * k) s.length (by omega) (by omega) (by omega), bind_ok, ixS_ok (drawF_lo _ _ _ (by omega)) (drawF_hi _ _ _ (by omega)) (by omega)]
  have hj := joinS_ok' (l := (rgT size).map fun k => [s[f k]'(hf k)]) (n := 5) (by simp) (by simp [rgT_len]; omega) (by decide)
  refine ⟨(rgT size).map fun k => s[f k]'(hf k), ?_, ?_, ?_, fun x hx => ?_⟩
  · rw [rgM_ok ⟨by omega, by omega⟩, bind_ok, compM_ok (by rw [rgT_len]; omega), hm, bind_ok, hj]
    rw [show ((rgT size).map fun k => [s[f k]'(hf k)]) = ((rgT size).map fun k => s[f k]'(hf k)).map (fun c => [c]) from by rw [List.map_map]; rfl, flat_one]
  · intro z
    have := congrArg List.length z
    rw [List.length_map, rgT_len] at this
    simp at this; omega
  · simp [rgT_len]; omega
  · obtain ⟨k, _, rfl⟩ := List.mem_map.mp hx
    exact List.getElem_mem _
theorem take5 {s a w : Tx} (ha : GoodW s a) (hw : GoodW s w) : GoodW s ((a.drop 1 ++ w).take 5) := by
  refine ⟨fun z => ?_, by rw [List.length_take]; omega, fun x hx => ?_⟩
  · have h1 := congrArg List.length z
    rw [List.length_take, List.length_append] at h1
    have := List.length_pos_iff.mpr hw.ne
    simp only [List.length_nil] at h1; omega
  · rcases List.mem_append.mp (List.mem_of_mem_take hx) with hx | hx
    · exact ha.sg x (List.mem_of_mem_drop hx)
    · exact hw.sg x hx
theorem words_turn (sc : Scr) (at_ k : Int) (hat : 0 ≤ at_) {s : Tx} (hs : GoodSigns s) (ws : List Tx) (hw : (ws.length : Int) = k) (hk : k ≤ 1000) (hg : ∀ w ∈ ws, GoodW s w) : ∃ w, t_law_words_L1 sc at_ s ws k = .ok (ws ++ [w]) ∧ GoodW s w := by
  unfold t_law_words_L1
  rw [cell_ok sc (at_ + 1 + k) (by omega)]
  generalize sc.ns.getD (at_ + 1 + k).toNat 0 = c
  obtain ⟨w, w1, gw⟩ := word_ok hs c
  rw [bind_ok, w1, bind_ok]
  have step1 : ∃ w2, GoodW s w2 ∧ (M.bind (M.ok ((decide ((0 : Int) < k)) && (eqT (c % 4) (1 : Int)))) fun c8 => if c8 then
    (M.bind (M.bind (M.bind (M.bind (ixL ws (-(1 : Int))) fun x10 => (slS x10 (some (1 : Int)) (none : Option Int))) fun x11 => (addS x11 w)) fun x12 => (slS x12 (none : Option Int) (some (5 : Int)))) fun v_word_here_9 =>
    (M.ok v_word_here_9)) else
    (M.ok w)) = .ok w2 := by
    rw [bind_ok]
    by_cases hc : (decide ((0 : Int) < k) && eqT (c % 4) (1 : Int)) = true
    · have hk0 : 0 < k := by
        have := (Bool.and_eq_true_iff.mp hc).1
        simpa using this
      obtain ⟨a, ha, hx⟩ := ixL_last (l := ws) (fun z => by rw [z] at hw; simp at hw; omega)
      have ga := hg a ha
      have la := ga.l5
      have lw := gw.l5
      refine ⟨(a.drop 1 ++ w).take 5, take5 ga gw, ?_⟩
      rw [if_pos hc, hx, bind_ok, slS_ok (x := a) (by omega), bind_ok, cut_drop a 1 (by decide), addS_ok (by rw [List.length_drop]; omega), bind_ok, slS_ok (by rw [List.length_append, List.length_drop]; omega), bind_ok, cut_take _ 5 (by decide)]
      rfl
    · exact ⟨w, gw, by rw [if_neg hc]⟩
  obtain ⟨w2, g2, e2⟩ := step1
  rw [e2, bind_ok]
  have step2 : ∃ w3, GoodW s w3 ∧ (M.bind (M.ok ((decide ((0 : Int) < k)) && (eqT (c % 16) (2 : Int)))) fun c14 => if c14 then
    (M.bind (ixL ws (0 : Int)) fun v_word_here_15 =>
    (M.ok v_word_here_15)) else
    (M.ok w2)) = .ok w3 := by
    rw [bind_ok]
    by_cases hc : (decide ((0 : Int) < k) && eqT (c % 16) (2 : Int)) = true
    · have hk0 : 0 < k := by
        have := (Bool.and_eq_true_iff.mp hc).1
        simpa using this
      refine ⟨ws[0]'(by omega), hg _ (List.getElem_mem _), ?_⟩
      rw [if_pos hc, ixL_ok (by decide) (by omega)]; rfl
    · exact ⟨w2, g2, by rw [if_neg hc]⟩
  obtain ⟨w3, g3, e3⟩ := step2
  rw [e3, bind_ok, bind_ok, appM_ok (by omega)]
  exact ⟨w3, rfl, g3⟩
theorem words_ok' (sc : Scr) (at_ : Int) (hat : 0 ≤ at_) {s : Tx} (hs : GoodSigns s) (most : Int) (hm0 : 0 ≤ most) (hm1 : most ≤ 100) : ∃ ws, t_law_words sc at_ s most = .ok ws ∧ ws.length ≤ most ∧ ∀ w ∈ ws, GoodW s w := by
  unfold t_law_words
  rw [cell_ok sc at_ hat]
  generalize sc.ns.getD at_.toNat 0 = c0
  rw [bind_ok, bind_ok, modI_ok (by omega), bind_ok]
  have a1 : 0 ≤ c0 % (most + 1) := Int.emod_nonneg _ (by omega)
  have a2 : c0 % (most + 1) < most + 1 := Int.emod_lt_of_pos _ (by omega)
  generalize c0 % (most + 1) = n at *
  rw [rgM_ok ⟨by omega, by omega⟩, bind_ok]
  obtain ⟨ws, h1, h2, h3⟩ := foldT_inv (l := rgT n) (s := ([] : List Tx)) (tb := t_law_words_L1 sc at_ s) (fun pre ws => ws.length = pre.length ∧ ∀ w ∈ ws, GoodW s w) ⟨rfl, fun _ h => nomatch h⟩ (fun pre k post ws hl ⟨hw, hg⟩ => by
    have hk : k ∈ rgT n := by rw [hl]; simp
    have hk' := rgT_mem.mp hk
    have hpk : (pre.length : Int) = k := by
      have h1 : (rgT n)[pre.length]? = some k := by rw [hl]; simp
      unfold rgT at h1
      rw [List.getElem?_map] at h1
      obtain ⟨i, h4, h5⟩ := Option.map_eq_some_iff.mp h1
      obtain ⟨h6, h7⟩ := List.getElem?_eq_some_iff.mp h4
      rw [List.getElem_range] at h7
      omega
    obtain ⟨w, w1, w2⟩ := words_turn sc at_ k hat hs ws (by omega) (by omega) hg
    refine ⟨_, w1, by simp [hw], fun x hx => ?_⟩
    rcases List.mem_append.mp hx with hx | hx
    · exact hg x hx
    · rw [List.mem_singleton.mp hx]; exact w2)
  rw [h1]
  have hl : ws.length = n.toNat := by rw [h2, rgT_len]
  exact ⟨ws, rfl, by omega, h3⟩
theorem words_ok (sc : Scr) (at_ : Int) (hat : 0 ≤ at_) {s : Tx} (hs : GoodSigns s) : ∃ ws, t_law_words sc at_ s 6 = .ok ws ∧ GoodWords s ws := by
  obtain ⟨ws, h1, h2, h3⟩ := words_ok' sc at_ hat hs 6 (by decide) (by decide)
  exact ⟨ws, h1, by omega, fun w hw => (h3 w hw).ne, fun w hw => (h3 w hw).l5, fun w hw => (h3 w hw).sg⟩
end Lw

namespace Lw
open Ps Tm

theorem countT_one (x : Tx) (c : Char) : countT x [c] = (x.count c : Int) := by
  unfold countT
  rw [str_sg, PyProof.Rows.count_is, PyProof.Rows.countIn_signs_sum, str_cps, List.map_map]
  induction x with
  | nil => rfl
  | cons a x ih =>
    rw [List.map_cons, List.sum_cons, ih, List.count_cons]
    simp only [Function.comp_apply, decide_eq_true_eq]
    by_cases h : a = c
    · subst h; simp; omega
    · have : ¬ a.toNat = c.toNat := fun z => h (toNat_inj z)
      simp [this, h]
theorem hasT_one (c : Char) (y : Tx) : hasT [c] y = decide (c ∈ y) := by
  rw [Bool.eq_iff_iff, hasT_infix, decide_eq_true_eq]
  constructor
  · intro ⟨p, q, e⟩
    rw [← e]; simp
  · intro h
    obtain ⟨p, q, e⟩ := List.append_of_mem h
    exact ⟨p, q, by rw [e]; simp⟩
theorem are_signs_ok {s : Tx} (hs : GoodSigns s) : t_are_signs s = .ok true := by
  have l2 := hs.l2
  have l4 := hs.l4
  unfold t_are_signs
  rw [lenS_ok (by omega)]
  have h1 : decide ((s.length : Int) < 2) = false := decide_eq_false (by omega)
  have h2 : decide ((4 : Int) < s.length) = false := decide_eq_false (by omega)
  have hl := forT_search (tb := t_are_signs_L1 s) (s := ()) (p := fun _ => false) (f := fun _ => false) (l := s.map sg) (fun a ha => by
    obtain ⟨c, hc, rfl⟩ := List.mem_map.mp ha
    have hk : c ∈ "abcdefghijklmnopqrstuvwxyz0123456789".toList := hs.kn c hc
    have hn : s.count c ≤ 1 := List.nodup_iff_count.mp hs.nd c
    unfold t_are_signs_L1 sg
    rw [hasT_one, countT_one, decide_eq_true hk, decide_eq_false (by omega)]
    rfl)
  have hf : (s.map sg).find? (fun _ => false) = none := by simp
  rw [hf] at hl
  simp only [bind_ok, Bool.not_true, Bool.false_eq_true, if_false, h1, h2, hl, Lt_f_nx]
theorem is_word_ok {s w : Tx} (hw : GoodW s w) : t_is_word w s = .ok true := by
  have l5 := hw.l5
  unfold t_is_word
  have h1 : eqT w ("".toList : Tx) = false := by rw [eqT_tx]; exact decide_eq_false hw.ne
  rw [lenS_ok (by omega), h1]
  have h2 : decide ((5 : Int) < w.length) = false := decide_eq_false (by omega)
  rw [compM_ok (by simp; omega), mapT_pure]
  simp only [bind_ok, Bool.not_true, Bool.false_eq_true, if_false, h2]
  congr 1
  rw [List.all_map, List.all_map, List.all_eq_true]
  intro c hc
  show hasT [c] s = true
  rw [hasT_one, decide_eq_true (hw.sg c hc)]

/-- the length of the shortest beginning in which a word stands -/
def fbF (ws : List Tx) (row : Tx) : Option Int := (rg2T 1 (row.length + 1)).find? fun L => ws.any fun w => w.isSuffixOf (row.take L.toNat)
theorem suffix_cut (row w : Tx) (L : Int) (h1 : 1 ≤ L) (h2 : L ≤ row.length) (hw : w ≠ []) : eqT (cut row (some (max 0 (L - w.length))) (some L)) w = w.isSuffixOf (row.take L.toNat) := by
  have hp := List.length_pos_iff.mpr hw
  rw [cut_mid _ _ _ (by omega) (by omega), eqT_tx, Bool.eq_iff_iff, decide_eq_true_eq, List.isSuffixOf_iff_suffix, List.suffix_iff_eq_drop]
  have hl : (row.take L.toNat).length = L.toNat := by rw [List.length_take]; omega
  rw [hl]
  by_cases h : (w.length : Int) ≤ L
  · rw [show (max 0 (L - (w.length : Int))).toNat = L.toNat - w.length by omega]
    exact ⟨fun h => h.symm, fun h => h.symm⟩
  · rw [show (max 0 (L - (w.length : Int))).toNat = 0 by omega, show L.toNat - w.length = 0 by omega]
    exact ⟨fun h => h.symm, fun h => h.symm⟩
theorem first_bad_in (row w : Tx) (L : Int) (h1 : 1 ≤ L) (h2 : L ≤ row.length) (hr : row.length ≤ 1000000) (w1 : w ≠ []) (w2 : w.length ≤ 1000000) : t_first_bad_L1 row L () w = if w.isSuffixOf (row.take L.toNat) then .ok (.rt (some L)) else .ok (.nx ()) := by
  unfold t_first_bad_L1
  rw [lenS_ok (by omega)]
  simp only [bind_ok]
  rw [slS_ok (by omega)]
  simp only [bind_ok]
  rw [suffix_cut row w L (by omega) (by omega) w1]
theorem first_bad_turn (b : TBand) (row : Tx) (L : Int) (h1 : 1 ≤ L) (h2 : L ≤ row.length) (hr : row.length ≤ 1000000) (hw : ∀ w ∈ b.barred, w ≠ [] ∧ w.length ≤ 1000000) : t_first_bad_L2 b row () L = if b.barred.any (fun w => w.isSuffixOf (row.take L.toNat)) then .ok (.rt (some L)) else .ok (.nx ()) := by
  unfold t_first_bad_L2
  rw [bind_ok, forT_search (p := fun w => w.isSuffixOf (row.take L.toNat)) (f := fun _ => (some L : Option Int)) (fun w hwm => first_bad_in row w L h1 h2 hr (hw w hwm).1 (hw w hwm).2), bind_ok]
  have := find_any (fun w : Tx => w.isSuffixOf (row.take L.toNat)) b.barred
  cases q : b.barred.find? (fun w => w.isSuffixOf (row.take L.toNat)) with
  | none => rw [q] at this; rw [← this]; rfl
  | some w => rw [q] at this; rw [← this]; rfl
theorem first_bad_ok (b : TBand) (row : Tx) (hr : row.length ≤ 1000000) (hw : ∀ w ∈ b.barred, w ≠ [] ∧ w.length ≤ 1000000) : t_first_bad b row = .ok (fbF b.barred row) := by
  unfold t_first_bad
  rw [lenS_ok (by omega), bind_ok, bind_ok, rg2M_ok ⟨by omega, by omega, by omega, by omega⟩, bind_ok,
    forT_search (p := fun L => b.barred.any fun w => w.isSuffixOf (row.take L.toNat)) (f := fun L => (some L : Option Int)) (fun L hL => first_bad_turn b row L (rg2T_mem.mp hL).1 (by have := (rg2T_mem.mp hL).2; omega) hr hw), bind_ok]
  unfold fbF
  generalize (rg2T 1 (row.length + 1)).find? _ = o
  cases o <;> rfl
/-- a row in which no word stands -/
def goodF (ws : List Tx) (row : Tx) : Bool := (fbF ws row).isNone
theorem goodF_iff {ws : List Tx} (hw : ∀ w ∈ ws, w ≠ []) (row : Tx) : goodF ws row = true ↔ ∀ w ∈ ws, ¬ w <:+: row := by
  unfold goodF fbF
  rw [Option.isNone_iff_eq_none, List.find?_eq_none]
  constructor
  · intro h w hwm ⟨p, q, e⟩
    have hp := List.length_pos_iff.mpr (hw w hwm)
    refine h ((p.length + w.length : Nat) : Int) (rg2T_mem.mpr ⟨by omega, by rw [← e]; simp; omega⟩) ?_
    rw [List.any_eq_true]
    refine ⟨w, hwm, ?_⟩
    rw [List.isSuffixOf_iff_suffix, Int.toNat_natCast, ← e]
    exact ⟨p, by rw [← List.length_append, List.take_left]⟩
  · intro h L hL hz
    rw [List.any_eq_true] at hz
    obtain ⟨w, hwm, hs⟩ := hz
    rw [List.isSuffixOf_iff_suffix] at hs
    exact h w hwm (hs.isInfix.trans (List.take_prefix _ _).isInfix)
/-- the longest end that is a place, from the fifth last sign on -/
def endAt (known : List Tx) (row : Tx) : Tx := ((rg2T (max 0 (row.length - 5)) (row.length + 1)).find? fun i => decide (row.drop i.toNat ∈ known)).elim [] fun i => row.drop i.toNat
theorem whl_find {tc : Int → M Bool} {tb : Int → M Int} {p : Int → Bool} {hi : Int} (hp : p hi = true) (h1 : ∀ i, 0 ≤ i → i ≤ hi → tc i = .ok (!p i)) (h2 : ∀ i, tb i = .ok (i + 1)) : ∀ (n : Nat) (i : Int), 0 ≤ i → i ≤ hi → (hi - i).toNat < n → ∃ j, whlT tc tb n i = .ok j ∧ i ≤ j ∧ j ≤ hi ∧ p j = true ∧ (rg2T i (hi + 1)).find? p = some j
  | 0, i, _, _, h => by omega
  | n + 1, i, h0, hh, hn => by
    have er : rg2T i (hi + 1) = i :: rg2T (i + 1) (hi + 1) := by
      unfold rg2T
      rw [show (hi + 1 - i).toNat = (hi + 1 - (i + 1)).toNat + 1 by omega, List.range_succ_eq_map, List.map_cons, List.map_map]
      congr 1
      · simp
      · exact List.map_congr_left fun k _ => by simp only [Function.comp_apply]; omega
    show ∃ j, ((tc i).bind fun c => if c then (tb i).bind fun s => whlT tc tb n s else .ok i) = .ok j ∧ _
    rw [h1 i h0 hh, bind_ok, er, List.find?_cons]
    cases q : p i with
    | true => exact ⟨i, rfl, by omega, hh, q, rfl⟩
    | false =>
      have hne : i ≠ hi := fun z => by rw [z, hp] at q; cases q
      obtain ⟨j, a1, a2, a3, a4, a5⟩ := whl_find hp h1 h2 n (i + 1) (by omega) (by omega) (by omega)
      exact ⟨j, by simp only [Bool.not_false, if_true, h2 i, bind_ok]; exact a1, by omega, a3, a4, a5⟩
theorem ending_ok (b : TBand) {known : List Tx} (hk : b.known = some known) (he : [] ∈ known) (row : Tx) (hr : row.length ≤ 100000) (hw : ∀ w ∈ b.barred, w ≠ [] ∧ w.length ≤ 1000000) :
    t_Band_ending b row = .ok (if goodF b.barred row then some (endAt known row) else none) ∧ (goodF b.barred row = true → endAt known row ∈ known ∧ endAt known row <:+ row) := by
  unfold t_Band_ending
  rw [first_bad_ok b row (by omega) hw, bind_ok, bind_ok]
  unfold goodF
  cases q : fbF b.barred row with
  | some L => exact ⟨rfl, fun h => by cases h⟩
  | none =>
    simp only [Option.isSome_none, Bool.false_eq_true, if_false, Option.isNone_none, if_true]
    rw [lenS_ok (by omega)]
    simp only [bind_ok]
    obtain ⟨j, a1, a2, a3, a4, a5⟩ := whl_find (tc := t_Band_ending_C1 b row) (tb := t_Band_ending_L2) (p := fun i => decide (row.drop i.toNat ∈ known)) (hi := row.length) (by simp [he]) (fun i h0 h1 => by
      unfold t_Band_ending_C1
      rw [slS_ok (by omega), hk, bind_ok, cut_drop _ _ h0]
      show M.ok (!inT (row.drop i.toNat) known) = _
      rw [inT_tx]) (fun i => rfl) 1000000 (max 0 ((row.length : Int) - 5)) (by omega) (by omega) (by omega)
    rw [a1, bind_ok, slS_ok (by omega), bind_ok, cut_drop _ _ (by omega)]
    unfold endAt
    rw [a5]
    exact ⟨rfl, fun _ => ⟨by simpa using a4, List.drop_suffix _ _⟩⟩
end Lw

namespace Lw
open Ps Tm

structure KInv (q : Dct Tx Bool) (S : Tx → Prop) (n : Nat) : Prop where
  nd : q.keys.Nodup
  mem : ∀ p, p ∈ q.keys ↔ S p
  len : q.keys.length ≤ n
theorem KInv.put {q : Dct Tx Bool} {S : Tx → Prop} {n : Nat} (h : KInv q S n) (a : Tx) (v : Bool) : KInv (q.put a v) (fun p => S p ∨ p = a) (n + 1) := by
  have e := keys_put q a v
  by_cases hm : a ∈ q.keys
  · rw [if_pos hm] at e
    refine ⟨by rw [e]; exact h.nd, fun p => ?_, by rw [e]; have := h.len; omega⟩
    rw [e, h.mem]
    exact ⟨.inl, fun z => z.elim id fun z => by rw [z]; exact (h.mem a).mp hm⟩
  · rw [if_neg hm] at e
    refine ⟨?_, fun p => ?_, by rw [e]; have := h.len; simp; omega⟩
    · rw [e, List.nodup_append]
      exact ⟨h.nd, by simp, fun x hx y hy z => hm (by rw [List.mem_singleton] at hy; rw [← hy, ← z]; exact hx)⟩
    · rw [e, List.mem_append, h.mem, List.mem_singleton]
theorem KInv.congr {q : Dct Tx Bool} {S S' : Tx → Prop} {n m : Nat} (h : KInv q S n) (e : ∀ p, S p ↔ S' p) (hn : n ≤ m) : KInv q S' m :=
  ⟨h.nd, fun p => (h.mem p).trans (e p), Nat.le_trans h.len hn⟩
theorem GoodWords.bar {s : Tx} {ws : List Tx} (h : GoodWords s ws) : ∀ w ∈ ws, w ≠ [] ∧ w.length ≤ 1000000 := fun w hw => ⟨h.ne w hw, by have := h.l5 w hw; omega⟩
theorem fp_in (b : TBand) (hw : ∀ w ∈ b.barred, w ≠ [] ∧ w.length ≤ 1000000) (w : Tx) (hl : w.length ≤ 5) (q : Dct Tx Bool) (hq : q.l.length < 1000) (n : Int) (h1 : 1 ≤ n) :
    t_Band_found_places_L1 b w q n = .ok (if goodF b.barred (w.take n.toNat) then q.put (w.take n.toNat) true else q) := by
  unfold t_Band_found_places_L1
  have hc := cut_take w n (by omega)
  have hlt : (w.take n.toNat).length ≤ 1000000 := by simp; omega
  rw [slS_ok (by omega), hc, bind_ok, first_bad_ok b _ hlt hw]
  simp only [bind_ok]
  rw [putM_ok (m := q) (by omega)]
  unfold goodF
  cases (fbF b.barred (w.take n.toNat)).isNone <;> rfl
theorem fp_turn (b : TBand) (hw : ∀ w ∈ b.barred, w ≠ [] ∧ w.length ≤ 1000000) (w : Tx) (hl : w.length ≤ 5) (hne : w ≠ []) (q : Dct Tx Bool) (S : Tx → Prop) (n : Nat) (hn : n ≤ 100) (h : KInv q S n) :
    ∃ q', t_Band_found_places_L2 b q w = .ok q' ∧ KInv q' (fun p => S p ∨ ∃ k, 1 ≤ k ∧ k < w.length ∧ p = w.take k ∧ goodF b.barred p = true) (n + 4) := by
  have hp := List.length_pos_iff.mpr hne
  unfold t_Band_found_places_L2
  rw [lenS_ok (by omega), bind_ok, rg2M_ok ⟨by omega, by omega, by omega, by omega⟩, bind_ok]
  obtain ⟨q', e, hk⟩ := foldT_inv (l := rg2T 1 w.length) (s := q) (tb := t_Band_found_places_L1 b w) (fun pre q => KInv q (fun p => S p ∨ ∃ k ∈ pre, p = w.take k.toNat ∧ goodF b.barred p = true) (n + pre.length)) (h.congr (fun p => by simp) (by simp)) (fun pre a post q hl' hi => by
    have ha : a ∈ rg2T 1 w.length := by rw [hl']; simp
    have ha' := rg2T_mem.mp ha
    have hlen : pre.length ≤ 5 := by
      have := congrArg List.length hl'
      unfold rg2T at this
      simp at this; omega
    have := hi.len
    refine ⟨_, fp_in b hw w hl q (by rw [dct_len]; omega) a ha'.1, ?_⟩
    by_cases g : goodF b.barred (w.take a.toNat) = true
    · rw [if_pos g]
      refine (hi.put _ true).congr (fun p => ?_) (by simp; omega)
      constructor
      · rintro ((z | ⟨k, hk, z⟩) | z)
        · exact .inl z
        · exact .inr ⟨k, List.mem_append_left _ hk, z⟩
        · exact .inr ⟨a, by simp, z, by rw [z]; exact g⟩
      · rintro (z | ⟨k, hk, z⟩)
        · exact .inl (.inl z)
        · rcases List.mem_append.mp hk with hk | hk
          · exact .inl (.inr ⟨k, hk, z⟩)
          · rw [List.mem_singleton] at hk
            exact .inr (by rw [z.1, hk])
    · rw [if_neg g]
      refine hi.congr (fun p => ?_) (by simp)
      constructor
      · rintro (z | ⟨k, hk, z⟩)
        · exact .inl z
        · exact .inr ⟨k, List.mem_append_left _ hk, z⟩
      · rintro (z | ⟨k, hk, z⟩)
        · exact .inl z
        · rcases List.mem_append.mp hk with hk | hk
          · exact .inr ⟨k, hk, z⟩
          · rw [List.mem_singleton] at hk
            rw [hk] at z
            exact absurd (z.1 ▸ z.2) g)
  rw [e]
  refine ⟨q', rfl, hk.congr (fun p => ?_) (by unfold rg2T; simp; omega)⟩
  constructor
  · rintro (z | ⟨k, hk, z⟩)
    · exact .inl z
    · have := rg2T_mem.mp hk
      exact .inr ⟨k.toNat, by omega, by omega, z⟩
  · rintro (z | ⟨k, h1, h2, z⟩)
    · exact .inl z
    · exact .inr ⟨(k : Int), rg2T_mem.mpr ⟨by omega, by omega⟩, by simpa using z⟩
structure Places (ws known : List Tx) : Prop where
  nd : known.Nodup
  srt : known.Pairwise fun a b => leT a b = true
  mem : ∀ p, p ∈ known ↔ p = [] ∨ ∃ w ∈ ws, ∃ k, 1 ≤ k ∧ k < w.length ∧ p = w.take k ∧ goodF ws p = true
  len : known.length ≤ 40
theorem Places.nil {ws known : List Tx} (h : Places ws known) : [] ∈ known := (h.mem []).mpr (.inl rfl)
theorem Places.l4 {s : Tx} {ws known : List Tx} (hw : GoodWords s ws) (h : Places ws known) : ∀ p ∈ known, p.length ≤ 4 := fun p hp => by
  rcases (h.mem p).mp hp with rfl | ⟨w, h1, k, h2, h3, rfl, _⟩
  · simp
  · have := hw.l5 w h1
    simp; omega
theorem found_places_ok {s : Tx} (b : TBand) (hw : GoodWords s b.barred) : ∃ known, t_Band_found_places b = .ok known ∧ Places b.barred known := by
  unfold t_Band_found_places
  have l6 := hw.l6
  simp only [bind_ok]
  obtain ⟨q', e, hk⟩ := foldT_inv (l := b.barred) (s := (⟨[([], true)]⟩ : Dct Tx Bool)) (tb := t_Band_found_places_L2 b) (fun pre q => KInv q (fun p => p = [] ∨ ∃ w ∈ pre, ∃ k, 1 ≤ k ∧ k < w.length ∧ p = w.take k ∧ goodF b.barred p = true) (1 + 4 * pre.length)) ⟨by simp [Dct.keys], fun p => by simp [Dct.keys], by simp [Dct.keys]⟩ (fun pre w post q hl hi => by
    have hwm : w ∈ b.barred := by rw [hl]; simp
    have hlen : pre.length ≤ 6 := by
      have := congrArg List.length hl
      simp at this; omega
    obtain ⟨q', h1, h2⟩ := fp_turn b hw.bar w (hw.l5 w hwm) (hw.ne w hwm) q _ _ (by omega) hi
    refine ⟨q', h1, h2.congr (fun p => ?_) (by simp; omega)⟩
    constructor
    · rintro ((z | ⟨v, hv, z⟩) | z)
      · exact .inl z
      · exact .inr ⟨v, List.mem_append_left _ hv, z⟩
      · exact .inr ⟨w, by simp, z⟩
    · rintro (z | ⟨v, hv, z⟩)
      · exact .inl (.inl z)
      · rcases List.mem_append.mp hv with hv | hv
        · exact .inl (.inr ⟨v, hv, z⟩)
        · rw [List.mem_singleton] at hv
          exact .inr (hv ▸ z))
  have hlen := hk.len
  rw [show ("".toList : Tx) = [] from rfl, e, bind_ok, sortD_ok (by rw [dct_len]; omega)]
  have pm := srtT_perm q'.keys
  refine ⟨_, rfl, pm.nodup_iff.mpr hk.nd, srtT_sorted _, fun p => (pm.mem_iff).trans (hk.mem p), by rw [pm.length_eq]; omega⟩
/-- the pairs of a place and a sign -/
def waysL (s : Tx) (known : List Tx) : List (Tx × Tx) := known.flatMap fun p => (s.map sg).map fun c => (p, c)
def wayF (ws known : List Tx) (q : Tx × Tx) : Option Tx := if goodF ws (q.1 ++ q.2) then some (endAt known (q.1 ++ q.2)) else none
def bandF (s : Tx) (ws known : List Tx) : TBand := ⟨s, ws, some known, some (mkD id (wayF ws known) (waysL s known))⟩
theorem sg_inj {a b : Char} (h : sg a = sg b) : a = b := by unfold sg at h; simpa using h
theorem sg_nd {s : Tx} (h : s.Nodup) : (s.map sg).Nodup := List.Pairwise.map _ (fun a b h z => h (sg_inj z)) h
theorem waysL_nd {s : Tx} {known : List Tx} (hs : s.Nodup) (hk : known.Nodup) : (waysL s known).Nodup := by
  unfold waysL
  induction known with
  | nil => simp
  | cons p known ih =>
    rw [List.nodup_cons] at hk
    rw [List.flatMap_cons, List.nodup_append]
    refine ⟨List.Pairwise.map _ (fun a b h z => h (Prod.mk.inj z).2) (sg_nd hs), ih hk.2, fun x hx y hy z => ?_⟩
    obtain ⟨c, _, rfl⟩ := List.mem_map.mp hx
    obtain ⟨p', hp', hy⟩ := List.mem_flatMap.mp hy
    obtain ⟨c', _, rfl⟩ := List.mem_map.mp hy
    exact hk.1 ((Prod.mk.inj z).1 ▸ hp')
theorem waysL_mem {s : Tx} {known : List Tx} {p c : Tx} : (p, c) ∈ waysL s known ↔ p ∈ known ∧ c ∈ s.map sg := by
  unfold waysL
  rw [List.mem_flatMap]
  constructor
  · rintro ⟨q, hq, h⟩
    obtain ⟨e, he, z⟩ := List.mem_map.mp h
    cases z
    exact ⟨hq, he⟩
  · rintro ⟨h1, h2⟩
    exact ⟨p, h1, List.mem_map.mpr ⟨c, h2, rfl⟩⟩
theorem bind_bind {α β γ : Type} (t : M α) (f : α → M β) (g : β → M γ) : (t.bind f).bind g = t.bind fun a => (f a).bind g := by cases t <;> rfl
theorem foldT_map {α β σ : Type} (tb : σ → β → M σ) (f : α → β) : ∀ (l : List α) (s : σ), foldT tb (l.map f) s = foldT (fun s a => tb s (f a)) l s
  | [], _ => rfl
  | a :: l, s => by
    rw [List.map_cons, foldT_cons, foldT_cons]
    congr 1; funext s; exact foldT_map tb f l s
theorem foldT_append {β σ : Type} (tb : σ → β → M σ) : ∀ (l m : List β) (s : σ), foldT tb (l ++ m) s = (foldT tb l s).bind fun s => foldT tb m s
  | [], _, _ => rfl
  | a :: l, m, s => by
    rw [List.cons_append, foldT_cons, foldT_cons, bind_bind]
    congr 1; funext s; exact foldT_append tb l m s
theorem foldT_flat {α β σ : Type} (tb : σ → β → M σ) (f : α → List β) : ∀ (l : List α) (s : σ), foldT (fun s a => foldT tb (f a) s) l s = foldT tb (l.flatMap f) s
  | [], _ => rfl
  | a :: l, s => by
    rw [List.flatMap_cons, foldT_cons, foldT_append]
    congr 1; funext s; exact foldT_flat tb f l s
end Lw

namespace Lw
open Ps Tm

theorem init_words {s : Tx} : ∀ (ws : List Tx) (k : Int), (∀ w ∈ ws, GoodW s w) → foldT (t_Band__init__L1 s) (enT k ws) () = .ok ()
  | [], _, _ => rfl
  | w :: ws, k, h => by
    show (t_Band__init__L1 s () (k, w)).bind _ = _
    have e : t_Band__init__L1 s () (k, w) = .ok () := by
      unfold t_Band__init__L1
      rw [is_word_ok (h w List.mem_cons_self)]
      rfl
    rw [e, bind_ok]
    exact init_words ws (k + 1) fun v hv => h v (List.mem_cons_of_mem _ hv)
theorem GoodWords.w {s : Tx} {ws : List Tx} (h : GoodWords s ws) : ∀ w ∈ ws, GoodW s w := fun w hw => ⟨h.ne w hw, h.l5 w hw, h.sg w hw⟩
theorem waysL_len {s : Tx} {known : List Tx} : (waysL s known).length = known.length * s.length := by
  unfold waysL
  induction known with
  | nil => simp
  | cons p known ih => rw [List.flatMap_cons, List.length_append, ih, List.length_cons, List.length_map, List.length_map, Nat.succ_mul]; omega
theorem init_ways {s : Tx} {ws known : List Tx} (hs : GoodSigns s) (hw : GoodWords s ws) (hk : Places ws known) :
    foldT (t_Band__init__L3 s s ws known) known ⟨[]⟩ = .ok (mkD id (wayF ws known) (waysL s known)) := by
  have l4 := hs.l4
  have e : (t_Band__init__L3 s s ws known) = fun q p => foldT (fun q (pc : Tx × Tx) => t_Band__init__L2 s ws known pc.1 q pc.2) ((s.map sg).map fun c => (p, c)) q := by
    funext q p
    unfold t_Band__init__L3
    rw [bind_ok, foldT_map _ (fun c : Tx => (p, c))]
    exact bind_ok_id _
  rw [e, foldT_flat]
  have len := hk.len
  refine dfold_id _ (waysL_nd hs.nd hk.nd) ?_ fun m pc hpc hm => ?_
  · rw [show (List.flatMap (fun p => (s.map sg).map fun c => (p, c)) known) = waysL s known from rfl, waysL_len]
    have : known.length * s.length ≤ 40 * 4 := Nat.mul_le_mul len l4
    omega
  · obtain ⟨p, c⟩ := pc
    obtain ⟨hp, hc⟩ := waysL_mem.mp hpc
    have lp := hk.l4 hw p hp
    obtain ⟨x, _, rfl⟩ := List.mem_map.mp hc
    unfold t_Band__init__L2
    rw [addS_ok (by simp [sg]; omega), bind_ok, (ending_ok ({ signs := s, barred := ws, known := some known, ways := none } : TBand) (known := known) rfl hk.nil (p ++ sg x) (by simp [sg]; omega) hw.bar).1]
    simp only [bind_ok]
    rw [putM_ok hm]
    rfl
theorem binit_ok {s : Tx} {ws : List Tx} (hs : GoodSigns s) (hw : GoodWords s ws) : ∃ known, t_Band__init_ s ws = .ok (bandF s ws known) ∧ Places ws known := by
  obtain ⟨known, hf, hk⟩ := found_places_ok (s := s) ({ signs := s, barred := ws, known := none, ways := none } : TBand) hw
  refine ⟨known, ?_, hk⟩
  have l6 := hw.l6
  unfold t_Band__init_
  rw [are_signs_ok hs]
  have h6 : decide ((6 : Int) < (ws.length : Int)) = false := decide_eq_false (by omega)
  simp only [bind_ok, Bool.not_true, Bool.false_eq_true, if_false, h6, init_words ws 0 hw.w, hf, oM_some]
  rw [init_ways hs hw hk]
  rfl
theorem way_get {s : Tx} {ws known : List Tx} (hs : s.Nodup) (hk : known.Nodup) {p : Tx} {c : Char} (hp : p ∈ known) (hc : c ∈ s) : (mkD id (wayF ws known) (waysL s known)).get? (p, sg c) = some (wayF ws known (p, sg c)) :=
  mkD_get_id (waysL_nd hs hk) (waysL_mem.mpr ⟨hp, List.mem_map_of_mem hc⟩)
/-- the first sign -/
theorem ix0 {s : Tx} (hs : GoodSigns s) : ∃ c ∈ s, ixS s 0 = .ok (sg c) := by
  have l2 := hs.l2
  have l4 := hs.l4
  exact ⟨_, List.getElem_mem _, ixS_ok (x := s) (i := 0) (by decide) (by omega) (by omega)⟩
theorem led_ok {s : Tx} {ws known : List Tx} (hs : GoodSigns s) (hk : Places ws known) {p : Tx} {c : Char} (hp : p ∈ known) (hc : c ∈ s) : t_Band_led (bandF s ws known) p (sg c) = .ok (wayF ws known (p, sg c)) := by
  obtain ⟨c0, h0, e0⟩ := ix0 hs
  unfold t_Band_led bandF
  rw [e0]
  simp only [bind_ok, oM_some, Bool.not_true, Bool.false_eq_true, if_false, way_get hs.nd hk.nd hp h0, Option.isSome_some]
  exact ixD_ok (way_get hs.nd hk.nd hp hc)
theorem wayF_known {s : Tx} {ws known : List Tx} (hw : GoodWords s ws) (hk : Places ws known) {p : Tx} {c : Char} (hp : p ∈ known) {q : Tx} (h : wayF ws known (p, sg c) = some q) : q ∈ known := by
  have lp := hk.l4 hw p hp
  have := (ending_ok (bandF s ws known) (known := known) rfl hk.nil (p ++ sg c) (by simp [sg]; omega) hw.bar).2
  unfold wayF at h
  split at h
  · rename_i g
    cases h
    exact (this g).1
  · cases h
/-! ### live places -/
end Lw

namespace Lw
open Ps Tm
section
variable {s : Tx} {ws known : List Tx}
/-! ### the places tell all of a row -/
theorem good_infix (hw : ∀ w ∈ ws, w ≠ []) {a b : Tx} (h : a <:+: b) (hb : goodF ws b = true) : goodF ws a = true := by
  rw [goodF_iff hw] at *
  exact fun w hwm z => hb w hwm (z.trans h)
theorem places_good (hw : GoodWords s ws) (hk : Places ws known) {p : Tx} (hp : p ∈ known) : goodF ws p = true := by
  rcases (hk.mem p).mp hp with rfl | ⟨w, _, k, _, _, _, h⟩
  · rw [goodF_iff hw.ne]
    intro w hwm ⟨a, b, e⟩
    have : w = [] := (List.append_eq_nil_iff.mp (List.append_eq_nil_iff.mp e).1).2
    exact hw.ne w hwm this
  · exact h
theorem places_prefix (hw : GoodWords s ws) (hk : Places ws known) {p q : Tx} (hp : p ∈ known) (hq : q <+: p) : q ∈ known := by
  rw [hk.mem]
  by_cases hn : q = []
  · exact .inl hn
  · right
    rcases (hk.mem p).mp hp with rfl | ⟨w, h1, k, h2, h3, rfl, h5⟩
    · exact absurd (List.prefix_nil.mp hq) hn
    · have hl := List.length_pos_iff.mpr hn
      have hlk : q.length ≤ k := by
        have := hq.length_le
        rw [List.length_take] at this; omega
      refine ⟨w, h1, q.length, hl, by omega, ?_, good_infix hw.ne hq.isInfix h5⟩
      have := List.prefix_iff_eq_take.mp (hq.trans (List.take_prefix k w))
      exact this
/-- the longest end that is a place -/
structure IsEnd (known : List Tx) (row e : Tx) : Prop where
  mem : e ∈ known
  suf : e <:+ row
  max : ∀ q ∈ known, q <:+ row → q <:+ e
theorem IsEnd.uniq {row e e' : Tx} (h : IsEnd known row e) (h' : IsEnd known row e') : e = e' :=
  (h'.max e h.mem h.suf).eq_of_length_le (h.max e' h'.mem h'.suf).length_le
theorem endAt_is (hw : GoodWords s ws) (hk : Places ws known) (row : Tx) : IsEnd known row (endAt known row) := by
  have hx : ((rg2T (max 0 ((row.length : Int) - 5)) (row.length + 1)).find? fun i => decide (row.drop i.toNat ∈ known)).isSome = true := by
    rw [find_any, List.any_eq_true]
    exact ⟨(row.length : Int), rg2T_mem.mpr ⟨by omega, by omega⟩, by simp [hk.nil]⟩
  obtain ⟨i, hi⟩ := Option.isSome_iff_exists.mp hx
  have e : endAt known row = row.drop i.toNat := by unfold endAt; rw [hi]; rfl
  obtain ⟨hp, as, bs, hl, hn⟩ := List.find?_eq_some_iff_append.mp hi
  rw [e]
  refine ⟨by simpa using hp, List.drop_suffix _ _, fun q hq hs => ?_⟩
  have hq4 := hk.l4 hw q hq
  have hle := hs.length_le
  have hqd : q = row.drop (row.length - q.length) := List.suffix_iff_eq_drop.mp hs
  have hm : ((row.length - q.length : Nat) : Int) ∈ rg2T (max 0 ((row.length : Int) - 5)) (row.length + 1) := rg2T_mem.mpr ⟨by omega, by omega⟩
  have hs2 : (rg2T (max 0 ((row.length : Int) - 5)) (row.length + 1)).Pairwise fun x y => x < y := by
    unfold rg2T
    exact List.Pairwise.map _ (fun x y h => by omega) List.pairwise_lt_range
  have hile : i ≤ ((row.length - q.length : Nat) : Int) := by
    rw [hl] at hm hs2
    rcases List.mem_append.mp hm with hm | hm
    · have := hn _ hm
      rw [Int.toNat_natCast, ← hqd] at this
      simp [hq] at this
    · rcases List.mem_cons.mp hm with hm | hm
      · omega
      · have := (List.pairwise_cons.mp (List.pairwise_append.mp hs2).2.1).1 _ hm
        omega
  have hi0 : 0 ≤ i := by
    have hmi : i ∈ rg2T (max 0 ((row.length : Int) - 5)) (row.length + 1) := by rw [hl]; simp
    have := (rg2T_mem.mp hmi).1
    omega
  rw [hqd, show row.length - q.length = i.toNat + (row.length - q.length - i.toNat) by omega, ← List.drop_drop]
  exact List.drop_suffix _ _
/-- a row goes on as its end does -/
theorem good_on (hw : GoodWords s ws) (hk : Places ws known) {row e : Tx} (hg : goodF ws row = true) (he : IsEnd known row e) (x : Tx) : goodF ws (row ++ x) = goodF ws (e ++ x) := by
  rw [Bool.eq_iff_iff]
  constructor
  · intro h
    refine good_infix hw.ne ?_ h
    obtain ⟨a, ha⟩ := he.suf
    rw [← ha, List.append_assoc]
    exact (List.suffix_append a (e ++ x)).isInfix
  · intro h
    rw [goodF_iff hw.ne] at h ⊢
    intro w hwm ⟨a, b, eq⟩
    have hgr := (goodF_iff hw.ne row).mp hg w hwm
    rcases List.append_eq_append_iff.mp eq with ⟨c, e1, e2⟩ | ⟨c, e1, e2⟩
    · exact hgr ⟨a, c, e1.symm⟩
    · rcases List.append_eq_append_iff.mp e1 with ⟨d, e3, e4⟩ | ⟨d, e3, e4⟩
      · by_cases hc : c = []
        · rw [hc, List.append_nil] at e4
          exact hgr ⟨a, [], by rw [List.append_nil, e3, e4]⟩
        · have hcl := List.length_pos_iff.mpr hc
          by_cases hd : d = []
          · rw [hd, List.nil_append] at e4
            exact h w hwm ⟨e, b, by rw [e2, e4, List.append_assoc]⟩
          · have hdl := List.length_pos_iff.mpr hd
            have hdk : d ∈ known := (hk.mem d).mpr (.inr ⟨w, hwm, d.length, hdl, by rw [e4, List.length_append]; omega, by rw [e4, List.take_left], good_infix hw.ne ⟨a, [], by rw [List.append_nil, e3]⟩ hg⟩)
            obtain ⟨e', he'⟩ := he.max d hdk ⟨a, e3.symm⟩
            exact h w hwm ⟨e', b, by rw [e2, e4, ← he']; simp⟩
      · exact h w hwm ⟨e ++ d, b, by rw [e2, e4]; simp⟩
/-- .. and its end is that of the end gone on -/
theorem end_on (hw : GoodWords s ws) (hk : Places ws known) {row e : Tx} (he : IsEnd known row e) (c : Char) {e' : Tx} (h' : IsEnd known (e ++ [c]) e') : IsEnd known (row ++ [c]) e' := by
  obtain ⟨r, hr⟩ := he.suf
  refine ⟨h'.mem, ?_, fun q hq hs => h'.max q hq ?_⟩
  · obtain ⟨z, hz⟩ := h'.suf
    exact ⟨r ++ z, by rw [List.append_assoc, hz, ← hr, List.append_assoc]⟩
  · by_cases hn : q = []
    · rw [hn]; exact List.nil_suffix
    · obtain ⟨q', x, rfl⟩ : ∃ q' x, q = q' ++ [x] := ⟨q.dropLast, q.getLast hn, (List.dropLast_concat_getLast hn).symm⟩
      obtain ⟨z, hz⟩ := hs
      rw [← List.append_assoc] at hz
      obtain ⟨h1, h2⟩ := List.append_inj' hz rfl
      have hx : x = c := by simpa using h2
      subst hx
      have hq' : q' ∈ known := places_prefix hw hk hq (List.prefix_append _ _)
      obtain ⟨y, hy⟩ := he.max q' hq' ⟨z, h1⟩
      exact ⟨y, by rw [← hy, List.append_assoc]⟩
theorem endAt_on (hw : GoodWords s ws) (hk : Places ws known) (row : Tx) (c : Char) : endAt known (endAt known row ++ [c]) = endAt known (row ++ [c]) :=
  (end_on hw hk (endAt_is hw hk row) c (endAt_is hw hk _)).uniq (endAt_is hw hk _)
theorem good_step (hw : GoodWords s ws) (hk : Places ws known) {row : Tx} (hg : goodF ws row = true) (c : Char) : goodF ws (endAt known row ++ [c]) = goodF ws (row ++ [c]) := (good_on hw hk hg (endAt_is hw hk row) [c]).symm
end
end Lw

namespace Lw
open Ps Tm
section
variable {s : Tx} {ws known : List Tx}
/-! ### the tables -/
def stepV (s : Tx) (ws known : List Tx) (V : Tx → Int) (q : Tx) : Int := ((s.filterMap fun c => wayF ws known (q, sg c)).map V).sum
theorem ends_known (hw : GoodWords s ws) (hk : Places ws known) {p : Tx} (hp : p ∈ known) {q : Tx} (hq : q ∈ s.filterMap fun c => wayF ws known (p, sg c)) : q ∈ known := by
  obtain ⟨c, _, hc⟩ := List.mem_filterMap.mp hq
  exact wayF_known hw hk hp hc
/-- the places to which signs lead -/
def endsF (s : Tx) (ws known : List Tx) (p : Tx) : List Tx := s.filterMap fun c => wayF ws known (p, sg c)
theorem some_get : ∀ l : List (Option Tx), ((l.filter Option.isSome).map fun o => o.getD []) = l.filterMap id
  | [] => rfl
  | none :: l => by rw [List.filter_cons, List.filterMap_cons]; exact some_get l
  | some a :: l => by
    rw [List.filter_cons, List.filterMap_cons]
    show a :: _ = a :: _
    rw [← some_get l]
theorem ends_of_ok (hs : GoodSigns s) (hk : Places ws known) : t_ends_of (bandF s ws known) = .ok (mkD id (endsF s ws known) known) := by
  have l4 := hs.l4
  have len := hk.len
  unfold t_ends_of
  have hp : t_Band_places (bandF s ws known) = .ok known := rfl
  rw [bind_ok, hp, bind_ok, dfold_id (g := endsF s ws known) known hk.nd (by omega) (fun m p hp hm => by
    have e1 : compM (fun (a5 : Tx) => (t_Band_led (bandF s ws known) p a5)) (List.map sg s) = .ok (s.map fun c => wayF ws known (p, sg c)) := by
      rw [compM_ok (by simp; omega), mapT_ok (g := fun a => wayF ws known (p, a)) (fun a ha => ?_), List.map_map]
      · rfl
      · obtain ⟨c, hc, rfl⟩ := List.mem_map.mp ha
        exact led_ok hs hk hp hc
    have e2 : fcompM (fun (a7 : (Option Tx)) => (M.ok (Option.isSome a7))) (fun (a7 : (Option Tx)) => (oM a7)) (s.map fun c => wayF ws known (p, sg c)) = .ok (endsF s ws known p) := by
      rw [fcompM_ok (by simp; omega)]
      have := fmapT_ok (p := fun (a7 : (Option Tx)) => (M.ok (Option.isSome a7))) (k := fun (a7 : (Option Tx)) => (oM a7)) (q := Option.isSome) (g := fun o => o.getD []) (l := s.map fun c => wayF ws known (p, sg c)) (fun _ _ => rfl) (fun o _ ho => by
        cases o with
        | none => cases ho
        | some a => rfl)
      rw [this, some_get, List.filterMap_map]; rfl
    unfold t_ends_of_L1
    rw [show (bandF s ws known).signs = s from rfl, e1, bind_ok, e2]
    simp only [bind_ok]
    rw [putM_ok hm]; rfl)]
  rfl
/-- how many good rows of a length go on from a place, reckoned by what the signs lead to -/
def cntF (s : Tx) (ws known : List Tx) : Nat → Tx → Int
  | 0 => fun _ => 1
  | n + 1 => stepV s ws known (cntF s ws known n)
theorem tables_ok (hs : GoodSigns s) (hw : GoodWords s ws) (hk : Places ws known) (n : Int) (h0 : 0 ≤ n) (h1 : n ≤ 10000) : t_tables (bandF s ws known) n = .ok ((List.range (n.toNat + 1)).map fun k => mkD id (cntF s ws known k) known) := by
  have l4 := hs.l4
  have len := hk.len
  unfold t_tables
  rw [ends_of_ok hs hk, bind_ok, mkD_keys_id, dfold_id (g := cntF s ws known 0) known hk.nd (by omega) (fun m p hp hm => by
    unfold t_tables_L1
    simp only [bind_ok]
    rw [putM_ok hm]; rfl), noErM_ok, bind_ok, rgM_ok ⟨by omega, by omega⟩, bind_ok]
  obtain ⟨T, e, hT⟩ := foldT_inv (l := rgT n) (s := [mkD id (cntF s ws known 0) known]) (tb := t_tables_L3 (mkD id (endsF s ws known) known)) (fun pre T => T = (List.range (pre.length + 1)).map fun k => mkD id (cntF s ws known k) known) rfl (fun pre i post T hp hT => by
    have hi : i = (pre.length : Int) ∧ pre.length < n.toNat := by
      have hl := congrArg List.length hp
      rw [rgT_len] at hl
      simp at hl
      have hg := congrArg (fun l => l[pre.length]?) hp
      simp only [rgT, List.getElem?_map, List.getElem?_append_right (Nat.le_refl _), Nat.sub_self, List.getElem?_cons_zero] at hg
      rw [List.getElem?_range (by omega)] at hg
      simp at hg
      exact ⟨hg.symm, by omega⟩
    obtain ⟨rfl, hlt⟩ := hi
    have hTl : T.length = pre.length + 1 := by rw [hT]; simp
    refine ⟨T ++ [mkD id (cntF s ws known (pre.length + 1)) known], ?_, ?_⟩
    · unfold t_tables_L3
      have hx : ixL T (pre.length : Int) = .ok (mkD id (cntF s ws known pre.length) known) := by
        rw [ixL_nat (by omega)]
        simp [hT]
      rw [hx, bind_ok, bind_ok, mkD_keys_id, dfold_id (g := cntF s ws known (pre.length + 1)) known hk.nd (by omega) (fun m p hp hm => by
        unfold t_tables_L2
        have hlen : (endsF s ws known p).length ≤ s.length := List.length_filterMap_le _ _
        rw [ixD_ok (mkD_get_id hk.nd hp), bind_ok, compM_ok (by omega), mapT_ok (l := endsF s ws known p) (g := cntF s ws known pre.length) (fun q hq => ixD_ok (mkD_get_id hk.nd (ends_known hw hk hp hq)))]
        simp only [bind_ok]
        rw [putM_ok hm]; rfl), noErM_ok, bind_ok, bind_ok, appM_ok (by omega)]
      rfl
    · rw [List.length_append, List.length_singleton, List.range_succ, List.map_append, ← hT]; rfl)
  rw [rgT_len] at hT
  rw [e, hT]; rfl
theorem rgT_at {n : Int} {pre : List Int} {i : Int} {post : List Int} (hp : rgT n = pre ++ i :: post) : i = (pre.length : Int) ∧ pre.length < n.toNat := by
  have hl := congrArg List.length hp
  rw [rgT_len] at hl
  simp at hl
  have hg := congrArg (fun l => l[pre.length]?) hp
  simp only [rgT, List.getElem?_map, List.getElem?_append_right (Nat.le_refl _), Nat.sub_self, List.getElem?_cons_zero] at hg
  rw [List.getElem?_range (by omega)] at hg
  simp at hg
  exact ⟨hg.symm, by omega⟩
theorem cnt_le (hs : GoodSigns s) : ∀ (n : Nat) (p : Tx), 0 ≤ cntF s ws known n p ∧ cntF s ws known n p ≤ 4 ^ n
  | 0, p => ⟨by show (0 : Int) ≤ 1; decide, by show (1 : Int) ≤ 4 ^ 0; simp⟩
  | n + 1, p => by
    have l4 := hs.l4
    show 0 ≤ ((s.filterMap fun c => wayF ws known (p, sg c)).map (cntF s ws known n)).sum ∧ ((s.filterMap fun c => wayF ws known (p, sg c)).map (cntF s ws known n)).sum ≤ 4 ^ (n + 1)
    have hl : (s.filterMap fun c => wayF ws known (p, sg c)).length ≤ 4 := Nat.le_trans (List.length_filterMap_le _ _) l4
    have key : ∀ l : List Tx, 0 ≤ (l.map (cntF s ws known n)).sum ∧ (l.map (cntF s ws known n)).sum ≤ l.length * 4 ^ n := by
      intro l
      induction l with
      | nil => simp
      | cons a l ih =>
        have h := cnt_le hs n a
        rw [List.map_cons, List.sum_cons, List.length_cons]
        have e : (((l.length + 1 : Nat) : Int)) * 4 ^ n = (l.length : Int) * 4 ^ n + 4 ^ n := by rw [Int.natCast_add, Int.add_mul]; simp
        rw [e]
        omega
    have h := key (s.filterMap fun c => wayF ws known (p, sg c))
    refine ⟨h.1, Int.le_trans h.2 ?_⟩
    rw [Int.pow_succ, Int.mul_comm (4 ^ n) 4]
    exact Int.mul_le_mul_of_nonneg_right (by omega) (Int.pow_nonneg (by decide))
end
end Lw

namespace Lw
open Ps Tm
section
variable {s : Tx} {ws known : List Tx}
theorem any_has {ws : List Tx} (hw : ∀ w ∈ ws, w ≠ []) (t : Tx) : (ws.any fun w => hasT w t) = !goodF ws t := by
  cases q : goodF ws t with
  | true =>
    have := (goodF_iff hw t).mp q
    rw [Bool.not_true, List.any_eq_false]
    exact fun w hwm h => this w hwm ((hasT_infix w t).mp h)
  | false =>
    rw [Bool.not_false, List.any_eq_true]
    apply Classical.byContradiction
    intro n
    have : goodF ws t = true := (goodF_iff hw t).mpr fun w hwm hi => n ⟨w, hwm, (hasT_infix w t).mpr hi⟩
    rw [q] at this; cases this
/-- the law's own look for words in a row -/
theorem is_good_ok (hw : ∀ w ∈ ws, w ≠ []) (hl : ws.length ≤ 100) (row : Tx) : t_law_is_good row ws = .ok (goodF ws row) := by
  unfold t_law_is_good
  rw [compM_ok (by omega), mapT_pure, bindk, bindk]
  rw [show (List.any (List.map (fun a1 => hasT a1 row) ws) id) = ws.any (fun w => hasT w row) from by rw [List.any_map]; rfl, any_has hw, Bool.not_not]
theorem check_row_ok (b : TBand) : ∀ (row : Tx) (k : Int), (∀ c ∈ row, c ∈ b.signs) → foldT (t_check_row_L1 b) (enT k (row.map sg)) () = .ok ()
  | [], _, _ => rfl
  | c :: row, k, h => by
    have e : t_check_row_L1 b () (k, sg c) = .ok () := by
      unfold t_check_row_L1
      rw [show hasT (k, sg c).2 b.signs = decide (c ∈ b.signs) from hasT_one c b.signs, decide_eq_true (h c List.mem_cons_self)]
      rfl
    show (t_check_row_L1 b () (k, sg c)).bind (fun s' => foldT _ (enT (k + 1) (row.map sg)) s') = _
    rw [e, bindk]
    exact check_row_ok b row (k + 1) fun x hx => h x (List.mem_cons_of_mem _ hx)
end
end Lw

namespace Lw
open Ps Tm
section
variable {s : Tx} {ws known : List Tx}
theorem take_first {c : Char} : ∀ (l : Tx) (i : Nat), l[i]? = some c → (∀ k, k < i → l[k]? ≠ some c) → l.takeWhile (· != c) = l.take i
  | [], i, h, _ => by simp at h
  | x :: l, 0, h, _ => by
    have : x = c := by simpa using h
    simp [this]
  | x :: l, i + 1, h, n => by
    have hx : x ≠ c := fun z => n 0 (by omega) (by simp [z])
    rw [List.takeWhile_cons, if_pos (by simpa using hx), List.take_succ_cons, take_first l i (by simpa using h) fun k hk => by simpa using n (k + 1) (by omega)]
theorem find_one {c : Char} (hc : c ∈ s) : findT s [c] = ((s.takeWhile (· != c)).length : Int) := by
  unfold findT
  have at1 : ∀ i, PySem.StrLaws.At (str s) (str [c]) (str s).length i ↔ s[i]? = some c := fun i => by
    unfold PySem.StrLaws.At
    rw [str_sg, PySem.StrLaws.subAt_one, str_cps, List.getElem?_map]
    constructor
    · intro h
      obtain ⟨x, h1, h2⟩ := Option.map_eq_some_iff.mp h
      rw [h1, toNat_inj h2]
    · intro h
      rw [h]; rfl
  rcases PyProof.Rows.find_whole (str s) (str [c]) with ⟨_, h⟩ | ⟨i, e, h1, h2⟩
  · obtain ⟨i, hi, e⟩ := List.getElem_of_mem hc
    exact absurd ((at1 i).mpr (by rw [List.getElem?_eq_getElem hi, e])) (h i)
  · have a := (at1 i).mp h1
    rw [e, take_first s i a fun k hk z => h2 k hk ((at1 k).mpr z), List.length_take]
    obtain ⟨hl, _⟩ := List.getElem?_eq_some_iff.mp a
    rw [Nat.min_eq_left (by omega)]
def stp (s : Tx) (ws known : List Tx) (row : Tx) (k : Nat) (q : Int) (x : Char) : Int := if goodF ws (row.take k ++ [x]) = true then q + cntF s ws known (row.length - 1 - k) (endAt known (row.take k ++ [x])) else q
def numK (s : Tx) (ws known : List Tx) (row : Tx) (k : Nat) (q : Int) : Int := (s.takeWhile (· != row.getD k 'a')).foldl (stp s ws known row k) q
def numP (s : Tx) (ws known : List Tx) (row : Tx) (n : Nat) : Int := (List.range n).foldl (fun q k => numK s ws known row k q) 0
theorem numP_succ (row : Tx) (n : Nat) : numP s ws known row (n + 1) = numK s ws known row n (numP s ws known row n) := by
  unfold numP
  rw [List.range_succ, List.foldl_append]; rfl
theorem getD_at {row : Tx} {k : Nat} (h : k < row.length) : row.getD k 'a' = row[k] := by simp [List.getD, h]
theorem take_at {row : Tx} {k : Nat} (h : k < row.length) : row.take k ++ [row.getD k 'a'] = row.take (k + 1) := by rw [getD_at h, List.take_succ, List.getElem?_eq_getElem h]; rfl
theorem ixL_tab (hk : known.Nodup) (n k : Nat) (hn : k < n) {p : Tx} (hp : p ∈ known) : (ixL ((List.range (n + 1)).map fun j => mkD id (cntF s ws known j) known) ((n : Int) - 1 - (k : Int))).bind (fun x => ixD x p) = .ok (cntF s ws known (n - 1 - k) p) := by
  have h := ixL_nat (l := (List.range (n + 1)).map fun j => mkD id (cntF s ws known j) known) (i := n - 1 - k) (by simp; omega)
  rw [show (((n - 1 - k : Nat)) : Int) = (n : Int) - 1 - (k : Int) by omega] at h
  rw [h, bindk]
  simp only [List.getElem_map, List.getElem_range]
  exact ixD_ok (mkD_get_id hk hp)
theorem num_scan (hs : GoodSigns s) (hw : GoodWords s ws) (hk : Places ws known) {row : Tx} (hg : goodF ws row = true) (hl : row.length ≤ 500) {k : Nat} (h : k < row.length) : ∀ (l : Tx) (q : Int), (∀ x ∈ l, x ∈ s) → row[k] ∈ l →
    forT (t_number_of_L1 (bandF s ws known) row ((List.range (row.length + 1)).map fun j => mkD id (cntF s ws known j) known) (k : Int)) (l.map sg) (endAt known (row.take k), q) = .ok (.nx (endAt known (row.take (k + 1)), (l.takeWhile (· != row[k])).foldl (stp s ws known row k) q))
  | [], _, _, hc => nomatch hc
  | x :: l, q, hm, hc => by
    have tl : (row.take k).length ≤ 500 := by rw [List.length_take]; omega
    have g0 := good_infix hw.ne (List.take_prefix k row).isInfix hg
    have e1 : wayF ws known (endAt known (row.take k), sg x) = if goodF ws (row.take k ++ [x]) = true then some (endAt known (row.take k ++ [x])) else none := by
      show (if goodF ws (endAt known (row.take k) ++ [x]) = true then some (endAt known (endAt known (row.take k) ++ [x])) else none) = _
      rw [good_step hw hk g0, endAt_on hw hk]
    rw [List.map_cons, forT_cons]
    have e2 : t_number_of_L1 (bandF s ws known) row ((List.range (row.length + 1)).map fun j => mkD id (cntF s ws known j) known) (k : Int) (endAt known (row.take k), q) (sg x) = if x = row[k] then .ok (.bk (endAt known (row.take (k + 1)), q)) else .ok (.nx (endAt known (row.take k), stp s ws known row k q x)) := by
      unfold t_number_of_L1
      rw [led_ok hs hk (endAt_is hw hk _).mem (hm x List.mem_cons_self), bindk, ixS_ok (by omega) (by omega) (by omega)]
      simp only [bindk, Int.toNat_natCast]
      rw [e1, eqT_tx]
      by_cases hx : x = row[k]
      · have ht : row.take k ++ [x] = row.take (k + 1) := by rw [hx, ← getD_at h]; exact take_at h
        rw [if_pos hx, ht, if_pos (good_infix hw.ne (List.take_prefix (k + 1) row).isInfix hg), decide_eq_true (by rw [hx]; rfl), if_pos rfl]
        rfl
      · rw [if_neg hx, decide_eq_false (fun z => hx (by unfold sg at z; simpa using z))]
        unfold stp
        by_cases g : goodF ws (row.take k ++ [x]) = true
        · rw [if_pos g, if_pos g, lenS_ok (by omega)]
          simp only [bindk, Option.isSome_some, if_true, Bool.false_eq_true, if_false, oM_some]
          rw [ixL_tab hk.nd row.length k h (endAt_is hw hk _).mem]
          rfl
        · rw [if_neg g, if_neg g]
          rfl
    rw [e2]
    by_cases hx : x = row[k]
    · rw [if_pos hx, bindk, List.takeWhile_cons, if_neg (by simp [hx])]
      rfl
    · rw [if_neg hx, bindk, List.takeWhile_cons, if_pos (by simpa using hx)]
      exact num_scan hs hw hk hg hl h l _ (fun y hy => hm y (List.mem_cons_of_mem _ hy)) ((List.mem_cons.mp hc).resolve_left fun z => hx z.symm)
theorem fb_none (hg : goodF ws s = true) : fbF ws s = none := by
  unfold goodF at hg
  cases q : fbF ws s with
  | none => rfl
  | some x => rw [q] at hg; cases hg
theorem number_ok (hs : GoodSigns s) (hw : GoodWords s ws) (hk : Places ws known) {row : Tx} (hg : goodF ws row = true) (hm : ∀ c ∈ row, c ∈ s) (hl : row.length ≤ 500) : t_number_of (bandF s ws known) row = .ok (numP s ws known row row.length) := by
  unfold t_number_of t_check_good t_check_row
  rw [bindk, check_row_ok (bandF s ws known) row 0 hm]
  simp only [bindk]
  rw [first_bad_ok (bandF s ws known) row (by omega) hw.bar, show (bandF s ws known).barred = ws from rfl, fb_none hg, lenS_ok (by omega)]
  simp only [bindk, Option.isSome_none, Bool.false_eq_true, if_false]
  rw [tables_ok hs hw hk _ (by omega) (by omega), bindk, rgM_ok ⟨by omega, by omega⟩, bindk, Int.toNat_natCast]
  have ee : endAt known [] = [] := by
    have := (endAt_is hw hk []).suf
    exact List.suffix_nil.mp this
  obtain ⟨q, e1, e2⟩ := foldT_inv (l := rgT (row.length : Int)) (s := (("".toList : Tx), (0 : Int))) (tb := t_number_of_L2 (bandF s ws known) row ((List.range (row.length + 1)).map fun j => mkD id (cntF s ws known j) known)) (fun pre q => q = (endAt known (row.take pre.length), numP s ws known row pre.length)) (by rw [List.length_nil, List.take_zero, ee]; rfl) (fun pre i post q hp hq => by
    obtain ⟨rfl, hlt⟩ := rgT_at hp
    rw [Int.toNat_natCast] at hlt
    refine ⟨_, ?_, rfl⟩
    rw [hq]
    unfold t_number_of_L2
    rw [show (bandF s ws known).signs = s from rfl, bindk, num_scan hs hw hk hg hl hlt s _ (fun _ h => h) (hm _ (List.getElem_mem _)), bindk, Lt_n_nx, List.length_append, List.length_singleton, numP_succ]
    unfold numK
    rw [getD_at hlt])
  rw [e1, bindk, e2, rgT_len, Int.toNat_natCast]
end
end Lw

namespace Lw
open Ps Tm
section
variable {s : Tx} {ws known : List Tx}
/-! ### rows by their numbers -/
/-- how many good rows of n signs more go on behind the sign -/
def wgt (s : Tx) (ws known : List Tx) (n : Nat) (p : Tx) (x : Char) : Int := match wayF ws known (p, sg x) with
  | some e => cntF s ws known n e
  | none => 0
/-- the first sign at which the number ends, its place, and what is left of the number -/
def pick (s : Tx) (ws known : List Tx) (n : Nat) (p : Tx) : Tx → Int → Option (Char × Tx × Int)
  | [], _ => none
  | x :: l, r => match wayF ws known (p, sg x) with
    | some e => if r < cntF s ws known n e then some (x, e, r) else pick s ws known n p l (r - cntF s ws known n e)
    | none => pick s ws known n p l r
def rowF (s : Tx) (ws known : List Tx) : Nat → Tx → Int → Tx
  | 0, _, _ => []
  | n + 1, p, r => match pick s ws known n p s r with
    | some (c, e, r') => c :: rowF s ws known n e r'
    | none => []
def numR (s : Tx) (ws known : List Tx) (p : Tx) : Tx → Int
  | [] => 0
  | c :: w => ((s.takeWhile (· != c)).map (wgt s ws known w.length p)).sum + match wayF ws known (p, sg c) with
    | some e => numR s ws known e w
    | none => 0
theorem step_wgt (n : Nat) (p : Tx) (l : Tx) : ((l.filterMap fun c => wayF ws known (p, sg c)).map (cntF s ws known n)).sum = (l.map (wgt s ws known n p)).sum := by
  induction l with
  | nil => rfl
  | cons x l ih =>
    rw [List.filterMap_cons, List.map_cons, List.sum_cons, ← ih]
    unfold wgt
    cases wayF ws known (p, sg x) with
    | none => simp
    | some e => simp
theorem wgt_nn (hs : GoodSigns s) (n : Nat) (p : Tx) (x : Char) : 0 ≤ wgt s ws known n p x := by
  unfold wgt
  cases wayF ws known (p, sg x) with
  | none => exact Int.le_refl _
  | some e => exact (cnt_le hs n e).1
/-- the sign that is picked: those ahead of it weigh what was taken off -/
theorem pick_ok (hs : GoodSigns s) (n : Nat) (p : Tx) : ∀ (l : Tx) (r : Int), l.Nodup → 0 ≤ r → r < (l.map (wgt s ws known n p)).sum → ∃ c e r', pick s ws known n p l r = some (c, e, r') ∧ c ∈ l ∧ wayF ws known (p, sg c) = some e ∧ 0 ≤ r' ∧ r' < cntF s ws known n e ∧ r = ((l.takeWhile (· != c)).map (wgt s ws known n p)).sum + r'
  | [], r, _, h0, h1 => by simp at h1; omega
  | x :: l, r, nd, h0, h1 => by
    rw [List.nodup_cons] at nd
    rw [List.map_cons, List.sum_cons] at h1
    unfold pick
    cases q : wayF ws known (p, sg x) with
    | none =>
      have w0 : wgt s ws known n p x = 0 := by unfold wgt; rw [q]
      obtain ⟨c, e, r', a1, a2, a3, a4, a5, a6⟩ := pick_ok hs n p l r nd.2 h0 (by omega)
      have hx : x ≠ c := fun z => nd.1 (z ▸ a2)
      refine ⟨c, e, r', a1, List.mem_cons_of_mem _ a2, a3, a4, a5, ?_⟩
      rw [List.takeWhile_cons, if_pos (by simpa using hx), List.map_cons, List.sum_cons, w0]
      omega
    | some e =>
      have w0 : wgt s ws known n p x = cntF s ws known n e := by unfold wgt; rw [q]
      by_cases hr : r < cntF s ws known n e
      · refine ⟨x, e, r, by simp only [if_pos hr], List.mem_cons_self, q, h0, hr, ?_⟩
        rw [List.takeWhile_cons, if_neg (by simp)]
        simp
      · obtain ⟨c, e', r', a1, a2, a3, a4, a5, a6⟩ := pick_ok hs n p l (r - cntF s ws known n e) nd.2 (by omega) (by omega)
        have hx : x ≠ c := fun z => nd.1 (z ▸ a2)
        refine ⟨c, e', r', by simp only [if_neg hr]; exact a1, List.mem_cons_of_mem _ a2, a3, a4, a5, ?_⟩
        rw [List.takeWhile_cons, if_pos (by simpa using hx), List.map_cons, List.sum_cons, w0]
        omega
/-- the row of a number: as long, of the signs, good behind the place, and its number is that one -/
theorem rowF_ok (hs : GoodSigns s) (hw : GoodWords s ws) (hk : Places ws known) : ∀ (n : Nat) (a : Tx) (r : Int), goodF ws a = true → 0 ≤ r → r < cntF s ws known n (endAt known a) →
    (rowF s ws known n (endAt known a) r).length = n ∧ (∀ c ∈ rowF s ws known n (endAt known a) r, c ∈ s) ∧ goodF ws (a ++ rowF s ws known n (endAt known a) r) = true ∧ numR s ws known (endAt known a) (rowF s ws known n (endAt known a) r) = r
  | 0, a, r, hg, h0, h1 => by
    have h1 : r < 1 := h1
    have e : rowF s ws known 0 (endAt known a) r = [] := by unfold rowF; rfl
    rw [e, List.append_nil]
    refine ⟨rfl, (fun c hc => by cases hc), hg, ?_⟩
    show (0 : Int) = r
    omega
  | n + 1, a, r, hg, h0, h1 => by
    have h1 : r < ((s.filterMap fun c => wayF ws known (endAt known a, sg c)).map (cntF s ws known n)).sum := h1
    rw [step_wgt] at h1
    obtain ⟨c, e, r', a1, a2, a3, a4, a5, a6⟩ := pick_ok hs n (endAt known a) s r hs.nd h0 h1
    have hf : (if goodF ws (endAt known a ++ [c]) = true then some (endAt known (endAt known a ++ [c])) else none) = some e := a3
    have gs : goodF ws (a ++ [c]) = true := by
      rw [← good_step hw hk hg c]
      cases q : goodF ws (endAt known a ++ [c]) with
      | true => rfl
      | false => rw [q] at hf; cases hf
    have ee : e = endAt known (a ++ [c]) := by
      rw [good_step hw hk hg c, gs, if_pos rfl, endAt_on hw hk] at hf
      exact (Option.some.inj hf).symm
    have er : rowF s ws known (n + 1) (endAt known a) r = c :: rowF s ws known n e r' := by
      show (match pick s ws known n (endAt known a) s r with | some (c, e, r') => c :: rowF s ws known n e r' | none => []) = _
      rw [a1]
    subst ee
    obtain ⟨b1, b2, b3, b4⟩ := rowF_ok hs hw hk n (a ++ [c]) r' gs a4 a5
    rw [er]
    refine ⟨by rw [List.length_cons, b1], fun x hx => ?_, ?_, ?_⟩
    · rcases List.mem_cons.mp hx with rfl | hx
      · exact a2
      · exact b2 x hx
    · rw [show a ++ c :: rowF s ws known n (endAt known (a ++ [c])) r' = a ++ [c] ++ rowF s ws known n (endAt known (a ++ [c])) r' by simp]
      exact b3
    · show ((s.takeWhile (· != c)).map (wgt s ws known (rowF s ws known n (endAt known (a ++ [c])) r').length (endAt known a))).sum + (match wayF ws known (endAt known a, sg c) with | some e => numR s ws known e (rowF s ws known n (endAt known (a ++ [c])) r') | none => 0) = r
      rw [b1, a3, a6]
      show _ + numR s ws known (endAt known (a ++ [c])) _ = _
      rw [b4]
end
end Lw

namespace Lw
open Ps Tm
section
variable {s : Tx} {ws known : List Tx}
theorem way_at (hw : GoodWords s ws) (hk : Places ws known) {a : Tx} (hg : goodF ws a = true) (x : Char) : wayF ws known (endAt known a, sg x) = if goodF ws (a ++ [x]) = true then some (endAt known (a ++ [x])) else none := by
  show (if goodF ws (endAt known a ++ [x]) = true then some (endAt known (endAt known a ++ [x])) else none) = _
  rw [good_step hw hk hg, endAt_on hw hk]
theorem stp_sum (hw : GoodWords s ws) (hk : Places ws known) {row : Tx} {k : Nat} (hg : goodF ws (row.take k) = true) : ∀ (l : Tx) (q : Int), l.foldl (stp s ws known row k) q = q + (l.map (wgt s ws known (row.length - 1 - k) (endAt known (row.take k)))).sum
  | [], q => by simp
  | x :: l, q => by
    rw [List.foldl_cons, stp_sum hw hk hg l, List.map_cons, List.sum_cons]
    have e : stp s ws known row k q x = q + wgt s ws known (row.length - 1 - k) (endAt known (row.take k)) x := by
      unfold stp wgt
      rw [way_at hw hk hg]
      by_cases g : goodF ws (row.take k ++ [x]) = true
      · rw [if_pos g, if_pos g]
      · rw [if_neg g, if_neg g]; simp
    rw [e, Int.add_assoc]
theorem num_from (hw : GoodWords s ws) (hk : Places ws known) {row : Tx} (hg : goodF ws row = true) : ∀ (w a : Tx) (q : Int), row = a ++ w → (List.range' a.length w.length).foldl (fun q k => numK s ws known row k q) q = q + numR s ws known (endAt known a) w
  | [], a, q, _ => by
    show q = q + 0
    omega
  | c :: w, a, q, e => by
    have ta : row.take a.length = a := by rw [e, List.take_left]
    have g0 : goodF ws a = true := good_infix hw.ne ⟨[], c :: w, by rw [List.nil_append, e]⟩ hg
    have g1 : goodF ws (a ++ [c]) = true := good_infix hw.ne ⟨[], w, by rw [List.nil_append, e]; simp⟩ hg
    have hat : row.getD a.length 'a' = c := by rw [e]; simp [List.getD]
    have hl : row.length - 1 - a.length = w.length := by rw [e, List.length_append, List.length_cons]; omega
    rw [List.length_cons, List.range'_succ, List.foldl_cons]
    have ih := num_from hw hk hg w (a ++ [c]) (numK s ws known row a.length q) (by rw [e]; simp)
    rw [List.length_append, List.length_singleton] at ih
    rw [ih]
    unfold numK
    rw [hat, stp_sum hw hk (by rw [ta]; exact g0), ta, hl]
    show _ = q + (((s.takeWhile (· != c)).map (wgt s ws known w.length (endAt known a))).sum + (match wayF ws known (endAt known a, sg c) with | some e => numR s ws known e w | none => 0))
    rw [way_at hw hk g0, if_pos g1, Int.add_assoc]
theorem end_nil (hw : GoodWords s ws) (hk : Places ws known) : endAt known [] = [] := List.suffix_nil.mp (endAt_is hw hk []).suf
/-- the program's number of a good row is that of its signs one by one -/
theorem numP_R (hw : GoodWords s ws) (hk : Places ws known) {row : Tx} (hg : goodF ws row = true) : numP s ws known row row.length = numR s ws known [] row := by
  have h := num_from (s := s) (known := known) hw hk hg row [] 0 rfl
  rw [end_nil hw hk, Int.zero_add] at h
  rw [← h]
  unfold numP
  rw [List.range_eq_range']; rfl
/-- the row of a number has that number -/
theorem there_back (hs : GoodSigns s) (hw : GoodWords s ws) (hk : Places ws known) {n : Nat} {r : Int} (h0 : 0 ≤ r) (h1 : r < cntF s ws known n []) :
    (rowF s ws known n [] r).length = n ∧ (∀ c ∈ rowF s ws known n [] r, c ∈ s) ∧ goodF ws (rowF s ws known n [] r) = true ∧ numP s ws known (rowF s ws known n [] r) n = r := by
  have gn : goodF ws ([] : Tx) = true := places_good hw hk hk.nil
  have h := rowF_ok hs hw hk n [] r gn h0 (by rw [end_nil hw hk]; exact h1)
  rw [end_nil hw hk, List.nil_append] at h
  obtain ⟨a1, a2, a3, a4⟩ := h
  have e := numP_R (s := s) hw hk a3
  rw [a1] at e
  exact ⟨a1, a2, a3, e.trans a4⟩
end
end Lw

namespace Lw
open Ps Tm
section
variable {s : Tx} {ws known : List Tx}
/-! ### the row of a number -/
theorem tab_nat (hk : known.Nodup) {n m : Nat} (h : m ≤ n) {p : Tx} (hp : p ∈ known) : (ixL ((List.range (n + 1)).map fun j => mkD id (cntF s ws known j) known) (m : Int)).bind (fun x => ixD x p) = .ok (cntF s ws known m p) := by
  have e := ixL_nat (l := (List.range (n + 1)).map fun j => mkD id (cntF s ws known j) known) (i := m) (by simp; omega)
  rw [e, bindk]
  simp only [List.getElem_map, List.getElem_range]
  exact ixD_ok (mkD_get_id hk hp)
theorem row_scan (hs : GoodSigns s) (hw : GoodWords s ws) (hk : Places ws known) {n m : Nat} (hm : m ≤ n) {row p : Tx} (hp : p ∈ known) (hl : row.length ≤ 1000) {c : Char} {e : Tx} {r' : Int} : ∀ (l : Tx) (r : Int), (∀ x ∈ l, x ∈ s) → pick s ws known m p l r = some (c, e, r') →
    forT (t_row_at_L1 (bandF s ws known) ((List.range (n + 1)).map fun j => mkD id (cntF s ws known j) known) (m : Int)) (l.map sg) (row, p, r) = .ok (.nx (row ++ [c], e, r'))
  | [], r, _, h => nomatch h
  | x :: l, r, hx, h => by
    have hxs := hx x List.mem_cons_self
    rw [List.map_cons, forT_cons]
    unfold pick at h
    cases q : wayF ws known (p, sg x) with
    | none =>
      rw [q] at h
      have e1 : t_row_at_L1 (bandF s ws known) ((List.range (n + 1)).map fun j => mkD id (cntF s ws known j) known) (m : Int) (row, p, r) (sg x) = .ok (.nx (row, p, r)) := by
        unfold t_row_at_L1
        rw [led_ok hs hk hp hxs, q]
        rfl
      rw [e1, bindk]
      exact row_scan hs hw hk hm hp hl l r (fun y hy => hx y (List.mem_cons_of_mem _ hy)) h
    | some f =>
      rw [q] at h
      simp only at h
      have fk := wayF_known hw hk hp q
      by_cases hr : r < cntF s ws known m f
      · rw [if_pos hr] at h
        have hx' : x = c ∧ f = e ∧ r = r' := by simpa using h
        have e1 : t_row_at_L1 (bandF s ws known) ((List.range (n + 1)).map fun j => mkD id (cntF s ws known j) known) (m : Int) (row, p, r) (sg x) = .ok (.bk (row ++ [x], f, r)) := by
          unfold t_row_at_L1
          rw [led_ok hs hk hp hxs, q]
          simp only [bindk, oM_some, Option.isSome_some, if_true]
          rw [tab_nat hk.nd hm fk, bindk, bindk, decide_eq_true hr, if_pos rfl, addS_ok (by simp [sg]; omega), bindk]
          rfl
        rw [e1, bindk, hx'.1, hx'.2.1, hx'.2.2]
      · rw [if_neg hr] at h
        have e1 : t_row_at_L1 (bandF s ws known) ((List.range (n + 1)).map fun j => mkD id (cntF s ws known j) known) (m : Int) (row, p, r) (sg x) = .ok (.nx (row, p, r - cntF s ws known m f)) := by
          unfold t_row_at_L1
          rw [led_ok hs hk hp hxs, q]
          simp only [bindk, oM_some, Option.isSome_some, if_true]
          rw [tab_nat hk.nd hm fk, bindk, bindk, decide_eq_false hr, if_neg (by decide)]
          simp only [bindk]
        rw [e1, bindk]
        exact row_scan hs hw hk hm hp hl l _ (fun y hy => hx y (List.mem_cons_of_mem _ hy)) h
theorem rg3_down (n : Nat) (h : n ≤ 1000000) : rg3M ((n : Int) - 1) (-1) (-1) = .ok ((List.range n).map fun (k : Nat) => ((n - 1 - k : Nat) : Int)) := by
  have q := L2.RgC.neg (i := (n : Int) - 1) (j := -1) (by omega) (by omega) (by omega) (by omega)
  obtain ⟨q1, q2, q3, q4⟩ := q
  unfold rg3M
  rw [gd_ok ⟨q1, q2, q3, by rw [q4]; omega⟩]
  unfold rg3T
  rw [q4, Int.toNat_natCast, show ((n : Int) - 1 - -1).toNat = n by omega]
  refine congrArg M.ok (List.map_congr_left fun k hk => ?_)
  have := List.mem_range.mp hk
  omega
theorem row_turns (hs : GoodSigns s) (hw : GoodWords s ws) (hk : Places ws known) (n : Nat) (h : n ≤ 1000) : ∀ (m k : Nat) (row a : Tx) (r : Int), k + m = n → row.length = k → goodF ws a = true → 0 ≤ r → r < cntF s ws known m (endAt known a) →
    ∃ p q, foldT (t_row_at_L2 (bandF s ws known) ((List.range (n + 1)).map fun j => mkD id (cntF s ws known j) known)) ((List.range' k m).map fun (k : Nat) => ((n - 1 - k : Nat) : Int)) (row, endAt known a, r) = .ok (row ++ rowF s ws known m (endAt known a) r, p, q)
  | 0, k, row, a, r, hn, hl, hg, h0, h1 => ⟨endAt known a, r, by rw [show rowF s ws known 0 (endAt known a) r = [] from by unfold rowF; rfl, List.append_nil]; rfl⟩
  | m + 1, k, row, a, r, hn, hl, hg, h0, h1 => by
    have h1 : r < ((s.filterMap fun c => wayF ws known (endAt known a, sg c)).map (cntF s ws known m)).sum := h1
    rw [step_wgt] at h1
    obtain ⟨c, e, r', a1, a2, a3, a4, a5, a6⟩ := pick_ok hs m (endAt known a) s r hs.nd h0 h1
    have hf : (if goodF ws (endAt known a ++ [c]) = true then some (endAt known (endAt known a ++ [c])) else none) = some e := a3
    have gs : goodF ws (a ++ [c]) = true := by
      rw [← good_step hw hk hg c]
      cases q : goodF ws (endAt known a ++ [c]) with
      | true => rfl
      | false => rw [q] at hf; cases hf
    have ee : e = endAt known (a ++ [c]) := by
      rw [good_step hw hk hg c, gs, if_pos rfl, endAt_on hw hk] at hf
      exact (Option.some.inj hf).symm
    have er : rowF s ws known (m + 1) (endAt known a) r = c :: rowF s ws known m e r' := by
      show (match pick s ws known m (endAt known a) s r with | some (c, e, r') => c :: rowF s ws known m e r' | none => []) = _
      rw [a1]
    rw [er]
    subst ee
    obtain ⟨p, q, ih⟩ := row_turns hs hw hk n h m (k + 1) (row ++ [c]) (a ++ [c]) r' (by omega) (by simp; omega) gs a4 a5
    refine ⟨p, q, ?_⟩
    rw [List.range'_succ, List.map_cons, foldT_cons]
    have e1 : t_row_at_L2 (bandF s ws known) ((List.range (n + 1)).map fun j => mkD id (cntF s ws known j) known) (row, endAt known a, r) ((n - 1 - k : Nat) : Int) = .ok (row ++ [c], endAt known (a ++ [c]), r') := by
      unfold t_row_at_L2
      rw [show (bandF s ws known).signs = s from rfl, bindk, show n - 1 - k = m by omega, row_scan hs hw hk (by omega) (endAt_is hw hk a).mem (by show row.length ≤ 1000; omega) s r (fun _ z => z) a1, bindk]
      rfl
    rw [e1, bindk, ih]
    simp
theorem row_at_ok (hs : GoodSigns s) (hw : GoodWords s ws) (hk : Places ws known) (n : Nat) (h : n ≤ 1000) {r : Int} (h0 : 0 ≤ r) (h1 : r < cntF s ws known n []) : t_row_at (bandF s ws known) (n : Int) r = .ok (rowF s ws known n [] r) := by
  unfold t_row_at
  have tb := tab_nat (s := s) (ws := ws) hk.nd (Nat.le_refl n) hk.nil
  rw [tables_ok hs hw hk _ (by omega) (by omega), bindk, Int.toNat_natCast, bindk, if_neg (by decide), bindk, decide_eq_false (by omega), if_neg (by decide), show ("".toList : Tx) = [] from rfl, tb]
  simp only [bindk]
  rw [decide_eq_false (by omega), if_neg (by decide), rg3_down n (by omega), bindk]
  have gn : goodF ws ([] : Tx) = true := places_good hw hk hk.nil
  obtain ⟨p, q, e⟩ := row_turns hs hw hk n h n 0 [] [] r (by omega) rfl gn h0 (by rw [end_nil hw hk]; exact h1)
  rw [end_nil hw hk, ← List.range_eq_range'] at e
  rw [e, bindk, List.nil_append]
theorem row_at_no (hs : GoodSigns s) (hw : GoodWords s ws) (hk : Places ws known) (n : Nat) (h : n ≤ 1000) {r : Int} (h1 : r < 0 ∨ cntF s ws known n [] ≤ r) : t_row_at (bandF s ws known) (n : Int) r = .er 13 [] := by
  unfold t_row_at
  have tb := tab_nat (s := s) (ws := ws) hk.nd (Nat.le_refl n) hk.nil
  rw [tables_ok hs hw hk _ (by omega) (by omega), bindk, Int.toNat_natCast, bindk, if_neg (by decide), bindk]
  by_cases q : r < 0
  · rw [decide_eq_true q, if_pos rfl, bindk, if_pos rfl]
  · rw [decide_eq_false q, if_neg (by decide), show ("".toList : Tx) = [] from rfl, tb]
    simp only [bindk]
    rw [decide_eq_true (by omega), if_pos rfl]
theorem law_number_ok (x y : Int) : t_law_number x y = .ok (decide (x = y)) := by unfold t_law_number; rw [eqT_int]; simp
theorem count_ok (hs : GoodSigns s) (hw : GoodWords s ws) (hk : Places ws known) (n : Nat) (h1 : n ≤ 10000) : t_count (bandF s ws known) (n : Int) = .ok (cntF s ws known n []) := by
  obtain ⟨c, hc, e⟩ := ix0 hs
  unfold t_count t_count_from
  have tb := tab_nat (s := s) (ws := ws) hk.nd (Nat.le_refl n) hk.nil
  rw [show (bandF s ws known).signs = s from rfl, e, bindk, show ("".toList : Tx) = [] from rfl, led_ok hs hk hk.nil hc, bindk, bindk, tables_ok hs hw hk _ (by omega) (by omega), bindk, Int.toNat_natCast, tb]
end
end Lw

namespace Lw
open Ps Tm
open Emb (d)
section
variable {s : Tx} {ws known : List Tx}
/-! ### all rows in the order of the signs -/
def allR (s : Tx) : Nat → List Tx
  | 0 => [[]]
  | n + 1 => (allR s n).flatMap fun w => s.map fun c => w ++ [c]
def allH (s : Tx) : Nat → List Tx
  | 0 => [[]]
  | n + 1 => s.flatMap fun c => (allH s n).map fun w => c :: w
theorem allH_end : ∀ n, allH s (n + 1) = (allH s n).flatMap fun w => s.map fun c => w ++ [c]
  | 0 => by
    show (s.flatMap fun c => [[]].map fun w => c :: w) = [[]].flatMap fun w => s.map fun c => w ++ [c]
    simp only [List.map_cons, List.map_nil, List.flatMap_cons, List.flatMap_nil, List.append_nil, List.nil_append]
    induction s with
    | nil => rfl
    | cons x l ih => rw [List.flatMap_cons, List.map_cons, ih]; rfl
  | n + 1 => by
    have ih := allH_end n
    calc (s.flatMap fun c => (allH s (n + 1)).map fun w => c :: w)
        = s.flatMap fun c => ((allH s n).flatMap fun w => s.map fun c => w ++ [c]).map fun w => c :: w := by rw [ih]
      _ = (s.flatMap fun c => (allH s n).map fun w => c :: w).flatMap fun w => s.map fun c => w ++ [c] := by
        rw [List.flatMap_assoc]
        congr 1
        funext c
        rw [List.map_flatMap, List.flatMap_map]
        congr 1
        funext w
        rw [List.map_map]; rfl
theorem allR_H : ∀ n, allR s n = allH s n
  | 0 => rfl
  | n + 1 => by
    show (allR s n).flatMap _ = _
    rw [allR_H n, allH_end n]
theorem allR_len : ∀ n, (allR s n).length = s.length ^ n
  | 0 => rfl
  | n + 1 => by
    have ih := allR_len n
    show ((allR s n).flatMap fun w => s.map fun c => w ++ [c]).length = _
    rw [Nat.pow_succ, ← ih]
    generalize allR s n = l
    induction l with
    | nil => simp
    | cons w l ih2 => rw [List.flatMap_cons, List.length_append, List.length_map, ih2, List.length_cons, Nat.succ_mul]; omega
theorem allR_one : ∀ n, ∀ w ∈ allR s n, w.length = n
  | 0, w, h => by
    rw [List.mem_singleton.mp h]; rfl
  | n + 1, w, h => by
    obtain ⟨u, hu, h⟩ := List.mem_flatMap.mp h
    obtain ⟨c, _, rfl⟩ := List.mem_map.mp h
    rw [List.length_append, allR_one n u hu]; rfl
/-- the good ones behind a row -/
def lst (s : Tx) (ws : List Tx) (n : Nat) (a : Tx) : List Tx := (allH s n).filter fun w => goodF ws (a ++ w)
theorem lst_succ (hw : GoodWords s ws) (n : Nat) (a : Tx) : lst s ws (n + 1) a = s.flatMap fun c => if goodF ws (a ++ [c]) = true then (lst s ws n (a ++ [c])).map fun w => c :: w else [] := by
  unfold lst
  show (s.flatMap fun c => (allH s n).map fun w => c :: w).filter _ = _
  generalize allH s n = L
  generalize s = t
  induction t with
  | nil => rfl
  | cons c t ih =>
    rw [List.flatMap_cons, List.filter_append, List.flatMap_cons, ih]
    congr 1
    rw [List.filter_map]
    by_cases g : goodF ws (a ++ [c]) = true
    · rw [if_pos g]
      congr 2
      funext w
      simp only [Function.comp_apply]
      rw [List.append_assoc]; rfl
    · rw [if_neg g, List.map_eq_nil_iff, List.filter_eq_nil_iff]
      intro w _ h
      simp only [Function.comp_apply] at h
      exact g (good_infix hw.ne ⟨[], w, by simp⟩ h)
theorem len_flat {α β : Type} (f : α → List β) (g : α → Int) (h : ∀ a, ((f a).length : Int) = g a) : ∀ l : List α, ((l.flatMap f).length : Int) = (l.map g).sum
  | [] => rfl
  | a :: l => by
    rw [List.flatMap_cons, List.length_append, List.map_cons, List.sum_cons, ← len_flat f g h l, ← h a]; omega
theorem lst_len (hw : GoodWords s ws) (hk : Places ws known) : ∀ (n : Nat) (a : Tx), goodF ws a = true → ((lst s ws n a).length : Int) = cntF s ws known n (endAt known a)
  | 0, a, hg => by
    unfold lst
    show ((List.filter (fun w => goodF ws (a ++ w)) [[]]).length : Int) = 1
    rw [List.filter_cons, List.append_nil, hg]; rfl
  | n + 1, a, hg => by
    rw [lst_succ hw]
    show _ = ((s.filterMap fun c => wayF ws known (endAt known a, sg c)).map (cntF s ws known n)).sum
    rw [step_wgt]
    refine len_flat _ _ (fun c => ?_) s
    unfold wgt
    rw [way_at hw hk hg]
    by_cases g : goodF ws (a ++ [c]) = true
    · rw [if_pos g, if_pos g, List.length_map, lst_len hw hk n (a ++ [c]) g]
    · rw [if_neg g, if_neg g]; rfl
theorem pick_lst {n : Nat} {p : Tx} {f : Char → List Tx} (hf : ∀ c, ((f c).length : Int) = wgt s ws known n p c) : ∀ (l : Tx) (r : Int) {c : Char} {e : Tx} {r' : Int}, 0 ≤ r → pick s ws known n p l r = some (c, e, r') → (l.flatMap f)[r.toNat]? = (f c)[r'.toNat]?
  | [], r, c, e, r', _, h => nomatch h
  | x :: l, r, c, e, r', h0, h => by
    unfold pick at h
    have hx := hf x
    unfold wgt at hx
    rw [List.flatMap_cons]
    cases q : wayF ws known (p, sg x) with
    | none =>
      rw [q] at h hx
      simp only at h hx
      have : f x = [] := List.eq_nil_of_length_eq_zero (by omega)
      rw [this, List.nil_append]
      exact pick_lst hf l r h0 h
    | some g =>
      rw [q] at h hx
      simp only at h hx
      by_cases hr : r < cntF s ws known n g
      · rw [if_pos hr] at h
        cases h
        rw [List.getElem?_append_left (by omega)]
      · rw [if_neg hr] at h
        rw [List.getElem?_append_right (by omega), ← pick_lst hf l (r - cntF s ws known n g) (by omega) h]
        congr 1; omega
theorem rowF_lst (hs : GoodSigns s) (hw : GoodWords s ws) (hk : Places ws known) : ∀ (n : Nat) (a : Tx) (r : Int), goodF ws a = true → 0 ≤ r → r < cntF s ws known n (endAt known a) → (lst s ws n a)[r.toNat]? = some (rowF s ws known n (endAt known a) r)
  | 0, a, r, hg, h0, h1 => by
    have h1 : r < 1 := h1
    have : r = 0 := by omega
    subst this
    unfold lst
    show (List.filter (fun w => goodF ws (a ++ w)) [[]])[0]? = _
    rw [List.filter_cons, List.append_nil, hg, if_pos rfl]
    unfold rowF; rfl
  | n + 1, a, r, hg, h0, h1 => by
    have h1 : r < ((s.filterMap fun c => wayF ws known (endAt known a, sg c)).map (cntF s ws known n)).sum := h1
    rw [step_wgt] at h1
    obtain ⟨c, e, r', a1, a2, a3, a4, a5, a6⟩ := pick_ok hs n (endAt known a) s r hs.nd h0 h1
    have hf : (if goodF ws (endAt known a ++ [c]) = true then some (endAt known (endAt known a ++ [c])) else none) = some e := a3
    have gs : goodF ws (a ++ [c]) = true := by
      rw [← good_step hw hk hg c]
      cases q : goodF ws (endAt known a ++ [c]) with
      | true => rfl
      | false => rw [q] at hf; cases hf
    have ee : e = endAt known (a ++ [c]) := by
      rw [good_step hw hk hg c, gs, if_pos rfl, endAt_on hw hk] at hf
      exact (Option.some.inj hf).symm
    have er : rowF s ws known (n + 1) (endAt known a) r = c :: rowF s ws known n e r' := by
      show (match pick s ws known n (endAt known a) s r with | some (c, e, r') => c :: rowF s ws known n e r' | none => []) = _
      rw [a1]
    subst ee
    rw [er, lst_succ hw, pick_lst (fun c => by
      unfold wgt
      rw [way_at hw hk hg]
      by_cases g : goodF ws (a ++ [c]) = true
      · rw [if_pos g, if_pos g, List.length_map, lst_len hw hk n (a ++ [c]) g]
      · rw [if_neg g, if_neg g]; rfl) s r h0 a1, if_pos gs, List.getElem?_map, rowF_lst hs hw hk n (a ++ [c]) r' gs a4 a5]
    rfl
/-! ### the law's own lists -/
theorem rows_in (hs : GoodSigns s) : ∀ (l acc : List Tx), (∀ w ∈ l, w.length ≤ 1000) → acc.length + l.length * 4 ≤ 1000000 → foldT (t_law_rows_L1 s) l acc = .ok (acc ++ l.flatMap fun w => s.map fun c => w ++ [c])
  | [], acc, _, _ => by simp
  | w :: l, acc, h, hl => by
    have l4 := hs.l4
    have hw := h w List.mem_cons_self
    rw [List.length_cons] at hl
    have e : t_law_rows_L1 s acc w = .ok (acc ++ s.map fun c => w ++ [c]) := by
      unfold t_law_rows_L1
      rw [compM_ok (by rw [List.length_map]; omega), mapT_ok (g := fun x => w ++ x) (fun x hx => by
        obtain ⟨c, _, rfl⟩ := List.mem_map.mp hx
        exact addS_ok (by simp [sg]; omega)), bindk, List.map_map, extM_ok (by rw [List.length_map]; omega)]
      rfl
    rw [foldT_cons, e, bindk, rows_in hs l _ (fun v hv => h v (List.mem_cons_of_mem _ hv)) (by rw [List.length_append, List.length_map]; omega), List.flatMap_cons, List.append_assoc]
theorem rows_ok (hs : GoodSigns s) (n : Nat) (hn : n ≤ 6) : t_law_rows s (n : Int) = .ok (allR s n) := by
  have l4 := hs.l4
  unfold t_law_rows
  rw [bindk, rgM_ok ⟨by omega, by omega⟩, bindk]
  obtain ⟨T, e, hT⟩ := foldT_inv (l := rgT (n : Int)) (s := ([("".toList : Tx)] : List Tx)) (tb := t_law_rows_L2 s) (fun pre T => T = allR s pre.length) rfl (fun pre i post T hp hT => by
    obtain ⟨rfl, hlt⟩ := rgT_at hp
    rw [Int.toNat_natCast] at hlt
    refine ⟨allR s (pre.length + 1), ?_, by rw [List.length_append, List.length_singleton]⟩
    unfold t_law_rows_L2
    have h4 : T.length ≤ 4 ^ 6 := by
      rw [hT, allR_len]
      exact Nat.le_trans (Nat.pow_le_pow_left l4 _) (Nat.pow_le_pow_right (by decide) (by omega))
    have h4 : T.length ≤ 4096 := h4
    rw [bindk, bindk, rows_in hs T [] (fun w hw => by rw [hT] at hw; rw [allR_one _ w hw]; omega) (by simp; omega), bindk, bindk, List.nil_append, hT]
    rfl)
  rw [rgT_len, Int.toNat_natCast] at hT
  rw [e, bindk, hT]
theorem count_from_ok (hs : GoodSigns s) (hw : GoodWords s ws) (hk : Places ws known) {p : Tx} (hp : p ∈ known) (n : Nat) (h1 : n ≤ 10000) : t_count_from (bandF s ws known) p (n : Int) = .ok (cntF s ws known n p) := by
  obtain ⟨c, hc, e⟩ := ix0 hs
  unfold t_count_from
  have tb := tab_nat (s := s) (ws := ws) hk.nd (Nat.le_refl n) hp
  rw [show (bandF s ws known).signs = s from rfl, e, bindk, led_ok hs hk hp hc, bindk, bindk, tables_ok hs hw hk _ (by omega) (by omega), bindk, Int.toNat_natCast]
  exact tb
theorem end_known (hw : GoodWords s ws) (hk : Places ws known) {p : Tx} (hp : p ∈ known) : endAt known p = p :=
  IsEnd.uniq (endAt_is hw hk p) ⟨hp, List.suffix_rfl, fun x _ hs => hs⟩
theorem rg3_up {i j c : Int} (hc : 0 < c) (h1 : c ≤ 1000000) (hi : 0 ≤ i) (hi2 : i ≤ 1000000) (hj : 0 ≤ j) (hj2 : j ≤ 1000000) : ∃ l, rgL3 i j c = .ok l ∧ ∀ x ∈ l, 0 ≤ x ∧ x < j := by
  have q1 := PyProof.Rows.rangeSize_toNat i j c
  have q2 := PyProof.Rows.rangeSize_toNat_le i j c
  refine ⟨_, rgL3_ok ⟨by omega, by omega, ?_, by omega, by omega⟩, fun x hx => ?_⟩
  · unfold PySem.Builtin.Range.small
    simp only [PySem.Builtin.Range.rangeFitsLong, Bool.and_eq_true, Bool.or_eq_true, decide_eq_true_eq, beq_iff_eq, if_pos hc]
    omega
  · unfold rg3T at hx
    obtain ⟨k, hk, rfl⟩ := List.mem_map.mp hx
    have hk := List.mem_range.mp hk
    have hs : PySem.Builtin.Range.rangeSize i j c = if i < j then (j - i - 1) / c + 1 else 0 := by
      unfold PySem.Builtin.Range.rangeSize
      rw [if_pos (by omega)]
    rw [hs] at hk
    by_cases hij : i < j
    · rw [if_pos hij] at hk
      have h2 : (k : Int) ≤ (j - i - 1) / c := by omega
      have h3 : (k : Int) * c ≤ (j - i - 1) / c * c := Int.mul_le_mul_of_nonneg_right h2 (by omega)
      have h4 : (j - i - 1) / c * c ≤ j - i - 1 := Int.ediv_mul_le _ (by omega)
      have h5 : 0 ≤ (k : Int) * c := Int.mul_nonneg (by omega) (by omega)
      omega
    · rw [if_neg hij] at hk
      simp at hk
end
theorem t_law_true (sc : Scr) : t_law sc = .ok true := by
  unfold t_law
  rw [cell_ok sc 0 (by decide), bindk]
  obtain ⟨s, q1, hs⟩ := signs_ok (sc.ns.getD (0 : Int).toNat 0)
  have l2 := hs.l2
  have l4 := hs.l4
  rw [q1, bindk]
  obtain ⟨ws, q2, hw⟩ := words_ok sc 1 (by decide) hs
  have l6 := hw.l6
  obtain ⟨known, q3, hk⟩ := binit_ok hs hw
  rw [q2, bindk, q3, show mkM (M.ok (bandF s ws known)) = .ok (bandF s ws known) from rfl, bindk, cell_ok sc 9 (by decide), lenS_ok (by omega)]
  generalize sc.ns.getD (9 : Int).toNat 0 = c9
  simp only [bindk]
  have hL : ∃ L : Nat, ((ixL ([(7 : Int), (5 : Int), (4 : Int)] : List Int) ((s.length : Int) - 2)).bind fun x9 => (modI c9 x9)) = .ok (L : Int) ∧ L ≤ 6 := by
    have key : ∀ v : Int, 0 < v → v ≤ 7 → ∃ L : Nat, modI c9 v = .ok (L : Int) ∧ L ≤ 6 := fun v h1 h2 => by
      have a := Int.emod_nonneg c9 (b := v) (by omega)
      have b := Int.emod_lt_of_pos c9 (b := v) h1
      exact ⟨(c9 % v).toNat, by rw [modI_ok h1, Int.toNat_of_nonneg a], by omega⟩
    have hc : s.length = 2 ∨ s.length = 3 ∨ s.length = 4 := by omega
    rcases hc with z | z | z <;> rw [z]
    · exact key 7 (by decide) (by decide)
    · exact key 5 (by decide) (by decide)
    · exact key 4 (by decide) (by decide)
  obtain ⟨L, eL, L6⟩ := hL
  rw [eL, bindk, rows_ok hs L L6, bindk]
  have al : (allR s L).length ≤ 4096 := by
    rw [allR_len]
    exact Nat.le_trans (Nat.pow_le_pow_left l4 _) (Nat.pow_le_pow_right (by decide) (by omega) : 4 ^ L ≤ 4 ^ 6)
  have al1 := allR_one (s := s) L
  have gn : goodF ws ([] : Tx) = true := places_good hw hk hk.nil
  have f0 : fcompM (fun (a12 : Tx) => (t_law_is_good a12 ws)) (fun (a12 : Tx) => (M.ok a12)) (allR s L) = .ok (lst s ws L []) := by
    rw [fcompM_ok (by omega), fmapT_ok (q := goodF ws) (g := fun x => x) (fun x _ => is_good_ok hw.ne (by omega) x) (fun _ _ _ => rfl), List.map_id', allR_H]
    rfl
  have fp : ∀ p ∈ known, fcompM (fun (a19 : Tx) => (M.bind (addS p a19) fun x20 => (t_law_is_good x20 ws))) (fun (a19 : Tx) => (M.ok a19)) (allR s L) = .ok (lst s ws L p) := fun p hp => by
    have lp := hk.l4 hw p hp
    rw [fcompM_ok (by omega), fmapT_ok (q := fun w => goodF ws (p ++ w)) (g := fun x => x) (fun x hx => by
      rw [addS_ok (by rw [al1 x hx]; omega), bindk, is_good_ok hw.ne (by omega)]) (fun _ _ _ => rfl), List.map_id', allR_H]
    rfl
  have lenL : ∀ p ∈ known, ((lst s ws L p).length : Int) = cntF s ws known L p := fun p hp => by
    have := lst_len (s := s) hw hk L p (places_good hw hk hp)
    rw [end_known hw hk hp] at this
    exact this
  have len0 := lenL [] hk.nil
  have lenle : (lst s ws L []).length ≤ 4096 := by
    unfold lst
    rw [← allR_H]
    exact Nat.le_trans (List.length_filter_le _ _) al
  rw [f0, bindk, count_ok hs hw hk L (by omega), bindk, law_number_ok, decide_eq_true len0.symm]
  simp only [bindk, Bool.not_true, Bool.false_eq_true, if_false]
  rw [show t_Band_places (bandF s ws known) = .ok known from rfl, bindk]
  obtain ⟨u, e6, _⟩ := forT_inv (tb := t_law_L1 ws (bandF s ws known) (L : Int) (allR s L)) (l := known) (s := ()) (fun _ _ => True) trivial (fun pre p post _ e _ => by
    have hp : p ∈ known := by rw [e]; simp
    refine ⟨(), .inl ?_, trivial⟩
    unfold t_law_L1
    rw [fp p hp]
    simp only [bindk]
    rw [count_from_ok hs hw hk hp L (by omega), bindk, law_number_ok, decide_eq_true (lenL p hp).symm]
    rfl)
  rw [e6]
  simp only [bindk, Lt_f_nx]
  rw [cell_ok sc 11 (by decide), bindk]
  have st0 : (0 : Int) < 1 + ((lst s ws L []).length : Int) / 24 := by omega
  have st1 : (1 : Int) + ((lst s ws L []).length : Int) / 24 ≤ 1000 := by omega
  rw [modI_ok st0, bindk]
  have m0 := Int.emod_nonneg (sc.ns.getD (11 : Int).toNat 0) (b := 1 + ((lst s ws L []).length : Int) / 24) (by omega)
  have m1 := Int.emod_lt_of_pos (sc.ns.getD (11 : Int).toNat 0) st0
  obtain ⟨l, e7, hl⟩ := rg3_up (i := sc.ns.getD (11 : Int).toNat 0 % (1 + ((lst s ws L []).length : Int) / 24)) (j := ((lst s ws L []).length : Int)) st0 (by omega) m0 (by omega) (by omega) (by omega)
  rw [e7, bindk, cell_ok sc 10 (by decide)]
  simp only [bindk]
  have turns : ∀ l : List Int, (∀ x ∈ l, 0 ≤ x ∧ x < ((lst s ws L []).length : Int)) → ∃ u, forT (t_law_L2 (bandF s ws known) (L : Int) (lst s ws L [])) l () = .ok (.nx u) := fun l hl => by
    obtain ⟨u, e8, _⟩ := forT_inv (tb := t_law_L2 (bandF s ws known) (L : Int) (lst s ws L [])) (l := l) (s := ()) (fun _ _ => True) trivial (fun pre r post _ e _ => by
      obtain ⟨h0, h1⟩ := hl r (by rw [e]; simp)
      have h2 : r < cntF s ws known L [] := by rw [← len0]; exact h1
      refine ⟨(), .inl ?_, trivial⟩
      obtain ⟨a1, a2, a3, a4⟩ := there_back hs hw hk h0 h2
      have hr := rowF_lst hs hw hk L [] r gn h0 (by rw [end_nil hw hk]; exact h2)
      rw [end_nil hw hk] at hr
      unfold t_law_L2
      rw [row_at_ok hs hw hk L (by omega) h0 h2, bindk]
      obtain ⟨hh, he⟩ := List.getElem?_eq_some_iff.mp hr
      rw [ixL_ok h0 h1, he]
      generalize rowF s ws known L [] r = row at a1 a2 a3 a4
      simp only [bindk]
      rw [eqT_tx, decide_eq_true rfl, number_ok hs hw hk a3 a2 (by omega), a1, a4]
      simp only [bindk, Bool.not_true, Bool.false_eq_true, if_false]
      rw [law_number_ok, decide_eq_true rfl]
      rfl)
    exact ⟨u, e8⟩
  have fin : ∀ l : List Int, (∀ x ∈ l, 0 ≤ x ∧ x < ((lst s ws L []).length : Int)) → ((forT (t_law_L2 (bandF s ws known) (L : Int) (lst s ws L [])) l ()).bind fun y50 => y50.f fun s47 => (M.ok true)) = .ok true := fun l hl => by
    obtain ⟨u, e⟩ := turns l hl
    rw [e, bindk, Lt_f_nx]
  cases eqT (sc.ns.getD (10 : Int).toNat 0 % 2) 1 with
  | true =>
    rw [if_pos rfl, bindk]
    exact fin _ fun x hx => hl x (List.mem_reverse.mp hx)
  | false =>
    rw [if_neg (by decide), bindk]
    exact fin l hl
theorem law_true : ∀ ns : List Int, ns.length ≤ 63 → m_law [.scr ns] = .ok (.bl true) := fun ns h => by
  have := br_law ⟨ns⟩
  rw [t_law_true ⟨ns⟩] at this
  exact this
end Lw

namespace Lw
open PySem PySem.Spec PyProof.Rows L2 Ps
def top (i : Nat) : Stmt := PySem.Challenge.pw_bandscribe_k10_rows_listed.main.body.getD i (.Pass ⟨0, 0, 0, 0⟩)
abbrev s_are_signs : Stmt := top 19
abbrev s_is_word : Stmt := top 20
abbrev s_first_bad : Stmt := top 22
abbrev s_Band_places : Stmt := inClass (top 24) 4
abbrev s_law_cell : Stmt := top 29
abbrev s_law_draw : Stmt := top 30
abbrev s_law_is_good : Stmt := top 34
abbrev s_law_rows : Stmt := top 35
abbrev s_law_number : Stmt := top 36
abbrev s_Band_found_places : Stmt := inClass (top 24) 1
abbrev s_Band_ending : Stmt := inClass (top 24) 2
abbrev s_law_signs : Stmt := top 31
abbrev s_law_word : Stmt := top 32
abbrev s_check_row : Stmt := top 21
abbrev s_Band__init_ : Stmt := inClass (top 24) 0
abbrev s_Band_led : Stmt := inClass (top 24) 5
abbrev s_law_words : Stmt := top 33
abbrev s_ends_of : Stmt := top 2
abbrev s_check_good : Stmt := top 23
abbrev s_tables : Stmt := top 3
abbrev s_count_from : Stmt := top 4
abbrev s_row_at : Stmt := top 26
abbrev s_number_of : Stmt := top 27
abbrev s_count : Stmt := top 5
abbrev s_law : Stmt := top 37
abbrev s_NoRow_i : Stmt := inClass (top 11) 0
abbrev s_Barred_i : Stmt := inClass (top 12) 0
abbrev s_TooMany_i : Stmt := inClass (top 9) 0
abbrev s_NoWord_i : Stmt := inClass (top 10) 0
abbrev s_NoPlace_i : Stmt := inClass (top 13) 0
structure Txt (K : PySem.W.Frag) (mg : Str → Option Value) (ct fa : Nat → Addr) : Prop where
  F_are_signs : ∃ fd, L2.Fun K "are_signs" "are_signs" s_are_signs (fa 4) fd
  g_are_signs : mg "are_signs" = some (.ref (fa 4))
  F_is_word : ∃ fd, L2.Fun K "is_word" "is_word" s_is_word (fa 5) fd
  g_is_word : mg "is_word" = some (.ref (fa 5))
  F_first_bad : ∃ fd, L2.Fun K "first_bad" "first_bad" s_first_bad (fa 7) fd
  g_first_bad : mg "first_bad" = some (.ref (fa 7))
  F_Band_places : ∃ fd, L2.Fun K "places" "Band.places" s_Band_places (fa 12) fd
  F_law_cell : ∃ fd, L2.Fun K "_law_cell" "_law_cell" s_law_cell (fa 16) fd
  g_law_cell : mg "_law_cell" = some (.ref (fa 16))
  F_law_draw : ∃ fd, L2.Fun K "_law_draw" "_law_draw" s_law_draw (fa 17) fd
  g_law_draw : mg "_law_draw" = some (.ref (fa 17))
  F_law_is_good : ∃ fd, L2.Fun K "_law_is_good" "_law_is_good" s_law_is_good (fa 21) fd
  g_law_is_good : mg "_law_is_good" = some (.ref (fa 21))
  F_law_rows : ∃ fd, L2.Fun K "_law_rows" "_law_rows" s_law_rows (fa 22) fd
  g_law_rows : mg "_law_rows" = some (.ref (fa 22))
  F_law_number : ∃ fd, L2.Fun K "_law_number" "_law_number" s_law_number (fa 23) fd
  g_law_number : mg "_law_number" = some (.ref (fa 23))
  F_Band_found_places : ∃ fd, L2.Fun K "found_places" "Band.found_places" s_Band_found_places (fa 10) fd
  F_Band_ending : ∃ fd, L2.Fun K "ending" "Band.ending" s_Band_ending (fa 11) fd
  F_law_signs : ∃ fd, L2.Fun K "_law_signs" "_law_signs" s_law_signs (fa 18) fd
  g_law_signs : mg "_law_signs" = some (.ref (fa 18))
  F_law_word : ∃ fd, L2.Fun K "_law_word" "_law_word" s_law_word (fa 19) fd
  g_law_word : mg "_law_word" = some (.ref (fa 19))
  F_check_row : ∃ fd, L2.Fun K "check_row" "check_row" s_check_row (fa 6) fd
  g_check_row : mg "check_row" = some (.ref (fa 6))
  F_Band__init_ : ∃ fd, L2.Fun K "__init__" "Band.__init__" s_Band__init_ (fa 9) fd
  F_Band_led : ∃ fd, L2.Fun K "led" "Band.led" s_Band_led (fa 13) fd
  F_law_words : ∃ fd, L2.Fun K "_law_words" "_law_words" s_law_words (fa 20) fd
  g_law_words : mg "_law_words" = some (.ref (fa 20))
  F_ends_of : ∃ fd, L2.Fun K "ends_of" "ends_of" s_ends_of (fa 0) fd
  g_ends_of : mg "ends_of" = some (.ref (fa 0))
  F_check_good : ∃ fd, L2.Fun K "check_good" "check_good" s_check_good (fa 8) fd
  g_check_good : mg "check_good" = some (.ref (fa 8))
  F_tables : ∃ fd, L2.Fun K "tables" "tables" s_tables (fa 1) fd
  g_tables : mg "tables" = some (.ref (fa 1))
  F_count_from : ∃ fd, L2.Fun K "count_from" "count_from" s_count_from (fa 2) fd
  g_count_from : mg "count_from" = some (.ref (fa 2))
  F_row_at : ∃ fd, L2.Fun K "row_at" "row_at" s_row_at (fa 14) fd
  g_row_at : mg "row_at" = some (.ref (fa 14))
  F_number_of : ∃ fd, L2.Fun K "number_of" "number_of" s_number_of (fa 15) fd
  g_number_of : mg "number_of" = some (.ref (fa 15))
  F_count : ∃ fd, L2.Fun K "count" "count" s_count (fa 3) fd
  g_count : mg "count" = some (.ref (fa 3))
  F_law : ∃ fd, L2.Fun K "law" "law" s_law (fa 24) fd
  g_law : mg "law" = some (.ref (fa 24))
  g_Band : mg "Band" = some (.ref (ct 0))
  cl_0 : Cls K (ct 0)
  ow_0 : OwnC K (ct 0)
  na_0_signs : NoAttr K (ct 0) "signs"
  na_0_barred : NoAttr K (ct 0) "barred"
  na_0_known : NoAttr K (ct 0) "known"
  na_0_ways : NoAttr K (ct 0) "ways"
  mk_0 : Mk K (ct 0) (fa 9)
  g_BandError : mg "BandError" = some (.ref (ct 6))
  g_NoSigns : mg "NoSigns" = some (.ref (ct 7))
  g_TooMany : mg "TooMany" = some (.ref (ct 8))
  g_NoWord : mg "NoWord" = some (.ref (ct 9))
  g_NoRow : mg "NoRow" = some (.ref (ct 10))
  g_Barred : mg "Barred" = some (.ref (ct 11))
  g_NoPlace : mg "NoPlace" = some (.ref (ct 12))
  g_NoNumber : mg "NoNumber" = some (.ref (ct 13))
  F_NoRow_i : ∃ fd, L2.Fun K "__init__" "NoRow.__init__" s_NoRow_i (fa 27) fd
  ox_NoRow : OxC K mg (ct 10) (fa 27) "NoRow"
  xf_NoRow : L2.XfC K (ct 10)
  xn_NoRow_number : PySem.W.findIn K (.ref (ct 10)) "number" = some none
  F_Barred_i : ∃ fd, L2.Fun K "__init__" "Barred.__init__" s_Barred_i (fa 28) fd
  ox_Barred : OxC K mg (ct 11) (fa 28) "Barred"
  xf_Barred : L2.XfC K (ct 11)
  xn_Barred_length : PySem.W.findIn K (.ref (ct 11)) "length" = some none
  F_TooMany_i : ∃ fd, L2.Fun K "__init__" "TooMany.__init__" s_TooMany_i (fa 25) fd
  ox_TooMany : OxC K mg (ct 8) (fa 25) "TooMany"
  xf_TooMany : L2.XfC K (ct 8)
  xn_TooMany_many : PySem.W.findIn K (.ref (ct 8)) "many" = some none
  F_NoWord_i : ∃ fd, L2.Fun K "__init__" "NoWord.__init__" s_NoWord_i (fa 26) fd
  ox_NoWord : OxC K mg (ct 9) (fa 26) "NoWord"
  xf_NoWord : L2.XfC K (ct 9)
  xn_NoWord_number : PySem.W.findIn K (.ref (ct 9)) "number" = some none
  F_NoPlace_i : ∃ fd, L2.Fun K "__init__" "NoPlace.__init__" s_NoPlace_i (fa 29) fd
  ox_NoPlace : OxC K mg (ct 12) (fa 29) "NoPlace"
  xf_NoPlace : L2.XfC K (ct 12)
  xn_NoPlace_place : PySem.W.findIn K (.ref (ct 12)) "place" = some none
  bi_BandError : BaseI K mg (ct 6) "BandError"
  er_NoSigns : ErrC K mg (ct 7) "NoSigns"
  ec_NoSigns : ExcC K (ct 7)
  ec_TooMany : ExcC K (ct 8)
  ec_NoWord : ExcC K (ct 9)
  ec_NoRow : ExcC K (ct 10)
  ec_Barred : ExcC K (ct 11)
  ec_NoPlace : ExcC K (ct 12)
  er_NoNumber : ErrC K mg (ct 13) "NoNumber"
  ec_NoNumber : ExcC K (ct 13)
  ks_bool_err7 : PySem.W.kitOne K (.ref (ct 7)) (.type "bool") = some false
  ks_bool_err8 : PySem.W.kitOne K (.ref (ct 8)) (.type "bool") = some false
  ks_bool_err9 : PySem.W.kitOne K (.ref (ct 9)) (.type "bool") = some false
  ks_bool_err10 : PySem.W.kitOne K (.ref (ct 10)) (.type "bool") = some false
  ks_bool_err11 : PySem.W.kitOne K (.ref (ct 11)) (.type "bool") = some false
  ks_bool_err12 : PySem.W.kitOne K (.ref (ct 12)) (.type "bool") = some false
  ks_bool_err13 : PySem.W.kitOne K (.ref (ct 13)) (.type "bool") = some false
  ks_int_err7 : PySem.W.kitOne K (.ref (ct 7)) (.type "int") = some false
  ks_int_err8 : PySem.W.kitOne K (.ref (ct 8)) (.type "int") = some false
  ks_int_err9 : PySem.W.kitOne K (.ref (ct 9)) (.type "int") = some false
  ks_int_err10 : PySem.W.kitOne K (.ref (ct 10)) (.type "int") = some false
  ks_int_err11 : PySem.W.kitOne K (.ref (ct 11)) (.type "int") = some false
  ks_int_err12 : PySem.W.kitOne K (.ref (ct 12)) (.type "int") = some false
  ks_int_err13 : PySem.W.kitOne K (.ref (ct 13)) (.type "int") = some false
  ks_str_err7 : PySem.W.kitOne K (.ref (ct 7)) (.type "str") = some false
  ks_str_err8 : PySem.W.kitOne K (.ref (ct 8)) (.type "str") = some false
  ks_str_err9 : PySem.W.kitOne K (.ref (ct 9)) (.type "str") = some false
  ks_str_err10 : PySem.W.kitOne K (.ref (ct 10)) (.type "str") = some false
  ks_str_err11 : PySem.W.kitOne K (.ref (ct 11)) (.type "str") = some false
  ks_str_err12 : PySem.W.kitOne K (.ref (ct 12)) (.type "str") = some false
  ks_str_err13 : PySem.W.kitOne K (.ref (ct 13)) (.type "str") = some false
  z_all : mg "all" = none
  z_any : mg "any" = none
  z_bool : mg "bool" = none
  z_enumerate : mg "enumerate" = none
  z_int : mg "int" = none
  z_isinstance : mg "isinstance" = none
  z_len : mg "len" = none
  z_list : mg "list" = none
  z_max : mg "max" = none
  z_range : mg "range" = none
  z_sorted : mg "sorted" = none
  z_str : mg "str" = none
  z_sum : mg "sum" = none
  me_Band_ending : Meth K (ct 0) "ending" (fa 11)
  me_Band_found_places : Meth K (ct 0) "found_places" (fa 10)
  me_Band_led : Meth K (ct 0) "led" (fa 13)
  me_Band_places : Meth K (ct 0) "places" (fa 12)
  k_KNOWN : ∃ t, mg "KNOWN" = some (.str "abcdefghijklmnopqrstuvwxyz0123456789" t)
  k_LONGEST_WORD : ∃ t, mg "LONGEST_WORD" = some (.int 5 t)
  k_MOST_WORDS : ∃ t, mg "MOST_WORDS" = some (.int 6 t)
section
variable {P : Program} {w : World} {K : PySem.W.Frag} {mg : Str → Option Value} {base : Heap} {ct fa : Nat → Addr}
theorem is_bool (T : Txt K mg ct fa) : IsOk K ct (.type "bool") tb_bool := by
  intro k b h
  cases k with
  | ty n =>
    simp only [tb_bool] at h
    split at h
    · rename_i q; subst q; cases h; exact ⟨kit_ty (by decide +kernel), trivial⟩
    split at h
    · rename_i q; subst q; cases h; exact ⟨kit_ty (by decide +kernel), trivial⟩
    split at h
    · rename_i q; subst q; cases h; exact ⟨kit_ty (by decide +kernel), trivial⟩
    split at h
    · rename_i q; subst q; cases h; exact ⟨kit_ty (by decide +kernel), trivial⟩
    split at h
    · rename_i q; subst q; cases h; exact ⟨kit_ty (by decide +kernel), trivial⟩
    split at h
    · rename_i q; subst q; cases h; exact ⟨kit_ty (by decide +kernel), trivial⟩
    split at h
    · rename_i q; subst q; cases h; exact ⟨kit_ty (by decide +kernel), trivial⟩
    · cases h
  | own n => cases h
  | err n =>
    simp only [tb_bool] at h
    split at h
    · rename_i q; subst q; cases h; exact ⟨T.ks_bool_err7, T.ec_NoSigns⟩
    split at h
    · rename_i q; subst q; cases h; exact ⟨T.ks_bool_err8, T.ec_TooMany⟩
    split at h
    · rename_i q; subst q; cases h; exact ⟨T.ks_bool_err9, T.ec_NoWord⟩
    split at h
    · rename_i q; subst q; cases h; exact ⟨T.ks_bool_err10, T.ec_NoRow⟩
    split at h
    · rename_i q; subst q; cases h; exact ⟨T.ks_bool_err11, T.ec_Barred⟩
    split at h
    · rename_i q; subst q; cases h; exact ⟨T.ks_bool_err12, T.ec_NoPlace⟩
    split at h
    · rename_i q; subst q; cases h; exact ⟨T.ks_bool_err13, T.ec_NoNumber⟩
    · cases h
  | no => cases h
theorem is_int (T : Txt K mg ct fa) : IsOk K ct (.type "int") tb_int := by
  intro k b h
  cases k with
  | ty n =>
    simp only [tb_int] at h
    split at h
    · rename_i q; subst q; cases h; exact ⟨kit_ty (by decide +kernel), trivial⟩
    split at h
    · rename_i q; subst q; cases h; exact ⟨kit_ty (by decide +kernel), trivial⟩
    split at h
    · rename_i q; subst q; cases h; exact ⟨kit_ty (by decide +kernel), trivial⟩
    split at h
    · rename_i q; subst q; cases h; exact ⟨kit_ty (by decide +kernel), trivial⟩
    split at h
    · rename_i q; subst q; cases h; exact ⟨kit_ty (by decide +kernel), trivial⟩
    split at h
    · rename_i q; subst q; cases h; exact ⟨kit_ty (by decide +kernel), trivial⟩
    split at h
    · rename_i q; subst q; cases h; exact ⟨kit_ty (by decide +kernel), trivial⟩
    · cases h
  | own n => cases h
  | err n =>
    simp only [tb_int] at h
    split at h
    · rename_i q; subst q; cases h; exact ⟨T.ks_int_err7, T.ec_NoSigns⟩
    split at h
    · rename_i q; subst q; cases h; exact ⟨T.ks_int_err8, T.ec_TooMany⟩
    split at h
    · rename_i q; subst q; cases h; exact ⟨T.ks_int_err9, T.ec_NoWord⟩
    split at h
    · rename_i q; subst q; cases h; exact ⟨T.ks_int_err10, T.ec_NoRow⟩
    split at h
    · rename_i q; subst q; cases h; exact ⟨T.ks_int_err11, T.ec_Barred⟩
    split at h
    · rename_i q; subst q; cases h; exact ⟨T.ks_int_err12, T.ec_NoPlace⟩
    split at h
    · rename_i q; subst q; cases h; exact ⟨T.ks_int_err13, T.ec_NoNumber⟩
    · cases h
  | no => cases h
theorem is_str (T : Txt K mg ct fa) : IsOk K ct (.type "str") tb_str := by
  intro k b h
  cases k with
  | ty n =>
    simp only [tb_str] at h
    split at h
    · rename_i q; subst q; cases h; exact ⟨kit_ty (by decide +kernel), trivial⟩
    split at h
    · rename_i q; subst q; cases h; exact ⟨kit_ty (by decide +kernel), trivial⟩
    split at h
    · rename_i q; subst q; cases h; exact ⟨kit_ty (by decide +kernel), trivial⟩
    split at h
    · rename_i q; subst q; cases h; exact ⟨kit_ty (by decide +kernel), trivial⟩
    split at h
    · rename_i q; subst q; cases h; exact ⟨kit_ty (by decide +kernel), trivial⟩
    split at h
    · rename_i q; subst q; cases h; exact ⟨kit_ty (by decide +kernel), trivial⟩
    split at h
    · rename_i q; subst q; cases h; exact ⟨kit_ty (by decide +kernel), trivial⟩
    · cases h
  | own n => cases h
  | err n =>
    simp only [tb_str] at h
    split at h
    · rename_i q; subst q; cases h; exact ⟨T.ks_str_err7, T.ec_NoSigns⟩
    split at h
    · rename_i q; subst q; cases h; exact ⟨T.ks_str_err8, T.ec_TooMany⟩
    split at h
    · rename_i q; subst q; cases h; exact ⟨T.ks_str_err9, T.ec_NoWord⟩
    split at h
    · rename_i q; subst q; cases h; exact ⟨T.ks_str_err10, T.ec_NoRow⟩
    split at h
    · rename_i q; subst q; cases h; exact ⟨T.ks_str_err11, T.ec_Barred⟩
    split at h
    · rename_i q; subst q; cases h; exact ⟨T.ks_str_err12, T.ec_NoPlace⟩
    split at h
    · rename_i q; subst q; cases h; exact ⟨T.ks_str_err13, T.ec_NoNumber⟩
    · cases h
  | no => cases h
theorem sc_NoRow_i : FnScope ["self", "number"] ["self", "number"] (L2.defScope s_NoRow_i) := ⟨rfl, rfl, rfl, by decide +kernel, rfl, by decide +kernel, by decide +kernel⟩
theorem cal_NoRow_i (T : Txt K mg ct fa) : Cal P w K mg base 1 (fa 27) (spX1 K (ct 10) "number") := by
  obtain ⟨fd, F⟩ := T.F_NoRow_i
  refine ⟨⟨fd, ["self", "number"], x1_ok (k := 0) (t := "another sign") F sc_NoRow_i T.ox_NoRow.o T.xn_NoRow_number fun cdv A outer s H E => ?_, ?_⟩, F.kp⟩
  · have nd := sc_NoRow_i.nd
    exact pss_cons (ps_expr (pe_binit T.bi_BandError (by rfl) (pa_cons (pe_var (i := 0) rfl (.inl rfl)) (pa_cons pe_str pa_nil)))) (pss_one (ps_ost (pe_var (i := 0) rfl (.inl rfl)) (pe_var (i := 1) rfl (.inl rfl))))
  · exact F.binds fun _ _ _ _ _ _ us hl => match us, hl with | [_, _], _ => rfl
theorem sc_Barred_i : FnScope ["self", "length"] ["self", "length"] (L2.defScope s_Barred_i) := ⟨rfl, rfl, rfl, by decide +kernel, rfl, by decide +kernel, by decide +kernel⟩
theorem cal_Barred_i (T : Txt K mg ct fa) : Cal P w K mg base 1 (fa 28) (spX1 K (ct 11) "length") := by
  obtain ⟨fd, F⟩ := T.F_Barred_i
  refine ⟨⟨fd, ["self", "length"], x1_ok (k := 0) (t := "a barred word") F sc_Barred_i T.ox_Barred.o T.xn_Barred_length fun cdv A outer s H E => ?_, ?_⟩, F.kp⟩
  · have nd := sc_Barred_i.nd
    exact pss_cons (ps_expr (pe_binit T.bi_BandError (by rfl) (pa_cons (pe_var (i := 0) rfl (.inl rfl)) (pa_cons pe_str pa_nil)))) (pss_one (ps_ost (pe_var (i := 0) rfl (.inl rfl)) (pe_var (i := 1) rfl (.inl rfl))))
  · exact F.binds fun _ _ _ _ _ _ us hl => match us, hl with | [_, _], _ => rfl
theorem sc_TooMany_i : FnScope ["self", "many"] ["self", "many"] (L2.defScope s_TooMany_i) := ⟨rfl, rfl, rfl, by decide +kernel, rfl, by decide +kernel, by decide +kernel⟩
theorem cal_TooMany_i (T : Txt K mg ct fa) : Cal P w K mg base 1 (fa 25) (spX1 K (ct 8) "many") := by
  obtain ⟨fd, F⟩ := T.F_TooMany_i
  refine ⟨⟨fd, ["self", "many"], x1_ok (k := 0) (t := "too many words") F sc_TooMany_i T.ox_TooMany.o T.xn_TooMany_many fun cdv A outer s H E => ?_, ?_⟩, F.kp⟩
  · have nd := sc_TooMany_i.nd
    exact pss_cons (ps_expr (pe_binit T.bi_BandError (by rfl) (pa_cons (pe_var (i := 0) rfl (.inl rfl)) (pa_cons pe_str pa_nil)))) (pss_one (ps_ost (pe_var (i := 0) rfl (.inl rfl)) (pe_var (i := 1) rfl (.inl rfl))))
  · exact F.binds fun _ _ _ _ _ _ us hl => match us, hl with | [_, _], _ => rfl
theorem sc_NoWord_i : FnScope ["self", "number"] ["self", "number"] (L2.defScope s_NoWord_i) := ⟨rfl, rfl, rfl, by decide +kernel, rfl, by decide +kernel, by decide +kernel⟩
theorem cal_NoWord_i (T : Txt K mg ct fa) : Cal P w K mg base 1 (fa 26) (spX1 K (ct 9) "number") := by
  obtain ⟨fd, F⟩ := T.F_NoWord_i
  refine ⟨⟨fd, ["self", "number"], x1_ok (k := 0) (t := "no word of the signs") F sc_NoWord_i T.ox_NoWord.o T.xn_NoWord_number fun cdv A outer s H E => ?_, ?_⟩, F.kp⟩
  · have nd := sc_NoWord_i.nd
    exact pss_cons (ps_expr (pe_binit T.bi_BandError (by rfl) (pa_cons (pe_var (i := 0) rfl (.inl rfl)) (pa_cons pe_str pa_nil)))) (pss_one (ps_ost (pe_var (i := 0) rfl (.inl rfl)) (pe_var (i := 1) rfl (.inl rfl))))
  · exact F.binds fun _ _ _ _ _ _ us hl => match us, hl with | [_, _], _ => rfl
theorem sc_NoPlace_i : FnScope ["self", "place"] ["self", "place"] (L2.defScope s_NoPlace_i) := ⟨rfl, rfl, rfl, by decide +kernel, rfl, by decide +kernel, by decide +kernel⟩
theorem cal_NoPlace_i (T : Txt K mg ct fa) : Cal P w K mg base 1 (fa 29) (spX1 K (ct 12) "place") := by
  obtain ⟨fd, F⟩ := T.F_NoPlace_i
  refine ⟨⟨fd, ["self", "place"], x1_ok (k := 0) (t := "no such place") F sc_NoPlace_i T.ox_NoPlace.o T.xn_NoPlace_place fun cdv A outer s H E => ?_, ?_⟩, F.kp⟩
  · have nd := sc_NoPlace_i.nd
    exact pss_cons (ps_expr (pe_binit T.bi_BandError (by rfl) (pa_cons (pe_var (i := 0) rfl (.inl rfl)) (pa_cons pe_str pa_nil)))) (pss_one (ps_ost (pe_var (i := 0) rfl (.inl rfl)) (pe_var (i := 1) rfl (.inl rfl))))
  · exact F.binds fun _ _ _ _ _ _ us hl => match us, hl with | [_, _], _ => rfl
theorem sc_are_signs : FnScope ["thing", "sign"] ["thing"] (L2.defScope s_are_signs) := ⟨rfl, rfl, rfl, by decide +kernel, rfl, by decide +kernel, by decide +kernel⟩
theorem ok_are_signs (T : Txt K mg ct fa) {fd : FuncData} (F : L2.Fun K "are_signs" "are_signs" s_are_signs (fa 4) fd) : FnOk P w K mg base (L2.CX P w) 1 (fa 4) fd ["thing"] (spP K ct [false] false m_are_signs) := by
  refine fn_ok (k := 0) (N := ["thing", "sign"]) F sc_are_signs rfl fun cdv A outer s H E hr => ?_
  have nd := sc_are_signs.nd
  exact (p_cons (p_if (PW.pt (t_or (t_not (t_val (e_isi (by rfl) T.z_isinstance (e_b (e_loc 0)) (e_clsT (by rfl) T.z_str (by decide +kernel)) (.ty _) (is_str T)))) (t_or (t_lt (e_len T.z_len (by rfl)  (e_b (e_loc 0))) e_int) (t_or1 (t_gt (e_len T.z_len (by rfl)  (e_b (e_loc 0))) e_int))))) (p_one (p_ret e_bl)) p_nil)
    (p_cons (p_for (passes_of rfl) rfl (tg_nm 1) (i_any (m := false) o1_own fit1 (e_loc 0)) (pg_name (i := 1) nd rfl (by first | exact Or.inl rfl | exact Or.inr rfl)) (p_cons (p_if (PW.pt (t_or (t_notIn hr (e_loc 1) (e_b (e_gstr T.k_KNOWN (by rfl)))) (t_or1 (t_gt (e_count (e_b (e_loc 0)) (e_b (e_loc 1))) e_int)))) (p_one (p_ret e_bl)) p_nil)
    (p_fgt 1 p_nil)))
    (p_one (p_ret e_bl))))
theorem cal_are_signs (T : Txt K mg ct fa) : Cal P w K mg base 1 (fa 4) (spP K ct [false] false m_are_signs) := by
  obtain ⟨fd, F⟩ := T.F_are_signs
  refine ⟨⟨fd, ["thing"], ok_are_signs T F, ?_⟩, F.kp⟩
  exact F.binds fun _ _ _ _ _ _ us hl => match us, hl with | [_], _ => rfl
theorem sc_is_word : FnScope ["thing", "signs", "sign"] ["thing", "signs"] (L2.defScope s_is_word) := ⟨rfl, rfl, rfl, by decide +kernel, rfl, by decide +kernel, by decide +kernel⟩
theorem ok_is_word (T : Txt K mg ct fa) {fd : FuncData} (F : L2.Fun K "is_word" "is_word" s_is_word (fa 5) fd) : FnOk P w K mg base (L2.CX P w) 1 (fa 5) fd ["thing", "signs"] (spP K ct [false, false] false m_is_word) := by
  refine fn_ok (k := 0) (N := ["thing", "signs", "sign"]) F sc_is_word rfl fun cdv A outer s H E hr => ?_
  have nd := sc_is_word.nd
  exact (p_cons (p_if (PW.pt (t_or (t_not (t_val (e_isi (by rfl) T.z_isinstance (e_b (e_loc 0)) (e_clsT (by rfl) T.z_str (by decide +kernel)) (.ty _) (is_str T)))) (t_or (t_eq hr (e_b (e_loc 0)) (e_b e_str)) (t_or1 (t_gt (e_len T.z_len (by rfl)  (e_b (e_loc 0))) (e_gint T.k_LONGEST_WORD (by rfl))))))) (p_one (p_ret e_bl)) p_nil)
    (p_one (p_ret (e_all T.z_all (by rfl) rfl (e_b (e_n (e_comp [("sign", 2)] rfl rfl nd (i_any (m := true) o0_own fit0 (e_b (e_loc 0))) (blkOk_by (own := [("sign", 2)]) (N := ["thing", "signs", "sign"]) (sc := L2.defScope s_is_word) (by decide +kernel)) (fun _ _ _ _ _ => (pg_name (i := 2) nd rfl (by first | exact Or.inl rfl | exact Or.inr rfl))) (tg_nm 2) (by decide) (fun _ _ _ _ _ => ts_nil) (fun _ _ _ _ _ => (e_in hr (e_loc 2) (e_b (e_loc 1)))))))))))
theorem cal_is_word (T : Txt K mg ct fa) : Cal P w K mg base 1 (fa 5) (spP K ct [false, false] false m_is_word) := by
  obtain ⟨fd, F⟩ := T.F_is_word
  refine ⟨⟨fd, ["thing", "signs"], ok_is_word T F, ?_⟩, F.kp⟩
  exact F.binds fun _ _ _ _ _ _ us hl => match us, hl with | [_, _], _ => rfl
theorem sc_first_bad : FnScope ["band", "row", "length", "word"] ["band", "row"] (L2.defScope s_first_bad) := ⟨rfl, rfl, rfl, by decide +kernel, rfl, by decide +kernel, by decide +kernel⟩
theorem ok_first_bad (T : Txt K mg ct fa) {fd : FuncData} (F : L2.Fun K "first_bad" "first_bad" s_first_bad (fa 7) fd) : FnOk P w K mg base (L2.CX P w) 1 (fa 7) fd ["band", "row"] (spP K ct [true, false] false m_first_bad) := by
  refine fn_ok (k := 0) (N := ["band", "row", "length", "word"]) F sc_first_bad rfl fun cdv A outer s H E hr => ?_
  have nd := sc_first_bad.nd
  exact (p_cons (p_for (passes_of rfl) rfl (tg_nm 2) (i_rng2 (by rfl) T.z_range (a_cons (m := false) e_int (a_cons (m := false) (e_add (e_b (e_len T.z_len (by rfl)  (e_b (e_loc 1)))) (e_b e_int)) a_nil))) (pg_name (i := 2) nd rfl (by first | exact Or.inl rfl | exact Or.inr rfl)) (p_cons (p_for (passes_of rfl) rfl (tg_nm 3) (i_any (m := false) o1_own fit1 (e_fld 0 T.cl_0 T.na_0_barred (e_locB 0))) (pg_name (i := 3) nd rfl (by first | exact Or.inl rfl | exact Or.inr rfl)) (p_cons (p_if (t_eq hr (e_b (e_slice (e_b (e_loc 1)) (o_some (e_max2 T.z_max (by rfl) rfl e_int (e_sub (e_loc 2) (e_len T.z_len (by rfl)  (e_b (e_loc 3)))))) (o_some (e_loc 2)))) (e_b (e_loc 3))) (p_one (p_ret (e_loc 2))) p_nil)
    (p_fgt 3 p_nil)))
    (p_fgt 2 p_nil)))
    (p_one (p_ret e_non)))
theorem cal_first_bad (T : Txt K mg ct fa) : Cal P w K mg base 1 (fa 7) (spP K ct [true, false] false m_first_bad) := by
  obtain ⟨fd, F⟩ := T.F_first_bad
  refine ⟨⟨fd, ["band", "row"], ok_first_bad T F, ?_⟩, F.kp⟩
  exact F.binds fun _ _ _ _ _ _ us hl => match us, hl with | [_, _], _ => rfl
theorem sc_Band_places : FnScope ["self"] ["self"] (L2.defScope s_Band_places) := ⟨rfl, rfl, rfl, by decide +kernel, rfl, by decide +kernel, by decide +kernel⟩
theorem ok_Band_places (T : Txt K mg ct fa) {fd : FuncData} (F : L2.Fun K "places" "Band.places" s_Band_places (fa 12) fd) : FnOk P w K mg base (L2.CX P w) 1 (fa 12) fd ["self"] (spP K ct [true] false m_Band_places) := by
  refine fn_ok (k := 0) (N := ["self"]) F sc_Band_places rfl fun cdv A outer s H E hr => ?_
  have nd := sc_Band_places.nd
  exact (p_one (p_ret (e_n (e_list T.z_list (by rfl)  (e_b (e_fld 0 T.cl_0 T.na_0_known (e_locB 0)))))))
theorem cal_Band_places (T : Txt K mg ct fa) : Cal P w K mg base 1 (fa 12) (spP K ct [true] false m_Band_places) := by
  obtain ⟨fd, F⟩ := T.F_Band_places
  refine ⟨⟨fd, ["self"], ok_Band_places T F, ?_⟩, F.kp⟩
  exact F.binds fun _ _ _ _ _ _ us hl => match us, hl with | [_], _ => rfl
theorem sc_law_cell : FnScope ["_law_script", "_law_place"] ["_law_script", "_law_place"] (L2.defScope s_law_cell) := ⟨rfl, rfl, rfl, by decide +kernel, rfl, by decide +kernel, by decide +kernel⟩
theorem ok_law_cell (T : Txt K mg ct fa) {fd : FuncData} (F : L2.Fun K "_law_cell" "_law_cell" s_law_cell (fa 16) fd) : FnOk P w K mg base (L2.CX P w) 1 (fa 16) fd ["_law_script", "_law_place"] (spP K ct [false, false] false m_law_cell) := by
  refine fn_ok (k := 0) (N := ["_law_script", "_law_place"]) F sc_law_cell rfl fun cdv A outer s H E hr => ?_
  have nd := sc_law_cell.nd
  exact (p_cons (p_if (t_ge (e_loc 1) (e_len T.z_len (by rfl)  (e_b (e_loc 0)))) (p_one (p_ret e_int)) p_nil)
    (p_one (p_ret (e_ix (hu_of hr) (e_b (e_loc 0)) (e_loc 1)))))
theorem cal_law_cell (T : Txt K mg ct fa) : Cal P w K mg base 1 (fa 16) (spP K ct [false, false] false m_law_cell) := by
  obtain ⟨fd, F⟩ := T.F_law_cell
  refine ⟨⟨fd, ["_law_script", "_law_place"], ok_law_cell T F, ?_⟩, F.kp⟩
  exact F.binds fun _ _ _ _ _ _ us hl => match us, hl with | [_, _], _ => rfl
theorem sc_law_draw : FnScope ["_law_cell_here", "_law_turn", "_law_many", "_law_digits", "_law_step", "_law_number_here"] ["_law_cell_here", "_law_turn", "_law_many"] (L2.defScope s_law_draw) := ⟨rfl, rfl, rfl, by decide +kernel, rfl, by decide +kernel, by decide +kernel⟩
theorem ok_law_draw (T : Txt K mg ct fa) {fd : FuncData} (F : L2.Fun K "_law_draw" "_law_draw" s_law_draw (fa 17) fd) : FnOk P w K mg base (L2.CX P w) 1 (fa 17) fd ["_law_cell_here", "_law_turn", "_law_many"] (spP K ct [false, false, false] false m_law_draw) := by
  refine fn_ok (k := 0) (N := ["_law_cell_here", "_law_turn", "_law_many", "_law_digits", "_law_step", "_law_number_here"]) F sc_law_draw rfl fun cdv A outer s H E hr => ?_
  have nd := sc_law_draw.nd
  exact (p_cons (p_if (PW.pt (t_and (t_eq hr (e_b (e_mod (e_loc 0) e_int)) (e_b e_int)) (t_and1 (t_gt (e_loc 0) (e_pow e_int e_int))))) (p_cons (p_set (i := 3) nd rfl (by first | exact Or.inl rfl | exact Or.inr rfl) (e_fdiv (e_loc 0) e_int))
    (p_cons (p_for (passes_of rfl) rfl (tg_nm 4) (i_rng1 (by rfl) T.z_range (a_cons (m := false) (e_loc 1) a_nil)) (pg_name (i := 4) nd rfl (by first | exact Or.inl rfl | exact Or.inr rfl)) (p_cons (p_set (i := 3) nd rfl (by first | exact Or.inl rfl | exact Or.inr rfl) (e_fdiv (e_loc 3) e_int))
    (p_fgt 4 p_nil)))
    (p_one (p_ret (e_mod (e_mod (e_loc 3) e_int) (e_loc 2)))))) p_nil)
    (p_cons (p_set (i := 5) nd rfl (by first | exact Or.inl rfl | exact Or.inr rfl) (e_add (e_b (e_add (e_b (e_mod (e_loc 0) e_int)) (e_b (e_mul e_int (e_loc 1))))) (e_b e_int)))
    (p_one (p_ret (e_mod (e_mod (e_add (e_b (e_mod (e_mul (e_loc 5) (e_loc 5)) e_int)) (e_b (e_fdiv (e_loc 5) e_int))) e_int) (e_loc 2))))))
theorem cal_law_draw (T : Txt K mg ct fa) : Cal P w K mg base 1 (fa 17) (spP K ct [false, false, false] false m_law_draw) := by
  obtain ⟨fd, F⟩ := T.F_law_draw
  refine ⟨⟨fd, ["_law_cell_here", "_law_turn", "_law_many"], ok_law_draw T F, ?_⟩, F.kp⟩
  exact F.binds fun _ _ _ _ _ _ us hl => match us, hl with | [_, _, _], _ => rfl
theorem sc_law_is_good : FnScope ["_law_row", "_law_words_here", "_law_word_here"] ["_law_row", "_law_words_here"] (L2.defScope s_law_is_good) := ⟨rfl, rfl, rfl, by decide +kernel, rfl, by decide +kernel, by decide +kernel⟩
theorem ok_law_is_good (T : Txt K mg ct fa) {fd : FuncData} (F : L2.Fun K "_law_is_good" "_law_is_good" s_law_is_good (fa 21) fd) : FnOk P w K mg base (L2.CX P w) 1 (fa 21) fd ["_law_row", "_law_words_here"] (spP K ct [false, false] false m_law_is_good) := by
  refine fn_ok (k := 0) (N := ["_law_row", "_law_words_here", "_law_word_here"]) F sc_law_is_good rfl fun cdv A outer s H E hr => ?_
  have nd := sc_law_is_good.nd
  exact (p_one (p_ret (e_not (e_any T.z_any (by rfl) rfl (e_b (e_n (e_comp [("_law_word_here", 2)] rfl rfl nd (i_any (m := true) o0_own fit0 (e_b (e_loc 1))) (blkOk_by (own := [("_law_word_here", 2)]) (N := ["_law_row", "_law_words_here", "_law_word_here"]) (sc := L2.defScope s_law_is_good) (by decide +kernel)) (fun _ _ _ _ _ => (pg_name (i := 2) nd rfl (by first | exact Or.inl rfl | exact Or.inr rfl))) (tg_nm 2) (by decide) (fun _ _ _ _ _ => ts_nil) (fun _ _ _ _ _ => (e_in hr (e_loc 2) (e_b (e_loc 0)))))))))))
theorem cal_law_is_good (T : Txt K mg ct fa) : Cal P w K mg base 1 (fa 21) (spP K ct [false, false] false m_law_is_good) := by
  obtain ⟨fd, F⟩ := T.F_law_is_good
  refine ⟨⟨fd, ["_law_row", "_law_words_here"], ok_law_is_good T F, ?_⟩, F.kp⟩
  exact F.binds fun _ _ _ _ _ _ us hl => match us, hl with | [_, _], _ => rfl
theorem sc_law_rows : FnScope ["_law_signs_here", "_law_length", "_law_found", "_law_step", "_law_longer", "_law_row", "_law_sign"] ["_law_signs_here", "_law_length"] (L2.defScope s_law_rows) := ⟨rfl, rfl, rfl, by decide +kernel, rfl, by decide +kernel, by decide +kernel⟩
theorem ok_law_rows (T : Txt K mg ct fa) {fd : FuncData} (F : L2.Fun K "_law_rows" "_law_rows" s_law_rows (fa 22) fd) : FnOk P w K mg base (L2.CX P w) 1 (fa 22) fd ["_law_signs_here", "_law_length"] (spP K ct [false, false] false m_law_rows) := by
  refine fn_ok (k := 0) (N := ["_law_signs_here", "_law_length", "_law_found", "_law_step", "_law_longer", "_law_row", "_law_sign"]) F sc_law_rows rfl fun cdv A outer s H E hr => ?_
  have nd := sc_law_rows.nd
  exact (p_cons (p_set (i := 2) nd rfl (by first | exact Or.inl rfl | exact Or.inr rfl) (e_n (e_lst (k := 0) 1 (a_cons (m := false) e_str a_nil))))
    (p_cons (p_for (passes_of rfl) rfl (tg_nm 3) (i_rng1 (by rfl) T.z_range (a_cons (m := false) (e_loc 1) a_nil)) (pg_name (i := 3) nd rfl (by first | exact Or.inl rfl | exact Or.inr rfl)) (p_cons (p_own (i := 4) nd rfl (by first | exact Or.inl rfl | exact Or.inr rfl) (e_lst (k := 0) 0 a_nil))
    (p_cons (p_for (passes_of rfl) rfl (tg_nm 5) (i_any (m := false) o1_own fit1 (e_loc 2)) (pg_name (i := 5) nd rfl (by first | exact Or.inl rfl | exact Or.inr rfl)) (p_cons (p_ext 4 (e_comp [("_law_sign", 6)] rfl rfl nd (i_any (m := true) o0_own fit0 (e_b (e_loc 0))) (blkOk_by (own := [("_law_sign", 6)]) (N := ["_law_signs_here", "_law_length", "_law_found", "_law_step", "_law_longer", "_law_row", "_law_sign"]) (sc := L2.defScope s_law_rows) (by decide +kernel)) (fun _ _ _ _ _ => (pg_name (i := 6) nd rfl (by first | exact Or.inl rfl | exact Or.inr rfl))) (tg_nm 6) (by decide) (fun _ _ _ _ _ => ts_nil) (fun _ _ _ _ _ => (e_add (e_b (e_loc 5)) (e_b (e_loc 6))))))
    (p_fgt 5 p_nil)))
    (p_frz 4 (p_cons (p_set (i := 2) nd rfl (by first | exact Or.inl rfl | exact Or.inr rfl) (e_loc 4))
    (p_fgt 3 (p_fgt 4 p_nil)))))))
    (p_one (p_ret (e_loc 2)))))
theorem cal_law_rows (T : Txt K mg ct fa) : Cal P w K mg base 1 (fa 22) (spP K ct [false, false] false m_law_rows) := by
  obtain ⟨fd, F⟩ := T.F_law_rows
  refine ⟨⟨fd, ["_law_signs_here", "_law_length"], ok_law_rows T F, ?_⟩, F.kp⟩
  exact F.binds fun _ _ _ _ _ _ us hl => match us, hl with | [_, _], _ => rfl
theorem sc_law_number : FnScope ["_law_found", "_law_due"] ["_law_found", "_law_due"] (L2.defScope s_law_number) := ⟨rfl, rfl, rfl, by decide +kernel, rfl, by decide +kernel, by decide +kernel⟩
theorem ok_law_number (T : Txt K mg ct fa) {fd : FuncData} (F : L2.Fun K "_law_number" "_law_number" s_law_number (fa 23) fd) : FnOk P w K mg base (L2.CX P w) 1 (fa 23) fd ["_law_found", "_law_due"] (spP K ct [false, false] false m_law_number) := by
  refine fn_ok (k := 0) (N := ["_law_found", "_law_due"]) F sc_law_number rfl fun cdv A outer s H E hr => ?_
  have nd := sc_law_number.nd
  exact (p_one (p_ret (e_and (e_isi (by rfl) T.z_isinstance (e_b (e_loc 0)) (e_clsT (by rfl) T.z_int (by decide +kernel)) (.ty _) (is_int T)) (e_and (e_not (e_isi (by rfl) T.z_isinstance (e_b (e_loc 0)) (e_clsT (by rfl) T.z_bool (by decide +kernel)) (.ty _) (is_bool T))) (e_one (e_eq hr (e_b (e_loc 0)) (e_b (e_loc 1))))))))
theorem cal_law_number (T : Txt K mg ct fa) : Cal P w K mg base 1 (fa 23) (spP K ct [false, false] false m_law_number) := by
  obtain ⟨fd, F⟩ := T.F_law_number
  refine ⟨⟨fd, ["_law_found", "_law_due"], ok_law_number T F, ?_⟩, F.kp⟩
  exact F.binds fun _ _ _ _ _ _ us hl => match us, hl with | [_, _], _ => rfl
theorem sc_Band_found_places : FnScope ["self", "found", "word", "length"] ["self"] (L2.defScope s_Band_found_places) := ⟨rfl, rfl, rfl, by decide +kernel, rfl, by decide +kernel, by decide +kernel⟩
theorem ok_Band_found_places (T : Txt K mg ct fa) {fd : FuncData} (F : L2.Fun K "found_places" "Band.found_places" s_Band_found_places (fa 10) fd) : FnOk P w K mg base (L2.CX P w) 2 (fa 10) fd ["self"] (spP K ct [true] false m_Band_found_places) := by
  refine fn_ok (k := 1) (N := ["self", "found", "word", "length"]) F sc_Band_found_places rfl fun cdv A outer s H E hr => ?_
  have nd := sc_Band_found_places.nd
  exact (p_cons (p_own (i := 1) nd rfl (by first | exact Or.inl rfl | exact Or.inr rfl) (e_disp1 e_str e_bl))
    (p_cons (p_for (passes_of rfl) rfl (tg_nm 2) (i_any (m := false) o1_own fit1 (e_fld 0 T.cl_0 T.na_0_barred (e_locB 0))) (pg_name (i := 2) nd rfl (by first | exact Or.inl rfl | exact Or.inr rfl)) (p_cons (p_for (passes_of rfl) rfl (tg_nm 3) (i_rng2 (by rfl) T.z_range (a_cons (m := false) e_int (a_cons (m := false) (e_len T.z_len (by rfl)  (e_b (e_loc 2))) a_nil))) (pg_name (i := 3) nd rfl (by first | exact Or.inl rfl | exact Or.inr rfl)) (p_cons (p_if (t_is (e_b (e_call (fr := false) (cal_first_bad T) T.g_first_bad (takes_of rfl rfl rfl rfl) hr (by decide) (by rfl) (a_cons (m := true) (e_locB 0) (a_cons (m := false) (e_slice (e_b (e_loc 2)) o_none (o_some (e_loc 3))) a_nil)))) e_non) (p_cons (p_put 1 (hu_of hr) (e_slice (e_b (e_loc 2)) o_none (o_some (e_loc 3))) e_bl)
    p_nil) p_nil)
    (p_fgt 3 p_nil)))
    (p_fgt 2 p_nil)))
    (p_one (p_ret (e_n (e_sorted T.z_sorted (by rfl) rfl (e_locB 1)))))))
theorem cal_Band_found_places (T : Txt K mg ct fa) : Cal P w K mg base 2 (fa 10) (spP K ct [true] false m_Band_found_places) := by
  obtain ⟨fd, F⟩ := T.F_Band_found_places
  refine ⟨⟨fd, ["self"], ok_Band_found_places T F, ?_⟩, F.kp⟩
  exact F.binds fun _ _ _ _ _ _ us hl => match us, hl with | [_], _ => rfl
theorem sc_Band_ending : FnScope ["self", "row", "start"] ["self", "row"] (L2.defScope s_Band_ending) := ⟨rfl, rfl, rfl, by decide +kernel, rfl, by decide +kernel, by decide +kernel⟩
theorem ok_Band_ending (T : Txt K mg ct fa) {fd : FuncData} (F : L2.Fun K "ending" "Band.ending" s_Band_ending (fa 11) fd) : FnOk P w K mg base (L2.CX P w) 2 (fa 11) fd ["self", "row"] (spP K ct [true, false] false m_Band_ending) := by
  refine fn_ok (k := 1) (N := ["self", "row", "start"]) F sc_Band_ending rfl fun cdv A outer s H E hr => ?_
  have nd := sc_Band_ending.nd
  exact (p_cons (p_if (t_isNot (e_b (e_call (fr := false) (cal_first_bad T) T.g_first_bad (takes_of rfl rfl rfl rfl) hr (by decide) (by rfl) (a_cons (m := true) (e_locB 0) (a_cons (m := false) (e_loc 1) a_nil)))) e_non) (p_one (p_ret e_non)) p_nil)
    (p_cons (p_set (i := 2) nd rfl (by first | exact Or.inl rfl | exact Or.inr rfl) (e_max2 T.z_max (by rfl) rfl e_int (e_sub (e_len T.z_len (by rfl)  (e_b (e_loc 1))) (e_gint T.k_LONGEST_WORD (by rfl)))))
    (p_cons (p_while 1000000 (passes_of rfl) (t_notIn hr (e_slice (e_b (e_loc 1)) (o_some (e_loc 2)) o_none) (e_b (e_fld 0 T.cl_0 T.na_0_known (e_locB 0)))) (p_cons (p_set (i := 2) nd rfl (by first | exact Or.inl rfl | exact Or.inr rfl) (e_add (e_b (e_loc 2)) (e_b e_int)))
    p_nil))
    (p_one (p_ret (e_slice (e_b (e_loc 1)) (o_some (e_loc 2)) o_none))))))
theorem cal_Band_ending (T : Txt K mg ct fa) : Cal P w K mg base 2 (fa 11) (spP K ct [true, false] false m_Band_ending) := by
  obtain ⟨fd, F⟩ := T.F_Band_ending
  refine ⟨⟨fd, ["self", "row"], ok_Band_ending T F, ?_⟩, F.kp⟩
  exact F.binds fun _ _ _ _ _ _ us hl => match us, hl with | [_, _], _ => rfl
theorem sc_law_signs : FnScope ["_law_cell_here", "_law_pool", "_law_found", "_law_turn", "_law_sign"] ["_law_cell_here"] (L2.defScope s_law_signs) := ⟨rfl, rfl, rfl, by decide +kernel, rfl, by decide +kernel, by decide +kernel⟩
theorem ok_law_signs (T : Txt K mg ct fa) {fd : FuncData} (F : L2.Fun K "_law_signs" "_law_signs" s_law_signs (fa 18) fd) : FnOk P w K mg base (L2.CX P w) 2 (fa 18) fd ["_law_cell_here"] (spP K ct [false] false m_law_signs) := by
  refine fn_ok (k := 1) (N := ["_law_cell_here", "_law_pool", "_law_found", "_law_turn", "_law_sign"]) F sc_law_signs rfl fun cdv A outer s H E hr => ?_
  have nd := sc_law_signs.nd
  exact (p_strT (i := 1) nd rfl (by first | exact Or.inl rfl | exact Or.inr rfl)
    (p_consT (PST.of (p_set (i := 2) nd rfl (by first | exact Or.inl rfl | exact Or.inr rfl) e_str))
    (p_consT (p_forT (passes_of rfl) rfl (tg_nm 3) (i_rng1 (by rfl) T.z_range (a_cons (m := false) (e_add (e_b e_int) (e_b (e_mod (e_loc 0) e_int))) a_nil)) (pg_name (i := 3) nd rfl (by first | exact Or.inl rfl | exact Or.inr rfl)) (p_draw (is := 4) (ik := 1) (iF := 2) nd rfl rfl rfl rfl rfl rfl (e_call (fr := false) (cal_law_draw T) T.g_law_draw (takes_of rfl rfl rfl rfl) hr (by decide) (by rfl) (a_cons (m := false) (e_fdiv (e_loc 0) e_int) (a_cons (m := false) (e_loc 3) (a_cons (m := false) (e_len T.z_len (by rfl)  (e_b (e_loc 1))) a_nil)))) (p_fgt 3 (p_fgt 4 p_nil))))
    (PSsT.of (p_one (p_ret (e_loc 2)))))))
theorem cal_law_signs (T : Txt K mg ct fa) : Cal P w K mg base 2 (fa 18) (spP K ct [false] false m_law_signs) := by
  obtain ⟨fd, F⟩ := T.F_law_signs
  refine ⟨⟨fd, ["_law_cell_here"], ok_law_signs T F, ?_⟩, F.kp⟩
  exact F.binds fun _ _ _ _ _ _ us hl => match us, hl with | [_], _ => rfl
theorem sc_law_word : FnScope ["_law_cell_here", "_law_signs_here", "_law_long", "_law_turn"] ["_law_cell_here", "_law_signs_here"] (L2.defScope s_law_word) := ⟨rfl, rfl, rfl, by decide +kernel, rfl, by decide +kernel, by decide +kernel⟩
theorem ok_law_word (T : Txt K mg ct fa) {fd : FuncData} (F : L2.Fun K "_law_word" "_law_word" s_law_word (fa 19) fd) : FnOk P w K mg base (L2.CX P w) 2 (fa 19) fd ["_law_cell_here", "_law_signs_here"] (spP K ct [false, false] false m_law_word) := by
  refine fn_ok (k := 1) (N := ["_law_cell_here", "_law_signs_here", "_law_long", "_law_turn"]) F sc_law_word rfl fun cdv A outer s H E hr => ?_
  have nd := sc_law_word.nd
  exact (p_cons (p_set (i := 2) nd rfl (by first | exact Or.inl rfl | exact Or.inr rfl) (e_ix (hu_of hr) (e_b (e_n (e_lst (k := 0) 8 (a_cons (m := false) e_int (a_cons (m := false) e_int (a_cons (m := false) e_int (a_cons (m := false) e_int (a_cons (m := false) e_int (a_cons (m := false) e_int (a_cons (m := false) e_int (a_cons (m := false) e_int a_nil))))))))))) (e_call (fr := false) (cal_law_draw T) T.g_law_draw (takes_of rfl rfl rfl rfl) hr (by decide) (by rfl) (a_cons (m := false) (e_loc 0) (a_cons (m := false) e_int (a_cons (m := false) e_int a_nil))))))
    (p_one (p_ret (e_join (e_b e_str) (e_b (e_n (e_comp [("_law_turn", 3)] rfl rfl nd (i_rng1 (by rfl) T.z_range (a_cons (m := false) (e_loc 2) a_nil)) (blkOk_by (own := [("_law_turn", 3)]) (N := ["_law_cell_here", "_law_signs_here", "_law_long", "_law_turn"]) (sc := L2.defScope s_law_word) (by decide +kernel)) (fun _ _ _ _ _ => (pg_name (i := 3) nd rfl (by first | exact Or.inl rfl | exact Or.inr rfl))) (tg_nm 3) (by decide) (fun _ _ _ _ _ => ts_nil) (fun _ _ _ _ _ => (e_ix (hu_of hr) (e_b (e_loc 1)) (e_call (fr := false) (cal_law_draw T) T.g_law_draw takes0 hr (by decide) (by rfl) (a_cons (m := false) (e_loc 0) (a_cons (m := false) (e_add (e_b e_int) (e_b (e_mul e_int (e_loc 3)))) (a_cons (m := false) (e_len T.z_len (by rfl)  (e_b (e_loc 1))) a_nil)))))))))))))
theorem cal_law_word (T : Txt K mg ct fa) : Cal P w K mg base 2 (fa 19) (spP K ct [false, false] false m_law_word) := by
  obtain ⟨fd, F⟩ := T.F_law_word
  refine ⟨⟨fd, ["_law_cell_here", "_law_signs_here"], ok_law_word T F, ?_⟩, F.kp⟩
  exact F.binds fun _ _ _ _ _ _ us hl => match us, hl with | [_, _], _ => rfl
theorem sc_check_row : FnScope ["band", "row", "number", "sign"] ["band", "row"] (L2.defScope s_check_row) := ⟨rfl, rfl, rfl, by decide +kernel, rfl, by decide +kernel, by decide +kernel⟩
theorem ok_check_row (T : Txt K mg ct fa) {fd : FuncData} (F : L2.Fun K "check_row" "check_row" s_check_row (fa 6) fd) : FnOk P w K mg base (L2.CX P w) 3 (fa 6) fd ["band", "row"] (spP K ct [true, false] false m_check_row) := by
  refine fn_ok (k := 2) (N := ["band", "row", "number", "sign"]) F sc_check_row rfl fun cdv A outer s H E hr => ?_
  have nd := sc_check_row.nd
  exact (p_cons (p_for (passes_of rfl) rfl (tg_tp [2, 3]) (i_enumS (m := false) o1_own fit1 (by rfl) T.z_enumerate (e_loc 1)) (pg_tup rfl (pgs_cons (pg_name (i := 2) nd rfl (by first | exact Or.inl rfl | exact Or.inr rfl)) (pgs_cons (pg_name (i := 3) nd rfl (by first | exact Or.inl rfl | exact Or.inr rfl)) pgs_nil))) (p_cons (p_if (t_notIn hr (e_loc 3) (e_b (e_fld 0 T.cl_0 T.na_0_signs (e_locB 0)))) (p_one (p_raise1 10 T.ox_NoRow (cal_NoRow_i T) (by rfl) rfl (takes_of rfl rfl rfl rfl) hr (by decide) (e_loc 2))) p_nil)
    (p_fgt 2 (p_fgt 3 p_nil))))
    p_nil)
theorem cal_check_row (T : Txt K mg ct fa) : Cal P w K mg base 3 (fa 6) (spP K ct [true, false] false m_check_row) := by
  obtain ⟨fd, F⟩ := T.F_check_row
  refine ⟨⟨fd, ["band", "row"], ok_check_row T F, ?_⟩, F.kp⟩
  exact F.binds fun _ _ _ _ _ _ us hl => match us, hl with | [_, _], _ => rfl
theorem sc_Band__init_ : FnScope ["self", "signs", "barred", "number", "word", "place", "sign", "!ways"] ["self", "signs", "barred"] (L2.defScope s_Band__init_) := ⟨rfl, rfl, rfl, by decide +kernel, rfl, by decide +kernel, by decide +kernel⟩
theorem ok_Band__init_ (T : Txt K mg ct fa) {fd : FuncData} (F : L2.Fun K "__init__" "Band.__init__" s_Band__init_ (fa 9) fd) : FnOk P w K mg base (L2.CX P w) 3 (fa 9) fd ["self", "signs", "barred"] (spI K ct 0 [false, false] m_Band__init_) := by
  refine init_ok (k := 2) (N := ["self", "signs", "barred", "number", "word", "place", "sign", "!ways"]) F sc_Band__init_ rfl fun cdv A outer s H E hr => ?_
  have nd := sc_Band__init_.nd
  exact (p_cons (p_if (t_not (t_val (e_call (fr := false) (cal_are_signs T) T.g_are_signs (takes_of rfl rfl rfl rfl) hr (by decide) (by rfl) (a_cons (m := false) (e_loc 1) a_nil)))) (p_one (p_raise 7 T.er_NoSigns (by rfl) rfl (takes_of rfl rfl rfl rfl))) p_nil)
    (p_cons (p_if (t_gt (e_len T.z_len (by rfl)  (e_b (e_loc 2))) (e_gint T.k_MOST_WORDS (by rfl))) (p_one (p_raise1 8 T.ox_TooMany (cal_TooMany_i T) (by rfl) rfl (takes_of rfl rfl rfl rfl) hr (by decide) (e_len T.z_len (by rfl)  (e_b (e_loc 2))))) p_nil)
    (p_cons (p_for (passes_of rfl) rfl (tg_tp [3, 4]) (i_enum (m := false) o1_own fit1 (by rfl) T.z_enumerate (e_loc 2)) (pg_tup rfl (pgs_cons (pg_name (i := 3) nd rfl (by first | exact Or.inl rfl | exact Or.inr rfl)) (pgs_cons (pg_name (i := 4) nd rfl (by first | exact Or.inl rfl | exact Or.inr rfl)) pgs_nil))) (p_cons (p_if (t_not (t_val (e_call (fr := false) (cal_is_word T) T.g_is_word (takes_of rfl rfl rfl rfl) hr (by decide) (by rfl) (a_cons (m := false) (e_loc 4) (a_cons (m := false) (e_loc 1) a_nil))))) (p_one (p_raise1 9 T.ox_NoWord (cal_NoWord_i T) (by rfl) rfl (takes_of rfl rfl rfl rfl) hr (by decide) (e_loc 3))) p_nil)
    (p_fgt 3 (p_fgt 4 p_nil))))
    (p_cons (p_fld 0 0 T.cl_0 T.na_0_signs (e_loc 1))
    (p_cons (p_fld 0 0 T.cl_0 T.na_0_barred (e_n (e_list T.z_list (by rfl)  (e_b (e_loc 2)))))
    (p_cons (p_fld 0 0 T.cl_0 T.na_0_known (e_meth0 (fr := false) 0 T.cl_0 (by decide +kernel) T.me_Band_found_places (cal_Band_found_places T) (takes_of rfl rfl rfl rfl) hr (by decide) (e_locB 0)))
    (p_cons (p_fldG 0 0 7 (fun y hy => by cases hy; show ¬ Vis (L2.defScope s_Band__init_) "!ways"; unfold Vis; decide +kernel) T.cl_0 T.na_0_ways e_dnewT)
    (p_cons (p_for (passes_of rfl) rfl (tg_nm 5) (i_any (m := false) o1_own fit1 (e_fld 0 T.cl_0 T.na_0_known (e_locB 0))) (pg_name (i := 5) nd rfl (by first | exact Or.inl rfl | exact Or.inr rfl)) (p_cons (p_for (passes_of rfl) rfl (tg_nm 6) (i_any (m := false) o1_own fit1 (e_loc 1)) (pg_name (i := 6) nd rfl (by first | exact Or.inl rfl | exact Or.inr rfl)) (p_cons (p_putG 0 0 7 (hu_of hr) T.cl_0 T.na_0_ways (e_tup 2 (a_cons (m := false) (e_loc 5) (a_cons (m := false) (e_loc 6) a_nil))) (e_meth (fr := false) 0 T.cl_0 (by decide +kernel) T.me_Band_ending (cal_Band_ending T) (takes_of rfl rfl rfl rfl) hr (by decide) (e_locB 0) (a_cons (m := false) (e_add (e_b (e_loc 5)) (e_b (e_loc 6))) a_nil)))
    (p_fgt 6 p_nil)))
    (p_fgt 5 p_nil)))
    p_nil))))))))
theorem cal_Band__init_ (T : Txt K mg ct fa) : Cal P w K mg base 3 (fa 9) (spI K ct 0 [false, false] m_Band__init_) := by
  obtain ⟨fd, F⟩ := T.F_Band__init_
  refine ⟨⟨fd, ["self", "signs", "barred"], ok_Band__init_ T F, ?_⟩, F.kp⟩
  exact F.binds fun _ _ _ _ _ _ us hl => match us, hl with | [_, _, _], _ => rfl
theorem sc_Band_led : FnScope ["self", "place", "sign"] ["self", "place", "sign"] (L2.defScope s_Band_led) := ⟨rfl, rfl, rfl, by decide +kernel, rfl, by decide +kernel, by decide +kernel⟩
theorem ok_Band_led (T : Txt K mg ct fa) {fd : FuncData} (F : L2.Fun K "led" "Band.led" s_Band_led (fa 13) fd) : FnOk P w K mg base (L2.CX P w) 3 (fa 13) fd ["self", "place", "sign"] (spP K ct [true, false, false] false m_Band_led) := by
  refine fn_ok (k := 2) (N := ["self", "place", "sign"]) F sc_Band_led rfl fun cdv A outer s H E hr => ?_
  have nd := sc_Band_led.nd
  exact (p_cons (p_if (PW.pt (t_or (t_not (t_val (e_isi (by rfl) T.z_isinstance (e_b (e_loc 1)) (e_clsT (by rfl) T.z_str (by decide +kernel)) (.ty _) (is_str T)))) (t_or1 (t_notIn hr (e_tup 2 (a_cons (m := false) (e_loc 1) (a_cons (m := false) (e_ix (hu_of hr) (e_b (e_fld 0 T.cl_0 T.na_0_signs (e_locB 0))) e_int) a_nil))) (e_b (e_fld 0 T.cl_0 T.na_0_ways (e_locB 0))))))) (p_one (p_raise1 12 T.ox_NoPlace (cal_NoPlace_i T) (by rfl) rfl (takes_of rfl rfl rfl rfl) hr (by decide) (e_loc 1))) p_nil)
    (p_one (p_ret (e_ix (hu_of hr) (e_b (e_fld 0 T.cl_0 T.na_0_ways (e_locB 0))) (e_tup 2 (a_cons (m := false) (e_loc 1) (a_cons (m := false) (e_loc 2) a_nil)))))))
theorem cal_Band_led (T : Txt K mg ct fa) : Cal P w K mg base 3 (fa 13) (spP K ct [true, false, false] false m_Band_led) := by
  obtain ⟨fd, F⟩ := T.F_Band_led
  refine ⟨⟨fd, ["self", "place", "sign"], ok_Band_led T F, ?_⟩, F.kp⟩
  exact F.binds fun _ _ _ _ _ _ us hl => match us, hl with | [_, _, _], _ => rfl
theorem sc_law_words : FnScope ["_law_script", "_law_at", "_law_signs_here", "_law_most", "_law_found", "_law_k", "_law_cell_here", "_law_word_here"] ["_law_script", "_law_at", "_law_signs_here", "_law_most"] (L2.defScope s_law_words) := ⟨rfl, rfl, rfl, by decide +kernel, rfl, by decide +kernel, by decide +kernel⟩
theorem ok_law_words (T : Txt K mg ct fa) {fd : FuncData} (F : L2.Fun K "_law_words" "_law_words" s_law_words (fa 20) fd) : FnOk P w K mg base (L2.CX P w) 3 (fa 20) fd ["_law_script", "_law_at", "_law_signs_here", "_law_most"] (spP K ct [false, false, false, false] false m_law_words) := by
  refine fn_ok (k := 2) (N := ["_law_script", "_law_at", "_law_signs_here", "_law_most", "_law_found", "_law_k", "_law_cell_here", "_law_word_here"]) F sc_law_words rfl fun cdv A outer s H E hr => ?_
  have nd := sc_law_words.nd
  exact (p_cons (p_own (i := 4) nd rfl (by first | exact Or.inl rfl | exact Or.inr rfl) (e_lst (k := 0) 0 a_nil))
    (p_cons (p_for (passes_of rfl) rfl (tg_nm 5) (i_rng1 (by rfl) T.z_range (a_cons (m := false) (e_mod (e_call (fr := false) (cal_law_cell T) T.g_law_cell (takes_of rfl rfl rfl rfl) hr (by decide) (by rfl) (a_cons (m := false) (e_loc 0) (a_cons (m := false) (e_loc 1) a_nil))) (e_add (e_b (e_loc 3)) (e_b e_int))) a_nil)) (pg_name (i := 5) nd rfl (by first | exact Or.inl rfl | exact Or.inr rfl)) (p_cons (p_set (i := 6) nd rfl (by first | exact Or.inl rfl | exact Or.inr rfl) (e_call (fr := false) (cal_law_cell T) T.g_law_cell (takes_of rfl rfl rfl rfl) hr (by decide) (by rfl) (a_cons (m := false) (e_loc 0) (a_cons (m := false) (e_add (e_b (e_add (e_b (e_loc 1)) (e_b e_int))) (e_b (e_loc 5))) a_nil))))
    (p_cons (p_set (i := 7) nd rfl (by first | exact Or.inl rfl | exact Or.inr rfl) (e_call (fr := false) (cal_law_word T) T.g_law_word (takes_of rfl rfl rfl rfl) hr (by decide) (by rfl) (a_cons (m := false) (e_loc 6) (a_cons (m := false) (e_loc 2) a_nil))))
    (p_cons (p_if (PW.pt (t_and (t_gt (e_loc 5) e_int) (t_and1 (t_eq hr (e_b (e_mod (e_loc 6) e_int)) (e_b e_int))))) (p_cons (p_set (i := 7) nd rfl (by first | exact Or.inl rfl | exact Or.inr rfl) (e_slice (e_b (e_add (e_b (e_slice (e_b (e_ix (hu_of hr) (e_locB 4) (e_neg e_int))) (o_some e_int) o_none)) (e_b (e_loc 7)))) o_none (o_some e_int)))
    p_nil) p_nil)
    (p_cons (p_if (PW.pt (t_and (t_gt (e_loc 5) e_int) (t_and1 (t_eq hr (e_b (e_mod (e_loc 6) e_int)) (e_b e_int))))) (p_cons (p_set (i := 7) nd rfl (by first | exact Or.inl rfl | exact Or.inr rfl) (e_ix (hu_of hr) (e_locB 4) e_int))
    p_nil) p_nil)
    (p_cons (p_app 4 (e_loc 7))
    (p_fgt 5 (p_fgt 6 (p_fgt 7 p_nil)))))))))
    (p_frz 4 (p_one (p_ret (e_loc 4))))))
theorem cal_law_words (T : Txt K mg ct fa) : Cal P w K mg base 3 (fa 20) (spP K ct [false, false, false, false] false m_law_words) := by
  obtain ⟨fd, F⟩ := T.F_law_words
  refine ⟨⟨fd, ["_law_script", "_law_at", "_law_signs_here", "_law_most"], ok_law_words T F, ?_⟩, F.kp⟩
  exact F.binds fun _ _ _ _ _ _ us hl => match us, hl with | [_, _, _, _], _ => rfl
theorem sc_ends_of : FnScope ["band", "found", "place", "some", "sign", "end"] ["band"] (L2.defScope s_ends_of) := ⟨rfl, rfl, rfl, by decide +kernel, rfl, by decide +kernel, by decide +kernel⟩
theorem ok_ends_of (T : Txt K mg ct fa) {fd : FuncData} (F : L2.Fun K "ends_of" "ends_of" s_ends_of (fa 0) fd) : FnOk P w K mg base (L2.CX P w) 4 (fa 0) fd ["band"] (spP K ct [true] false m_ends_of) := by
  refine fn_ok (k := 3) (N := ["band", "found", "place", "some", "sign", "end"]) F sc_ends_of rfl fun cdv A outer s H E hr => ?_
  have nd := sc_ends_of.nd
  exact (p_cons (p_own (i := 1) nd rfl (by first | exact Or.inl rfl | exact Or.inr rfl) e_dnewK)
    (p_cons (p_for (passes_of rfl) rfl (tg_nm 2) (i_any (m := false) o1_own fit1 (e_meth0 (fr := false) 0 T.cl_0 (by decide +kernel) T.me_Band_places (cal_Band_places T) (takes_of rfl rfl rfl rfl) hr (by decide) (e_locB 0))) (pg_name (i := 2) nd rfl (by first | exact Or.inl rfl | exact Or.inr rfl)) (p_cons (p_comp (i := 3) [("sign", 4)] rfl rfl nd rfl rfl (sw_true rfl rfl rfl (by decide +kernel)) (i_any (m := true) o0_own fit0 (e_b (e_fld 0 T.cl_0 T.na_0_signs (e_locB 0)))) (blkOk_by (own := [("sign", 4)]) (N := ["band", "found", "place", "some", "sign", "end"]) (sc := L2.defScope s_ends_of) (by decide +kernel)) (fun _ _ _ _ _ => (pg_name (i := 4) nd rfl (by first | exact Or.inl rfl | exact Or.inr rfl))) (tg_nm 4) (by decide) (fun _ _ _ _ _ => ts_nil) (fun _ _ _ _ _ => (e_meth (fr := false) 0 T.cl_0 (by decide +kernel) T.me_Band_led (cal_Band_led T) takes0 hr (by decide) (e_locB 0) (a_cons (m := false) (e_loc 2) (a_cons (m := false) (e_loc 4) a_nil)))))
    (p_cons (p_put 1 (hu_of hr) (e_loc 2) (e_n (e_comp [("end", 5)] rfl rfl nd (i_any (m := true) o0_own fit0 (e_locB 3)) (blkOk_by (own := [("end", 5)]) (N := ["band", "found", "place", "some", "sign", "end"]) (sc := L2.defScope s_ends_of) (by decide +kernel)) (fun _ _ _ _ _ => (pg_name (i := 5) nd rfl (by first | exact Or.inl rfl | exact Or.inr rfl))) (tg_nm 5) (by decide) (fun _ _ _ _ _ => (ts_one (t_isNot (e_b (e_loc 5)) e_non))) (fun _ _ _ _ _ => (e_loc 5)))))
    (p_fgt 2 (p_fgt 3 p_nil)))))
    (p_frz 1 (p_one (p_ret (e_loc 1))))))
theorem cal_ends_of (T : Txt K mg ct fa) : Cal P w K mg base 4 (fa 0) (spP K ct [true] false m_ends_of) := by
  obtain ⟨fd, F⟩ := T.F_ends_of
  refine ⟨⟨fd, ["band"], ok_ends_of T F, ?_⟩, F.kp⟩
  exact F.binds fun _ _ _ _ _ _ us hl => match us, hl with | [_], _ => rfl
theorem sc_check_good : FnScope ["band", "row", "length"] ["band", "row"] (L2.defScope s_check_good) := ⟨rfl, rfl, rfl, by decide +kernel, rfl, by decide +kernel, by decide +kernel⟩
theorem ok_check_good (T : Txt K mg ct fa) {fd : FuncData} (F : L2.Fun K "check_good" "check_good" s_check_good (fa 8) fd) : FnOk P w K mg base (L2.CX P w) 4 (fa 8) fd ["band", "row"] (spP K ct [true, false] false m_check_good) := by
  refine fn_ok (k := 3) (N := ["band", "row", "length"]) F sc_check_good rfl fun cdv A outer s H E hr => ?_
  have nd := sc_check_good.nd
  exact (p_cons (p_expr (e_call (fr := false) (cal_check_row T) T.g_check_row (takes_of rfl rfl rfl rfl) hr (by decide) (by rfl) (a_cons (m := true) (e_locB 0) (a_cons (m := false) (e_loc 1) a_nil))))
    (p_cons (p_set (i := 2) nd rfl (by first | exact Or.inl rfl | exact Or.inr rfl) (e_call (fr := false) (cal_first_bad T) T.g_first_bad (takes_of rfl rfl rfl rfl) hr (by decide) (by rfl) (a_cons (m := true) (e_locB 0) (a_cons (m := false) (e_loc 1) a_nil))))
    (p_cons (p_if (t_isNot (e_b (e_loc 2)) e_non) (p_one (p_raise1 11 T.ox_Barred (cal_Barred_i T) (by rfl) rfl (takes_of rfl rfl rfl rfl) hr (by decide) (e_loc 2))) p_nil)
    (p_fgt 2 p_nil))))
theorem cal_check_good (T : Txt K mg ct fa) : Cal P w K mg base 4 (fa 8) (spP K ct [true, false] false m_check_good) := by
  obtain ⟨fd, F⟩ := T.F_check_good
  refine ⟨⟨fd, ["band", "row"], ok_check_good T F, ?_⟩, F.kp⟩
  exact F.binds fun _ _ _ _ _ _ us hl => match us, hl with | [_, _], _ => rfl
theorem sc_tables : FnScope ["band", "length", "ends", "found", "place", "step", "ahead", "more", "end", "!found"] ["band", "length"] (L2.defScope s_tables) := ⟨rfl, rfl, rfl, by decide +kernel, rfl, by decide +kernel, by decide +kernel⟩
theorem ok_tables (T : Txt K mg ct fa) {fd : FuncData} (F : L2.Fun K "tables" "tables" s_tables (fa 1) fd) : FnOk P w K mg base (L2.CX P w) 5 (fa 1) fd ["band", "length"] (spP K ct [false, false] false m_tables) := by
  refine fn_ok (k := 4) (N := ["band", "length", "ends", "found", "place", "step", "ahead", "more", "end", "!found"]) F sc_tables rfl fun cdv A outer s H E hr => ?_
  have nd := sc_tables.nd
  exact (p_cons (p_set (i := 2) nd rfl (by first | exact Or.inl rfl | exact Or.inr rfl) (e_call (fr := false) (cal_ends_of T) T.g_ends_of (takes_of rfl rfl rfl rfl) hr (by decide) (by rfl) (a_cons (m := true) (e_b (e_loc 0)) a_nil)))
    (p_cons (p_nest 3 9 (fun y hy => by cases hy; show ¬ Vis (L2.defScope s_tables) "!found"; unfold Vis; decide +kernel) nd rfl (by first | exact Or.inl rfl | exact Or.inr rfl))
    (p_cons (p_forK 2 (passes_of rfl) rfl (tg_nm 4) (pg_name (i := 4) nd rfl (by first | exact Or.inl rfl | exact Or.inr rfl)) (p_cons (p_putN 3 9 (hu_of hr) (e_loc 4) e_int)
    (p_fgt 4 p_nil)))
    (p_unl 3 9 (p_cons (p_for (passes_of rfl) rfl (tg_nm 5) (i_rng1 (by rfl) T.z_range (a_cons (m := false) (e_loc 1) a_nil)) (pg_name (i := 5) nd rfl (by first | exact Or.inl rfl | exact Or.inr rfl)) (p_cons (p_set (i := 6) nd rfl (by first | exact Or.inl rfl | exact Or.inr rfl) (e_ix (hu_of hr) (e_locB 3) (e_loc 5)))
    (p_cons (p_own (i := 7) nd rfl (by first | exact Or.inl rfl | exact Or.inr rfl) e_dnewK)
    (p_cons (p_forK 2 (passes_of rfl) rfl (tg_nm 4) (pg_name (i := 4) nd rfl (by first | exact Or.inl rfl | exact Or.inr rfl)) (p_cons (p_put 7 (hu_of hr) (e_loc 4) (e_sum T.z_sum (by rfl) rfl (e_b (e_n (e_comp [("end", 8)] rfl rfl nd (i_any (m := true) o0_own fit0 (e_b (e_ix (hu_of hr) (e_b (e_loc 2)) (e_loc 4)))) (blkOk_by (own := [("end", 8)]) (N := ["band", "length", "ends", "found", "place", "step", "ahead", "more", "end", "!found"]) (sc := L2.defScope s_tables) (by decide +kernel)) (fun _ _ _ _ _ => (pg_name (i := 8) nd rfl (by first | exact Or.inl rfl | exact Or.inr rfl))) (tg_nm 8) (by decide) (fun _ _ _ _ _ => ts_nil) (fun _ _ _ _ _ => (e_ix (hu_of hr) (e_b (e_loc 6)) (e_loc 8))))))))
    (p_fgt 4 p_nil)))
    (p_frz 7 (p_cons (p_app 3 (e_loc 7))
    (p_fgt 5 (p_fgt 6 (p_fgt 7 p_nil)))))))))
    (p_frz 3 (p_one (p_ret (e_loc 3)))))))))
theorem cal_tables (T : Txt K mg ct fa) : Cal P w K mg base 5 (fa 1) (spP K ct [false, false] false m_tables) := by
  obtain ⟨fd, F⟩ := T.F_tables
  refine ⟨⟨fd, ["band", "length"], ok_tables T F, ?_⟩, F.kp⟩
  exact F.binds fun _ _ _ _ _ _ us hl => match us, hl with | [_, _], _ => rfl
theorem sc_count_from : FnScope ["band", "place", "length"] ["band", "place", "length"] (L2.defScope s_count_from) := ⟨rfl, rfl, rfl, by decide +kernel, rfl, by decide +kernel, by decide +kernel⟩
theorem ok_count_from (T : Txt K mg ct fa) {fd : FuncData} (F : L2.Fun K "count_from" "count_from" s_count_from (fa 2) fd) : FnOk P w K mg base (L2.CX P w) 6 (fa 2) fd ["band", "place", "length"] (spP K ct [false, false, false] false m_count_from) := by
  refine fn_ok (k := 5) (N := ["band", "place", "length"]) F sc_count_from rfl fun cdv A outer s H E hr => ?_
  have nd := sc_count_from.nd
  exact (p_cons (p_expr (e_meth (fr := false) 0 T.cl_0 (by decide +kernel) T.me_Band_led (cal_Band_led T) (takes_of rfl rfl rfl rfl) hr (by decide) (e_b (e_loc 0)) (a_cons (m := false) (e_loc 1) (a_cons (m := false) (e_ix (hu_of hr) (e_b (e_fld 0 T.cl_0 T.na_0_signs (e_b (e_loc 0)))) e_int) a_nil))))
    (p_one (p_ret (e_ix (hu_of hr) (e_b (e_ix (hu_of hr) (e_b (e_call (fr := false) (cal_tables T) T.g_tables (takes_of rfl rfl rfl rfl) hr (by decide) (by rfl) (a_cons (m := false) (e_loc 0) (a_cons (m := false) (e_loc 2) a_nil)))) (e_loc 2))) (e_loc 1)))))
theorem cal_count_from (T : Txt K mg ct fa) : Cal P w K mg base 6 (fa 2) (spP K ct [false, false, false] false m_count_from) := by
  obtain ⟨fd, F⟩ := T.F_count_from
  refine ⟨⟨fd, ["band", "place", "length"], ok_count_from T F, ?_⟩, F.kp⟩
  exact F.binds fun _ _ _ _ _ _ us hl => match us, hl with | [_, _, _], _ => rfl
theorem sc_row_at : FnScope ["band", "length", "number", "counts", "row", "place", "rest", "left", "sign", "end"] ["band", "length", "number"] (L2.defScope s_row_at) := ⟨rfl, rfl, rfl, by decide +kernel, rfl, by decide +kernel, by decide +kernel⟩
theorem ok_row_at (T : Txt K mg ct fa) {fd : FuncData} (F : L2.Fun K "row_at" "row_at" s_row_at (fa 14) fd) : FnOk P w K mg base (L2.CX P w) 6 (fa 14) fd ["band", "length", "number"] (spP K ct [false, false, false] false m_row_at) := by
  refine fn_ok (k := 5) (N := ["band", "length", "number", "counts", "row", "place", "rest", "left", "sign", "end"]) F sc_row_at rfl fun cdv A outer s H E hr => ?_
  have nd := sc_row_at.nd
  exact (p_cons (p_set (i := 3) nd rfl (by first | exact Or.inl rfl | exact Or.inr rfl) (e_call (fr := false) (cal_tables T) T.g_tables (takes_of rfl rfl rfl rfl) hr (by decide) (by rfl) (a_cons (m := false) (e_loc 0) (a_cons (m := false) (e_loc 1) a_nil))))
    (p_cons (p_if (PW.pt (t_or (t_not (t_val (e_isi (by rfl) T.z_isinstance (e_b (e_loc 2)) (e_clsT (by rfl) T.z_int (by decide +kernel)) (.ty _) (is_int T)))) (t_or1 (t_val (e_isi (by rfl) T.z_isinstance (e_b (e_loc 2)) (e_clsT (by rfl) T.z_bool (by decide +kernel)) (.ty _) (is_bool T)))))) (p_one (p_raise 13 T.er_NoNumber (by rfl) rfl (takes_of rfl rfl rfl rfl))) p_nil)
    (p_cons (p_if (PW.pt (t_or (t_lt (e_loc 2) e_int) (t_or1 (t_ge (e_loc 2) (e_ix (hu_of hr) (e_b (e_ix (hu_of hr) (e_b (e_loc 3)) (e_loc 1))) e_str))))) (p_one (p_raise 13 T.er_NoNumber (by rfl) rfl (takes_of rfl rfl rfl rfl))) p_nil)
    (p_cons (p_set (i := 4) nd rfl (by first | exact Or.inl rfl | exact Or.inr rfl) e_str)
    (p_cons (p_set (i := 5) nd rfl (by first | exact Or.inl rfl | exact Or.inr rfl) e_str)
    (p_cons (p_set (i := 6) nd rfl (by first | exact Or.inl rfl | exact Or.inr rfl) (e_loc 2))
    (p_cons (p_for (passes_of rfl) rfl (tg_nm 7) (i_rng3 (by rfl) T.z_range (a_cons (m := false) (e_sub (e_loc 1) e_int) (a_cons (m := false) (e_neg e_int) (a_cons (m := false) (e_neg e_int) a_nil)))) (pg_name (i := 7) nd rfl (by first | exact Or.inl rfl | exact Or.inr rfl)) (p_cons (p_for (passes_of rfl) rfl (tg_nm 8) (i_any (m := false) o1_own fit1 (e_fld 0 T.cl_0 T.na_0_signs (e_b (e_loc 0)))) (pg_name (i := 8) nd rfl (by first | exact Or.inl rfl | exact Or.inr rfl)) (p_cons (p_set (i := 9) nd rfl (by first | exact Or.inl rfl | exact Or.inr rfl) (e_meth (fr := false) 0 T.cl_0 (by decide +kernel) T.me_Band_led (cal_Band_led T) (takes_of rfl rfl rfl rfl) hr (by decide) (e_b (e_loc 0)) (a_cons (m := false) (e_loc 5) (a_cons (m := false) (e_loc 8) a_nil))))
    (p_one (p_if (t_isNot (e_b (e_loc 9)) e_non) (p_cons (p_if (t_lt (e_loc 6) (e_ix (hu_of hr) (e_b (e_ix (hu_of hr) (e_b (e_loc 3)) (e_loc 7))) (e_loc 9))) (p_cons (p_set (i := 4) nd rfl (by first | exact Or.inl rfl | exact Or.inr rfl) (e_add (e_b (e_loc 4)) (e_b (e_loc 8))))
    (p_cons (p_set (i := 5) nd rfl (by first | exact Or.inl rfl | exact Or.inr rfl) (e_loc 9))
    (p_fgt 8 (p_fgt 9 (p_one p_brk))))) p_nil)
    (p_cons (p_set (i := 6) nd rfl (by first | exact Or.inl rfl | exact Or.inr rfl) (e_sub (e_loc 6) (e_ix (hu_of hr) (e_b (e_ix (hu_of hr) (e_b (e_loc 3)) (e_loc 7))) (e_loc 9))))
    (p_fgt 8 (p_fgt 9 p_nil)))) (p_fgt 8 (p_fgt 9 p_nil))))))
    (p_fgt 7 p_nil)))
    (p_one (p_ret (e_loc 4))))))))))
theorem cal_row_at (T : Txt K mg ct fa) : Cal P w K mg base 6 (fa 14) (spP K ct [false, false, false] false m_row_at) := by
  obtain ⟨fd, F⟩ := T.F_row_at
  refine ⟨⟨fd, ["band", "length", "number"], ok_row_at T F, ?_⟩, F.kp⟩
  exact F.binds fun _ _ _ _ _ _ us hl => match us, hl with | [_, _, _], _ => rfl
theorem sc_number_of : FnScope ["band", "row", "counts", "place", "number", "at", "sign", "end"] ["band", "row"] (L2.defScope s_number_of) := ⟨rfl, rfl, rfl, by decide +kernel, rfl, by decide +kernel, by decide +kernel⟩
theorem ok_number_of (T : Txt K mg ct fa) {fd : FuncData} (F : L2.Fun K "number_of" "number_of" s_number_of (fa 15) fd) : FnOk P w K mg base (L2.CX P w) 6 (fa 15) fd ["band", "row"] (spP K ct [false, false] false m_number_of) := by
  refine fn_ok (k := 5) (N := ["band", "row", "counts", "place", "number", "at", "sign", "end"]) F sc_number_of rfl fun cdv A outer s H E hr => ?_
  have nd := sc_number_of.nd
  exact (p_cons (p_expr (e_call (fr := false) (cal_check_good T) T.g_check_good (takes_of rfl rfl rfl rfl) hr (by decide) (by rfl) (a_cons (m := true) (e_b (e_loc 0)) (a_cons (m := false) (e_loc 1) a_nil))))
    (p_cons (p_set (i := 2) nd rfl (by first | exact Or.inl rfl | exact Or.inr rfl) (e_call (fr := false) (cal_tables T) T.g_tables (takes_of rfl rfl rfl rfl) hr (by decide) (by rfl) (a_cons (m := false) (e_loc 0) (a_cons (m := false) (e_len T.z_len (by rfl)  (e_b (e_loc 1))) a_nil))))
    (p_cons (p_set (i := 3) nd rfl (by first | exact Or.inl rfl | exact Or.inr rfl) e_str)
    (p_cons (p_set (i := 4) nd rfl (by first | exact Or.inl rfl | exact Or.inr rfl) e_int)
    (p_cons (p_for (passes_of rfl) rfl (tg_nm 5) (i_rng1 (by rfl) T.z_range (a_cons (m := false) (e_len T.z_len (by rfl)  (e_b (e_loc 1))) a_nil)) (pg_name (i := 5) nd rfl (by first | exact Or.inl rfl | exact Or.inr rfl)) (p_cons (p_for (passes_of rfl) rfl (tg_nm 6) (i_any (m := false) o1_own fit1 (e_fld 0 T.cl_0 T.na_0_signs (e_b (e_loc 0)))) (pg_name (i := 6) nd rfl (by first | exact Or.inl rfl | exact Or.inr rfl)) (p_cons (p_set (i := 7) nd rfl (by first | exact Or.inl rfl | exact Or.inr rfl) (e_meth (fr := false) 0 T.cl_0 (by decide +kernel) T.me_Band_led (cal_Band_led T) (takes_of rfl rfl rfl rfl) hr (by decide) (e_b (e_loc 0)) (a_cons (m := false) (e_loc 3) (a_cons (m := false) (e_loc 6) a_nil))))
    (p_cons (p_if (t_eq hr (e_b (e_loc 6)) (e_b (e_ix (hu_of hr) (e_b (e_loc 1)) (e_loc 5)))) (p_cons (p_set (i := 3) nd rfl (by first | exact Or.inl rfl | exact Or.inr rfl) (e_loc 7))
    (p_fgt 6 (p_fgt 7 (p_one p_brk)))) p_nil)
    (p_cons (p_if (t_isNot (e_b (e_loc 7)) e_non) (p_cons (p_set (i := 4) nd rfl (by first | exact Or.inl rfl | exact Or.inr rfl) (e_add (e_b (e_loc 4)) (e_b (e_ix (hu_of hr) (e_b (e_ix (hu_of hr) (e_b (e_loc 2)) (e_sub (e_sub (e_len T.z_len (by rfl)  (e_b (e_loc 1))) e_int) (e_loc 5)))) (e_loc 7)))))
    p_nil) p_nil)
    (p_fgt 6 (p_fgt 7 p_nil))))))
    (p_fgt 5 p_nil)))
    (p_one (p_ret (e_loc 4))))))))
theorem cal_number_of (T : Txt K mg ct fa) : Cal P w K mg base 6 (fa 15) (spP K ct [false, false] false m_number_of) := by
  obtain ⟨fd, F⟩ := T.F_number_of
  refine ⟨⟨fd, ["band", "row"], ok_number_of T F, ?_⟩, F.kp⟩
  exact F.binds fun _ _ _ _ _ _ us hl => match us, hl with | [_, _], _ => rfl
theorem sc_count : FnScope ["band", "length"] ["band", "length"] (L2.defScope s_count) := ⟨rfl, rfl, rfl, by decide +kernel, rfl, by decide +kernel, by decide +kernel⟩
theorem ok_count (T : Txt K mg ct fa) {fd : FuncData} (F : L2.Fun K "count" "count" s_count (fa 3) fd) : FnOk P w K mg base (L2.CX P w) 7 (fa 3) fd ["band", "length"] (spP K ct [false, false] false m_count) := by
  refine fn_ok (k := 6) (N := ["band", "length"]) F sc_count rfl fun cdv A outer s H E hr => ?_
  have nd := sc_count.nd
  exact (p_one (p_ret (e_call (fr := false) (cal_count_from T) T.g_count_from (takes_of rfl rfl rfl rfl) hr (by decide) (by rfl) (a_cons (m := false) (e_loc 0) (a_cons (m := false) e_str (a_cons (m := false) (e_loc 1) a_nil))))))
theorem cal_count (T : Txt K mg ct fa) : Cal P w K mg base 7 (fa 3) (spP K ct [false, false] false m_count) := by
  obtain ⟨fd, F⟩ := T.F_count
  refine ⟨⟨fd, ["band", "length"], ok_count T F, ?_⟩, F.kp⟩
  exact F.binds fun _ _ _ _ _ _ us hl => match us, hl with | [_, _], _ => rfl
theorem sc_law : FnScope ["_law_script", "_law_signs_here", "_law_words_here", "_law_band", "_law_length", "_law_rows_here", "_law_good", "_law_row", "_law_place", "_law_due", "_law_step", "_law_numbers", "_law_number_here"] ["_law_script"] (L2.defScope s_law) := ⟨rfl, rfl, rfl, by decide +kernel, rfl, by decide +kernel, by decide +kernel⟩
theorem ok_law (T : Txt K mg ct fa) {fd : FuncData} (F : L2.Fun K "law" "law" s_law (fa 24) fd) : FnOk P w K mg base (L2.CX P w) 8 (fa 24) fd ["_law_script"] (spP K ct [false] false m_law) := by
  refine fn_ok (k := 7) (N := ["_law_script", "_law_signs_here", "_law_words_here", "_law_band", "_law_length", "_law_rows_here", "_law_good", "_law_row", "_law_place", "_law_due", "_law_step", "_law_numbers", "_law_number_here"]) F sc_law rfl fun cdv A outer s H E hr => ?_
  have nd := sc_law.nd
  exact (p_cons (p_set (i := 1) nd rfl (by first | exact Or.inl rfl | exact Or.inr rfl) (e_call (fr := false) (cal_law_signs T) T.g_law_signs (takes_of rfl rfl rfl rfl) hr (by decide) (by rfl) (a_cons (m := false) (e_call (fr := false) (cal_law_cell T) T.g_law_cell (takes_of rfl rfl rfl rfl) hr (by decide) (by rfl) (a_cons (m := false) (e_loc 0) (a_cons (m := false) e_int a_nil))) a_nil)))
    (p_cons (p_set (i := 2) nd rfl (by first | exact Or.inl rfl | exact Or.inr rfl) (e_call (fr := false) (cal_law_words T) T.g_law_words (takes_of rfl rfl rfl rfl) hr (by decide) (by rfl) (a_cons (m := false) (e_loc 0) (a_cons (m := false) e_int (a_cons (m := false) (e_loc 1) (a_cons (m := false) e_int a_nil))))))
    (p_cons (p_set (i := 3) nd rfl (by first | exact Or.inl rfl | exact Or.inr rfl) (e_mk 0 T.mk_0 (cal_Band__init_ T) T.g_Band (takes_of rfl rfl rfl rfl) hr (by decide) (by rfl) (a_cons (m := false) (e_loc 1) (a_cons (m := false) (e_n (e_list T.z_list (by rfl)  (e_b (e_loc 2)))) a_nil))))
    (p_cons (p_set (i := 4) nd rfl (by first | exact Or.inl rfl | exact Or.inr rfl) (e_mod (e_call (fr := false) (cal_law_cell T) T.g_law_cell (takes_of rfl rfl rfl rfl) hr (by decide) (by rfl) (a_cons (m := false) (e_loc 0) (a_cons (m := false) e_int a_nil))) (e_ix (hu_of hr) (e_b (e_n (e_lst (k := 0) 3 (a_cons (m := false) e_int (a_cons (m := false) e_int (a_cons (m := false) e_int a_nil)))))) (e_sub (e_len T.z_len (by rfl)  (e_b (e_loc 1))) e_int))))
    (p_cons (p_set (i := 5) nd rfl (by first | exact Or.inl rfl | exact Or.inr rfl) (e_call (fr := false) (cal_law_rows T) T.g_law_rows (takes_of rfl rfl rfl rfl) hr (by decide) (by rfl) (a_cons (m := false) (e_loc 1) (a_cons (m := false) (e_loc 4) a_nil))))
    (p_cons (p_comp (i := 6) [("_law_row", 7)] rfl rfl nd rfl rfl (sw_true rfl rfl rfl (by decide +kernel)) (i_any (m := true) o0_own fit0 (e_b (e_loc 5))) (blkOk_by (own := [("_law_row", 7)]) (N := ["_law_script", "_law_signs_here", "_law_words_here", "_law_band", "_law_length", "_law_rows_here", "_law_good", "_law_row", "_law_place", "_law_due", "_law_step", "_law_numbers", "_law_number_here"]) (sc := L2.defScope s_law) (by decide +kernel)) (fun _ _ _ _ _ => (pg_name (i := 7) nd rfl (by first | exact Or.inl rfl | exact Or.inr rfl))) (tg_nm 7) (by decide) (fun _ _ _ _ _ => (ts_one (t_val (e_call (fr := false) (cal_law_is_good T) T.g_law_is_good takes0 hr (by decide) (by rfl) (a_cons (m := false) (e_loc 7) (a_cons (m := false) (e_loc 2) a_nil)))))) (fun _ _ _ _ _ => (e_loc 7)))
    (p_cons (p_if (t_not (t_val (e_call (fr := false) (cal_law_number T) T.g_law_number (takes_of rfl rfl rfl rfl) hr (by decide) (by rfl) (a_cons (m := false) (e_call (fr := false) (cal_count T) T.g_count (takes_of rfl rfl rfl rfl) hr (by decide) (by rfl) (a_cons (m := false) (e_loc 3) (a_cons (m := false) (e_loc 4) a_nil))) (a_cons (m := false) (e_len T.z_len (by rfl)  (e_locB 6)) a_nil))))) (p_one (p_ret e_bl)) p_nil)
    (p_cons (p_for (passes_of rfl) rfl (tg_nm 8) (i_any (m := false) o1_own fit1 (e_meth0 (fr := false) 0 T.cl_0 (by decide +kernel) T.me_Band_places (cal_Band_places T) (takes_of rfl rfl rfl rfl) hr (by decide) (e_b (e_loc 3)))) (pg_name (i := 8) nd rfl (by first | exact Or.inl rfl | exact Or.inr rfl)) (p_cons (p_set (i := 9) nd rfl (by first | exact Or.inl rfl | exact Or.inr rfl) (e_len T.z_len (by rfl)  (e_b (e_n (e_comp [("_law_row", 7)] rfl rfl nd (i_any (m := true) o0_own fit0 (e_b (e_loc 5))) (blkOk_by (own := [("_law_row", 7)]) (N := ["_law_script", "_law_signs_here", "_law_words_here", "_law_band", "_law_length", "_law_rows_here", "_law_good", "_law_row", "_law_place", "_law_due", "_law_step", "_law_numbers", "_law_number_here"]) (sc := L2.defScope s_law) (by decide +kernel)) (fun _ _ _ _ _ => (pg_name (i := 7) nd rfl (by first | exact Or.inl rfl | exact Or.inr rfl))) (tg_nm 7) (by decide) (fun _ _ _ _ _ => (ts_one (t_val (e_call (fr := false) (cal_law_is_good T) T.g_law_is_good takes0 hr (by decide) (by rfl) (a_cons (m := false) (e_add (e_b (e_loc 8)) (e_b (e_loc 7))) (a_cons (m := false) (e_loc 2) a_nil)))))) (fun _ _ _ _ _ => (e_loc 7)))))))
    (p_cons (p_if (t_not (t_val (e_call (fr := false) (cal_law_number T) T.g_law_number (takes_of rfl rfl rfl rfl) hr (by decide) (by rfl) (a_cons (m := false) (e_call (fr := false) (cal_count_from T) T.g_count_from (takes_of rfl rfl rfl rfl) hr (by decide) (by rfl) (a_cons (m := false) (e_loc 3) (a_cons (m := false) (e_loc 8) (a_cons (m := false) (e_loc 4) a_nil)))) (a_cons (m := false) (e_loc 9) a_nil))))) (p_one (p_ret e_bl)) p_nil)
    (p_fgt 8 (p_fgt 9 p_nil)))))
    (p_cons (p_set (i := 10) nd rfl (by first | exact Or.inl rfl | exact Or.inr rfl) (e_add (e_b e_int) (e_b (e_fdiv (e_len T.z_len (by rfl)  (e_locB 6)) e_int))))
    (p_cons (p_set (i := 11) nd rfl (by first | exact Or.inl rfl | exact Or.inr rfl) (e_n (e_listRg3 rfl (by rfl) T.z_list (by rfl) T.z_range (a_cons (m := false) (e_mod (e_call (fr := false) (cal_law_cell T) T.g_law_cell (takes_of rfl rfl rfl rfl) hr (by decide) (by rfl) (a_cons (m := false) (e_loc 0) (a_cons (m := false) e_int a_nil))) (e_loc 10)) (a_cons (m := false) (e_len T.z_len (by rfl)  (e_locB 6)) (a_cons (m := false) (e_loc 10) a_nil))))))
    (p_cons (p_if (t_eq hr (e_b (e_mod (e_call (fr := false) (cal_law_cell T) T.g_law_cell (takes_of rfl rfl rfl rfl) hr (by decide) (by rfl) (a_cons (m := false) (e_loc 0) (a_cons (m := false) e_int a_nil))) e_int)) (e_b e_int)) (p_cons (p_set (i := 11) nd rfl (by first | exact Or.inl rfl | exact Or.inr rfl) (e_n (e_rev (e_b (e_loc 11)))))
    p_nil) p_nil)
    (p_cons (p_for (passes_of rfl) rfl (tg_nm 12) (i_any (m := false) o1_own fit1 (e_loc 11)) (pg_name (i := 12) nd rfl (by first | exact Or.inl rfl | exact Or.inr rfl)) (p_cons (p_set (i := 7) nd rfl (by first | exact Or.inl rfl | exact Or.inr rfl) (e_call (fr := false) (cal_row_at T) T.g_row_at (takes_of rfl rfl rfl rfl) hr (by decide) (by rfl) (a_cons (m := false) (e_loc 3) (a_cons (m := false) (e_loc 4) (a_cons (m := false) (e_loc 12) a_nil)))))
    (p_cons (p_if (PW.pt (t_or (t_not (t_val (e_isi (by rfl) T.z_isinstance (e_b (e_loc 7)) (e_clsT (by rfl) T.z_str (by decide +kernel)) (.ty _) (is_str T)))) (t_or (t_ne hr (e_b (e_loc 7)) (e_b (e_ix (hu_of hr) (e_locB 6) (e_loc 12)))) (t_or1 (t_not (t_val (e_call (fr := false) (cal_law_number T) T.g_law_number (takes_of rfl rfl rfl rfl) hr (by decide) (by rfl) (a_cons (m := false) (e_call (fr := false) (cal_number_of T) T.g_number_of (takes_of rfl rfl rfl rfl) hr (by decide) (by rfl) (a_cons (m := false) (e_loc 3) (a_cons (m := false) (e_loc 7) a_nil))) (a_cons (m := false) (e_loc 12) a_nil))))))))) (p_one (p_ret e_bl)) p_nil)
    (p_fgt 7 (p_fgt 12 p_nil)))))
    (p_one (p_ret (e_call (fr := false) (cal_law_number T) T.g_law_number (takes_of rfl rfl rfl rfl) hr (by decide) (by rfl) (a_cons (m := false) (e_call (fr := false) (cal_count T) T.g_count (takes_of rfl rfl rfl rfl) hr (by decide) (by rfl) (a_cons (m := false) (e_loc 3) (a_cons (m := false) (e_loc 4) a_nil))) (a_cons (m := false) (e_len T.z_len (by rfl)  (e_locB 6)) a_nil)))))))))))))))))
theorem cal_law (T : Txt K mg ct fa) : Cal P w K mg base 8 (fa 24) (spP K ct [false] false m_law) := by
  obtain ⟨fd, F⟩ := T.F_law
  refine ⟨⟨fd, ["_law_script"], ok_law T F, ?_⟩, F.kp⟩
  exact F.binds fun _ _ _ _ _ _ us hl => match us, hl with | [_], _ => rfl
end
end Lw

namespace Lw
open PySem PySem.Spec PyProof.Rows L2 Ps
def spLaw (K : PySem.W.Frag) : Sp := fun vs H Q _ => ∃ (a : Addr) (ns : List Int), vs = [.ref a] ∧ SqL K H a (ns.map V.int) ∧ ns.length ≤ 63 ∧ ∀ H', Q (.bl true) H'
theorem law_sp2 {K : PySem.W.Frag} {ct : Nat → Addr} {m : List D → R} {H : Hp} {a : Addr} {ns : List Int} {Q : VK} {E : XK} (hS : SqL K H a (ns.map V.int)) (hm : m [.scr ns] = .ok (.bl true)) (k : ∀ H', Q (.bl true) H') : spP K ct [false] false m [.ref a] H Q E := by
  refine ⟨H, [.scr ns], Ex.refl H, ⟨_, _, _, _, rfl, rfl, ⟨a, rfl, hS⟩, rfl, rfl⟩, ?_⟩
  rw [hm]
  intro v F' H' g r
  cases (show v = .bl true from r)
  exact k H'

theorem all_mk {l : PySem.W.OpenLaw} {w : World} {K : PySem.W.Frag} {h : Heap} {mg : Str → Option Value} (X : K.In h) (G : h.Ns mainGlobals mg) {C0 C6 C7 C8 C9 C10 C11 C12 C13 f0 f1 f2 f3 f4 f5 f6 f7 f8 f9 f10 f11 f12 f13 f14 f15 f16 f17 f18 f19 f20 f21 f22 f23 f24 f25 f26 f27 f28 f29 fL : Addr} {od4 an4 od5 an5 od7 an7 od12 an12 od16 an16 od17 an17 od21 an21 od22 an22 od23 an23 od10 an10 od11 an11 od18 an18 od19 an19 od6 an6 od9 an9 od13 an13 od20 an20 od0 an0 od8 an8 od1 an1 od2 an2 od14 an14 od15 an15 od3 an3 od24 an24 od27 an27 od28 an28 od25 an25 od26 an26 od29 an29 : Option Addr} {sl4 sl5 sl7 sl12 sl16 sl17 sl21 sl22 sl23 sl10 sl11 sl18 sl19 sl6 sl9 sl13 sl20 sl0 sl8 sl1 sl2 sl14 sl15 sl3 sl24 sl27 sl28 sl25 sl26 sl29 : Array (Option Value)} {oc4 kV4 dc4 pm4 cd4 ct4 oc5 kV5 dc5 pm5 cd5 ct5 oc7 kV7 dc7 pm7 cd7 ct7 oc12 kV12 dc12 pm12 cd12 ct12 oc16 kV16 dc16 pm16 cd16 ct16 oc17 kV17 dc17 pm17 cd17 ct17 oc21 kV21 dc21 pm21 cd21 ct21 oc22 kV22 dc22 pm22 cd22 ct22 oc23 kV23 dc23 pm23 cd23 ct23 oc10 kV10 dc10 pm10 cd10 ct10 oc11 kV11 dc11 pm11 cd11 ct11 oc18 kV18 dc18 pm18 cd18 ct18 oc19 kV19 dc19 pm19 cd19 ct19 oc6 kV6 dc6 pm6 cd6 ct6 oc9 kV9 dc9 pm9 cd9 ct9 oc13 kV13 dc13 pm13 cd13 ct13 oc20 kV20 dc20 pm20 cd20 ct20 oc0 kV0 dc0 pm0 cd0 ct0 oc8 kV8 dc8 pm8 cd8 ct8 oc1 kV1 dc1 pm1 cd1 ct1 oc2 kV2 dc2 pm2 cd2 ct2 oc14 kV14 dc14 pm14 cd14 ct14 oc15 kV15 dc15 pm15 cd15 ct15 oc3 kV3 dc3 pm3 cd3 ct3 oc24 kV24 dc24 pm24 cd24 ct24 oc27 kV27 dc27 pm27 cd27 ct27 oc28 kV28 dc28 pm28 cd28 ct28 oc25 kV25 dc25 pm25 cd25 ct25 oc26 kV26 dc26 pm26 cd26 ct26 oc29 kV29 dc29 pm29 cd29 ct29 : Value} {tk_KNOWN tk_LONGEST_WORD tk_MOST_WORDS : Tok} {xnm10 xq10 : Str} {xN10 : Addr} {xbs10 xbm10 : List Value} {xsn10 : List Str} {xsu10 : List Value} {xab10 : Bool} {xco10 : Option Bool} {xdd10 : Option Addr} {xka10 xkb10 xkc10 xkd10 xkf10 : Option Value} {xnm11 xq11 : Str} {xN11 : Addr} {xbs11 xbm11 : List Value} {xsn11 : List Str} {xsu11 : List Value} {xab11 : Bool} {xco11 : Option Bool} {xdd11 : Option Addr} {xka11 xkb11 xkc11 xkd11 xkf11 : Option Value} {xnm8 xq8 : Str} {xN8 : Addr} {xbs8 xbm8 : List Value} {xsn8 : List Str} {xsu8 : List Value} {xab8 : Bool} {xco8 : Option Bool} {xdd8 : Option Addr} {xka8 xkb8 xkc8 xkd8 xkf8 : Option Value} {xnm9 xq9 : Str} {xN9 : Addr} {xbs9 xbm9 : List Value} {xsn9 : List Str} {xsu9 : List Value} {xab9 : Bool} {xco9 : Option Bool} {xdd9 : Option Addr} {xka9 xkb9 xkc9 xkd9 xkf9 : Option Value} {xnm12 xq12 : Str} {xN12 : Addr} {xbs12 xbm12 : List Value} {xsn12 : List Str} {xsu12 : List Value} {xab12 : Bool} {xco12 : Option Bool} {xdd12 : Option Addr} {xka12 xkb12 xkc12 xkd12 xkf12 : Option Value} (hfa : mg "law" = some (.ref fL))
    (aC0 : PySem.W.nsIn K mainGlobals "Band" = some (some (.ref C0)))
    (aC6 : PySem.W.nsIn K mainGlobals "BandError" = some (some (.ref C6)))
    (aC7 : PySem.W.nsIn K mainGlobals "NoSigns" = some (some (.ref C7)))
    (aC8 : PySem.W.nsIn K mainGlobals "TooMany" = some (some (.ref C8)))
    (aC9 : PySem.W.nsIn K mainGlobals "NoWord" = some (some (.ref C9)))
    (aC10 : PySem.W.nsIn K mainGlobals "NoRow" = some (some (.ref C10)))
    (aC11 : PySem.W.nsIn K mainGlobals "Barred" = some (some (.ref C11)))
    (aC12 : PySem.W.nsIn K mainGlobals "NoPlace" = some (some (.ref C12)))
    (aC13 : PySem.W.nsIn K mainGlobals "NoNumber" = some (some (.ref C13)))
    (a4 : PySem.W.nsIn K mainGlobals "are_signs" = some (some (.ref f4)))
    (l4 : K.lookup f4 = some ⟨oc4, od4, .func (PySem.W.fnOf "are_signs" "are_signs" (L2.defArgs s_are_signs) (L2.defBody s_are_signs) (L2.defScope s_are_signs) .none kV4 dc4 pm4 an4 cd4 ct4), sl4⟩)
    (c4 : PySem.W.codeIn K cd4 "are_signs" = true)
    (k4 : PySem.W.keepIn K (.ref f4) = true)
    (a5 : PySem.W.nsIn K mainGlobals "is_word" = some (some (.ref f5)))
    (l5 : K.lookup f5 = some ⟨oc5, od5, .func (PySem.W.fnOf "is_word" "is_word" (L2.defArgs s_is_word) (L2.defBody s_is_word) (L2.defScope s_is_word) .none kV5 dc5 pm5 an5 cd5 ct5), sl5⟩)
    (c5 : PySem.W.codeIn K cd5 "is_word" = true)
    (k5 : PySem.W.keepIn K (.ref f5) = true)
    (a7 : PySem.W.nsIn K mainGlobals "first_bad" = some (some (.ref f7)))
    (l7 : K.lookup f7 = some ⟨oc7, od7, .func (PySem.W.fnOf "first_bad" "first_bad" (L2.defArgs s_first_bad) (L2.defBody s_first_bad) (L2.defScope s_first_bad) .none kV7 dc7 pm7 an7 cd7 ct7), sl7⟩)
    (c7 : PySem.W.codeIn K cd7 "first_bad" = true)
    (k7 : PySem.W.keepIn K (.ref f7) = true)
    (a12 : PySem.W.findIn K (.ref C0) "places" = some (some (.ref f12)))
    (i12 : PySem.W.isFn K (.ref f12) = true)
    (l12 : K.lookup f12 = some ⟨oc12, od12, .func (PySem.W.fnOf "places" "Band.places" (L2.defArgs s_Band_places) (L2.defBody s_Band_places) (L2.defScope s_Band_places) .none kV12 dc12 pm12 an12 cd12 ct12), sl12⟩)
    (c12 : PySem.W.codeIn K cd12 "Band.places" = true)
    (k12 : PySem.W.keepIn K (.ref f12) = true)
    (a16 : PySem.W.nsIn K mainGlobals "_law_cell" = some (some (.ref f16)))
    (l16 : K.lookup f16 = some ⟨oc16, od16, .func (PySem.W.fnOf "_law_cell" "_law_cell" (L2.defArgs s_law_cell) (L2.defBody s_law_cell) (L2.defScope s_law_cell) .none kV16 dc16 pm16 an16 cd16 ct16), sl16⟩)
    (c16 : PySem.W.codeIn K cd16 "_law_cell" = true)
    (k16 : PySem.W.keepIn K (.ref f16) = true)
    (a17 : PySem.W.nsIn K mainGlobals "_law_draw" = some (some (.ref f17)))
    (l17 : K.lookup f17 = some ⟨oc17, od17, .func (PySem.W.fnOf "_law_draw" "_law_draw" (L2.defArgs s_law_draw) (L2.defBody s_law_draw) (L2.defScope s_law_draw) .none kV17 dc17 pm17 an17 cd17 ct17), sl17⟩)
    (c17 : PySem.W.codeIn K cd17 "_law_draw" = true)
    (k17 : PySem.W.keepIn K (.ref f17) = true)
    (a21 : PySem.W.nsIn K mainGlobals "_law_is_good" = some (some (.ref f21)))
    (l21 : K.lookup f21 = some ⟨oc21, od21, .func (PySem.W.fnOf "_law_is_good" "_law_is_good" (L2.defArgs s_law_is_good) (L2.defBody s_law_is_good) (L2.defScope s_law_is_good) .none kV21 dc21 pm21 an21 cd21 ct21), sl21⟩)
    (c21 : PySem.W.codeIn K cd21 "_law_is_good" = true)
    (k21 : PySem.W.keepIn K (.ref f21) = true)
    (a22 : PySem.W.nsIn K mainGlobals "_law_rows" = some (some (.ref f22)))
    (l22 : K.lookup f22 = some ⟨oc22, od22, .func (PySem.W.fnOf "_law_rows" "_law_rows" (L2.defArgs s_law_rows) (L2.defBody s_law_rows) (L2.defScope s_law_rows) .none kV22 dc22 pm22 an22 cd22 ct22), sl22⟩)
    (c22 : PySem.W.codeIn K cd22 "_law_rows" = true)
    (k22 : PySem.W.keepIn K (.ref f22) = true)
    (a23 : PySem.W.nsIn K mainGlobals "_law_number" = some (some (.ref f23)))
    (l23 : K.lookup f23 = some ⟨oc23, od23, .func (PySem.W.fnOf "_law_number" "_law_number" (L2.defArgs s_law_number) (L2.defBody s_law_number) (L2.defScope s_law_number) .none kV23 dc23 pm23 an23 cd23 ct23), sl23⟩)
    (c23 : PySem.W.codeIn K cd23 "_law_number" = true)
    (k23 : PySem.W.keepIn K (.ref f23) = true)
    (a10 : PySem.W.findIn K (.ref C0) "found_places" = some (some (.ref f10)))
    (i10 : PySem.W.isFn K (.ref f10) = true)
    (l10 : K.lookup f10 = some ⟨oc10, od10, .func (PySem.W.fnOf "found_places" "Band.found_places" (L2.defArgs s_Band_found_places) (L2.defBody s_Band_found_places) (L2.defScope s_Band_found_places) .none kV10 dc10 pm10 an10 cd10 ct10), sl10⟩)
    (c10 : PySem.W.codeIn K cd10 "Band.found_places" = true)
    (k10 : PySem.W.keepIn K (.ref f10) = true)
    (a11 : PySem.W.findIn K (.ref C0) "ending" = some (some (.ref f11)))
    (i11 : PySem.W.isFn K (.ref f11) = true)
    (l11 : K.lookup f11 = some ⟨oc11, od11, .func (PySem.W.fnOf "ending" "Band.ending" (L2.defArgs s_Band_ending) (L2.defBody s_Band_ending) (L2.defScope s_Band_ending) .none kV11 dc11 pm11 an11 cd11 ct11), sl11⟩)
    (c11 : PySem.W.codeIn K cd11 "Band.ending" = true)
    (k11 : PySem.W.keepIn K (.ref f11) = true)
    (a18 : PySem.W.nsIn K mainGlobals "_law_signs" = some (some (.ref f18)))
    (l18 : K.lookup f18 = some ⟨oc18, od18, .func (PySem.W.fnOf "_law_signs" "_law_signs" (L2.defArgs s_law_signs) (L2.defBody s_law_signs) (L2.defScope s_law_signs) .none kV18 dc18 pm18 an18 cd18 ct18), sl18⟩)
    (c18 : PySem.W.codeIn K cd18 "_law_signs" = true)
    (k18 : PySem.W.keepIn K (.ref f18) = true)
    (a19 : PySem.W.nsIn K mainGlobals "_law_word" = some (some (.ref f19)))
    (l19 : K.lookup f19 = some ⟨oc19, od19, .func (PySem.W.fnOf "_law_word" "_law_word" (L2.defArgs s_law_word) (L2.defBody s_law_word) (L2.defScope s_law_word) .none kV19 dc19 pm19 an19 cd19 ct19), sl19⟩)
    (c19 : PySem.W.codeIn K cd19 "_law_word" = true)
    (k19 : PySem.W.keepIn K (.ref f19) = true)
    (a6 : PySem.W.nsIn K mainGlobals "check_row" = some (some (.ref f6)))
    (l6 : K.lookup f6 = some ⟨oc6, od6, .func (PySem.W.fnOf "check_row" "check_row" (L2.defArgs s_check_row) (L2.defBody s_check_row) (L2.defScope s_check_row) .none kV6 dc6 pm6 an6 cd6 ct6), sl6⟩)
    (c6 : PySem.W.codeIn K cd6 "check_row" = true)
    (k6 : PySem.W.keepIn K (.ref f6) = true)
    (a9 : PySem.W.findIn K (.ref C0) "__init__" = some (some (.ref f9)))
    (i9 : PySem.W.isFn K (.ref f9) = true)
    (l9 : K.lookup f9 = some ⟨oc9, od9, .func (PySem.W.fnOf "__init__" "Band.__init__" (L2.defArgs s_Band__init_) (L2.defBody s_Band__init_) (L2.defScope s_Band__init_) .none kV9 dc9 pm9 an9 cd9 ct9), sl9⟩)
    (c9 : PySem.W.codeIn K cd9 "Band.__init__" = true)
    (k9 : PySem.W.keepIn K (.ref f9) = true)
    (a13 : PySem.W.findIn K (.ref C0) "led" = some (some (.ref f13)))
    (i13 : PySem.W.isFn K (.ref f13) = true)
    (l13 : K.lookup f13 = some ⟨oc13, od13, .func (PySem.W.fnOf "led" "Band.led" (L2.defArgs s_Band_led) (L2.defBody s_Band_led) (L2.defScope s_Band_led) .none kV13 dc13 pm13 an13 cd13 ct13), sl13⟩)
    (c13 : PySem.W.codeIn K cd13 "Band.led" = true)
    (k13 : PySem.W.keepIn K (.ref f13) = true)
    (a20 : PySem.W.nsIn K mainGlobals "_law_words" = some (some (.ref f20)))
    (l20 : K.lookup f20 = some ⟨oc20, od20, .func (PySem.W.fnOf "_law_words" "_law_words" (L2.defArgs s_law_words) (L2.defBody s_law_words) (L2.defScope s_law_words) .none kV20 dc20 pm20 an20 cd20 ct20), sl20⟩)
    (c20 : PySem.W.codeIn K cd20 "_law_words" = true)
    (k20 : PySem.W.keepIn K (.ref f20) = true)
    (a0 : PySem.W.nsIn K mainGlobals "ends_of" = some (some (.ref f0)))
    (l0 : K.lookup f0 = some ⟨oc0, od0, .func (PySem.W.fnOf "ends_of" "ends_of" (L2.defArgs s_ends_of) (L2.defBody s_ends_of) (L2.defScope s_ends_of) .none kV0 dc0 pm0 an0 cd0 ct0), sl0⟩)
    (c0 : PySem.W.codeIn K cd0 "ends_of" = true)
    (k0 : PySem.W.keepIn K (.ref f0) = true)
    (a8 : PySem.W.nsIn K mainGlobals "check_good" = some (some (.ref f8)))
    (l8 : K.lookup f8 = some ⟨oc8, od8, .func (PySem.W.fnOf "check_good" "check_good" (L2.defArgs s_check_good) (L2.defBody s_check_good) (L2.defScope s_check_good) .none kV8 dc8 pm8 an8 cd8 ct8), sl8⟩)
    (c8 : PySem.W.codeIn K cd8 "check_good" = true)
    (k8 : PySem.W.keepIn K (.ref f8) = true)
    (a1 : PySem.W.nsIn K mainGlobals "tables" = some (some (.ref f1)))
    (l1 : K.lookup f1 = some ⟨oc1, od1, .func (PySem.W.fnOf "tables" "tables" (L2.defArgs s_tables) (L2.defBody s_tables) (L2.defScope s_tables) .none kV1 dc1 pm1 an1 cd1 ct1), sl1⟩)
    (c1 : PySem.W.codeIn K cd1 "tables" = true)
    (k1 : PySem.W.keepIn K (.ref f1) = true)
    (a2 : PySem.W.nsIn K mainGlobals "count_from" = some (some (.ref f2)))
    (l2 : K.lookup f2 = some ⟨oc2, od2, .func (PySem.W.fnOf "count_from" "count_from" (L2.defArgs s_count_from) (L2.defBody s_count_from) (L2.defScope s_count_from) .none kV2 dc2 pm2 an2 cd2 ct2), sl2⟩)
    (c2 : PySem.W.codeIn K cd2 "count_from" = true)
    (k2 : PySem.W.keepIn K (.ref f2) = true)
    (a14 : PySem.W.nsIn K mainGlobals "row_at" = some (some (.ref f14)))
    (l14 : K.lookup f14 = some ⟨oc14, od14, .func (PySem.W.fnOf "row_at" "row_at" (L2.defArgs s_row_at) (L2.defBody s_row_at) (L2.defScope s_row_at) .none kV14 dc14 pm14 an14 cd14 ct14), sl14⟩)
    (c14 : PySem.W.codeIn K cd14 "row_at" = true)
    (k14 : PySem.W.keepIn K (.ref f14) = true)
    (a15 : PySem.W.nsIn K mainGlobals "number_of" = some (some (.ref f15)))
    (l15 : K.lookup f15 = some ⟨oc15, od15, .func (PySem.W.fnOf "number_of" "number_of" (L2.defArgs s_number_of) (L2.defBody s_number_of) (L2.defScope s_number_of) .none kV15 dc15 pm15 an15 cd15 ct15), sl15⟩)
    (c15 : PySem.W.codeIn K cd15 "number_of" = true)
    (k15 : PySem.W.keepIn K (.ref f15) = true)
    (a3 : PySem.W.nsIn K mainGlobals "count" = some (some (.ref f3)))
    (l3 : K.lookup f3 = some ⟨oc3, od3, .func (PySem.W.fnOf "count" "count" (L2.defArgs s_count) (L2.defBody s_count) (L2.defScope s_count) .none kV3 dc3 pm3 an3 cd3 ct3), sl3⟩)
    (c3 : PySem.W.codeIn K cd3 "count" = true)
    (k3 : PySem.W.keepIn K (.ref f3) = true)
    (a24 : PySem.W.nsIn K mainGlobals "law" = some (some (.ref f24)))
    (l24 : K.lookup f24 = some ⟨oc24, od24, .func (PySem.W.fnOf "law" "law" (L2.defArgs s_law) (L2.defBody s_law) (L2.defScope s_law) .none kV24 dc24 pm24 an24 cd24 ct24), sl24⟩)
    (c24 : PySem.W.codeIn K cd24 "law" = true)
    (k24 : PySem.W.keepIn K (.ref f24) = true)
    (pg0 : PySem.W.plainGet K C0 Str.empty = true)
    (hd0 : PySem.W.hasDictIn K C0 = true)
    (po0 : PySem.W.plainOver K C0 = true)
    (sa0 : PySem.W.findIn K (.ref C0) "__setattr__" = some (some (.builtin "object.__setattr__")))
    (mk0 : PySem.W.makesIn K C0 = true)
    (kc0 : PySem.W.keepIn K (.ref C0) = true)
    (ha0 : PySem.W.findIn K (.ref C0) "__class__" = some (some (.builtin "object.__class__")))
    (hm0 : PySem.W.mroIn K C0 (.type "object") = some true)
    (na0_signs : PySem.W.findIn K (.ref C0) "signs" = some none)
    (na0_barred : PySem.W.findIn K (.ref C0) "barred" = some none)
    (na0_known : PySem.W.findIn K (.ref C0) "known" = some none)
    (na0_ways : PySem.W.findIn K (.ref C0) "ways" = some none)
    (hn0 : PySem.W.specialIn K (.builtin "object.__class__") "__get__" = some (some (.builtin "getset_descriptor.__get__")))
    (ht0 : PySem.W.takesIn K (.builtin "object.__class__") = some true)
    (ek7 : PySem.W.keepIn K (.ref C7) = true)
    (eq7 : PySem.W.excIn K C7 [.type "ValueError", .type "Exception", .type "BaseException", .type "object"] "ValueError.__new__" = true)
    (eb7 : PySem.W.subIn K (.ref C7) (.type "BaseException") = some true)
    (et7 : PySem.W.typeIn K (.ref C7) = some (.type "type"))
    (eg7 : PySem.W.findIn K (.ref C7) "__getattribute__" = some (some (.builtin "BaseException.__getattribute__")))
    (eh7 : PySem.W.findIn K (.ref C7) "__getattr__" = some none)
    (ed7 : PySem.W.hasDictIn K C7 = true)
    (ea7 : PySem.W.findIn K (.ref C7) "__class__" = some (some (.builtin "object.__class__")))
    (em7 : PySem.W.mroIn K C7 (.type "object") = some true)
    (ek8 : PySem.W.keepIn K (.ref C8) = true)
    (eb8 : PySem.W.subIn K (.ref C8) (.type "BaseException") = some true)
    (et8 : PySem.W.typeIn K (.ref C8) = some (.type "type"))
    (eg8 : PySem.W.findIn K (.ref C8) "__getattribute__" = some (some (.builtin "BaseException.__getattribute__")))
    (eh8 : PySem.W.findIn K (.ref C8) "__getattr__" = some none)
    (ed8 : PySem.W.hasDictIn K C8 = true)
    (ea8 : PySem.W.findIn K (.ref C8) "__class__" = some (some (.builtin "object.__class__")))
    (em8 : PySem.W.mroIn K C8 (.type "object") = some true)
    (ek9 : PySem.W.keepIn K (.ref C9) = true)
    (eb9 : PySem.W.subIn K (.ref C9) (.type "BaseException") = some true)
    (et9 : PySem.W.typeIn K (.ref C9) = some (.type "type"))
    (eg9 : PySem.W.findIn K (.ref C9) "__getattribute__" = some (some (.builtin "BaseException.__getattribute__")))
    (eh9 : PySem.W.findIn K (.ref C9) "__getattr__" = some none)
    (ed9 : PySem.W.hasDictIn K C9 = true)
    (ea9 : PySem.W.findIn K (.ref C9) "__class__" = some (some (.builtin "object.__class__")))
    (em9 : PySem.W.mroIn K C9 (.type "object") = some true)
    (ek10 : PySem.W.keepIn K (.ref C10) = true)
    (eb10 : PySem.W.subIn K (.ref C10) (.type "BaseException") = some true)
    (et10 : PySem.W.typeIn K (.ref C10) = some (.type "type"))
    (eg10 : PySem.W.findIn K (.ref C10) "__getattribute__" = some (some (.builtin "BaseException.__getattribute__")))
    (eh10 : PySem.W.findIn K (.ref C10) "__getattr__" = some none)
    (ed10 : PySem.W.hasDictIn K C10 = true)
    (ea10 : PySem.W.findIn K (.ref C10) "__class__" = some (some (.builtin "object.__class__")))
    (em10 : PySem.W.mroIn K C10 (.type "object") = some true)
    (ek11 : PySem.W.keepIn K (.ref C11) = true)
    (eb11 : PySem.W.subIn K (.ref C11) (.type "BaseException") = some true)
    (et11 : PySem.W.typeIn K (.ref C11) = some (.type "type"))
    (eg11 : PySem.W.findIn K (.ref C11) "__getattribute__" = some (some (.builtin "BaseException.__getattribute__")))
    (eh11 : PySem.W.findIn K (.ref C11) "__getattr__" = some none)
    (ed11 : PySem.W.hasDictIn K C11 = true)
    (ea11 : PySem.W.findIn K (.ref C11) "__class__" = some (some (.builtin "object.__class__")))
    (em11 : PySem.W.mroIn K C11 (.type "object") = some true)
    (ek12 : PySem.W.keepIn K (.ref C12) = true)
    (eb12 : PySem.W.subIn K (.ref C12) (.type "BaseException") = some true)
    (et12 : PySem.W.typeIn K (.ref C12) = some (.type "type"))
    (eg12 : PySem.W.findIn K (.ref C12) "__getattribute__" = some (some (.builtin "BaseException.__getattribute__")))
    (eh12 : PySem.W.findIn K (.ref C12) "__getattr__" = some none)
    (ed12 : PySem.W.hasDictIn K C12 = true)
    (ea12 : PySem.W.findIn K (.ref C12) "__class__" = some (some (.builtin "object.__class__")))
    (em12 : PySem.W.mroIn K C12 (.type "object") = some true)
    (ek13 : PySem.W.keepIn K (.ref C13) = true)
    (eq13 : PySem.W.excIn K C13 [.type "ValueError", .type "Exception", .type "BaseException", .type "object"] "ValueError.__new__" = true)
    (eb13 : PySem.W.subIn K (.ref C13) (.type "BaseException") = some true)
    (et13 : PySem.W.typeIn K (.ref C13) = some (.type "type"))
    (eg13 : PySem.W.findIn K (.ref C13) "__getattribute__" = some (some (.builtin "BaseException.__getattribute__")))
    (eh13 : PySem.W.findIn K (.ref C13) "__getattr__" = some none)
    (ed13 : PySem.W.hasDictIn K C13 = true)
    (ea13 : PySem.W.findIn K (.ref C13) "__class__" = some (some (.builtin "object.__class__")))
    (em13 : PySem.W.mroIn K C13 (.type "object") = some true)
    (a27 : PySem.W.findIn K (.ref C10) "__init__" = some (some (.ref f27)))
    (tf27 : PySem.W.typeIn K (.ref f27) = some (.type "function"))
    (l27 : K.lookup f27 = some ⟨oc27, od27, .func (PySem.W.fnOf "__init__" "NoRow.__init__" (L2.defArgs s_NoRow_i) (L2.defBody s_NoRow_i) (L2.defScope s_NoRow_i) .none kV27 dc27 pm27 an27 cd27 ct27), sl27⟩)
    (c27 : PySem.W.codeIn K cd27 "NoRow.__init__" = true)
    (k27 : PySem.W.keepIn K (.ref f27) = true)
    (lx10 : K.lookup C10 = some (PySem.excClassObj xnm10 xq10 C10 xN10 xbs10 xbm10 true xsn10 xsu10 xab10 xco10 xdd10 xka10 xkb10 xkc10 xkd10 xkf10 "ValueError.__new__"))
    (lr10 : PySem.HandSPX.refsVE xbm10 = true)
    (sx10 : PySem.W.findIn K (.ref C10) "__setattr__" = some (some (.builtin "object.__setattr__")))
    (xn10_number : PySem.W.findIn K (.ref C10) "number" = some none)
    (a28 : PySem.W.findIn K (.ref C11) "__init__" = some (some (.ref f28)))
    (tf28 : PySem.W.typeIn K (.ref f28) = some (.type "function"))
    (l28 : K.lookup f28 = some ⟨oc28, od28, .func (PySem.W.fnOf "__init__" "Barred.__init__" (L2.defArgs s_Barred_i) (L2.defBody s_Barred_i) (L2.defScope s_Barred_i) .none kV28 dc28 pm28 an28 cd28 ct28), sl28⟩)
    (c28 : PySem.W.codeIn K cd28 "Barred.__init__" = true)
    (k28 : PySem.W.keepIn K (.ref f28) = true)
    (lx11 : K.lookup C11 = some (PySem.excClassObj xnm11 xq11 C11 xN11 xbs11 xbm11 true xsn11 xsu11 xab11 xco11 xdd11 xka11 xkb11 xkc11 xkd11 xkf11 "ValueError.__new__"))
    (lr11 : PySem.HandSPX.refsVE xbm11 = true)
    (sx11 : PySem.W.findIn K (.ref C11) "__setattr__" = some (some (.builtin "object.__setattr__")))
    (xn11_length : PySem.W.findIn K (.ref C11) "length" = some none)
    (a25 : PySem.W.findIn K (.ref C8) "__init__" = some (some (.ref f25)))
    (tf25 : PySem.W.typeIn K (.ref f25) = some (.type "function"))
    (l25 : K.lookup f25 = some ⟨oc25, od25, .func (PySem.W.fnOf "__init__" "TooMany.__init__" (L2.defArgs s_TooMany_i) (L2.defBody s_TooMany_i) (L2.defScope s_TooMany_i) .none kV25 dc25 pm25 an25 cd25 ct25), sl25⟩)
    (c25 : PySem.W.codeIn K cd25 "TooMany.__init__" = true)
    (k25 : PySem.W.keepIn K (.ref f25) = true)
    (lx8 : K.lookup C8 = some (PySem.excClassObj xnm8 xq8 C8 xN8 xbs8 xbm8 true xsn8 xsu8 xab8 xco8 xdd8 xka8 xkb8 xkc8 xkd8 xkf8 "ValueError.__new__"))
    (lr8 : PySem.HandSPX.refsVE xbm8 = true)
    (sx8 : PySem.W.findIn K (.ref C8) "__setattr__" = some (some (.builtin "object.__setattr__")))
    (xn8_many : PySem.W.findIn K (.ref C8) "many" = some none)
    (a26 : PySem.W.findIn K (.ref C9) "__init__" = some (some (.ref f26)))
    (tf26 : PySem.W.typeIn K (.ref f26) = some (.type "function"))
    (l26 : K.lookup f26 = some ⟨oc26, od26, .func (PySem.W.fnOf "__init__" "NoWord.__init__" (L2.defArgs s_NoWord_i) (L2.defBody s_NoWord_i) (L2.defScope s_NoWord_i) .none kV26 dc26 pm26 an26 cd26 ct26), sl26⟩)
    (c26 : PySem.W.codeIn K cd26 "NoWord.__init__" = true)
    (k26 : PySem.W.keepIn K (.ref f26) = true)
    (lx9 : K.lookup C9 = some (PySem.excClassObj xnm9 xq9 C9 xN9 xbs9 xbm9 true xsn9 xsu9 xab9 xco9 xdd9 xka9 xkb9 xkc9 xkd9 xkf9 "ValueError.__new__"))
    (lr9 : PySem.HandSPX.refsVE xbm9 = true)
    (sx9 : PySem.W.findIn K (.ref C9) "__setattr__" = some (some (.builtin "object.__setattr__")))
    (xn9_number : PySem.W.findIn K (.ref C9) "number" = some none)
    (a29 : PySem.W.findIn K (.ref C12) "__init__" = some (some (.ref f29)))
    (tf29 : PySem.W.typeIn K (.ref f29) = some (.type "function"))
    (l29 : K.lookup f29 = some ⟨oc29, od29, .func (PySem.W.fnOf "__init__" "NoPlace.__init__" (L2.defArgs s_NoPlace_i) (L2.defBody s_NoPlace_i) (L2.defScope s_NoPlace_i) .none kV29 dc29 pm29 an29 cd29 ct29), sl29⟩)
    (c29 : PySem.W.codeIn K cd29 "NoPlace.__init__" = true)
    (k29 : PySem.W.keepIn K (.ref f29) = true)
    (lx12 : K.lookup C12 = some (PySem.excClassObj xnm12 xq12 C12 xN12 xbs12 xbm12 true xsn12 xsu12 xab12 xco12 xdd12 xka12 xkb12 xkc12 xkd12 xkf12 "ValueError.__new__"))
    (lr12 : PySem.HandSPX.refsVE xbm12 = true)
    (sx12 : PySem.W.findIn K (.ref C12) "__setattr__" = some (some (.builtin "object.__setattr__")))
    (xn12_place : PySem.W.findIn K (.ref C12) "place" = some none)
    (br6 : PySem.W.readsIn K C6 (.type "type") = true)
    (bf6 : PySem.W.findCls K (.ref C6) (.type "type") "__init__" = some (.val (.builtin "ValueError.__init__")))
    (bs6 : PySem.W.specialIn K (.ref C6) "__getattribute__" = some (some (.builtin "type.__getattribute__")))
    (ks_bool_err7 : PySem.W.kitOne K (.ref C7) (.type "bool") = some false)
    (ks_bool_err8 : PySem.W.kitOne K (.ref C8) (.type "bool") = some false)
    (ks_bool_err9 : PySem.W.kitOne K (.ref C9) (.type "bool") = some false)
    (ks_bool_err10 : PySem.W.kitOne K (.ref C10) (.type "bool") = some false)
    (ks_bool_err11 : PySem.W.kitOne K (.ref C11) (.type "bool") = some false)
    (ks_bool_err12 : PySem.W.kitOne K (.ref C12) (.type "bool") = some false)
    (ks_bool_err13 : PySem.W.kitOne K (.ref C13) (.type "bool") = some false)
    (ks_int_err7 : PySem.W.kitOne K (.ref C7) (.type "int") = some false)
    (ks_int_err8 : PySem.W.kitOne K (.ref C8) (.type "int") = some false)
    (ks_int_err9 : PySem.W.kitOne K (.ref C9) (.type "int") = some false)
    (ks_int_err10 : PySem.W.kitOne K (.ref C10) (.type "int") = some false)
    (ks_int_err11 : PySem.W.kitOne K (.ref C11) (.type "int") = some false)
    (ks_int_err12 : PySem.W.kitOne K (.ref C12) (.type "int") = some false)
    (ks_int_err13 : PySem.W.kitOne K (.ref C13) (.type "int") = some false)
    (ks_str_err7 : PySem.W.kitOne K (.ref C7) (.type "str") = some false)
    (ks_str_err8 : PySem.W.kitOne K (.ref C8) (.type "str") = some false)
    (ks_str_err9 : PySem.W.kitOne K (.ref C9) (.type "str") = some false)
    (ks_str_err10 : PySem.W.kitOne K (.ref C10) (.type "str") = some false)
    (ks_str_err11 : PySem.W.kitOne K (.ref C11) (.type "str") = some false)
    (ks_str_err12 : PySem.W.kitOne K (.ref C12) (.type "str") = some false)
    (ks_str_err13 : PySem.W.kitOne K (.ref C13) (.type "str") = some false)
    (z_all : PySem.W.nsIn K mainGlobals "all" = some none)
    (z_any : PySem.W.nsIn K mainGlobals "any" = some none)
    (z_bool : PySem.W.nsIn K mainGlobals "bool" = some none)
    (z_enumerate : PySem.W.nsIn K mainGlobals "enumerate" = some none)
    (z_int : PySem.W.nsIn K mainGlobals "int" = some none)
    (z_isinstance : PySem.W.nsIn K mainGlobals "isinstance" = some none)
    (z_len : PySem.W.nsIn K mainGlobals "len" = some none)
    (z_list : PySem.W.nsIn K mainGlobals "list" = some none)
    (z_max : PySem.W.nsIn K mainGlobals "max" = some none)
    (z_range : PySem.W.nsIn K mainGlobals "range" = some none)
    (z_sorted : PySem.W.nsIn K mainGlobals "sorted" = some none)
    (z_str : PySem.W.nsIn K mainGlobals "str" = some none)
    (z_sum : PySem.W.nsIn K mainGlobals "sum" = some none)
    (kk_KNOWN : PySem.W.nsIn K mainGlobals "KNOWN" = some (some (.str "abcdefghijklmnopqrstuvwxyz0123456789" tk_KNOWN)))
    (kk_LONGEST_WORD : PySem.W.nsIn K mainGlobals "LONGEST_WORD" = some (some (.int 5 tk_LONGEST_WORD)))
    (kk_MOST_WORDS : PySem.W.nsIn K mainGlobals "MOST_WORDS" = some (some (.int 6 tk_MOST_WORDS)))
    : ∃ fd : FuncData, (∀ (s : Shared) (v : Value), BindsTo s fd ⟨[v], []⟩ [("_law_script", v)]) ∧ ∀ base : Heap, K.In base → base.Ns mainGlobals mg → FnOk l.prog w K mg base (L2.CX l.prog w) 8 fL fd ["_law_script"] (spLaw K) := by
  have e := hfa.symm.trans (PySem.W.mg_of X G a24)
  cases e
  have F4 := fun_mk (st := s_are_signs) l4 c4 k4
  have F5 := fun_mk (st := s_is_word) l5 c5 k5
  have F7 := fun_mk (st := s_first_bad) l7 c7 k7
  have F12 := fun_mk (st := s_Band_places) l12 c12 k12
  have F16 := fun_mk (st := s_law_cell) l16 c16 k16
  have F17 := fun_mk (st := s_law_draw) l17 c17 k17
  have F21 := fun_mk (st := s_law_is_good) l21 c21 k21
  have F22 := fun_mk (st := s_law_rows) l22 c22 k22
  have F23 := fun_mk (st := s_law_number) l23 c23 k23
  have F10 := fun_mk (st := s_Band_found_places) l10 c10 k10
  have F11 := fun_mk (st := s_Band_ending) l11 c11 k11
  have F18 := fun_mk (st := s_law_signs) l18 c18 k18
  have F19 := fun_mk (st := s_law_word) l19 c19 k19
  have F6 := fun_mk (st := s_check_row) l6 c6 k6
  have F9 := fun_mk (st := s_Band__init_) l9 c9 k9
  have F13 := fun_mk (st := s_Band_led) l13 c13 k13
  have F20 := fun_mk (st := s_law_words) l20 c20 k20
  have F0 := fun_mk (st := s_ends_of) l0 c0 k0
  have F8 := fun_mk (st := s_check_good) l8 c8 k8
  have F1 := fun_mk (st := s_tables) l1 c1 k1
  have F2 := fun_mk (st := s_count_from) l2 c2 k2
  have F14 := fun_mk (st := s_row_at) l14 c14 k14
  have F15 := fun_mk (st := s_number_of) l15 c15 k15
  have F3 := fun_mk (st := s_count) l3 c3 k3
  have F24 := fun_mk (st := s_law) l24 c24 k24
  have F27 := fun_mk (st := s_NoRow_i) l27 c27 k27
  have F28 := fun_mk (st := s_Barred_i) l28 c28 k28
  have F25 := fun_mk (st := s_TooMany_i) l25 c25 k25
  have F26 := fun_mk (st := s_NoWord_i) l26 c26 k26
  have F29 := fun_mk (st := s_NoPlace_i) l29 c29 k29
  have T : Txt K mg (ctL [C0, 0, 0, 0, 0, 0, C6, C7, C8, C9, C10, C11, C12, C13]) (ctL [f0, f1, f2, f3, f4, f5, f6, f7, f8, f9, f10, f11, f12, f13, f14, f15, f16, f17, f18, f19, f20, f21, f22, f23, f24, f25, f26, f27, f28, f29]) := {
    F_are_signs := ⟨_, F4⟩
    g_are_signs := PySem.W.mg_of X G a4
    F_is_word := ⟨_, F5⟩
    g_is_word := PySem.W.mg_of X G a5
    F_first_bad := ⟨_, F7⟩
    g_first_bad := PySem.W.mg_of X G a7
    F_Band_places := ⟨_, F12⟩
    F_law_cell := ⟨_, F16⟩
    g_law_cell := PySem.W.mg_of X G a16
    F_law_draw := ⟨_, F17⟩
    g_law_draw := PySem.W.mg_of X G a17
    F_law_is_good := ⟨_, F21⟩
    g_law_is_good := PySem.W.mg_of X G a21
    F_law_rows := ⟨_, F22⟩
    g_law_rows := PySem.W.mg_of X G a22
    F_law_number := ⟨_, F23⟩
    g_law_number := PySem.W.mg_of X G a23
    F_Band_found_places := ⟨_, F10⟩
    F_Band_ending := ⟨_, F11⟩
    F_law_signs := ⟨_, F18⟩
    g_law_signs := PySem.W.mg_of X G a18
    F_law_word := ⟨_, F19⟩
    g_law_word := PySem.W.mg_of X G a19
    F_check_row := ⟨_, F6⟩
    g_check_row := PySem.W.mg_of X G a6
    F_Band__init_ := ⟨_, F9⟩
    F_Band_led := ⟨_, F13⟩
    F_law_words := ⟨_, F20⟩
    g_law_words := PySem.W.mg_of X G a20
    F_ends_of := ⟨_, F0⟩
    g_ends_of := PySem.W.mg_of X G a0
    F_check_good := ⟨_, F8⟩
    g_check_good := PySem.W.mg_of X G a8
    F_tables := ⟨_, F1⟩
    g_tables := PySem.W.mg_of X G a1
    F_count_from := ⟨_, F2⟩
    g_count_from := PySem.W.mg_of X G a2
    F_row_at := ⟨_, F14⟩
    g_row_at := PySem.W.mg_of X G a14
    F_number_of := ⟨_, F15⟩
    g_number_of := PySem.W.mg_of X G a15
    F_count := ⟨_, F3⟩
    g_count := PySem.W.mg_of X G a3
    F_law := ⟨_, F24⟩
    g_law := PySem.W.mg_of X G a24
    g_Band := PySem.W.mg_of X G aC0
    cl_0 := ⟨pg0, hd0, po0, sa0⟩
    ow_0 := ⟨⟨pg0, hd0, po0, sa0⟩, ha0, hn0, ht0, hm0⟩
    na_0_signs := na0_signs
    na_0_barred := na0_barred
    na_0_known := na0_known
    na_0_ways := na0_ways
    mk_0 := ⟨mk0, a9, i9, kc0⟩
    g_BandError := PySem.W.mg_of X G aC6
    g_NoSigns := PySem.W.mg_of X G aC7
    g_TooMany := PySem.W.mg_of X G aC8
    g_NoWord := PySem.W.mg_of X G aC9
    g_NoRow := PySem.W.mg_of X G aC10
    g_Barred := PySem.W.mg_of X G aC11
    g_NoPlace := PySem.W.mg_of X G aC12
    g_NoNumber := PySem.W.mg_of X G aC13
    F_NoRow_i := ⟨_, F27⟩
    ox_NoRow := ⟨PySem.W.mg_of X G aC10, ⟨⟨_, _, _, _, _, _, _, _, _, _, _, _, _, _, _, lx10, lr10⟩, sx10, eb10, et10, ek10⟩, a27, tf27⟩
    xf_NoRow := ⟨eg10, eh10, eb10, ed10⟩
    xn_NoRow_number := xn10_number
    F_Barred_i := ⟨_, F28⟩
    ox_Barred := ⟨PySem.W.mg_of X G aC11, ⟨⟨_, _, _, _, _, _, _, _, _, _, _, _, _, _, _, lx11, lr11⟩, sx11, eb11, et11, ek11⟩, a28, tf28⟩
    xf_Barred := ⟨eg11, eh11, eb11, ed11⟩
    xn_Barred_length := xn11_length
    F_TooMany_i := ⟨_, F25⟩
    ox_TooMany := ⟨PySem.W.mg_of X G aC8, ⟨⟨_, _, _, _, _, _, _, _, _, _, _, _, _, _, _, lx8, lr8⟩, sx8, eb8, et8, ek8⟩, a25, tf25⟩
    xf_TooMany := ⟨eg8, eh8, eb8, ed8⟩
    xn_TooMany_many := xn8_many
    F_NoWord_i := ⟨_, F26⟩
    ox_NoWord := ⟨PySem.W.mg_of X G aC9, ⟨⟨_, _, _, _, _, _, _, _, _, _, _, _, _, _, _, lx9, lr9⟩, sx9, eb9, et9, ek9⟩, a26, tf26⟩
    xf_NoWord := ⟨eg9, eh9, eb9, ed9⟩
    xn_NoWord_number := xn9_number
    F_NoPlace_i := ⟨_, F29⟩
    ox_NoPlace := ⟨PySem.W.mg_of X G aC12, ⟨⟨_, _, _, _, _, _, _, _, _, _, _, _, _, _, _, lx12, lr12⟩, sx12, eb12, et12, ek12⟩, a29, tf29⟩
    xf_NoPlace := ⟨eg12, eh12, eb12, ed12⟩
    xn_NoPlace_place := xn12_place
    bi_BandError := ⟨PySem.W.mg_of X G aC6, br6, bf6, bs6⟩
    er_NoSigns := ⟨PySem.W.mg_of X G aC7, ek7, eq7, eb7, et7⟩
    ec_NoSigns := ⟨eg7, eh7, eb7, ed7, ea7, hn0, ht0, em7⟩
    ec_TooMany := ⟨eg8, eh8, eb8, ed8, ea8, hn0, ht0, em8⟩
    ec_NoWord := ⟨eg9, eh9, eb9, ed9, ea9, hn0, ht0, em9⟩
    ec_NoRow := ⟨eg10, eh10, eb10, ed10, ea10, hn0, ht0, em10⟩
    ec_Barred := ⟨eg11, eh11, eb11, ed11, ea11, hn0, ht0, em11⟩
    ec_NoPlace := ⟨eg12, eh12, eb12, ed12, ea12, hn0, ht0, em12⟩
    er_NoNumber := ⟨PySem.W.mg_of X G aC13, ek13, eq13, eb13, et13⟩
    ec_NoNumber := ⟨eg13, eh13, eb13, ed13, ea13, hn0, ht0, em13⟩
    ks_bool_err7 := ks_bool_err7
    ks_bool_err8 := ks_bool_err8
    ks_bool_err9 := ks_bool_err9
    ks_bool_err10 := ks_bool_err10
    ks_bool_err11 := ks_bool_err11
    ks_bool_err12 := ks_bool_err12
    ks_bool_err13 := ks_bool_err13
    ks_int_err7 := ks_int_err7
    ks_int_err8 := ks_int_err8
    ks_int_err9 := ks_int_err9
    ks_int_err10 := ks_int_err10
    ks_int_err11 := ks_int_err11
    ks_int_err12 := ks_int_err12
    ks_int_err13 := ks_int_err13
    ks_str_err7 := ks_str_err7
    ks_str_err8 := ks_str_err8
    ks_str_err9 := ks_str_err9
    ks_str_err10 := ks_str_err10
    ks_str_err11 := ks_str_err11
    ks_str_err12 := ks_str_err12
    ks_str_err13 := ks_str_err13
    z_all := PySem.W.mg_none_of X G z_all
    z_any := PySem.W.mg_none_of X G z_any
    z_bool := PySem.W.mg_none_of X G z_bool
    z_enumerate := PySem.W.mg_none_of X G z_enumerate
    z_int := PySem.W.mg_none_of X G z_int
    z_isinstance := PySem.W.mg_none_of X G z_isinstance
    z_len := PySem.W.mg_none_of X G z_len
    z_list := PySem.W.mg_none_of X G z_list
    z_max := PySem.W.mg_none_of X G z_max
    z_range := PySem.W.mg_none_of X G z_range
    z_sorted := PySem.W.mg_none_of X G z_sorted
    z_str := PySem.W.mg_none_of X G z_str
    z_sum := PySem.W.mg_none_of X G z_sum
    me_Band_ending := ⟨a11, i11, k11⟩
    me_Band_found_places := ⟨a10, i10, k10⟩
    me_Band_led := ⟨a13, i13, k13⟩
    me_Band_places := ⟨a12, i12, k12⟩
    k_KNOWN := ⟨_, PySem.W.mg_of X G kk_KNOWN⟩
    k_LONGEST_WORD := ⟨_, PySem.W.mg_of X G kk_LONGEST_WORD⟩
    k_MOST_WORDS := ⟨_, PySem.W.mg_of X G kk_MOST_WORDS⟩
  }
  exact ⟨_, fun s v => .of_eq rfl, fun base _ _ => (ok_law T F24).imp fun vs H Q E ⟨a, ns, e, hS, hl, k⟩ => by subst e; exact law_sp2 hS (law_true ns hl) k⟩
theorem walk {l : PySem.W.OpenLaw} {q : Program} {loose : List Str} {XP : (Str → Option Value) → Heap → Prop} {YP : World → Heap → Prop} {d : DefRec} {K : Params → PySem.W.Frag} (hn : l.most = some 63) (hdf : d.params.defaults = [])
    (hY : ∀ (w : World) (h : Heap), YP w h → (K w.params).In h)
    (F : ∀ (w : World) (mg : Str → Option Value) (fa : Addr) (h : Heap), (K w.params).In h → h.Ns mainGlobals mg → mg d.name = some (.ref fa) →
      ∃ fd : FuncData, (∀ (s : Shared) (u : Value), BindsTo s fd ⟨[u], []⟩ [("_law_script", u)]) ∧ ∀ base : Heap, (K w.params).In base → base.Ns mainGlobals mg → FnOk l.prog w (K w.params) mg base (L2.CX l.prog w) 8 fa fd ["_law_script"] (spLaw (K w.params))) :
    PySem.W.WalkO q loose XP YP l.row.toRowW d [] (fun f vs => PySem.call f vs) :=
  L2.walk_of (n := 63) (k := 8) (x := "_law_script") (CX := fun w => L2.CX l.prog w) (sp := fun w => spLaw (K w.params)) hn (by decide) hdf ⟨rfl, by decide, by decide⟩ hY F (fun _ _ a ns hl _ hS => ⟨a, ns, rfl, hS, hl, fun _ => rfl⟩) fun _ _ _ _ _ z => cx_false z
end Lw
open PySem PySem.W PyProof.Rows
set_option maxRecDepth 100000 in
set_option maxHeartbeats 0 in
theorem PySem.Challenge.cw_bandscribe_k10_rows_listed_holds : PySem.Challenge.rw_bandscribe_k10_rows_listed.Holds := by
  w_on; o_law; k_head; (case hw => w_witness2)
  k_fill
  refine Lw.walk (l := PySem.Challenge.rw_bandscribe_k10_rows_listed) rfl rfl (fun w h Y => PySem.W.kIn_of Y) ?F
  case F =>
    intro w mg fa h KX G hmg
    refine' Lw.all_mk KX G hmg ?aC0 ?aC6 ?aC7 ?aC8 ?aC9 ?aC10 ?aC11 ?aC12 ?aC13 ?a4 ?l4 ?c4 ?k4 ?a5 ?l5 ?c5 ?k5 ?a7 ?l7 ?c7 ?k7 ?a12 ?i12 ?l12 ?c12 ?k12 ?a16 ?l16 ?c16 ?k16 ?a17 ?l17 ?c17 ?k17 ?a21 ?l21 ?c21 ?k21 ?a22 ?l22 ?c22 ?k22 ?a23 ?l23 ?c23 ?k23 ?a10 ?i10 ?l10 ?c10 ?k10 ?a11 ?i11 ?l11 ?c11 ?k11 ?a18 ?l18 ?c18 ?k18 ?a19 ?l19 ?c19 ?k19 ?a6 ?l6 ?c6 ?k6 ?a9 ?i9 ?l9 ?c9 ?k9 ?a13 ?i13 ?l13 ?c13 ?k13 ?a20 ?l20 ?c20 ?k20 ?a0 ?l0 ?c0 ?k0 ?a8 ?l8 ?c8 ?k8 ?a1 ?l1 ?c1 ?k1 ?a2 ?l2 ?c2 ?k2 ?a14 ?l14 ?c14 ?k14 ?a15 ?l15 ?c15 ?k15 ?a3 ?l3 ?c3 ?k3 ?a24 ?l24 ?c24 ?k24 ?pg0 ?hd0 ?po0 ?sa0 ?mk0 ?kc0 ?ha0 ?hm0 ?na0_signs ?na0_barred ?na0_known ?na0_ways ?hn0 ?ht0 ?ek7 ?eq7 ?eb7 ?et7 ?eg7 ?eh7 ?ed7 ?ea7 ?em7 ?ek8 ?eb8 ?et8 ?eg8 ?eh8 ?ed8 ?ea8 ?em8 ?ek9 ?eb9 ?et9 ?eg9 ?eh9 ?ed9 ?ea9 ?em9 ?ek10 ?eb10 ?et10 ?eg10 ?eh10 ?ed10 ?ea10 ?em10 ?ek11 ?eb11 ?et11 ?eg11 ?eh11 ?ed11 ?ea11 ?em11 ?ek12 ?eb12 ?et12 ?eg12 ?eh12 ?ed12 ?ea12 ?em12 ?ek13 ?eq13 ?eb13 ?et13 ?eg13 ?eh13 ?ed13 ?ea13 ?em13 ?a27 ?tf27 ?l27 ?c27 ?k27 ?lx10 ?lr10 ?sx10 ?xn10_number ?a28 ?tf28 ?l28 ?c28 ?k28 ?lx11 ?lr11 ?sx11 ?xn11_length ?a25 ?tf25 ?l25 ?c25 ?k25 ?lx8 ?lr8 ?sx8 ?xn8_many ?a26 ?tf26 ?l26 ?c26 ?k26 ?lx9 ?lr9 ?sx9 ?xn9_number ?a29 ?tf29 ?l29 ?c29 ?k29 ?lx12 ?lr12 ?sx12 ?xn12_place ?br6 ?bf6 ?bs6 ?ks_bool_err7 ?ks_bool_err8 ?ks_bool_err9 ?ks_bool_err10 ?ks_bool_err11 ?ks_bool_err12 ?ks_bool_err13 ?ks_int_err7 ?ks_int_err8 ?ks_int_err9 ?ks_int_err10 ?ks_int_err11 ?ks_int_err12 ?ks_int_err13 ?ks_str_err7 ?ks_str_err8 ?ks_str_err9 ?ks_str_err10 ?ks_str_err11 ?ks_str_err12 ?ks_str_err13 ?z_all ?z_any ?z_bool ?z_enumerate ?z_int ?z_isinstance ?z_len ?z_list ?z_max ?z_range ?z_sorted ?z_str ?z_sum ?kk_KNOWN ?kk_LONGEST_WORD ?kk_MOST_WORDS
    (case aC0 => k_is)
    (case aC6 => k_is)
    (case aC7 => k_is)
    (case aC8 => k_is)
    (case aC9 => k_is)
    (case aC10 => k_is)
    (case aC11 => k_is)
    (case aC12 => k_is)
    (case aC13 => k_is)
    (case a4 => k_is)
    (case l4 => k_is)
    (case c4 => k_is)
    (case k4 => k_is)
    (case a5 => k_is)
    (case l5 => k_is)
    (case c5 => k_is)
    (case k5 => k_is)
    (case a7 => k_is)
    (case l7 => k_is)
    (case c7 => k_is)
    (case k7 => k_is)
    (case a12 => k_is)
    (case i12 => k_is)
    (case l12 => k_is)
    (case c12 => k_is)
    (case k12 => k_is)
    (case a16 => k_is)
    (case l16 => k_is)
    (case c16 => k_is)
    (case k16 => k_is)
    (case a17 => k_is)
    (case l17 => k_is)
    (case c17 => k_is)
    (case k17 => k_is)
    (case a21 => k_is)
    (case l21 => k_is)
    (case c21 => k_is)
    (case k21 => k_is)
    (case a22 => k_is)
    (case l22 => k_is)
    (case c22 => k_is)
    (case k22 => k_is)
    (case a23 => k_is)
    (case l23 => k_is)
    (case c23 => k_is)
    (case k23 => k_is)
    (case a10 => k_is)
    (case i10 => k_is)
    (case l10 => k_is)
    (case c10 => k_is)
    (case k10 => k_is)
    (case a11 => k_is)
    (case i11 => k_is)
    (case l11 => k_is)
    (case c11 => k_is)
    (case k11 => k_is)
    (case a18 => k_is)
    (case l18 => k_is)
    (case c18 => k_is)
    (case k18 => k_is)
    (case a19 => k_is)
    (case l19 => k_is)
    (case c19 => k_is)
    (case k19 => k_is)
    (case a6 => k_is)
    (case l6 => k_is)
    (case c6 => k_is)
    (case k6 => k_is)
    (case a9 => k_is)
    (case i9 => k_is)
    (case l9 => k_is)
    (case c9 => k_is)
    (case k9 => k_is)
    (case a13 => k_is)
    (case i13 => k_is)
    (case l13 => k_is)
    (case c13 => k_is)
    (case k13 => k_is)
    (case a20 => k_is)
    (case l20 => k_is)
    (case c20 => k_is)
    (case k20 => k_is)
    (case a0 => k_is)
    (case l0 => k_is)
    (case c0 => k_is)
    (case k0 => k_is)
    (case a8 => k_is)
    (case l8 => k_is)
    (case c8 => k_is)
    (case k8 => k_is)
    (case a1 => k_is)
    (case l1 => k_is)
    (case c1 => k_is)
    (case k1 => k_is)
    (case a2 => k_is)
    (case l2 => k_is)
    (case c2 => k_is)
    (case k2 => k_is)
    (case a14 => k_is)
    (case l14 => k_is)
    (case c14 => k_is)
    (case k14 => k_is)
    (case a15 => k_is)
    (case l15 => k_is)
    (case c15 => k_is)
    (case k15 => k_is)
    (case a3 => k_is)
    (case l3 => k_is)
    (case c3 => k_is)
    (case k3 => k_is)
    (case a24 => k_is)
    (case l24 => k_is)
    (case c24 => k_is)
    (case k24 => k_is)
    (case pg0 => k_is)
    (case hd0 => k_is)
    (case po0 => k_is)
    (case sa0 => k_is)
    (case mk0 => k_is)
    (case kc0 => k_is)
    (case ha0 => k_is)
    (case hm0 => k_is)
    (case na0_signs => k_is)
    (case na0_barred => k_is)
    (case na0_known => k_is)
    (case na0_ways => k_is)
    (case hn0 => k_is)
    (case ht0 => k_is)
    (case ek7 => k_is)
    (case eq7 => k_exc)
    (case eb7 => k_is)
    (case et7 => k_is)
    (case eg7 => k_is)
    (case eh7 => k_is)
    (case ed7 => k_is)
    (case ea7 => k_is)
    (case em7 => k_is)
    (case ek8 => k_is)
    (case eb8 => k_is)
    (case et8 => k_is)
    (case eg8 => k_is)
    (case eh8 => k_is)
    (case ed8 => k_is)
    (case ea8 => k_is)
    (case em8 => k_is)
    (case ek9 => k_is)
    (case eb9 => k_is)
    (case et9 => k_is)
    (case eg9 => k_is)
    (case eh9 => k_is)
    (case ed9 => k_is)
    (case ea9 => k_is)
    (case em9 => k_is)
    (case ek10 => k_is)
    (case eb10 => k_is)
    (case et10 => k_is)
    (case eg10 => k_is)
    (case eh10 => k_is)
    (case ed10 => k_is)
    (case ea10 => k_is)
    (case em10 => k_is)
    (case ek11 => k_is)
    (case eb11 => k_is)
    (case et11 => k_is)
    (case eg11 => k_is)
    (case eh11 => k_is)
    (case ed11 => k_is)
    (case ea11 => k_is)
    (case em11 => k_is)
    (case ek12 => k_is)
    (case eb12 => k_is)
    (case et12 => k_is)
    (case eg12 => k_is)
    (case eh12 => k_is)
    (case ed12 => k_is)
    (case ea12 => k_is)
    (case em12 => k_is)
    (case ek13 => k_is)
    (case eq13 => k_exc)
    (case eb13 => k_is)
    (case et13 => k_is)
    (case eg13 => k_is)
    (case eh13 => k_is)
    (case ed13 => k_is)
    (case ea13 => k_is)
    (case em13 => k_is)
    (case a27 => k_is)
    (case tf27 => k_is)
    (case l27 => k_is)
    (case c27 => k_is)
    (case k27 => k_is)
    (case lx10 => k_is)
    (case lr10 => rfl)
    (case sx10 => k_is)
    (case xn10_number => k_is)
    (case a28 => k_is)
    (case tf28 => k_is)
    (case l28 => k_is)
    (case c28 => k_is)
    (case k28 => k_is)
    (case lx11 => k_is)
    (case lr11 => rfl)
    (case sx11 => k_is)
    (case xn11_length => k_is)
    (case a25 => k_is)
    (case tf25 => k_is)
    (case l25 => k_is)
    (case c25 => k_is)
    (case k25 => k_is)
    (case lx8 => k_is)
    (case lr8 => rfl)
    (case sx8 => k_is)
    (case xn8_many => k_is)
    (case a26 => k_is)
    (case tf26 => k_is)
    (case l26 => k_is)
    (case c26 => k_is)
    (case k26 => k_is)
    (case lx9 => k_is)
    (case lr9 => rfl)
    (case sx9 => k_is)
    (case xn9_number => k_is)
    (case a29 => k_is)
    (case tf29 => k_is)
    (case l29 => k_is)
    (case c29 => k_is)
    (case k29 => k_is)
    (case lx12 => k_is)
    (case lr12 => rfl)
    (case sx12 => k_is)
    (case xn12_place => k_is)
    (case br6 => k_is)
    (case bf6 => k_is)
    (case bs6 => k_is)
    (case ks_bool_err7 => first | k_is | rfl | decide +kernel)
    (case ks_bool_err8 => first | k_is | rfl | decide +kernel)
    (case ks_bool_err9 => first | k_is | rfl | decide +kernel)
    (case ks_bool_err10 => first | k_is | rfl | decide +kernel)
    (case ks_bool_err11 => first | k_is | rfl | decide +kernel)
    (case ks_bool_err12 => first | k_is | rfl | decide +kernel)
    (case ks_bool_err13 => first | k_is | rfl | decide +kernel)
    (case ks_int_err7 => first | k_is | rfl | decide +kernel)
    (case ks_int_err8 => first | k_is | rfl | decide +kernel)
    (case ks_int_err9 => first | k_is | rfl | decide +kernel)
    (case ks_int_err10 => first | k_is | rfl | decide +kernel)
    (case ks_int_err11 => first | k_is | rfl | decide +kernel)
    (case ks_int_err12 => first | k_is | rfl | decide +kernel)
    (case ks_int_err13 => first | k_is | rfl | decide +kernel)
    (case ks_str_err7 => first | k_is | rfl | decide +kernel)
    (case ks_str_err8 => first | k_is | rfl | decide +kernel)
    (case ks_str_err9 => first | k_is | rfl | decide +kernel)
    (case ks_str_err10 => first | k_is | rfl | decide +kernel)
    (case ks_str_err11 => first | k_is | rfl | decide +kernel)
    (case ks_str_err12 => first | k_is | rfl | decide +kernel)
    (case ks_str_err13 => first | k_is | rfl | decide +kernel)
    (case z_all => k_is)
    (case z_any => k_is)
    (case z_bool => k_is)
    (case z_enumerate => k_is)
    (case z_int => k_is)
    (case z_isinstance => k_is)
    (case z_len => k_is)
    (case z_list => k_is)
    (case z_max => k_is)
    (case z_range => k_is)
    (case z_sorted => k_is)
    (case z_str => k_is)
    (case z_sum => k_is)
    (case kk_KNOWN => k_is)
    (case kk_LONGEST_WORD => k_is)
    (case kk_MOST_WORDS => k_is)
#print axioms PySem.Challenge.cw_bandscribe_k10_rows_listed_holds

