import PyProof.Rows.All
import Wide.All
import OpenK.AllK
import Wide.FinOn
import KE.KStateDown
import Lean
import HandS.ForMost
import HandS.Exc
import HandS.ExcOwn
import HandS.WordsExc
import HandS.TryMany
import HandS.TryOnly
import HandS.ExcField
import HandS.ExcIs
import HandS.ExcSuper
import HandS.IsInst
import HandS.Defaults
import HandS.CallSlots
import HandS.Flow
import HandS.Conv
import HandS.More
import HandS.RevRange
import HandS.Head0
import HandS.Head1
import HandS.Head2
import HandS.HeadEnd
import HandS.HeadHook1
import HandS.HeadHook2
import KE.KExcSuper
import HandS.Iter
import HandS.Dict
import HandS.TupLen
import HandS.WordsDict
import HandS.Walk
import HandS.TupAny
import KE.KExcIs
import KE.IntTextLaws
import KE.KIntText
import HandS.Comp
import HandS.Zip
import HandS.OwnEq
import PyProof.InstNe
import KE.GoesEnum
import KE.GoesZip
import KE.GoesMore
import HandS.Star
import HandS.SetBool
import HandS.Strs
import HandS.SortInts
import HandS.ClsMeth
import HandS.HeadNt
import HandS.Style
import HandS.DictComp
import KE.KDictPairs
import HandS.Text
import PySem.Challenge.RW_laterways_k83_kinds_of_errors
set_option Elab.async false
set_option linter.all false
set_option maxRecDepth 100000
set_option maxHeartbeats 4000000
/-! DL, part a: data, what a value stands for, slots, states. -/
namespace DL
open PySem PySem.Spec L2

/-- data that does not change any more -/
inductive Dt where
  | non | bl (b : Bool) | int (i : Int) | str (x : Str) | ty (n : String) | ref (a : Addr)
  | lst (xs : List Dt) | tup (xs : List Dt) | scr (ns : List Int)
  | obj (C : Addr) (fs : List (Str × Dt))
  | dK (kvs : List (Key × Dt)) | dT (kvs : List (List Key × Dt))
  | exc (C : Addr) (fs : List (Str × Dt))
  | at_ (a : Addr) (d : Dt)

/-- an exception object that is kept -/
def ExK (C : Addr) (d : Option Addr) (a : Addr) : HO := .ext fun h => ∃ (oe : Obj) (vs : Array Value), h.get? a = some oe ∧ Zc (.ref C) d oe ∧ oe.data = .fields vs

mutual
inductive Rep (K : PySem.W.Frag) (G : Hp) : V → Dt → Prop
  | non : Rep K G .non .non
  | bl (b : Bool) : Rep K G (.bl b) (.bl b)
  | int (i : Int) : Rep K G (.int i) (.int i)
  | str (x : Str) : Rep K G (.str x) (.str x)
  | ty (n : String) : Rep K G (.ty n) (.ty n)
  | ref (a : Addr) : Rep K G (.ref a) (.ref a)
  | lst {a : Addr} {xs : List V} {ds : List Dt} : G a = some (.lst xs) → Reps K G xs ds → Rep K G (.ref a) (.lst ds)
  | tup {a : Addr} {xs : List V} {ds : List Dt} : G a = some (.tup xs) → Reps K G xs ds → Rep K G (.ref a) (.tup ds)
  | scr {a : Addr} {ns : List Int} : SqL K G a (ns.map V.int) → Rep K G (.ref a) (.scr ns)
  | obj {a C dx : Addr} {fs : List (Str × V)} {fds : List (Str × Dt)} : G a = some (.ins C dx fs) → RepF K G fs fds → Rep K G (.ref a) (.obj C fds)
  | dK {a : Addr} {ob : Obj} {kvs : List (Key × V)} {kds : List (Key × Dt)} : G a = some (.frz ob (.dK kvs)) → RepK K G kvs kds → Rep K G (.ref a) (.dK kds)
  | dT {a : Addr} {ob : Obj} {kvs : List (List Key × V)} {kds : List (List Key × Dt)} : G a = some (.frz ob (.dT kvs)) → RepT K G kvs kds → Rep K G (.ref a) (.dT kds)
  | exc {a C : Addr} {d : Option Addr} {fds : List (Str × Dt)} : G a = some (ExK C d a) → RepX K G d fds → Rep K G (.ref a) (.exc C fds)
  | at_ {a : Addr} {d : Dt} : Rep K G (.ref a) d → Rep K G (.ref a) (.at_ a d)
inductive Reps (K : PySem.W.Frag) (G : Hp) : List V → List Dt → Prop
  | nil : Reps K G [] []
  | cons {v : V} {vs : List V} {d : Dt} {ds : List Dt} : Rep K G v d → Reps K G vs ds → Reps K G (v :: vs) (d :: ds)
inductive RepF (K : PySem.W.Frag) (G : Hp) : List (Str × V) → List (Str × Dt) → Prop
  | nil : RepF K G [] []
  | cons {f : Str} {v : V} {vs : List (Str × V)} {d : Dt} {ds : List (Str × Dt)} : Rep K G v d → RepF K G vs ds → RepF K G ((f, v) :: vs) ((f, d) :: ds)
inductive RepK (K : PySem.W.Frag) (G : Hp) : List (Key × V) → List (Key × Dt) → Prop
  | nil : RepK K G [] []
  | cons {f : Key} {v : V} {vs : List (Key × V)} {d : Dt} {ds : List (Key × Dt)} : Rep K G v d → RepK K G vs ds → RepK K G ((f, v) :: vs) ((f, d) :: ds)
inductive RepT (K : PySem.W.Frag) (G : Hp) : List (List Key × V) → List (List Key × Dt) → Prop
  | nil : RepT K G [] []
  | cons {f : List Key} {v : V} {vs : List (List Key × V)} {d : Dt} {ds : List (List Key × Dt)} : Rep K G v d → RepT K G vs ds → RepT K G ((f, v) :: vs) ((f, d) :: ds)
inductive RepX (K : PySem.W.Frag) (G : Hp) : Option Addr → List (Str × Dt) → Prop
  | none : RepX K G none []
  | some {d : Addr} {fs : List (Str × V)} {fds : List (Str × Dt)} : G d = some (.xd fs) → RepF K G fs fds → RepX K G (some d) fds
end

section
variable {K : PySem.W.Frag} {G G' : Hp}
mutual
theorem Rep.mono (s : Same G G') : ∀ {v : V} {d : Dt}, Rep K G v d → Rep K G' v d
  | _, _, .non => .non
  | _, _, .bl b => .bl b
  | _, _, .int i => .int i
  | _, _, .str x => .str x
  | _, _, .ty n => .ty n
  | _, _, .ref a => .ref a
  | _, _, .lst h r => .lst (s _ _ h) (Reps.mono s r)
  | _, _, .tup h r => .tup (s _ _ h) (Reps.mono s r)
  | _, _, .scr h => .scr (s.seq h)
  | _, _, .obj h r => .obj (s _ _ h) (RepF.mono s r)
  | _, _, .dK h r => .dK (s _ _ h) (RepK.mono s r)
  | _, _, .dT h r => .dT (s _ _ h) (RepT.mono s r)
  | _, _, .exc h r => .exc (s _ _ h) (RepX.mono s r)
  | _, _, .at_ r => .at_ (Rep.mono s r)
theorem Reps.mono (s : Same G G') : ∀ {v : List V} {d : List Dt}, Reps K G v d → Reps K G' v d
  | _, _, .nil => .nil
  | _, _, .cons h r => .cons (Rep.mono s h) (Reps.mono s r)
theorem RepF.mono (s : Same G G') : ∀ {v : List (Str × V)} {d : List (Str × Dt)}, RepF K G v d → RepF K G' v d
  | _, _, .nil => .nil
  | _, _, .cons h r => .cons (Rep.mono s h) (RepF.mono s r)
theorem RepK.mono (s : Same G G') : ∀ {v : List (Key × V)} {d : List (Key × Dt)}, RepK K G v d → RepK K G' v d
  | _, _, .nil => .nil
  | _, _, .cons h r => .cons (Rep.mono s h) (RepK.mono s r)
theorem RepT.mono (s : Same G G') : ∀ {v : List (List Key × V)} {d : List (List Key × Dt)}, RepT K G v d → RepT K G' v d
  | _, _, .nil => .nil
  | _, _, .cons h r => .cons (Rep.mono s h) (RepT.mono s r)
theorem RepX.mono (s : Same G G') : ∀ {v : Option Addr} {d : List (Str × Dt)}, RepX K G v d → RepX K G' v d
  | _, _, .none => .none
  | _, _, .some h r => .some (s _ _ h) (RepF.mono s r)
end
theorem Reps.length {vs : List V} {ds : List Dt} (r : Reps K G vs ds) : vs.length = ds.length := by
  induction ds generalizing vs with
  | nil => cases r; rfl
  | cons d ds ih => cases r with | cons h t => simp [ih t]
theorem Reps.get {vs : List V} {ds : List Dt} (r : Reps K G vs ds) {i : Nat} {d : Dt} (h : ds[i]? = some d) : ∃ v, vs[i]? = some v ∧ Rep K G v d := by
  induction ds generalizing vs i with
  | nil => simp at h
  | cons e ds ih =>
    cases r with
    | cons h1 t =>
      cases i with
      | zero => simp at h; subst h; exact ⟨_, rfl, h1⟩
      | succ i => simpa using ih t (by simpa using h)
theorem Reps.get' {vs : List V} {ds : List Dt} (r : Reps K G vs ds) {i : Nat} {v : V} (h : vs[i]? = some v) : ∃ d, ds[i]? = some d ∧ Rep K G v d := by
  induction ds generalizing vs i with
  | nil => cases r; simp at h
  | cons e ds ih =>
    cases r with
    | cons h1 t =>
      cases i with
      | zero => simp at h; subst h; exact ⟨_, rfl, h1⟩
      | succ i => simpa using ih t (by simpa using h)
theorem Reps.append {vs us : List V} {ds es : List Dt} (r : Reps K G vs ds) (q : Reps K G us es) : Reps K G (vs ++ us) (ds ++ es) := by
  induction ds generalizing vs with
  | nil => cases r; exact q
  | cons e ds ih => cases r with | cons h1 t => exact .cons h1 (ih t)
theorem Reps.drop {vs : List V} {ds : List Dt} (n : Nat) (r : Reps K G vs ds) : Reps K G (vs.drop n) (ds.drop n) := by
  induction n generalizing vs ds with
  | zero => exact r
  | succ n ih => cases r with
    | nil => exact .nil
    | cons h t => exact ih t
theorem Reps.take {vs : List V} {ds : List Dt} (n : Nat) (r : Reps K G vs ds) : Reps K G (vs.take n) (ds.take n) := by
  induction n generalizing vs ds with
  | zero => exact .nil
  | succ n ih => cases r with
    | nil => exact .nil
    | cons h t => exact .cons h (ih t)
theorem Reps.set {vs : List V} {ds : List Dt} {v : V} {d : Dt} (i : Nat) (h : Rep K G v d) (r : Reps K G vs ds) : Reps K G (vs.set i v) (ds.set i d) := by
  induction i generalizing vs ds with
  | zero => cases r with
    | nil => exact .nil
    | cons _ t => exact .cons h t
  | succ n ih => cases r with
    | nil => exact .nil
    | cons q t => exact .cons q (ih t)
theorem Reps.reverse {vs : List V} {ds : List Dt} (r : Reps K G vs ds) : Reps K G vs.reverse ds.reverse := by
  induction ds generalizing vs with
  | nil => cases r; exact .nil
  | cons e ds ih => cases r with | cons h1 t => rw [List.reverse_cons, List.reverse_cons]; exact (ih t).append (.cons h1 .nil)
theorem RepF.look {vs : List (Str × V)} {ds : List (Str × Dt)} (r : RepF K G vs ds) {f : Str} {d : Dt} (h : ds.lookup f = some d) : ∃ v, vs.lookup f = some v ∧ Rep K G v d := by
  induction ds generalizing vs with
  | nil => simp at h
  | cons e ds ih =>
    cases r with
    | @cons g v vs d' ds h1 t =>
      rw [List.lookup_cons] at h ⊢
      cases q : (f == g) with
      | true => rw [q] at h; cases h; exact ⟨v, rfl, h1⟩
      | false => rw [q] at h; exact ih t h
theorem RepF.none {vs : List (Str × V)} {ds : List (Str × Dt)} (r : RepF K G vs ds) {f : Str} (h : ds.lookup f = Option.none) : vs.lookup f = Option.none := by
  induction ds generalizing vs with
  | nil => cases r; rfl
  | cons e ds ih =>
    cases r with
    | @cons g v vs d' ds h1 t =>
      rw [List.lookup_cons] at h ⊢
      cases q : (f == g) with
      | true => rw [q] at h; cases h
      | false => rw [q] at h; exact ih t h
theorem RepF.length {vs : List (Str × V)} {ds : List (Str × Dt)} (r : RepF K G vs ds) : vs.length = ds.length := by
  induction ds generalizing vs with
  | nil => cases r; rfl
  | cons d ds ih => cases r with | cons h t => simp [ih t]
end

/-- what a slot holds: frozen data; a list, a dict, an object of its own at an address -/
inductive Sl where
  | fr (d : Dt)
  | ol (a : Addr) (ds : List Dt)
  | os (a : Addr) (φ : List Dt → Prop)
  | oK (a : Addr) (kvs : List (Key × Dt)) | oT (a : Addr) (kvs : List (List Key × Dt))
  | oo (a C : Addr) (fs : List (Str × Sl))
  | ex (a C : Addr) (d : Option Addr) (fs : List (Str × Dt))
mutual
def Sl.fp : Sl → List Addr
  | .fr _ => []
  | .ol a _ => [a]
  | .os a _ => [a]
  | .oK a _ => [a]
  | .oT a _ => [a]
  | .oo a _ fs => a :: fpF fs
  | .ex _ _ _ _ => []
def fpF : List (Str × Sl) → List Addr
  | [] => []
  | (_, s) :: r => s.fp ++ fpF r
end
mutual
inductive Own (K : PySem.W.Frag) (G H : Hp) : V → Sl → Prop
  | fr {v : V} {d : Dt} : Rep K G v d → Own K G H v (.fr d)
  | ol {a : Addr} {xs : List V} {ds : List Dt} : H a = some (.lst xs) → Reps K G xs ds → Own K G H (.ref a) (.ol a ds)
  | os {a : Addr} {xs : List V} {ds : List Dt} {φ : List Dt → Prop} : H a = some (.lst xs) → Reps K G xs ds → φ ds → Own K G H (.ref a) (.os a φ)
  | oK {a : Addr} {xs : List (Key × V)} {ds : List (Key × Dt)} : H a = some (.dK xs) → RepK K G xs ds → Own K G H (.ref a) (.oK a ds)
  | oT {a : Addr} {xs : List (List Key × V)} {ds : List (List Key × Dt)} : H a = some (.dT xs) → RepT K G xs ds → Own K G H (.ref a) (.oT a ds)
  | oo {a C dx : Addr} {fs : List (Str × V)} {fds : List (Str × Sl)} : H a = some (.ins C dx fs) → OwnF K G H fs fds → Own K G H (.ref a) (.oo a C fds)
  | ex {a C : Addr} {d : Option Addr} {fds : List (Str × Dt)} : RepX K G d fds → Own K G H (.ref a) (.ex a C d fds)
inductive OwnF (K : PySem.W.Frag) (G H : Hp) : List (Str × V) → List (Str × Sl) → Prop
  | nil : OwnF K G H [] []
  | cons {f : Str} {v : V} {vs : List (Str × V)} {s : Sl} {ss : List (Str × Sl)} : Own K G H v s → OwnF K G H vs ss → OwnF K G H ((f, v) :: vs) ((f, s) :: ss)
end
section
variable {K : PySem.W.Frag} {G G' H H' : Hp}
mutual
theorem Own.mono (g : Same G G') : ∀ {v : V} {s : Sl}, (∀ a ∈ s.fp, ∀ o, H a = some o → H' a = some o) → Own K G H v s → Own K G' H' v s
  | _, _, _, .fr r => .fr (r.mono g)
  | _, _, k, .ol h r => .ol (k _ (by simp [Sl.fp]) _ h) (r.mono g)
  | _, _, k, .os h r p => .os (k _ (by simp [Sl.fp]) _ h) (r.mono g) p
  | _, _, k, .oK h r => .oK (k _ (by simp [Sl.fp]) _ h) (r.mono g)
  | _, _, k, .oT h r => .oT (k _ (by simp [Sl.fp]) _ h) (r.mono g)
  | _, _, k, .oo h r => .oo (k _ (by simp [Sl.fp]) _ h) (OwnF.mono g (fun a ha o e => k a (by simp [Sl.fp, ha]) o e) r)
  | _, _, k, .ex r => .ex (r.mono g)
theorem OwnF.mono (g : Same G G') : ∀ {v : List (Str × V)} {s : List (Str × Sl)}, (∀ a ∈ fpF s, ∀ o, H a = some o → H' a = some o) → OwnF K G H v s → OwnF K G' H' v s
  | _, _, _, .nil => .nil
  | _, _, k, .cons h r => .cons (Own.mono g (fun a ha o e => k a (by simp [fpF, ha]) o e) h) (OwnF.mono g (fun a ha o e => k a (by simp [fpF, ha]) o e) r)
end
mutual
theorem Own.there : ∀ {v : V} {s : Sl}, Own K G H v s → ∀ a ∈ s.fp, H a ≠ none
  | _, _, .fr r => fun a ha => by simp [Sl.fp] at ha
  | _, _, .ol h r => fun a ha => by simp [Sl.fp] at ha; subst ha; rw [h]; simp
  | _, _, .os h r p => fun a ha => by simp [Sl.fp] at ha; subst ha; rw [h]; simp
  | _, _, .oK h r => fun a ha => by simp [Sl.fp] at ha; subst ha; rw [h]; simp
  | _, _, .oT h r => fun a ha => by simp [Sl.fp] at ha; subst ha; rw [h]; simp
  | _, _, .oo h r => fun a ha => by
    simp only [Sl.fp, List.mem_cons] at ha
    rcases ha with rfl | ha
    · rw [h]; simp
    · exact OwnF.there r a ha
  | _, _, .ex r => fun a ha => by simp [Sl.fp] at ha
theorem OwnF.there : ∀ {v : List (Str × V)} {s : List (Str × Sl)}, OwnF K G H v s → ∀ a ∈ fpF s, H a ≠ none
  | _, _, .nil => fun a ha => by simp [fpF] at ha
  | _, _, .cons h r => fun a ha => by
    simp only [fpF, List.mem_append] at ha
    rcases ha with ha | ha
    · exact Own.there h a ha
    · exact OwnF.there r a ha
end
mutual
theorem Own.muts : ∀ {v : V} {s : Sl}, Own K G H v s → ∀ a ∈ s.fp, ∃ o, H a = some o ∧ Mut (some o)
  | _, _, .fr r => fun a ha => by simp [Sl.fp] at ha
  | _, _, .ol h r => fun a ha => by simp [Sl.fp] at ha; subst ha; exact ⟨_, h, trivial⟩
  | _, _, .os h r p => fun a ha => by simp [Sl.fp] at ha; subst ha; exact ⟨_, h, trivial⟩
  | _, _, .oK h r => fun a ha => by simp [Sl.fp] at ha; subst ha; exact ⟨_, h, trivial⟩
  | _, _, .oT h r => fun a ha => by simp [Sl.fp] at ha; subst ha; exact ⟨_, h, trivial⟩
  | _, _, .oo h r => fun a ha => by
    simp only [Sl.fp, List.mem_cons] at ha
    rcases ha with rfl | ha
    · exact ⟨_, h, trivial⟩
    · exact OwnF.muts r a ha
  | _, _, .ex r => fun a ha => by simp [Sl.fp] at ha
theorem OwnF.muts : ∀ {v : List (Str × V)} {s : List (Str × Sl)}, OwnF K G H v s → ∀ a ∈ fpF s, ∃ o, H a = some o ∧ Mut (some o)
  | _, _, .nil => fun a ha => by simp [fpF] at ha
  | _, _, .cons h r => fun a ha => by
    simp only [fpF, List.mem_append] at ha
    rcases ha with ha | ha
    · exact Own.muts h a ha
    · exact OwnF.muts r a ha
end
end

/-- the slots of a frame -/
abbrev Gm := List (Option Sl)
def fpO : Option Sl → List Addr
  | none => []
  | some s => s.fp
def fps : Gm → List Addr
  | [] => []
  | s :: r => fpO s ++ fps r
inductive Slots (K : PySem.W.Frag) (G H : Hp) : St → Gm → Prop
  | nil : Slots K G H [] []
  | no {x : Option V} {σ : St} {Γ : Gm} : Slots K G H σ Γ → Slots K G H (x :: σ) (none :: Γ)
  | yes {v : V} {s : Sl} {σ : St} {Γ : Gm} : Own K G H v s → Slots K G H σ Γ → Slots K G H (some v :: σ) (some s :: Γ)
/-- the state: G frozen, O foreign (kept as it is), the slots' own things apart from both -/
structure Sta (K : PySem.W.Frag) (O G H : Hp) (σ : St) (Γ : Gm) : Prop where
  g : Same G H
  o : Same O H
  d : ∀ a, O a ≠ none → G a = none
  sl : Slots K G H σ Γ
  nd : (fps Γ).Nodup
  ng : ∀ a ∈ fps Γ, G a = none
  no : ∀ a ∈ fps Γ, O a = none
  om : ∀ a o, O a = some o → Mut (some o)

section
variable {K : PySem.W.Frag} {O G G' H H' : Hp} {σ : St} {Γ : Gm}
theorem mem_fps : ∀ {Γ : Gm} {i : Nat} {s : Sl}, Γ[i]? = some (some s) → ∀ a ∈ s.fp, a ∈ fps Γ
  | [], i, s, h, a, ha => by simp at h
  | x :: r, 0, s, h, a, ha => by simp at h; subst h; simp [fps, fpO, ha]
  | x :: r, i + 1, s, h, a, ha => by simp only [fps, List.mem_append]; exact .inr (mem_fps (by simpa using h) a ha)
theorem Slots.mono (g : Same G G') : ∀ {σ : St} {Γ : Gm}, (∀ a ∈ fps Γ, ∀ o, H a = some o → H' a = some o) → Slots K G H σ Γ → Slots K G' H' σ Γ
  | _, _, _, .nil => .nil
  | _, _, k, .no r => .no (Slots.mono g (fun a ha => k a (by simp [fps, ha])) r)
  | _, _, k, .yes h r => .yes (h.mono g fun a ha => k a (by simp [fps, fpO, ha])) (Slots.mono g (fun a ha => k a (by simp [fps, ha])) r)
theorem Slots.get : ∀ {σ : St} {Γ : Gm} {i : Nat} {s : Sl}, Slots K G H σ Γ → Γ[i]? = some (some s) → ∃ v, σ[i]? = some (some v) ∧ Own K G H v s
  | _, _, i, s, .nil, h => by simp at h
  | _, _, 0, s, .no r, h => by simp at h
  | _, _, i + 1, s, .no r, h => by simpa using r.get (i := i) (by simpa using h)
  | _, _, 0, s, .yes q r, h => by simp at h; subst h; exact ⟨_, rfl, q⟩
  | _, _, i + 1, s, .yes q r, h => by simpa using r.get (i := i) (by simpa using h)
theorem Slots.len : ∀ {σ : St} {Γ : Gm}, Slots K G H σ Γ → σ.length = Γ.length
  | _, _, .nil => rfl
  | _, _, .no r => by simp [r.len]
  | _, _, .yes q r => by simp [r.len]
theorem Slots.set {v : V} {s : Sl} (h : Own K G H v s) : ∀ {σ : St} {Γ : Gm} (i : Nat), Slots K G H σ Γ → Slots K G H (σ.set i (some v)) (Γ.set i (some s))
  | _, _, _, .nil => .nil
  | _, _, 0, .no r => .yes h r
  | _, _, i + 1, .no r => .no (Slots.set h i r)
  | _, _, 0, .yes q r => .yes h r
  | _, _, i + 1, .yes q r => .yes q (Slots.set h i r)
theorem Slots.forget : ∀ {σ : St} {Γ : Gm} (i : Nat) (x : Option V), Slots K G H σ Γ → Slots K G H (σ.set i x) (Γ.set i none)
  | _, _, _, _, .nil => .nil
  | _, _, 0, _, .no r => .no r
  | _, _, i + 1, x, .no r => .no (Slots.forget i x r)
  | _, _, 0, _, .yes q r => .no r
  | _, _, i + 1, x, .yes q r => .yes q (Slots.forget i x r)
theorem fps_set_sub {s : Option Sl} : ∀ {Γ : Gm} (i : Nat), ∀ a ∈ fps (Γ.set i s), a ∈ fpO s ∨ a ∈ fps Γ
  | [], i, a, h => by simp [fps] at h
  | x :: r, 0, a, h => by
    simp only [List.set_cons_zero, fps, List.mem_append] at h ⊢
    rcases h with h | h
    · exact .inl h
    · exact .inr (.inr h)
  | x :: r, i + 1, a, h => by
    simp only [List.set_cons_succ, fps, List.mem_append] at h ⊢
    rcases h with h | h
    · exact .inr (.inl h)
    · rcases fps_set_sub i a h with q | q
      · exact .inl q
      · exact .inr (.inr q)
theorem fps_set_nd {s : Option Sl} : ∀ {Γ : Gm} (i : Nat), (fpO s ++ fps Γ).Nodup → (fps (Γ.set i s)).Nodup
  | [], i, h => by simp [fps]
  | x :: r, 0, h => by
    simp only [List.set_cons_zero, fps]
    rw [List.nodup_append] at h ⊢
    obtain ⟨h1, h2, h3⟩ := h
    simp only [fps] at h2 h3
    rw [List.nodup_append] at h2
    exact ⟨h1, h2.2.1, fun a ha b hb => h3 a ha b (List.mem_append_right _ hb)⟩
  | x :: r, i + 1, h => by
    simp only [List.set_cons_succ, fps]
    rw [List.nodup_append] at h
    obtain ⟨h1, h2, h3⟩ := h
    simp only [fps] at h2 h3
    rw [List.nodup_append] at h2
    obtain ⟨k1, k2, k3⟩ := h2
    have ih := fps_set_nd (s := s) (Γ := r) i (by rw [List.nodup_append]; exact ⟨h1, k2, fun a ha b hb => h3 a ha b (List.mem_append_right _ hb)⟩)
    rw [List.nodup_append]
    refine ⟨k1, ih, fun a ha b hb => ?_⟩
    rcases fps_set_sub i b hb with q | q
    · exact fun z => h3 b q a (List.mem_append_left _ ha) z.symm
    · exact k3 a ha b q
/-- the result, an extra slot ahead, goes into slot i -/
theorem Sta.put {v : V} {s : Sl} (S : Sta K O G H (some v :: σ) (some s :: Γ)) (i : Nat) : Sta K O G H (σ.set i (some v)) (Γ.set i (some s)) := by
  obtain ⟨g, o, d, sl, nd, ng, no, om⟩ := S
  cases sl with
  | yes q r =>
    simp only [fps] at nd ng no
    refine ⟨g, o, d, Slots.set q i r, fps_set_nd i nd, fun a ha => ?_, fun a ha => ?_, om⟩
    · rcases fps_set_sub i a ha with z | z
      · exact ng a (List.mem_append_left _ z)
      · exact ng a (List.mem_append_right _ z)
    · rcases fps_set_sub i a ha with z | z
      · exact no a (List.mem_append_left _ z)
      · exact no a (List.mem_append_right _ z)
theorem Sta.tail {x : Option V} {y : Option Sl} (S : Sta K O G H (x :: σ) (y :: Γ)) : Sta K O G H σ Γ := by
  obtain ⟨g, o, d, sl, nd, ng, no, om⟩ := S
  simp only [fps] at nd ng no
  have sl' : Slots K G H σ Γ := by cases sl <;> assumption
  exact ⟨g, o, d, sl', (List.nodup_append.mp nd).2.1, fun a ha => ng a (List.mem_append_right _ ha), fun a ha => no a (List.mem_append_right _ ha), om⟩
theorem Sta.head {v : V} {s : Sl} (S : Sta K O G H (some v :: σ) (some s :: Γ)) : Own K G H v s := by
  cases S.sl; assumption
theorem Sta.push {v : V} {s : Sl} (S : Sta K O G H σ Γ) (h : Own K G H v s) (n : s.fp.Nodup) (hg : ∀ a ∈ s.fp, G a = none) (ho : ∀ a ∈ s.fp, O a = none) (hf : ∀ a ∈ s.fp, a ∉ fps Γ) :
    Sta K O G H (some v :: σ) (some s :: Γ) := by
  refine ⟨S.g, S.o, S.d, .yes h S.sl, ?_, fun a ha => ?_, fun a ha => ?_, S.om⟩
  · simp only [fps, fpO]
    rw [List.nodup_append]
    exact ⟨n, S.nd, fun a ha b hb z => hf a ha (z ▸ hb)⟩
  · simp only [fps, fpO, List.mem_append] at ha
    rcases ha with z | z
    · exact hg a z
    · exact S.ng a z
  · simp only [fps, fpO, List.mem_append] at ha
    rcases ha with z | z
    · exact ho a z
    · exact S.no a z
theorem Sta.pushF {v : V} {d : Dt} (S : Sta K O G H σ Γ) (h : Rep K G v d) : Sta K O G H (some v :: σ) (some (.fr d) :: Γ) :=
  S.push (.fr h) (by simp [Sl.fp]) (by simp [Sl.fp]) (by simp [Sl.fp]) (by simp [Sl.fp])
theorem Sta.putF {v : V} {d : Dt} (S : Sta K O G H σ Γ) (h : Rep K G v d) (i : Nat) : Sta K O G H (σ.set i (some v)) (Γ.set i (some (.fr d))) := (S.pushF h).put i
theorem Sta.get {i : Nat} {s : Sl} (S : Sta K O G H σ Γ) (h : Γ[i]? = some (some s)) : ∃ v, σ[i]? = some (some v) ∧ Own K G H v s := S.sl.get h
theorem Sta.getF {i : Nat} {d : Dt} (S : Sta K O G H σ Γ) (h : Γ[i]? = some (some (.fr d))) : ∃ v, σ[i]? = some (some v) ∧ Rep K G v d := by
  obtain ⟨v, e, q⟩ := S.get h
  cases q with | fr r => exact ⟨v, e, r⟩
theorem Sta.there (S : Sta K O G H σ Γ) : ∀ a ∈ fps Γ, H a ≠ none := by
  have h : ∀ {σ : St} {Γ : Gm}, Slots K G H σ Γ → ∀ a ∈ fps Γ, H a ≠ none := by
    intro σ Γ s
    induction s with
    | nil => intro a ha; simp [fps] at ha
    | no r ih => intro a ha; simp only [fps, fpO, List.nil_append] at ha; exact ih a ha
    | yes q r ih =>
      intro a ha
      simp only [fps, fpO, List.mem_append] at ha
      rcases ha with z | z
      · exact q.there a z
      · exact ih a z
  exact h S.sl
theorem Sta.muts (S : Sta K O G H σ Γ) : ∀ a ∈ fps Γ, ∃ o, H a = some o ∧ Mut (some o) := by
  have h : ∀ {σ : St} {Γ : Gm}, Slots K G H σ Γ → ∀ a ∈ fps Γ, ∃ o, H a = some o ∧ Mut (some o) := by
    intro σ Γ s
    induction s with
    | nil => intro a ha; simp [fps] at ha
    | no r ih => intro a ha; simp only [fps, fpO, List.nil_append] at ha; exact ih a ha
    | yes q r ih =>
      intro a ha
      simp only [fps, fpO, List.mem_append] at ha
      rcases ha with z | z
      · exact q.muts a z
      · exact ih a z
  exact h S.sl
/-- forgetting a slot -/
theorem Sta.forget (S : Sta K O G H σ Γ) (i : Nat) (x : Option V) : Sta K O G H (σ.set i x) (Γ.set i none) := by
  refine ⟨S.g, S.o, S.d, S.sl.forget i x, fps_set_nd i (by simpa [fpO] using S.nd), fun a ha => ?_, fun a ha => ?_, S.om⟩
  · rcases fps_set_sub i a ha with z | z
    · simp [fpO] at z
    · exact S.ng a z
  · rcases fps_set_sub i a ha with z | z
    · simp [fpO] at z
    · exact S.no a z
/-- more is known, what is frozen anew was not there before -/
structure Ext (G H G' H' : Hp) : Prop where
  g : Same G G'
  h : Same H H'
  s : Same G' H'
  f : ∀ a, H a ≠ none → G a = none → G' a = none ∨ ¬ Mut (H a)
theorem Ext.refl (h : Same G H) : Ext G H G H := ⟨Same.refl _, Same.refl _, h, fun _ _ q => .inl q⟩
theorem Ext.f1 (e : Ext G H G' H') {a : Addr} {o : HO} (h : H a = some o) (m : Mut (some o)) (q : G a = none) : G' a = none := by
  rcases e.f a (by rw [h]; simp) q with z | z
  · exact z
  · rw [h] at z; exact absurd m z
theorem Ext.trans {G2 H2 : Hp} (a : Ext G H G' H') (b : Ext G' H' G2 H2) : Ext G H G2 H2 :=
  ⟨a.g.trans b.g, a.h.trans b.h, b.s, fun c h q => by
    rcases a.f c h q with z | z
    · rcases b.f c (fun z => h (a.h.free z)) z with y | y
      · exact .inl y
      · cases e : H c with
        | none => exact absurd e h
        | some o => rw [a.h c o e] at y; exact .inr y
    · exact .inr z⟩
theorem Sta.ext (S : Sta K O G H σ Γ) (e : Ext G H G' H') : Sta K O G' H' σ Γ := by
  refine ⟨e.s, S.o.trans e.h, fun a h => ?_, S.sl.mono e.g fun a _ o h => e.h a o h, S.nd, fun a ha => ?_, S.no, S.om⟩
  · cases q : O a with
    | none => exact absurd q h
    | some o => exact e.f1 (S.o a o q) (S.om a o q) (S.d a h)
  · obtain ⟨o, h, m⟩ := S.muts a ha
    exact e.f1 h m (S.ng a ha)
/-- a new frozen object -/
theorem Ext.new {p : Addr} {ob : HO} (h : Same G H) (n : H p = none) : Ext G H (upd G p ob) (upd H p ob) := by
  have ng : G p = none := h.free n
  refine ⟨fun b o q => ?_, fun b o q => ?_, fun b o q => ?_, fun a q z => ?_⟩
  · rw [upd_ne (ne_of_none q ng)]; exact q
  · rw [upd_ne (ne_of_none q n)]; exact q
  · by_cases hb : b = p
    · subst hb; rw [upd_same] at q ⊢; exact q
    · rw [upd_ne hb] at q ⊢; exact h b o q
  · by_cases hb : a = p
    · subst hb; exact absurd n q
    · rw [upd_ne hb]; exact .inl z
/-- a new object, not frozen -/
theorem Ext.raw {p : Addr} {ob : HO} (h : Same G H) (n : H p = none) : Ext G H G (upd H p ob) := by
  refine ⟨Same.refl _, fun b o q => ?_, fun b o q => ?_, fun a q z => .inl z⟩
  · rw [upd_ne (ne_of_none q n)]; exact q
  · have := h b o q
    rw [upd_ne (ne_of_none this n)]; exact this
end
end DL

/-! DL, part b: the judgements; names, constants, operations; calls. -/
namespace DL
open PySem PySem.Spec L2

abbrev XP := Addr → List (Str × Dt) → Gm → Prop
/-- what is wished of an exception at the slots σ, from G on -/
def XOk (K : PySem.W.Frag) (W : WX) (O G : Hp) (σ : St) (X : XP) : Prop :=
  ∀ (C : Addr) (d : Option Addr) (fs : List (Str × Dt)) (G2 H2 : Hp) (Γ2 : Gm), Same G G2 → Sta K O G2 H2 σ Γ2 → RepX K G2 d fs → X C fs Γ2 → W (.ref C) d σ H2
def Ev (K : PySem.W.Frag) (W : WX) (te : TE) (Γ : Gm) (P : Dt → Gm → Prop) (X : XP) : Prop :=
  ∀ (O G H : Hp) (σ : St) (Q : VK), Sta K O G H σ Γ →
    (∀ (v : V) (G2 H2 : Hp) (Γ2 : Gm) (d : Dt), Same G G2 → Sta K O G2 H2 σ Γ2 → Rep K G2 v d → P d Γ2 → Q v H2) → XOk K W O G σ X → te σ H Q
def EvO (K : PySem.W.Frag) (W : WX) (te : TE) (Γ : Gm) (P : Sl → Gm → Prop) (X : XP) : Prop :=
  ∀ (O G H : Hp) (σ : St) (Q : VK), Sta K O G H σ Γ →
    (∀ (v : V) (G2 H2 : Hp) (Γ2 : Gm) (s : Sl), Same G G2 → Sta K O G2 H2 (some v :: σ) (some s :: Γ2) → P s Γ2 → Q v H2) → XOk K W O G σ X → te σ H Q
def EvT (K : PySem.W.Frag) (W : WX) (tt : TT) (Γ : Gm) (P : Bool → Gm → Prop) (X : XP) : Prop :=
  ∀ (O G H : Hp) (σ : St) (Q : Bool → Hp → Prop), Sta K O G H σ Γ →
    (∀ (b : Bool) (G2 H2 : Hp) (Γ2 : Gm), Same G G2 → Sta K O G2 H2 σ Γ2 → P b Γ2 → Q b H2) → XOk K W O G σ X → tt σ H Q
def EvA (K : PySem.W.Frag) (W : WX) (ta : TA) (Γ : Gm) (P : List Dt → Gm → Prop) (X : XP) : Prop :=
  ∀ (O G H : Hp) (σ : St) (Q : List V → Hp → Prop), Sta K O G H σ Γ →
    (∀ (vs : List V) (G2 H2 : Hp) (Γ2 : Gm) (ds : List Dt), Same G G2 → Sta K O G2 H2 σ Γ2 → Reps K G2 vs ds → P ds Γ2 → Q vs H2) → XOk K W O G σ X → ta σ H Q
/-- arguments one of which is the slot i itself: those ahead, those behind -/
def EvB (K : PySem.W.Frag) (W : WX) (i : Nat) (ta : TA) (Γ : Gm) (P : List Dt → List Dt → Gm → Prop) (X : XP) : Prop :=
  ∀ (O G H : Hp) (σ : St) (Q : List V → Hp → Prop), Sta K O G H σ Γ →
    (∀ (vs us : List V) (v : V) (G2 H2 : Hp) (Γ2 : Gm) (ds es : List Dt), Same G G2 → Sta K O G2 H2 σ Γ2 → Reps K G2 vs ds → σ[i]? = some (some v) → Reps K G2 us es → P ds es Γ2 → Q (vs ++ v :: us) H2) → XOk K W O G σ X → ta σ H Q
structure Po where
  nx : Gm → Prop
  rt : Sl → Gm → Prop
  xc : XP
  bk : Gm → Prop := fun _ => False
  ct : Gm → Prop := fun _ => False
def Go (K : PySem.W.Frag) (W : WX) (t : TS) (Γ : Gm) (P : Po) : Prop :=
  ∀ (O G H : Hp) (σ : St) (D : Ends), Sta K O G H σ Γ →
    (∀ (G2 H2 : Hp) (σ2 : St) (Γ2 : Gm), Same G G2 → Sta K O G2 H2 σ2 Γ2 → P.nx Γ2 → D.nx σ2 H2) →
    (∀ (v : V) (G2 H2 : Hp) (σ2 : St) (Γ2 : Gm) (s : Sl), Same G G2 → Sta K O G2 H2 (some v :: σ2) (some s :: Γ2) → P.rt s Γ2 → D.rt v H2) →
    (∀ (G2 H2 : Hp) (σ2 : St) (Γ2 : Gm), Same G G2 → Sta K O G2 H2 σ2 Γ2 → P.bk Γ2 → D.bk σ2 H2) →
    (∀ (G2 H2 : Hp) (σ2 : St) (Γ2 : Gm), Same G G2 → Sta K O G2 H2 σ2 Γ2 → P.ct Γ2 → D.ct σ2 H2) →
    (∀ σ2, XOk K W O G σ2 P.xc) → t D σ H
/-- a target of an assignment takes the frozen d -/
def GoG (K : PySem.W.Frag) (W : WX) (g : TG) (d : Dt) (Γ : Gm) (P : Gm → Prop) (X : XP) : Prop :=
  ∀ (O G H : Hp) (σ : St) (v : V) (Q : St → Hp → Prop), Sta K O G H σ Γ → Rep K G v d →
    (∀ (G2 H2 : Hp) (σ2 : St) (Γ2 : Gm), Same G G2 → Sta K O G2 H2 σ2 Γ2 → P Γ2 → Q σ2 H2) → (∀ σ2, XOk K W O G σ2 X) → g v σ H Q
section
variable {K : PySem.W.Frag} {W : WX} {Γ : Gm} {X : XP} {P : Dt → Gm → Prop} {te ta tb : TE} {i : Nat}
theorem XOk.mono {O G G2 : Hp} {σ : St} (s : Same G G2) (x : XOk K W O G σ X) : XOk K W O G2 σ X := fun C d fs G3 H3 Γ3 s3 => x C d fs G3 H3 Γ3 (s.trans s3)
/-! ### weakening -/
theorem Ev.imp {P' : Dt → Gm → Prop} (h : Ev K W te Γ P X) (k : ∀ d Γ2, P d Γ2 → P' d Γ2) : Ev K W te Γ P' X := fun O G H σ Q S q x => h O G H σ Q S (fun v G2 H2 Γ2 d s S2 r p => q v G2 H2 Γ2 d s S2 r (k d Γ2 p)) x
theorem EvT.imp {t : TT} {P P' : Bool → Gm → Prop} (h : EvT K W t Γ P X) (k : ∀ d Γ2, P d Γ2 → P' d Γ2) : EvT K W t Γ P' X := fun O G H σ Q S q x => h O G H σ Q S (fun v G2 H2 Γ2 s S2 p => q v G2 H2 Γ2 s S2 (k v Γ2 p)) x
theorem EvO.imp {P P' : Sl → Gm → Prop} (h : EvO K W te Γ P X) (k : ∀ d Γ2, P d Γ2 → P' d Γ2) : EvO K W te Γ P' X := fun O G H σ Q S q x => h O G H σ Q S (fun v G2 H2 Γ2 d s S2 p => q v G2 H2 Γ2 d s S2 (k d Γ2 p)) x
theorem Go.imp {t : TS} {P P' : Po} (h : Go K W t Γ P) (k1 : ∀ Γ2, P.nx Γ2 → P'.nx Γ2) (k2 : ∀ s Γ2, P.rt s Γ2 → P'.rt s Γ2) (k3 : ∀ C fs Γ2, P.xc C fs Γ2 → P'.xc C fs Γ2) (k4 : ∀ Γ2, P.bk Γ2 → P'.bk Γ2) (k5 : ∀ Γ2, P.ct Γ2 → P'.ct Γ2) : Go K W t Γ P' :=
  fun O G H σ D S a b c d e => h O G H σ D S (fun G2 H2 σ2 Γ2 s S2 p => a G2 H2 σ2 Γ2 s S2 (k1 _ p)) (fun v G2 H2 σ2 Γ2 z s S2 p => b v G2 H2 σ2 Γ2 z s S2 (k2 _ _ p)) (fun G2 H2 σ2 Γ2 s S2 p => c G2 H2 σ2 Γ2 s S2 (k4 _ p)) (fun G2 H2 σ2 Γ2 s S2 p => d G2 H2 σ2 Γ2 s S2 (k5 _ p))
    (fun σ2 C dd fs G2 H2 Γ2 s S2 r p => e σ2 C dd fs G2 H2 Γ2 s S2 r (k3 _ _ _ p))
/-! ### names, constants -/
theorem ev_var {d : Dt} (h : Γ[i]? = some (some (.fr d))) (p : P d Γ) : Ev K W (tVar i) Γ P X := fun O G H σ Q S q _ => by
  obtain ⟨v, e, r⟩ := S.getF h
  exact ⟨v, e, q v G H Γ d (Same.refl _) S r p⟩
/-- a constant as data -/
def cD : V → Dt
  | .non => .non
  | .bl b => .bl b
  | .int i => .int i
  | .str x => .str x
  | .ty n => .ty n
  | .ref a => .ref a
  | .byt _ => .non
  | .flt _ => .non
def cOk : V → Bool
  | .byt _ => false
  | .flt _ => false
  | _ => true
theorem rep_c {G : Hp} : ∀ {v : V}, cOk v = true → Rep K G v (cD v)
  | .non, _ => .non
  | .bl b, _ => .bl b
  | .int i, _ => .int i
  | .str x, _ => .str x
  | .ty n, _ => .ty n
  | .ref a, _ => .ref a
theorem ev_c {v : V} (p : P (cD v) Γ) (h : cOk v = true := by rfl) : Ev K W (tC v) Γ P X := fun O G H σ Q S q _ => q v G H Γ _ (Same.refl _) S (rep_c h) p
/-! ### what a frozen thing becomes of -/
inductive Frz : Sl → Dt → Prop
  | fr (d : Dt) : Frz (.fr d) d
  | ol (a : Addr) (ds : List Dt) : Frz (.ol a ds) (.lst ds)
/-- the object at a, which was a slot's own, is frozen -/
theorem same_frz {G H : Hp} {a : Addr} {o : HO} (g : Same G H) (h : H a = some o) (n : G a = none) : Same G (upd G a o) ∧ Same (upd G a o) H := by
  refine ⟨fun b u q => ?_, fun b u q => ?_⟩
  · rw [upd_ne (ne_of_none q n)]; exact q
  · by_cases hb : b = a
    · subst hb; rw [upd_same] at q; cases q; exact h
    · rw [upd_ne hb] at q; exact g b u q
theorem Sta.freeze1 {O G H : Hp} {σ : St} {v : V} {s : Sl} {d : Dt} (S : Sta K O G H (some v :: σ) (some s :: Γ)) (f : Frz s d) :
    ∃ G2, Same G G2 ∧ Sta K O G2 H σ Γ ∧ Rep K G2 v d := by
  have main : ∀ {a : Addr} {o : HO}, s.fp = [a] → H a = some o → ∃ G2, G2 = upd G a o ∧ Same G G2 ∧ Sta K O G2 H σ Γ := fun {a o} hf ha => by
    have na : G a = none := S.ng a (by simp [fps, fpO, hf])
    have oa : O a = none := S.no a (by simp [fps, fpO, hf])
    obtain ⟨s1, s2⟩ := same_frz S.g ha na
    have T := S.tail
    have nd := S.nd
    simp only [fps, fpO, hf] at nd
    have nf : a ∉ fps Γ := fun z => by
      have := (List.nodup_append.mp nd).2.2 a (by simp) a z
      exact this rfl
    refine ⟨_, rfl, s1, s2, T.o, fun b hb => ?_, T.sl.mono s1 fun _ _ _ q => q, T.nd, fun b hb => ?_, T.no, T.om⟩
    · by_cases e : b = a
      · subst e; exact absurd oa hb
      · rw [upd_ne e]; exact T.d b hb
    · by_cases e : b = a
      · subst e; exact absurd hb nf
      · rw [upd_ne e]; exact T.ng b hb
  cases f with
  | fr =>
    have h := S.head
    cases h with | fr r => exact ⟨G, Same.refl _, S.tail, r⟩
  | ol a ds =>
    have h := S.head
    cases h with
    | ol ha r =>
      obtain ⟨G2, e, s1, T⟩ := main rfl ha
      exact ⟨G2, s1, T, .lst (by rw [e]; exact upd_same) (r.mono s1)⟩
theorem ev_frz (h : EvO K W te Γ (fun s Γ2 => ∃ d, Frz s d ∧ P d Γ2) X) : Ev K W te Γ P X := fun O G H σ Q S q x =>
  h O G H σ Q S (fun v G2 H2 Γ2 s s1 S2 ⟨d, f, p⟩ => by
    obtain ⟨G3, s2, S3, r⟩ := S2.freeze1 f
    exact q v G3 H2 Γ2 d (s1.trans s2) S3 r p) x
theorem evo_of {P : Sl → Gm → Prop} (h : Ev K W te Γ (fun d Γ2 => P (.fr d) Γ2) X) : EvO K W te Γ P X := fun O G H σ Q S q x =>
  h O G H σ Q S (fun v G2 H2 Γ2 d s1 S2 r p => q v G2 H2 Γ2 (.fr d) s1 (S2.pushF r) p) x
/-- a slot's own thing is handed on: the slot is forgotten -/
theorem evo_move {P : Sl → Gm → Prop} {s : Sl} (h : Γ[i]? = some (some s)) (p : P s (Γ.set i none)) : EvO K W (tVar i) Γ P X := fun O G H σ Q S q _ => by
  obtain ⟨v, e, r⟩ := S.get h
  refine ⟨v, e, q v G H (Γ.set i none) s (Same.refl _) ?_ p⟩
  have il : i < Γ.length := by
    rcases Nat.lt_or_ge i Γ.length with z | z
    · exact z
    · rw [List.getElem?_eq_none z] at h; cases h
  have S2 := S.forget i (some v)
  have es : σ.set i (some v) = σ := by
    apply List.ext_getElem?
    intro j
    rw [List.getElem?_set]
    by_cases hj : i = j
    · subst hj
      rw [if_pos rfl, e]
      have : i < σ.length := by rw [S.sl.len]; exact il
      rw [if_pos this]
    · rw [if_neg hj]
  rw [es] at S2
  have sub : ∀ {Γ : Gm} {i : Nat}, Γ[i]? = some (some s) → (fps Γ).Nodup → s.fp.Nodup ∧ ∀ a ∈ s.fp, a ∉ fps (Γ.set i none) := by
    intro Γ
    induction Γ with
    | nil => intro i h; simp at h
    | cons y r ih =>
      intro i h nd
      simp only [fps] at nd
      obtain ⟨n1, n2, n3⟩ := List.nodup_append.mp nd
      cases i with
      | zero =>
        simp at h; subst h
        refine ⟨n1, fun a ha z => ?_⟩
        simp only [List.set_cons_zero, fps, fpO, List.nil_append] at z
        exact n3 a ha a z rfl
      | succ i =>
        obtain ⟨m1, m2⟩ := ih (by simpa using h) n2
        refine ⟨m1, fun a ha z => ?_⟩
        simp only [List.set_cons_succ, fps, List.mem_append] at z
        rcases z with z | z
        · exact n3 a z a (mem_fps (by simpa using h) a ha) rfl
        · exact m2 a ha z
  obtain ⟨m1, m2⟩ := sub h S.nd
  exact S2.push r m1 (fun a ha => S.ng a (mem_fps h a ha)) (fun a ha => S.no a (mem_fps h a ha)) m2
/-! ### operations by values -/
/-- r on values is ρ on data -/
def RD (K : PySem.W.Frag) (r : R2) (ρ : Dt → Dt → (Dt → Prop) → Prop) : Prop :=
  ∀ (G H : Hp) (x y : V) (dx dy : Dt) (R : Dt → Prop) (Q : VK), Same G H → Rep K G x dx → Rep K G y dy → ρ dx dy R →
    (∀ (v : V) (G2 H2 : Hp) (d : Dt), Ext G H G2 H2 → Rep K G2 v d → R d → Q v H2) → r x y H Q
def RD1 (K : PySem.W.Frag) (r : V → Hp → VK → Prop) (ρ : Dt → (Dt → Prop) → Prop) : Prop :=
  ∀ (G H : Hp) (x : V) (dx : Dt) (R : Dt → Prop) (Q : VK), Same G H → Rep K G x dx → ρ dx R →
    (∀ (v : V) (G2 H2 : Hp) (d : Dt), Ext G H G2 H2 → Rep K G2 v d → R d → Q v H2) → r x H Q
/-- a built-in's call: ρ on data, the result owned or frozen -/
def RDC (K : PySem.W.Frag) (r : List V → Hp → VK → Prop) (ρ : List Dt → (Dt → Prop) → Prop) : Prop :=
  ∀ (G H : Hp) (xs : List V) (ds : List Dt) (R : Dt → Prop) (Q : VK), Same G H → Reps K G xs ds → ρ ds R →
    (∀ (v : V) (G2 H2 : Hp) (d : Dt), Ext G H G2 H2 → Rep K G2 v d → R d → Q v H2) → r xs H Q
theorem ev_op {r : R2} {ρ : Dt → Dt → (Dt → Prop) → Prop} (hr : RD K r ρ) (h : Ev K W ta Γ (fun x Γ1 => Ev K W tb Γ1 (fun y Γ2 => ρ x y fun z => P z Γ2) X) X) : Ev K W (tOp r ta tb) Γ P X := fun O G H σ Q S q x =>
  h O G H σ _ S (fun v1 G1 H1 Γ1 d1 s1 S1 r1 h1 => h1 O G1 H1 σ _ S1 (fun v2 G2 H2 Γ2 d2 s2 S2 r2 h2 =>
    hr G2 H2 v1 v2 d1 d2 _ Q S2.g (r1.mono s2) r2 h2 fun v G3 H3 d e r3 p => q v G3 H3 Γ2 d (s1.trans (s2.trans e.g)) (S2.ext e) r3 p) (x.mono s1)) x
theorem ev_un {r : V → Hp → VK → Prop} {ρ : Dt → (Dt → Prop) → Prop} (hr : RD1 K r ρ) (h : Ev K W ta Γ (fun x Γ1 => ρ x fun z => P z Γ1) X) : Ev K W (tUn r ta) Γ P X := fun O G H σ Q S q x =>
  h O G H σ _ S (fun v1 G1 H1 Γ1 d1 s1 S1 r1 h1 => hr G1 H1 v1 d1 _ Q S1.g r1 h1 fun v G3 H3 d e r3 p => q v G3 H3 Γ1 d (s1.trans e.g) (S1.ext e) r3 p) x
theorem ev_cb {r : List V → Hp → VK → Prop} {ρ : List Dt → (Dt → Prop) → Prop} {t : TA} (hr : RDC K r ρ) (h : EvA K W t Γ (fun ds Γ1 => ρ ds fun z => P z Γ1) X) : Ev K W (tCB r t) Γ P X := fun O G H σ Q S q x =>
  h O G H σ _ S (fun vs G1 H1 Γ1 ds s1 S1 r1 h1 => hr G1 H1 vs ds _ Q S1.g r1 h1 fun v G3 H3 d e r3 p => q v G3 H3 Γ1 d (s1.trans e.g) (S1.ext e) r3 p) x
/-! ### arguments -/
variable {t tr : TA}
theorem ea_nil {P : List Dt → Gm → Prop} (p : P [] Γ) : EvA K W tNil Γ P X := fun O G H σ Q S q _ => q [] G H Γ [] (Same.refl _) S .nil p
theorem ea_cons {P : List Dt → Gm → Prop} (h : Ev K W te Γ (fun d Γ1 => EvA K W tr Γ1 (fun ds Γ2 => P (d :: ds) Γ2) X) X) : EvA K W (tCons te tr) Γ P X := fun O G H σ Q S q x =>
  h O G H σ _ S (fun v1 G1 H1 Γ1 d1 s1 S1 r1 h1 => h1 O G1 H1 σ _ S1 (fun vs G2 H2 Γ2 ds s2 S2 r2 p => q (v1 :: vs) G2 H2 Γ2 (d1 :: ds) (s1.trans s2) S2 (.cons (r1.mono s2) r2) p) (x.mono s1)) x
theorem eb_cons {P : List Dt → List Dt → Gm → Prop} (h : Ev K W te Γ (fun d Γ1 => EvB K W i tr Γ1 (fun ds es Γ2 => P (d :: ds) es Γ2) X) X) : EvB K W i (tCons te tr) Γ P X := fun O G H σ Q S q x =>
  h O G H σ _ S (fun v1 G1 H1 Γ1 d1 s1 S1 r1 h1 => h1 O G1 H1 σ _ S1 (fun vs us v G2 H2 Γ2 ds es s2 S2 r2 hv r3 p => q (v1 :: vs) us v G2 H2 Γ2 (d1 :: ds) es (s1.trans s2) S2 (.cons (r1.mono s2) r2) hv r3 p) (x.mono s1)) x
theorem eb_here {P : List Dt → List Dt → Gm → Prop} {s : Sl} (hi : Γ[i]? = some (some s)) (h : EvA K W tr Γ (fun es Γ2 => P [] es Γ2) X) : EvB K W i (tCons (tVar i) tr) Γ P X := fun O G H σ Q S q x => by
  obtain ⟨v, e, _⟩ := S.get hi
  exact ⟨v, e, h O G H σ _ S (fun us G2 H2 Γ2 es s2 S2 r2 p => q [] us v G2 H2 Γ2 [] es s2 S2 .nil e r2 p) x⟩
/-! ### tests -/
variable {tt tu : TT} {PB : Bool → Gm → Prop}
theorem et_test (h : Ev K W te Γ (fun d Γ1 => ∃ b, d = .bl b ∧ PB b Γ1) X) : EvT K W (tTest te) Γ PB X := fun O G H σ Q S q x =>
  h O G H σ _ S (fun v G1 H1 Γ1 d s1 S1 r ⟨b, e, p⟩ => by subst e; cases r; exact ⟨b, rfl, q b G1 H1 Γ1 s1 S1 p⟩) x
theorem et_B (h : Ev K W te Γ (fun d Γ1 => ∃ b, d = .bl b ∧ PB b Γ1) X) : EvT K W (tB te) Γ PB X := fun O G H σ Q S q x =>
  h O G H σ _ S (fun v G1 H1 Γ1 d s1 S1 r ⟨b, e, p⟩ => by subst e; cases r; exact ⟨b, rfl, q b G1 H1 Γ1 s1 S1 p⟩) x
theorem et_and (h : EvT K W tt Γ (fun b Γ1 => (b = true → EvT K W tu Γ1 PB X) ∧ (b = false → PB false Γ1)) X) : EvT K W (tAnd tt tu) Γ PB X := fun O G H σ Q S q x =>
  h O G H σ _ S (fun b G1 H1 Γ1 s1 S1 ⟨p1, p2⟩ => by
    cases b with
    | true => exact iteT (p1 rfl O G1 H1 σ Q S1 (fun b G2 H2 Γ2 s2 S2 p => q b G2 H2 Γ2 (s1.trans s2) S2 p) (x.mono s1))
    | false => exact iteF (q false G1 H1 Γ1 s1 S1 (p2 rfl))) x
theorem et_or (h : EvT K W tt Γ (fun b Γ1 => (b = false → EvT K W tu Γ1 PB X) ∧ (b = true → PB true Γ1)) X) : EvT K W (tOr tt tu) Γ PB X := fun O G H σ Q S q x =>
  h O G H σ _ S (fun b G1 H1 Γ1 s1 S1 ⟨p1, p2⟩ => by
    cases b with
    | false => exact iteF (p1 rfl O G1 H1 σ Q S1 (fun b G2 H2 Γ2 s2 S2 p => q b G2 H2 Γ2 (s1.trans s2) S2 p) (x.mono s1))
    | true => exact iteT (q true G1 H1 Γ1 s1 S1 (p2 rfl))) x
theorem et_not (h : EvT K W tt Γ (fun b Γ1 => PB (!b) Γ1) X) : EvT K W (tNot tt) Γ PB X := fun O G H σ Q S q x =>
  h O G H σ _ S (fun b G1 H1 Γ1 s1 S1 p => q (!b) G1 H1 Γ1 s1 S1 p) x
theorem ev_andV (h : Ev K W ta Γ (fun d Γ1 => ∃ b, d = .bl b ∧ (b = true → Ev K W tb Γ1 P X) ∧ (b = false → P (.bl false) Γ1)) X) : Ev K W (tAndV ta tb) Γ P X := fun O G H σ Q S q x =>
  h O G H σ _ S (fun v G1 H1 Γ1 d s1 S1 r ⟨b, e, p1, p2⟩ => by
    subst e; cases r
    refine ⟨b, rfl, ?_⟩
    cases b with
    | true => exact iteT (p1 rfl O G1 H1 σ Q S1 (fun b G2 H2 Γ2 d s2 S2 r p => q b G2 H2 Γ2 d (s1.trans s2) S2 r p) (x.mono s1))
    | false => exact iteF (q (.bl false) G1 H1 Γ1 _ s1 S1 (.bl false) (p2 rfl))) x
theorem ev_orV (h : Ev K W ta Γ (fun d Γ1 => ∃ b, d = .bl b ∧ (b = false → Ev K W tb Γ1 P X) ∧ (b = true → P (.bl true) Γ1)) X) : Ev K W (tOrV ta tb) Γ P X := fun O G H σ Q S q x =>
  h O G H σ _ S (fun v G1 H1 Γ1 d s1 S1 r ⟨b, e, p1, p2⟩ => by
    subst e; cases r
    refine ⟨b, rfl, ?_⟩
    cases b with
    | false => exact iteF (p1 rfl O G1 H1 σ Q S1 (fun b G2 H2 Γ2 d s2 S2 r p => q b G2 H2 Γ2 d (s1.trans s2) S2 r p) (x.mono s1))
    | true => exact iteT (q (.bl true) G1 H1 Γ1 _ s1 S1 (.bl true) (p2 rfl))) x
theorem ev_notV (h : Ev K W ta Γ (fun d Γ1 => ∃ b, d = .bl b ∧ P (.bl (!b)) Γ1) X) : Ev K W (tNotV ta) Γ P X := fun O G H σ Q S q x =>
  h O G H σ _ S (fun v G1 H1 Γ1 d s1 S1 r ⟨b, e, p⟩ => by
    subst e; cases r
    exact ⟨b, rfl, q (.bl (!b)) G1 H1 Γ1 _ s1 S1 (.bl _) p⟩) x
theorem ev_if (h : EvT K W tt Γ (fun b Γ1 => (b = true → Ev K W ta Γ1 P X) ∧ (b = false → Ev K W tb Γ1 P X)) X) : Ev K W (tIf tt ta tb) Γ P X := fun O G H σ Q S q x =>
  h O G H σ _ S (fun b G1 H1 Γ1 s1 S1 ⟨p1, p2⟩ => by
    cases b with
    | true => exact iteT (p1 rfl O G1 H1 σ Q S1 (fun b G2 H2 Γ2 d s2 S2 r p => q b G2 H2 Γ2 d (s1.trans s2) S2 r p) (x.mono s1))
    | false => exact iteF (p2 rfl O G1 H1 σ Q S1 (fun b G2 H2 Γ2 d s2 S2 r p => q b G2 H2 Γ2 d (s1.trans s2) S2 r p) (x.mono s1))) x
/-! ### tuples, lists that are made -/
theorem Rep.newT {G H : Hp} {p : Addr} {vs : List V} {ds : List Dt} (g : Same G H) (n : H p = none) (r : Reps K G vs ds) : Rep K (upd G p (.tup vs)) (.ref p) (.tup ds) := .tup upd_same (r.mono (Ext.new g n).g)
theorem Rep.newL {G H : Hp} {p : Addr} {vs : List V} {ds : List Dt} (g : Same G H) (n : H p = none) (r : Reps K G vs ds) : Rep K (upd G p (.lst vs)) (.ref p) (.lst ds) := .lst upd_same (r.mono (Ext.new g n).g)
theorem ev_tup (h : EvA K W t Γ (fun ds Γ1 => ds.length ≤ 1000000 ∧ P (.tup ds) Γ1) X) : Ev K W (tTup t) Γ P X := fun O G H σ Q S q x =>
  h O G H σ _ S (fun vs G1 H1 Γ1 ds s1 S1 r ⟨l, p⟩ => ⟨by rw [r.length]; exact Nat.le_trans l (by decide), fun a na => q (.ref a) _ _ Γ1 (.tup ds) (s1.trans (Ext.new S1.g na).g) (S1.ext (Ext.new S1.g na)) (Rep.newT S1.g na r) p⟩) x
theorem ev_lst (h : EvA K W t Γ (fun ds Γ1 => ds.length ≤ 1000000 ∧ P (.lst ds) Γ1) X) : Ev K W (tLst t) Γ P X := fun O G H σ Q S q x =>
  h O G H σ _ S (fun vs G1 H1 Γ1 ds s1 S1 r ⟨l, p⟩ => ⟨by rw [r.length]; exact Nat.le_trans l (by decide), fun a na => q (.ref a) _ _ Γ1 (.lst ds) (s1.trans (Ext.new S1.g na).g) (S1.ext (Ext.new S1.g na)) (Rep.newL S1.g na r) p⟩) x
/-- a new thing of one's own -/
theorem Sta.own1 {O G H : Hp} {σ : St} {p : Addr} {ob : HO} {s : Sl} (S : Sta K O G H σ Γ) (n : H p = none) (hf : s.fp = [p]) (h : Own K G (upd H p ob) (.ref p) s) : Sta K O G (upd H p ob) (some (.ref p) :: σ) (some s :: Γ) := by
  have S2 := S.ext (Ext.raw (ob := ob) S.g n)
  refine S2.push h (by rw [hf]; simp) (fun a ha => ?_) (fun a ha => ?_) (fun a ha z => ?_)
  · rw [hf] at ha; simp at ha; subst ha; exact S.g.free n
  · rw [hf] at ha; simp at ha; subst ha; exact S.o.free n
  · rw [hf] at ha; simp at ha; subst ha; exact S.there _ z n
theorem evo_lst {P : Sl → Gm → Prop} (h : EvA K W t Γ (fun ds Γ1 => ds.length ≤ 1000000 ∧ ∀ a, P (.ol a ds) Γ1) X) : EvO K W (tLst t) Γ P X := fun O G H σ Q S q x =>
  h O G H σ _ S (fun vs G1 H1 Γ1 ds s1 S1 r ⟨l, p⟩ => ⟨by rw [r.length]; exact Nat.le_trans l (by decide), fun a na => q (.ref a) G1 _ Γ1 (.ol a ds) s1 (S1.own1 na rfl (.ol upd_same r)) (p a)⟩) x
/-! ### statements -/
variable {PP : Po} {t1 t2 : TS} {g : TG}
theorem go_seq (h : Go K W t1 Γ { PP with nx := fun Γ1 => Go K W t2 Γ1 PP }) : Go K W (tSeq t1 t2) Γ PP := fun O G H σ D S a b c d e =>
  h O G H σ _ S (fun G2 H2 σ2 Γ2 s S2 p => p O G2 H2 σ2 D S2 (fun G3 H3 σ3 Γ3 s3 S3 p3 => a G3 H3 σ3 Γ3 (s.trans s3) S3 p3) (fun v G3 H3 σ3 Γ3 z s3 S3 p3 => b v G3 H3 σ3 Γ3 z (s.trans s3) S3 p3) (fun G3 H3 σ3 Γ3 s3 S3 p3 => c G3 H3 σ3 Γ3 (s.trans s3) S3 p3)
    (fun G3 H3 σ3 Γ3 s3 S3 p3 => d G3 H3 σ3 Γ3 (s.trans s3) S3 p3) fun σ3 => (e σ3).mono s) b c d e
theorem go_next (h : PP.nx Γ) : Go K W tNext Γ PP := fun O G H σ D S a b c d e => a G H σ Γ (Same.refl _) S h
theorem go_break (h : PP.bk Γ) : Go K W tBreak Γ PP := fun O G H σ D S a b c d e => c G H σ Γ (Same.refl _) S h
theorem go_cont (h : PP.ct Γ) : Go K W tCont Γ PP := fun O G H σ D S a b c d e => d G H σ Γ (Same.refl _) S h
theorem go_if (h : EvT K W tt Γ (fun b Γ1 => (b = true → Go K W t1 Γ1 PP) ∧ (b = false → Go K W t2 Γ1 PP)) PP.xc) : Go K W (tIfS tt t1 t2) Γ PP := fun O G H σ D S a b c d e =>
  h O G H σ _ S (fun bb G2 H2 Γ2 s S2 ⟨p1, p2⟩ => by
    have go : ∀ {t : TS}, Go K W t Γ2 PP → t D σ H2 := fun p => p O G2 H2 σ D S2 (fun G3 H3 σ3 Γ3 s3 S3 p3 => a G3 H3 σ3 Γ3 (s.trans s3) S3 p3) (fun v G3 H3 σ3 Γ3 z s3 S3 p3 => b v G3 H3 σ3 Γ3 z (s.trans s3) S3 p3) (fun G3 H3 σ3 Γ3 s3 S3 p3 => c G3 H3 σ3 Γ3 (s.trans s3) S3 p3)
      (fun G3 H3 σ3 Γ3 s3 S3 p3 => d G3 H3 σ3 Γ3 (s.trans s3) S3 p3) fun σ3 => (e σ3).mono s
    cases bb with
    | true => exact iteT (go (p1 rfl))
    | false => exact iteF (go (p2 rfl))) (e σ)
theorem go_set (h : EvO K W te Γ (fun s Γ1 => PP.nx (Γ1.set i (some s))) PP.xc) : Go K W (tAsg te (gName i)) Γ PP := fun O G H σ D S a b c d e =>
  h O G H σ _ S (fun v G2 H2 Γ2 s s1 S2 p => a G2 H2 _ _ s1 (S2.put i) p) (e σ)
theorem go_setF (h : Ev K W te Γ (fun d Γ1 => PP.nx (Γ1.set i (some (.fr d)))) PP.xc) : Go K W (tAsg te (gName i)) Γ PP := go_set (evo_of h)
theorem go_asg (h : Ev K W te Γ (fun d Γ1 => GoG K W g d Γ1 PP.nx PP.xc) PP.xc) : Go K W (tAsg te g) Γ PP := fun O G H σ D S a b c d e =>
  h O G H σ _ S (fun v G2 H2 Γ2 dd s1 S2 r p => p O G2 H2 σ v _ S2 r (fun G3 H3 σ3 Γ3 s3 S3 p3 => a G3 H3 σ3 Γ3 (s1.trans s3) S3 p3) fun σ2 => (e σ2).mono s1) (e σ)
theorem go_drop (h : EvO K W te Γ (fun _ Γ1 => PP.nx Γ1) PP.xc) : Go K W (tDrop te) Γ PP := fun O G H σ D S a b c d e =>
  h O G H σ _ S (fun v G2 H2 Γ2 s s1 S2 p => a G2 H2 σ Γ2 s1 S2.tail p) (e σ)
theorem go_ret (h : EvO K W te Γ (fun s Γ1 => PP.rt s Γ1) PP.xc) : Go K W (tRet te) Γ PP := fun O G H σ D S a b c d e =>
  h O G H σ _ S (fun v G2 H2 Γ2 s s1 S2 p => b v G2 H2 σ Γ2 s s1 S2 p) (e σ)
theorem go_retN (h : PP.rt (.fr .non) Γ) : Go K W tRetN Γ PP := fun O G H σ D S a b c d e => b .non G H σ Γ (.fr .non) (Same.refl _) (S.pushF .non) h
/-! ### targets -/
theorem gg_name {d : Dt} {P : Gm → Prop} (h : P (Γ.set i (some (.fr d)))) : GoG K W (gName i) d Γ P X := fun O G H σ v Q S r q _ => q G H _ _ (Same.refl _) (S.putF r i) h
/-- several targets -/
def GoGs (K : PySem.W.Frag) (W : WX) (g : TGs) (ds : List Dt) (Γ : Gm) (P : Gm → Prop) (X : XP) : Prop :=
  ∀ (O G H : Hp) (σ : St) (vs : List V) (Q : St → Hp → Prop), Sta K O G H σ Γ → Reps K G vs ds →
    (∀ (G2 H2 : Hp) (σ2 : St) (Γ2 : Gm), Same G G2 → Sta K O G2 H2 σ2 Γ2 → P Γ2 → Q σ2 H2) → (∀ σ2, XOk K W O G σ2 X) → g vs σ H Q
theorem gs_nil {P : Gm → Prop} (h : P Γ) : GoGs K W gNil [] Γ P X := fun O G H σ vs Q S r q _ => by
  cases r
  exact ⟨rfl, q G H σ Γ (Same.refl _) S h⟩
theorem gs_cons {d : Dt} {ds : List Dt} {gr : TGs} {P : Gm → Prop} (h : GoG K W g d Γ (fun Γ1 => GoGs K W gr ds Γ1 P X) X) : GoGs K W (gCons g gr) (d :: ds) Γ P X := fun O G H σ vs Q S r q e => by
  cases r with
  | @cons v vs _ _ r1 r2 =>
    exact ⟨v, vs, rfl, h O G H σ v _ S r1 (fun G2 H2 σ2 Γ2 s2 S2 p => p O G2 H2 σ2 vs Q S2 (r2.mono s2) (fun G3 H3 σ3 Γ3 s3 S3 p3 => q G3 H3 σ3 Γ3 (s2.trans s3) S3 p3) fun σ3 => (e σ3).mono s2) e⟩
theorem gg_tup {d : Dt} {ds : List Dt} {n : Nat} {gr : TGs} {P : Gm → Prop} (hd : d = .tup ds) (hn : ds.length = n) (h : GoGs K W gr ds Γ P X) : GoG K W (gTup K n gr) d Γ P X := fun O G H σ v Q S r q e => by
  subst hd
  cases r with
  | @tup a xs _ ha rs => exact ⟨a, xs, rfl, SqT.of (S.g _ _ ha), by rw [rs.length]; exact hn, h O G H σ xs Q S rs q e⟩
end
end DL

/-! ER, part a: the text's own errors: __init__ says super().__init__(msg), then stores one or two fields. -/
namespace PySem
namespace ER
open PySem.W PySem.Calls PyProof.Rows PySem.HandSPX PySem.Builtin PySem.Builtin.ObjectAttr
/-! ### ValueError.__init__ bound to an instance, called -/
section
variable {prog : Program} {w : World} {A : Around} {E : Value → Shared → Prop} {h : Heap} {g : Array GenState} {d : Drawn} {t : Nat} {os : OsState}
variable {nm q : Str} {C N : Addr} {bs bm : List Value} {hdct : Bool} {sn : List Str} {sub : List Value} {ab : Bool} {col : Option Bool} {dd : Option Addr} {k0 k1 k2 k3 k5 : Option Value}
theorem callWith_m0 {M : Model} {s : Shared} {pos : Pos} {u x : Addr} {i : String} {first : List Value} {args : List (Bool × Sem Value)} {Q : Value → Shared → Prop} (hplain : args.any (·.1) = false)
    (h : wpAny M A (evalArgs (.ref u) true args []) (fun a s₁ => s₁.heap.get? u = some (kxs_mw i x) ∧ wpAny M A (call (.ref u) (first ++ a.pos) a.kw) Q E s₁) E s) : wpAny M A (callWith pos (.ref u) first args []) Q E s := by
  unfold callWith
  refine wpAny_bind (wpAny_holding (wpAny_mono h (fun a s₁ h₁ => wpAny_bind (wpAny_standAt ?_)) fun _ _ x => x))
  obtain ⟨ho, hcall⟩ := h₁
  simp only [hplain, List.any_nil, Bool.or_false]
  refine wpAny_bind (m := keeperOf (.ref u)) ?_
  unfold keeperOf
  refine wpAny_bind (wpAny_load ho ?_)
  simp only [kxs_mw, show (Value.type "method-wrapper" != Value.type "method") = true by decide, show (Value.type "method-wrapper" == Value.type "builtin_function_or_method" || Value.type "method-wrapper" == Value.type "method-wrapper") = true by decide, if_true]
  refine wpAny_pure ?_
  exact wpAny_bind (wpAny_mono hcall (fun r s₂ hr => wpAny_bind (wpAny_holding (wpAny_point (wpAny_pure hr)))) fun _ _ x => x)
theorem callWith_mw {M : Model} {s : Shared} {pos : Pos} {u x : Addr} {i : String} {first : List Value} {env : Env} {e : Expr} {rest : List Expr} {Q : Value → Shared → Prop}
    (h : wpAny M A (spliced (backTo pos (starEach (e :: rest) env))) (fun vs s₁ => s₁.heap.get? u = some (kxs_mw i x) ∧ wpAny M A (call (.ref u) (first ++ vs)) Q E s₁) E s)
    (he : starEach (e :: rest) env = (false, eval e env) :: starEach rest env := by rfl) (hplain : (backTo pos (starEach rest env)).any (·.1) = false := by rfl) :
    wpAny M A (callWith pos (.ref u) first (backTo pos (starEach (e :: rest) env)) []) Q E s := by
  rw [he] at h ⊢
  refine callWith_m0 (x := x) (i := i) (by show (false || (backTo pos (starEach rest env)).any (·.1)) = false; rw [hplain]; rfl) ?_
  exact evalArgs_plain h
theorem call_mw {u e t0 : Addr} {rest : List Value} {Q : Value → Shared → Prop}
    (hC : h.get? C = some (excClassObj nm q C N bs bm hdct sn sub ab col dd k0 k1 k2 k3 k5 "ValueError.__new__")) (he : h.get? e = some (excO C t0)) (hu : h.get? u = some (kxs_mw "ValueError.__init__" e)) (hrest : rest.length ≤ sizeLine)
    (hq : ∀ h' t1, (∀ b o, b ≠ e → h.get? b = some o → h'.get? b = some o) → h'.get? e = some (excO C t1) → Q .none ⟨h', g, d, t, os⟩) :
    wpAny (model prog w) A (call (.ref u) rest) Q E ⟨h, g, d, t, os⟩ := by
  refine wpAny_call (codeAny_of_tree ?_)
  show wpAny _ A.in1 (callAny (.ref u) ⟨rest, []⟩) _ _ _
  simp only [callAny]
  refine wpAny_bind (wpAny_load hu ?_)
  simp only [kxs_mw, show (Value.type "method-wrapper" == Value.type "method" || Value.type "method-wrapper" == Value.type "builtin_function_or_method" || Value.type "method-wrapper" == Value.type "method-wrapper") = true by decide, if_true]
  refine W.KFB.if_so (by decide) ?_
  refine wpAny_bind (ESX.check_bound F.excBase_ValueError hC he rfl ?_)
  refine wpAny_bind (wpAny_pure (wpAny_pure ?_))
  refine ⟨Code.quiet_builtin _ (by decide +kernel), codeAny_builtin F.excBase_ValueError.initEntry ?_⟩
  rw [Around.under_plainId F.excBase_ValueError.init.plain _]
  wp_walk
  refine hq _ h.objs.size (fun b o hb ho => ?_) ?_
  · rw [Heap.get?_update_other _ _ (Ne.symm hb)]
    exact Heap.get?_push_of_some _ ho
  · rw [Heap.get?_update_self _ (Heap.get?_push_of_some _ he) rfl]
    rfl
end
/-! ### a further field -/
section
variable {prog : Program} {w : World} {A : Around} {E : Value → Shared → Prop} {R : Result → Shared → Prop} {hp : Heap} {g : Array GenState} {d : Drawn} {t : Nat} {os : OsState}
theorem osa_old {K : W.Frag} {name : Str} {tk : Tok} {v : Value} {x C dx : Addr} {fv : Array Value} {cd : ClassData} {m0 : Str → Option Value} {nl : List Str}
    (X : K.In hp) (hx : hp.get? x = some { cls := .ref C, dict := some dx, data := .fields fv }) (hns : hp.Ns1 dx m0) (hw : Within m0 nl) (hz : nl.length ≤ 1000) (hcd : W.clsIn K C = some cd) (hm : refsVE cd.mro = true) (hh : cd.hasDict = true)
    (ha : W.findIn K (.ref C) name = some none)
    (hq : ∀ h' tk', (∀ b o, b ≠ dx → hp.get? b = some o → h'.get? b = some o) → h'.Ns1 dx (fun y => if y = name then some v else m0 y) → R (.ok (.ret .none)) ⟨h', g, d, tk', os⟩) :
    codeAny (model prog w) A (.call (.builtin "object.__setattr__") ⟨[.ref x, .str name tk, v], []⟩) R ⟨hp, g, d, t, os⟩ := by
  obtain ⟨oD, esD, epD, hoD, hdD, _⟩ := hns.count hw
  have I : W.InstAt hp x { cls := .ref C, dict := some dx, data := .fields fv } C (some oD) := ⟨hx, rfl, rfl, hoD⟩
  have SF := F.store_object
  have ne := refsVE_ne hm
  have hob : cd.mro.contains (.type "object") = true := (refsVE_contains "object" _ hm).trans (by decide +kernel)
  have sub : W.Looks (model prog w) hp (isInstance (.ref x) (.type "object")) true := I.type.andThen (W.looks_mroIn X (by unfold W.mroIn; rw [hcd, Option.bind_some, if_neg (by rw [ne]; decide), hob]))
  refine codeAny_call_builtin SF.slot.plain SF.entry (@W.check_slot (model prog w) _ _ ⟨hp, g, d, t, os⟩ "object.__setattr__" "object" "__setattr__" (.ref x) [.str name tk, v] [] _ SF.kind SF.split sub (SF.args (.ref x) (.str name tk) v) ?_)
  have hmr : W.Looks (model prog w) hp (mroOf (.ref C)) cd.mro := (W.looks_clsIn X hcd).andThen .now
  have L3 : W.Looks (model prog w) hp (storeTaker? none) none := .now
  have hcls : W.Looks (model prog w) hp (classData C) cd := W.looks_clsIn X hcd
  rw [W.osa_eq, refuse_eq]
  refine wpAny_bind (wpAny_bind (I.type.at (wpAny_bind (hmr.at ?_))))
  rw [refsVE_pass _ _ hm]
  refine wpAny_pure (wpAny_bind (I.type.at (wpAny_bind ((W.looks_findIn X ha).at (wpAny_bind (L3.at ?_))))))
  show wpAny _ _ (storeInOwnDict (.ref x) (.ref C) (.str name tk) name v false) _ _ _
  obtain ⟨nm, bs, mro, ns, qn, hd, sn, sb, ab, col, del⟩ := cd
  dsimp only at hh
  subst hh
  unfold storeInOwnDict ownDictForStores
  repeat (first | with_reducible refine ESX.store_in_old hns hw hz ?_ | with_reducible refine wpAny_loadPart_at hx ?_ | with_reducible refine hcls.at ?_ | wp_step)
  intro h' tk' hn' hs
  exact hq h' tk' (fun b o hb ho => (hs.2 b hb).trans ho) hn'
end
/-! ### __init__ -/
def eCall (msg : Str) (p0 p1 p2 p3 p4 : Pos) : Expr := .Call (.Attribute (.Call (.Name "super" p0) [] [] p1) "__init__" p2) [.Constant (.str msg) 0 p3] [] p4
def eSet (f : Str) (p0 p1 p2 p3 : Pos) : Stmt := .Assign [.Attribute (.Name "self" p0) f p1] (.Name f p2) p3
def eArgs (a : Pos) (fs : List (Str × Pos)) : Arguments := { posonlyargs := [], args := { arg := "self", annotation := none, pos := a } :: fs.map fun f => { arg := f.1, annotation := none, pos := f.2 }, vararg := none, kwonlyargs := [], kw_defaults := [], kwarg := none, defaults := [] }
def eScope (fs : List Str) : Scope := { kind := .function, names := (PySem.Str.ofString "self", .local) :: fs.map (fun f => (f, NameKind.local)) ++ [(PySem.Str.ofString "__class__", .free), (PySem.Str.ofString "super", .globalImplicit)], isGenerator := false, isCoroutine := false, more := [] }
def nmz (fs : List (Str × Pos)) : List Str := fs.map fun f => f.1
/-- what the written part says of the class at C, its __init__ at fI -/
structure ErrT (prog : Program) (K : Frag) (mg : Str → Option Value) (x : Str) (fs : List Str) (C fI : Addr) : Prop where
  gC : mg x = some (.ref C)
  cls : ∃ nm q N bs bm sn sub ab col dd k0 k1 k2 k3 k5, K.lookup C = some (excClassObj nm q C N bs bm true sn sub ab col dd k0 k1 k2 k3 k5 "ValueError.__new__") ∧ refsVE bm = true ∧
    alongIn K "__init__" ((Value.ref C :: bm).dropWhile (· != .ref C) |>.drop 1) = some (some (.builtin "ValueError.__init__"))
  sa : findIn K (.ref C) "__setattr__" = some (some (.builtin "object.__setattr__"))
  ga : findIn K (.ref C) "__getattribute__" = some (some (.builtin "BaseException.__getattribute__"))
  gg : findIn K (.ref C) "__getattr__" = some none
  noN : ∀ f ∈ fs, findIn K (.ref C) f = some none
  iC : findIn K (.ref C) "__init__" = some (some (.ref fI))
  tC : typeIn K (.ref fI) = some (.type "function")
  kC : keepIn K (.ref C) = true
  exC : subIn K (.ref C) (.type "BaseException") = some true
  tyC : typeIn K (.ref C) = some (.type "type")
  hdC : hasDictIn K C = true
  sup : mg "super" = none
  top : (prog.main.scope.names.lookup ("super" : Str)).isSome = false
  opq : nsIn K cStatics "thirdparty.any" = some none
/-- .. and of __init__'s function object -/
structure InitT (prog : Program) (K : Frag) (qual : Str) (a : Pos) (fs : List (Str × Pos)) (body : List Stmt) (C fI : Addr) : Prop where
  fn : ∃ (oc : Value) (od : Option Addr) (doc pm : Value) (an : Option Addr) (ct : Value) (osl : Array (Option Value)) (cc cda : Addr) (cl ccl : Value) (cld cdd : Option Addr) (csl ccs : Array (Option Value)) (vs : Array Value) (tf : Tok),
    K.lookup fI = some ⟨oc, od, .func (fnX "__init__" qual (eArgs a fs) body (eScope (nmz fs)) [("__class__", cc)] .none .none doc pm an (.ref cda) ct), osl⟩ ∧ codeIn K (.ref cda) qual = true ∧
    K.lookup cc = some ⟨cl, cld, .cell (some (.ref C)), csl⟩ ∧ K.lookup cda = some ⟨ccl, cdd, .fields vs, ccs⟩ ∧ vs[2]? = some (.str prog.main.file tf)
/-- the first statement: its form leans on its places alone -/
structure CallT (msg : Str) (p0 p1 p2 p3 p4 p5 : Pos) : Prop where
  sw : ∀ env : Env, swapsWith (eCall msg p0 p1 p2 p3 p4) none p5.line env = pure false
  ev : ∀ env : Env, ∃ pl : Sem Bool, eval (eCall msg p0 p1 p2 p3 p4) env = (do
      let ov ← attributeBase (.Call (.Name "super" p0) [] [] p1) "__init__" env (eval (.Call (.Name "super" p0) [] [] p1) env)
      standAt p2.atName
      let (f, first) ← holding [ov] (getMethod ov "__init__" pl)
      callWith p4 f first (backTo p4 (starEach [.Constant (.str msg) 0 p3] env)) [])
/-- what __init__ leaves of a fresh exception at x -/
structure InitEnd (h h' : Heap) (x C dx t1 : Addr) (m : Str → Option Value) : Prop where
  keep : ∀ b o, b ≠ x → h.get? b = some o → h'.get? b = some o
  obj : h'.get? x = some { cls := .ref C, dict := some dx, data := .fields #[.ref t1, .none, .none, .none, .bool false, .none] }
  dbig : h.objs.size ≤ dx
  dne : dx ≠ x
  ns : h'.Ns1 dx m
/-- a made error -/
structure Made (h h' : Heap) (e C d : Addr) (m : Str → Option Value) : Prop where
  keep : ∀ b o, h.get? b = some o → h'.get? b = some o
  new : h.objs.size ≤ e
  obj : ∃ oe vs, h'.get? e = some oe ∧ oe.cls = .ref C ∧ oe.dict = some d ∧ oe.data = .fields vs ∧ vs[1]? = some .none
  dbig : h.objs.size ≤ d
  dne : d ≠ e
  ns : h'.Ns1 d m
section
variable {prog : Program} {w : World} {A : Around} {E : Value → Shared → Prop} {R : Result → Shared → Prop} {s : Shared} {K : Frag} {mg : Str → Option Value} {C fI : Addr} {x qual : Str}
theorem one_size (v : Value) : [v].length ≤ sizeLine := by
  rw [sizeLine_eq]
  exact (by decide : 1 ≤ 16777216)
theorem kept_but {h h' : Heap} {x : Addr} (X : K.In h) (hx : K.lookup x = none) (k : ∀ b o, b ≠ x → h.get? b = some o → h'.get? b = some o) : K.In h' := fun a o e =>
  k a o (fun z => by rw [z, hx] at e; cases e) (X a o e)
/-- super().__init__(msg): behind it the exception stands with new args, all else is kept -/
theorem super_call {fs : List Str} {a : Pos} {fps : List (Str × Pos)} {body : List Stmt} {msg : Str} {p0 p1 p2 p3 p4 p5 : Pos} {xx t0 L : Addr} {m : Str → Option Value} {Q : Flow → Shared → Prop} {bd : List Stmt}
    {oc : Value} {od : Option Addr} {doc pm : Value} {an : Option Addr} {ct : Value} {osl : Array (Option Value)} {cc cda : Addr} {cl ccl : Value} {cld cdd : Option Addr} {csl ccs : Array (Option Value)} {vs : Array Value} {tf : Tok}
    (T : ErrT prog K mg x fs C fI) (CT : CallT msg p0 p1 p2 p3 p4 p5)
    (lk : K.lookup fI = some ⟨oc, od, .func (fnX "__init__" qual (eArgs a fps) body (eScope (nmz fps)) [("__class__", cc)] .none .none doc pm an (.ref cda) ct), osl⟩)
    (hcell : K.lookup cc = some ⟨cl, cld, .cell (some (.ref C)), csl⟩) (hcode : K.lookup cda = some ⟨ccl, cdd, .fields vs, ccs⟩) (hvs : vs[2]? = some (.str prog.main.file tf))
    (X : K.In s.heap) (hg : s.heap.Ns mainGlobals mg) (hb : ∃ mb, s.heap.Ns builtinsNs mb ∧ ∀ y : Str, y ≠ "__name__" → mb y = bootBuiltins y)
    (hL : s.heap.Ns L m) (hself : m "self" = some (.ref xx)) (hx : s.heap.get? xx = some (excO C t0)) (hnx : K.lookup xx = none)
    (hks : (eScope (nmz fps)).names.lookup ("super" : Str) = some .globalImplicit) (hkc : (eScope (nmz fps)).names.lookup ("__class__" : Str) = some .free) (hka : (eScope (nmz fps)).names.lookup ("self" : Str) = some .local)
    (hq : ∀ h' tk t1, (∀ b o, b ≠ xx → s.heap.get? b = some o → h'.get? b = some o) → h'.get? xx = some (excO C t1) → Q .next { s with heap := h', toks := tk }) :
    _root_.PySem.wpAt (model prog w) A (.func bd (ksEnv qual (eScope (nmz fps)) L fI (.ref cda) cc)) (exec (.Expr (eCall msg p0 p1 p2 p3 p4) p5) (ksEnv qual (eScope (nmz fps)) L fI (.ref cda) cc)) Q E s := by
  obtain ⟨nm, q, N, bs, bm, sn, sub, ab, col, dd, k0, k1, k2, k3, k5, hC, hbm, hal⟩ := T.cls
  have hcl : clsIn K C = some { name := nm, bases := bs, mro := .ref C :: bm, ns := N, qualname := q, hasDict := true, slotNames := sn, subclasses := sub, abstract := ab, collection := col, hasDel := false } := by unfold clsIn; rw [hC] <;> rfl
  obtain ⟨mb, hbn, hbb⟩ := hb
  obtain ⟨hh, g, d, t, os⟩ := s
  have X' : K.In hh := X
  refine ks_wpAt_Expr_any ?_ rfl (CT.sw _)
  obtain ⟨pl, ev⟩ := CT.ev (ksEnv qual (eScope (nmz fps)) L fI (.ref cda) cc)
  refine ks_wpAt_MethodCall (pl := pl) ?_ ev
  have hCo := X' _ _ hC
  have hsubC : mroIn K C (.ref C) = some true := by
    unfold mroIn
    rw [hcl, Option.bind_some]
    simp
  have hsubV : mroIn K C (.type "ValueError") = some true := by
    unfold mroIn
    rw [hcl, Option.bind_some]
    have z : (Value.ref C :: bm).contains (.type "ValueError") = true := (refsVE_contains "ValueError" (Value.ref C :: bm) hbm).trans (by decide +kernel)
    rw [if_neg (show ¬ ((Value.ref C :: bm).isEmpty = true) from Bool.false_ne_true), z]
  have I : InstAt hh xx (excO C t0) C none := ⟨hx, rfl, rfl, trivial⟩
  have hxC : xx ≠ C := fun z => by rw [z, hC] at hnx; cases hnx
  refine ks_wpAt_super_base (ar := { arg := "self", annotation := none, pos := a }) (env := ksEnv qual (eScope (nmz fps)) L fI (.ref cda) cc) (attr := "__init__") hks hkc (by decide +kernel) rfl (X' _ _ lk) rfl rfl rfl (X' _ _ hcode) rfl hvs (by simp) T.top ?_
  refine ks_loadName_global rfl hks (loadGlobal_builtin (env := ksEnv qual (eScope (nmz fps)) L fI (.ref cda) cc) hg T.sup hbn ((hbb _ (by decide +kernel)).trans (by first | boot_by_name | rfl | kernel_rfl)) ⟨rfl, ?_⟩)
  refine wpAny_loadName_free rfl hkc rfl ⟨_, X' _ _ hcell, rfl⟩ ?_
  refine wpAny_loadName_local rfl hka hL hself ?_
  refine ks_wpAny_isType_cls hCo rfl ⟨rfl, ?_⟩
  refine ks_wpAny_call_super hCo rfl hx rfl (fun c e => nomatch e) (looks_mroIn X' hsubC) fun h1 e1 kk1 => ?_
  have X1 : K.In h1 := X'.keeps kk1
  have x1 := kk1 _ _ hx
  have I1 : InstAt h1 xx (excO C t0) C none := ⟨x1, rfl, rfl, trivial⟩
  refine kxs_getMethod kxs_ValueError e1 (looks_opaque X1 T.opq) (l₀ := Value.ref C :: bm) ((looks_clsIn X1 hcl).andThen .now) rfl X1 hal (I1.type.andThen (looks_mroIn X1 hsubV)) hxC (by decide +kernel) ?_
  refine callWith_mw (x := xx) (i := "ValueError.__init__") ?_
  refine spliced_cons ?_
  refine wpAny_Constant_str (pos := p3) (k := 0) ?_
  refine spliced_nil ⟨?_, ?_⟩
  · exact Heap.get?_push_at rfl rfl
  refine call_mw (h := h1.push (kxs_mw "ValueError.__init__" xx)) (e := xx) (t0 := t0) (Heap.get?_push_of_some _ (kk1 _ _ hCo)) (Heap.get?_push_of_some _ x1) (Heap.get?_push_at rfl rfl) (one_size _) fun h' t1 k' hx' => ?_
  exact hq h' _ t1 (fun b o hb ho => k' b o hb (Heap.get?_push_of_some _ (kk1 b o ho))) hx'
end
end ER
end PySem

/-! ER, part b: __init__ with one and with two fields, the making, the raise. -/
namespace PySem
namespace ER
open PySem.W PySem.Calls PyProof.Rows PySem.HandSPX
/-- the class at C makes errors with these fields -/
structure Mker (prog : Program) (K : Frag) (mg : Str → Option Value) (C : Addr) (fs : List Str) : Prop where
  made : ∀ (w : World) (A : Around) (R : Result → Shared → Prop) (s : Shared) (vs : List Value), vs.length = fs.length → K.In s.heap → s.heap.NoLimit → s.heap.Ns mainGlobals mg → (∃ mb, s.heap.Ns builtinsNs mb ∧ ∀ y : Str, y ≠ "__name__" → mb y = bootBuiltins y) → A.depth + 1 < recursionLimit →
    (∀ h' tk e d m, Made s.heap h' e C d m → (∀ y, m y = (fs.zip vs).lookup y) → R (.ok (.ret (.ref e))) { s with heap := h', toks := tk }) → codeAny (model prog w) A (.call (.ref C) ⟨vs, []⟩) R s
section
variable {prog : Program} {w : World} {A : Around} {E : Value → Shared → Prop} {R : Result → Shared → Prop} {s : Shared} {K : Frag} {mg : Str → Option Value} {C fI : Addr} {x qual : Str}
theorem ldS {M : Model} {s : Shared} {name : Str} {scope : Scope} {L a : Addr} {cd : Value} {cc : Addr} {m : Str → Option Value} {x : Str} {pos : Pos} {v : Value} {Q : Value → Shared → Prop} (hn : s.heap.Ns L m) (hv : m x = some v) (h : Q v s)
    (hk : scope.kind = .function) (hl : scope.names.lookup x = some .local) (hd : (x == ("__debug__" : Str)) = false) :
    wpAny M A (eval (.Name x pos) (ksEnv name scope L a cd cc)) Q E s := wpAny_Name (wpAny_loadName_local hk hl hn hv h) hd
/-- the making by an __init__ that is shown -/
theorem made_of {fs : List Str} (T : ErrT prog K mg x fs C fI)
    (init : ∀ (w : World) (A : Around) (R : Result → Shared → Prop) (s : Shared) (vs : List Value) (xx t0 : Addr), vs.length = fs.length → K.In s.heap → s.heap.NoLimit → s.heap.Ns mainGlobals mg → (∃ mb, s.heap.Ns builtinsNs mb ∧ ∀ y : Str, y ≠ "__name__" → mb y = bootBuiltins y) → A.depth < recursionLimit →
      s.heap.get? xx = some (excO C t0) → K.lookup xx = none →
      (∀ h' tk dx t1 m, InitEnd s.heap h' xx C dx t1 m → (∀ y, m y = (fs.zip vs).lookup y) → R (.ok (.ret .none)) { s with heap := h', toks := tk }) → codeAny (model prog w) A (.call (.ref fI) ⟨.ref xx :: vs, []⟩) R s)
    (hz : fs.length ≤ 1000) : Mker prog K mg C fs := ⟨by
  intro w A R s vs hl X hlim hg hb hroom hq
  obtain ⟨nm, q, N, bs, bm, sn, sub, ab, col, dd, k0, k1, k2, k3, k5, hC, hbm, _⟩ := T.cls
  obtain ⟨hp, g, dr, tk, os⟩ := s
  have k : ∀ b o, hp.get? b = some o → ((hp.push (kdv_tup vs)).push (excO C hp.objs.size)).get? b = some o := fun b o e => Heap.get?_push_of_some _ (Heap.get?_push_of_some _ e)
  have hget : ((hp.push (kdv_tup vs)).push (excO C hp.objs.size)).get? (hp.objs.size + 1) = some (excO C hp.objs.size) := by heap_get
  have hnx : K.lookup (hp.objs.size + 1) = none := by
    cases e : K.lookup (hp.objs.size + 1) with
    | none => rfl
    | some o =>
      have z : hp.get? (hp.objs.size + 1) = some o := X _ _ e
      exact absurd (Nat.lt_of_succ_lt (Heap.lt_size z)) (Nat.lt_irrefl _)
  have hvs : vs.length ≤ sizeLine := by rw [hl]; exact Nat.le_trans hz (by decide)
  refine call_own F.excBase_ValueError (fun X => refsVE_contains X bm hbm) (X _ _ hC) (looks_findIn X T.iC) (fun self => bind_fn X self T.tC) hvs ?_
  refine init w _ _ ⟨(hp.push (kdv_tup vs)).push (excO C hp.objs.size), g, dr, tk, os⟩ vs (hp.objs.size + 1) hp.objs.size hl (X.keeps k) (hlim.keeps k) (hg.keeps k) ?_ ?_ hget hnx fun h' tk' dx t1 m ⟨k', hx, dn, dne, hns⟩ hm => ?_
  · obtain ⟨mb, h1, h2⟩ := hb
    exact ⟨mb, h1.keeps k, h2⟩
  · show A.depth + 1 < recursionLimit
    exact hroom
  · have old : ∀ b o, hp.get? b = some o → h'.get? b = some o := fun b o e => k' b o (Nat.ne_of_lt (Nat.lt_succ_of_lt (Heap.lt_size e))) (k b o e)
    have z : hp.objs.size + 1 + 1 ≤ dx := by
      first
        | (simpa only [Heap.size_push] using dn)
        | exact dn
        | (have q := dn; rw [Heap.size_push, Heap.size_push] at q; exact q)
    exact ⟨rfl, hq h' tk' (hp.objs.size + 1) dx m ⟨old, Nat.le_succ _, ⟨_, _, hx, rfl, rfl, rfl, rfl⟩, Nat.le_trans (Nat.le_trans (Nat.le_succ _) (Nat.le_succ _)) z, dne, hns⟩ hm⟩⟩
theorem lk_ne {α : Type} {a b : Str} {v : α} {l : List (Str × α)} (h : a ≠ b) : List.lookup a ((b, v) :: l) = List.lookup a l := by
  rw [List.lookup_cons]
  have : (a == b) = false := by simpa using h
  rw [this]
theorem lk_eq {α : Type} {a : Str} {v : α} {l : List (Str × α)} : List.lookup a ((a, v) :: l) = some v := by
  rw [List.lookup_cons]
  have : (a == a) = true := by simp
  rw [this]
theorem maker1 {f : Str} {a pf : Pos} {msg : Str} {p0 p1 p2 p3 p4 p5 r0 r1 r2 r3 : Pos} (T : ErrT prog K mg x [f] C fI) (CT : CallT msg p0 p1 p2 p3 p4 p5)
    (IT : InitT prog K qual a [(f, pf)] [.Expr (eCall msg p0 p1 p2 p3 p4) p5, eSet f r0 r1 r2 r3] C fI)
    (hbind : ∀ (cc : Addr) (doc pm : Value) (an : Option Addr) (cdv ct u v : Value), bindArgs (fnX "__init__" qual (eArgs a [(f, pf)]) [.Expr (eCall msg p0 p1 p2 p3 p4) p5, eSet f r0 r1 r2 r3] (eScope [f]) [("__class__", cc)] .none .none doc pm an cdv ct) ⟨[u, v], []⟩ = pure ([("self", u), (f, v)] : List (Str × Value)))
    (n0 : f ≠ "self") (n1 : f ≠ "__class__") (n2 : f ≠ "super") (nd : (f == ("__debug__" : Str)) = false) : Mker prog K mg C [f] := by
  have ks : (eScope [f]).names.lookup ("super" : Str) = some .globalImplicit := by
    show List.lookup ("super" : Str) (("self", NameKind.local) :: (f, NameKind.local) :: ("__class__", NameKind.free) :: ("super", NameKind.globalImplicit) :: []) = _
    rw [lk_ne (by decide +kernel), lk_ne (Ne.symm n2), lk_ne (by decide +kernel), lk_eq]
  have kc : (eScope [f]).names.lookup ("__class__" : Str) = some .free := by
    show List.lookup ("__class__" : Str) (("self", NameKind.local) :: (f, NameKind.local) :: ("__class__", NameKind.free) :: ("super", NameKind.globalImplicit) :: []) = _
    rw [lk_ne (by decide +kernel), lk_ne (Ne.symm n1), lk_eq]
  have ka : (eScope [f]).names.lookup ("self" : Str) = some .local := by
    show List.lookup ("self" : Str) (("self", NameKind.local) :: (f, NameKind.local) :: ("__class__", NameKind.free) :: ("super", NameKind.globalImplicit) :: []) = _
    rw [lk_eq]
  have kf : (eScope [f]).names.lookup f = some .local := by
    show List.lookup f (("self", NameKind.local) :: (f, NameKind.local) :: ("__class__", NameKind.free) :: ("super", NameKind.globalImplicit) :: []) = _
    rw [lk_ne n0, lk_eq]
  refine made_of T ?_ (by simp)
  intro w A R s vs xx t0 hl X hlim hg hb hroom hx hnx hq
  obtain ⟨v, rfl⟩ : ∃ v, vs = [v] := by
    cases vs with
    | nil => simp at hl
    | cons v r => cases r with
      | nil => exact ⟨v, rfl⟩
      | cons _ _ => simp at hl
  obtain ⟨oc, od, doc, pm, an, ct, osl, cc, cda, cl, ccl, cld, cdd, csl, ccs, ws, tf, lk, hcd, hcell, hcode, hvs⟩ := IT.fn
  obtain ⟨nm, q, N, bs, bm, sn, sub, ab, col, dd, k0, k1, k2, k3, k5, hC, hbm, hal⟩ := T.cls
  have hcl : clsIn K C = some { name := nm, bases := bs, mro := .ref C :: bm, ns := N, qualname := q, hasDict := true, slotNames := sn, subclasses := sub, abstract := ab, collection := col, hasDel := false } := by unfold clsIn; rw [hC] <;> rfl
  refine ks_codeAny_call_defAt (binds := [("self", .ref xx), (f, v)]) hroom (X _ _ lk) rfl hlim (codeRec_of X hcd) rfl (BindsTo.of_eq (by exact hbind _ _ _ _ _ _ _ _)) ?_ ?_ (fun h₀ hns k₀ => ?_)
  · intro y hy
    have hy' : y ∈ ([("self", NameKind.local), (f, NameKind.local), ("__class__", NameKind.free), ("super", NameKind.globalImplicit)] : List (Str × NameKind)) := hy
    simp only [List.mem_cons, List.not_mem_nil, or_false] at hy'
    rcases hy' with rfl | rfl | rfl | rfl <;> (intro z; cases z)
  · intro y hy
    simp only [List.mem_cons, List.not_mem_nil, or_false] at hy
    rcases hy with rfl | rfl
    · exact ka
    · exact kf
  · have hs0 : (fun y => List.lookup y ([("self", Value.ref xx), (f, v)] : List (Str × Value)).reverse) "self" = some (.ref xx) := by
      show List.lookup ("self" : Str) [(f, v), ("self", Value.ref xx)] = _
      rw [lk_ne (Ne.symm n0), lk_eq]
    have hs1 : (fun y => List.lookup y ([("self", Value.ref xx), (f, v)] : List (Str × Value)).reverse) f = some v := by
      show List.lookup f [(f, v), ("self", Value.ref xx)] = _
      rw [lk_eq]
    have hxL : s.heap.objs.size ≠ xx := Nat.ne_of_gt (Heap.lt_size hx)
    refine ks_wpAt_execs_cons ?_
    refine super_call (s := { s with heap := h₀, toks := _ }) (fps := [(f, pf)]) T CT lk hcell hcode hvs (X.keeps k₀) (hg.keeps k₀) (by obtain ⟨mb, h1, h2⟩ := hb; exact ⟨mb, h1.keeps k₀, h2⟩) hns hs0 (k₀ _ _ hx) hnx ks kc ka fun h1 tk1 t1 kk1 hx1 => ?_
    have hL1 : h1.Ns s.heap.objs.size _ := hns.at fun o e => kk1 _ o hxL e
    have X1 : K.In h1 := kept_but (X.keeps k₀) hnx kk1
    show _root_.PySem.wpAt _ _ _ _ _ _ _
    refine ks_wpAt_execs_cons ?_
    refine ks_wpAt_Assign_Attr (wpAt_of_wpAny ?_)
    refine ldS (v := v) hL1 hs1 (ldS (v := .ref xx) hL1 hs0 ?_ rfl ka (by decide +kernel)) rfl kf nd
    refine set_plain X1 (ox := excO C t1) (od := none) ⟨hx1, rfl, rfl, trivial⟩ T.sa ?_
    refine exc_osa X1 hx1 hcl (show refsVE (.ref C :: bm) = true from hbm) rfl (T.noN f (by simp)) (fun h₃ tk₃ dx k₃ dn dne hx₃ hn₃ => ?_)
    show _root_.PySem.wpAt _ _ _ _ _ _ _
    refine wpAt_of_wpAny (wpAny_execs_nil ?_)
    have z : s.heap.objs.size ≤ dx := by
      have z1 : s.heap.objs.size < h1.objs.size := hL1.lt
      exact Nat.le_of_lt (Nat.lt_of_lt_of_le z1 dn)
    refine hq h₃ tk₃ dx t1 _ ⟨fun b o hb e => k₃ b o hb (kk1 b o hb (k₀ b o e)), hx₃, z, dne, hn₃⟩ fun y => ?_
    show (if y = f then some v else none) = List.lookup y [(f, v)]
    by_cases hy : y = f
    · subst hy; rw [if_pos rfl, lk_eq]
    · rw [if_neg hy, lk_ne hy]; rfl
theorem maker2 {f e : Str} {a pf pe : Pos} {msg : Str} {p0 p1 p2 p3 p4 p5 r0 r1 r2 r3 u0 u1 u2 u3 : Pos} (T : ErrT prog K mg x [f, e] C fI) (CT : CallT msg p0 p1 p2 p3 p4 p5)
    (IT : InitT prog K qual a [(f, pf), (e, pe)] [.Expr (eCall msg p0 p1 p2 p3 p4) p5, eSet f r0 r1 r2 r3, eSet e u0 u1 u2 u3] C fI)
    (hbind : ∀ (cc : Addr) (doc pm : Value) (an : Option Addr) (cdv ct u v y : Value), bindArgs (fnX "__init__" qual (eArgs a [(f, pf), (e, pe)]) [.Expr (eCall msg p0 p1 p2 p3 p4) p5, eSet f r0 r1 r2 r3, eSet e u0 u1 u2 u3] (eScope [f, e]) [("__class__", cc)] .none .none doc pm an cdv ct) ⟨[u, v, y], []⟩ = pure ([("self", u), (f, v), (e, y)] : List (Str × Value)))
    (n0 : f ≠ "self") (n1 : f ≠ "__class__") (n2 : f ≠ "super") (nd : (f == ("__debug__" : Str)) = false) (m0 : e ≠ "self") (m1 : e ≠ "__class__") (m2 : e ≠ "super") (md : (e == ("__debug__" : Str)) = false) (ne : f ≠ e) : Mker prog K mg C [f, e] := by
  have ks : (eScope [f, e]).names.lookup ("super" : Str) = some .globalImplicit := by
    show List.lookup ("super" : Str) (("self", NameKind.local) :: (f, NameKind.local) :: (e, NameKind.local) :: ("__class__", NameKind.free) :: ("super", NameKind.globalImplicit) :: []) = _
    rw [lk_ne (by decide +kernel), lk_ne (Ne.symm n2), lk_ne (Ne.symm m2), lk_ne (by decide +kernel), lk_eq]
  have kc : (eScope [f, e]).names.lookup ("__class__" : Str) = some .free := by
    show List.lookup ("__class__" : Str) (("self", NameKind.local) :: (f, NameKind.local) :: (e, NameKind.local) :: ("__class__", NameKind.free) :: ("super", NameKind.globalImplicit) :: []) = _
    rw [lk_ne (by decide +kernel), lk_ne (Ne.symm n1), lk_ne (Ne.symm m1), lk_eq]
  have ka : (eScope [f, e]).names.lookup ("self" : Str) = some .local := by
    show List.lookup ("self" : Str) (("self", NameKind.local) :: (f, NameKind.local) :: (e, NameKind.local) :: ("__class__", NameKind.free) :: ("super", NameKind.globalImplicit) :: []) = _
    rw [lk_eq]
  have kf : (eScope [f, e]).names.lookup f = some .local := by
    show List.lookup f (("self", NameKind.local) :: (f, NameKind.local) :: (e, NameKind.local) :: ("__class__", NameKind.free) :: ("super", NameKind.globalImplicit) :: []) = _
    rw [lk_ne n0, lk_eq]
  have ke : (eScope [f, e]).names.lookup e = some .local := by
    show List.lookup e (("self", NameKind.local) :: (f, NameKind.local) :: (e, NameKind.local) :: ("__class__", NameKind.free) :: ("super", NameKind.globalImplicit) :: []) = _
    rw [lk_ne m0, lk_ne (Ne.symm ne), lk_eq]
  refine made_of T ?_ (by simp)
  intro w A R s vs xx t0 hl X hlim hg hb hroom hx hnx hq
  obtain ⟨v, v2, rfl⟩ : ∃ v v2, vs = [v, v2] := by
    match vs, hl with
    | [v, v2], _ => exact ⟨v, v2, rfl⟩
  obtain ⟨oc, od, doc, pm, an, ct, osl, cc, cda, cl, ccl, cld, cdd, csl, ccs, ws, tf, lk, hcd, hcell, hcode, hvs⟩ := IT.fn
  obtain ⟨nm, q, N, bs, bm, sn, sub, ab, col, dd, k0, k1, k2, k3, k5, hC, hbm, hal⟩ := T.cls
  have hcl : clsIn K C = some { name := nm, bases := bs, mro := .ref C :: bm, ns := N, qualname := q, hasDict := true, slotNames := sn, subclasses := sub, abstract := ab, collection := col, hasDel := false } := by unfold clsIn; rw [hC] <;> rfl
  refine ks_codeAny_call_defAt (binds := [("self", .ref xx), (f, v), (e, v2)]) hroom (X _ _ lk) rfl hlim (codeRec_of X hcd) rfl (BindsTo.of_eq (by exact hbind _ _ _ _ _ _ _ _ _)) ?_ ?_ (fun h₀ hns k₀ => ?_)
  · intro y hy
    have hy' : y ∈ ([("self", NameKind.local), (f, NameKind.local), (e, NameKind.local), ("__class__", NameKind.free), ("super", NameKind.globalImplicit)] : List (Str × NameKind)) := hy
    simp only [List.mem_cons, List.not_mem_nil, or_false] at hy'
    rcases hy' with rfl | rfl | rfl | rfl | rfl <;> (intro z; cases z)
  · intro y hy
    simp only [List.mem_cons, List.not_mem_nil, or_false] at hy
    rcases hy with rfl | rfl | rfl
    · exact ka
    · exact kf
    · exact ke
  · have hs0 : (fun y => List.lookup y ([("self", Value.ref xx), (f, v), (e, v2)] : List (Str × Value)).reverse) "self" = some (.ref xx) := by
      show List.lookup ("self" : Str) [(e, v2), (f, v), ("self", Value.ref xx)] = _
      rw [lk_ne (Ne.symm m0), lk_ne (Ne.symm n0), lk_eq]
    have hs1 : (fun y => List.lookup y ([("self", Value.ref xx), (f, v), (e, v2)] : List (Str × Value)).reverse) f = some v := by
      show List.lookup f [(e, v2), (f, v), ("self", Value.ref xx)] = _
      rw [lk_ne ne, lk_eq]
    have hs2 : (fun y => List.lookup y ([("self", Value.ref xx), (f, v), (e, v2)] : List (Str × Value)).reverse) e = some v2 := by
      show List.lookup e [(e, v2), (f, v), ("self", Value.ref xx)] = _
      rw [lk_eq]
    have hxL : s.heap.objs.size ≠ xx := Nat.ne_of_gt (Heap.lt_size hx)
    refine ks_wpAt_execs_cons ?_
    refine super_call (s := { s with heap := h₀, toks := _ }) (fps := [(f, pf), (e, pe)]) T CT lk hcell hcode hvs (X.keeps k₀) (hg.keeps k₀) (by obtain ⟨mb, h1, h2⟩ := hb; exact ⟨mb, h1.keeps k₀, h2⟩) hns hs0 (k₀ _ _ hx) hnx ks kc ka fun h1 tk1 t1 kk1 hx1 => ?_
    have hL1 : h1.Ns s.heap.objs.size _ := hns.at fun o q => kk1 _ o hxL q
    have X1 : K.In h1 := kept_but (X.keeps k₀) hnx kk1
    show _root_.PySem.wpAt _ _ _ _ _ _ _
    refine ks_wpAt_execs_cons ?_
    refine ks_wpAt_Assign_Attr (wpAt_of_wpAny ?_)
    refine ldS (v := v) hL1 hs1 (ldS (v := .ref xx) hL1 hs0 ?_ rfl ka (by decide +kernel)) rfl kf nd
    refine set_plain X1 (ox := excO C t1) (od := none) ⟨hx1, rfl, rfl, trivial⟩ T.sa ?_
    refine exc_osa X1 hx1 hcl (show refsVE (.ref C :: bm) = true from hbm) rfl (T.noN f (by simp)) (fun h₃ tk₃ dx k₃ dn dne hx₃ hn₃ => ?_)
    have X3 : K.In h₃ := kept_but X1 hnx k₃
    have hL3 : h₃.Ns s.heap.objs.size _ := hL1.at fun o q => k₃ _ o hxL q
    show _root_.PySem.wpAt _ _ _ _ _ _ _
    refine ks_wpAt_execs_cons ?_
    refine ks_wpAt_Assign_Attr (wpAt_of_wpAny ?_)
    refine ldS (v := v2) hL3 hs2 (ldS (v := .ref xx) hL3 hs0 ?_ rfl ka (by decide +kernel)) rfl ke md
    obtain ⟨oD, hoD⟩ : ∃ oD, h₃.get? dx = some oD := by obtain ⟨o, _, _, h, _⟩ := hn₃; exact ⟨o, h⟩
    refine set_plain X3 (od := some oD) ⟨hx₃, rfl, rfl, hoD⟩ T.sa ?_
    have hwi : Within (fun y => if y = f then some v else none) [f] := fun y hy => by
      by_cases q : y = f
      · rw [q]; exact List.mem_singleton.mpr rfl
      · exact absurd (if_neg q) hy
    refine osa_old X3 hx₃ hn₃ hwi (by simp) hcl (show refsVE (.ref C :: bm) = true from hbm) rfl (T.noN e (by simp)) (fun h₄ tk₄ k₄ hn₄ => ?_)
    have ndx : xx ≠ dx := Ne.symm dne
    show _root_.PySem.wpAt _ _ _ _ _ _ _
    refine wpAt_of_wpAny (wpAny_execs_nil ?_)
    have zlt : s.heap.objs.size < dx := by
      have z1 : s.heap.objs.size < h1.objs.size := hL1.lt
      exact Nat.lt_of_lt_of_le z1 dn
    have nold : ∀ b o, s.heap.get? b = some o → b ≠ dx := fun b o q => Nat.ne_of_lt (Nat.lt_trans (Heap.lt_size q) zlt)
    refine hq h₄ tk₄ dx t1 _ ⟨fun b o hb q => k₄ b o (nold b o q) (k₃ b o hb (kk1 b o hb (k₀ b o q))), k₄ _ _ ndx hx₃, Nat.le_of_lt zlt, dne, hn₄⟩ fun y => ?_
    show (if y = e then some v2 else if y = f then some v else none) = List.lookup y [(f, v), (e, v2)]
    by_cases hy : y = e
    · subst hy; rw [if_pos rfl, lk_ne (Ne.symm ne), lk_eq]
    · rw [if_neg hy]
      by_cases hz : y = f
      · subst hz; rw [if_pos rfl, lk_eq]
      · rw [if_neg hz, lk_ne hz, lk_ne hy]; rfl
end
end ER
end PySem

/-! DL, part c: errors raised and caught, calls, defs. -/
namespace DL
open PySem PySem.Spec L2
/-! ### raise X(e, ..) -/
def tMkE (C : Addr) (fs : List Str) (ta : TA) : St → Hp → XK → Prop := fun σ H Q => ta σ H fun vs H1 => vs.length = fs.length ∧ ∀ d, H1 d = none → Q (.ref C) (some d) (upd H1 d (.xd (fs.zip vs)))
theorem relO_zip (f : Str) : ∀ {fs : List Str} {vs : List V} {us : List Value}, Vals vs us → RelO (List.lookup f (fs.zip vs)) (List.lookup f (fs.zip us))
  | [], _, _, _ => by simp [RelO]
  | _ :: _, _, _, .nil => by simp [RelO]
  | g :: fs, _, _, .cons r t => by
    rw [List.zip_cons_cons, List.zip_cons_cons, List.lookup_cons, List.lookup_cons]
    cases q : (f == g) with
    | true => exact r
    | false => exact relO_zip f t
section
variable {X : Cx} {C : Addr} {fs : List Str}
theorem pmk_err {x : Str} {e : Expr} {es : List Expr} {ta : TA} {p pos : Pos} {k : Nat} (M : PySem.ER.Mker X.prog X.K X.mg C fs) (gC : X.mg x = some (.ref C)) (kC : PySem.W.keepIn X.K (.ref C) = true) (rC : Raises X (.ref C)) (hr : Room k X.A) (ha : PA X (e :: es) ta) (hg : Gl X x)
    (hd : (x == ("__debug__" : Str)) = false := by decide) (he : starEach (e :: es) X.env = (false, eval e X.env) :: starEach es X.env := by rfl) (hpl : (backTo pos (starEach es X.env)).any (·.1) = false := by rfl) :
    PMk X (.Call (.Name x p) (e :: es) [] pos) (tMkE C fs ta) := by
  intro pins s σ H Q I h
  refine PySem.wpAny_Call_Name_kw (ld_glob I hg gC ?_ hd)
  refine PySem.W.callWith_K (h₀ := X.base) I.ok.mod.kin kC (thn (ha.run pos pins s σ H _ I h) fun us s1 hh => ?_) he hpl
  obtain ⟨vs, H1, I1, r1, hl, q1⟩ := hh
  refine ⟨I1.kIn, ?_⟩
  show wpAny _ _ (call (.ref C) us) _ _ _
  have hlim := I1.nolimit
  have hgn : s1.heap.Ns mainGlobals X.mg := I1.ok.mod.glob.keeps I1.bk
  have hbn : ∃ mb, s1.heap.Ns builtinsNs mb ∧ ∀ y : Str, y ≠ "__name__" → mb y = bootBuiltins y := by
    obtain ⟨mb, h1, h2⟩ := I1.ok.mod.blt
    exact ⟨mb, h1.keeps I1.bk, h2⟩
  obtain ⟨hp, g, dr, tk, os⟩ := s1
  refine wpAny_call (M.made X.w X.A _ ⟨hp, g, dr, tk, os⟩ us (by rw [← r1.length]; exact hl) I1.kIn hlim hgn hbn (by have := hr.dp; omega) fun h' tk' e' d m Md hm => ?_)
  show MkP X pins σ Q (.ref e') ⟨h', g, dr, tk', os⟩
  obtain ⟨oe, fv, hoe, hc, hd', hdat, h1⟩ := Md.obj
  obtain ⟨G', g1, g2⟩ := restrict h' fun b => decide (b ≠ e')
  have gk : ∀ b, b ≠ e' → G'.get? b = h'.get? b := fun b hb => g1 b (decide_eq_true hb)
  have ge : G'.get? e' = none := g2 e' (by simp)
  have old : ∀ b o, hp.get? b = some o → G'.get? b = some o := fun b o q => (gk b (Nat.ne_of_lt (Nat.lt_of_lt_of_le (Heap.lt_size q) Md.new))).trans (Md.keep b o q)
  have ob : ObjOk X.prog X.w (upd H1 d (.xd (fs.zip vs))) G' d (.xd (fs.zip vs)) :=
    ⟨_, Md.ns.at (fun o q => (gk d Md.dne).trans q), fun f => by rw [hm f]; exact relO_zip f r1⟩
  have J : Inv X pins σ (upd H1 d (.xd (fs.zip vs))) ⟨G', g, dr, tk', os⟩ := I1.laid (t' := tk') old Md.dbig ob
  refine ⟨e', oe, fv, ⟨G', g, dr, tk', os⟩, _, .ref C, some d, rfl, J, fun b o q => ?_, ge, hoe, ⟨hc, hd'⟩, hdat, h1, ?_, rfl, I1.bare, rC, q1 d (I1.hok.fresh Md.dbig)⟩
  · by_cases hb : b = e'
    · have q' : G'.get? b = some o := q
      rw [hb, ge] at q'; cases q'
    · exact (gk b hb).symm.trans q
  · rw [upd_ne (Ne.symm Md.dne)]
    exact I1.hok.fresh Md.new
def tRaiseE (C : Addr) (fs : List Str) (W : WX) (ta : TA) : TS := fun _ σ H => tMkE C fs ta σ H fun cls d H' => W cls d σ H'
/-- the facts of an error class as one -/
structure ErrC (X : Cx) (x : Str) (C : Addr) (fs : List Str) : Prop where
  mker : PySem.ER.Mker X.prog X.K X.mg C fs
  gC : X.mg x = some (.ref C)
  kC : PySem.W.keepIn X.K (.ref C) = true
  rC : Raises X (.ref C)
theorem ps_raiseE {x : Str} {e : Expr} {es : List Expr} {ta : TA} {W : WX} {p pos pos2 : Pos} {k : Nat} (hc : X.calm = true) (M : ErrC X x C fs) (hr : Room k X.A) (tk : Takes X W) (ha : PA X (e :: es) ta) (hg : Gl X x := by rfl)
    (hd : (x == ("__debug__" : Str)) = false := by decide) (he : starEach (e :: es) X.env = (false, eval e X.env) :: starEach es X.env := by rfl) (hpl : (backTo pos (starEach es X.env)).any (·.1) = false := by rfl) :
    PS X (.Raise (some (.Call (.Name x p) (e :: es) [] pos)) none pos2) (tRaiseE C fs W ta) := ps_raise hc tk (pmk_err M.mker M.gC M.kC M.rC hr ha hg hd he hpl)
end
section
variable {K : PySem.W.Frag} {W : WX} {Γ : Gm} {X : XP} {te ta tb : TE} {i : Nat} {PP : Po}
theorem repF_zip {G : Hp} : ∀ {fs : List Str} {vs : List V} {ds : List Dt}, Reps K G vs ds → RepF K G (fs.zip vs) (fs.zip ds)
  | [], _, _, _ => by simpa using RepF.nil
  | _ :: _, _, _, .nil => by simpa using RepF.nil
  | f :: fs, _, _, .cons r t => by rw [List.zip_cons_cons, List.zip_cons_cons]; exact .cons r (repF_zip t)
theorem go_raise {C : Addr} {fs : List Str} {t : TA} (h : EvA K W t Γ (fun ds Γ1 => ds.length = fs.length ∧ PP.xc C (fs.zip ds) Γ1) PP.xc) : Go K W (tRaiseE C fs W t) Γ PP := fun O G H σ D S a b c d e =>
  h O G H σ _ S (fun vs G2 H2 Γ2 ds s1 S2 r ⟨l, p⟩ => ⟨by rw [r.length]; exact l, fun dd nd => by
    have ex := Ext.new (ob := .xd (fs.zip vs)) S2.g nd
    exact e σ C (some dd) _ _ _ Γ2 (s1.trans ex.g) (S2.ext ex) (.some upd_same ((repF_zip r).mono ex.g)) p⟩) (e σ)
/-! ### calls of defs -/
abbrev DSp := List Sl → (Sl → List Sl → Prop) → (Addr → List (Str × Dt) → List Sl → Prop) → Prop
abbrev sms (vs : List V) : St := vs.map some
abbrev sls (as : List Sl) : Gm := as.map some
/-- a def's promise by data -/
def spD (K : PySem.W.Frag) (S : DSp) : Sp := fun vs H Q E => ∃ (O G : Hp) (args : List Sl) (R : Sl → List Sl → Prop) (Y : Addr → List (Str × Dt) → List Sl → Prop), Sta K O G H (sms vs) (sls args) ∧ S args R Y ∧
  (∀ (v : V) (G2 H2 : Hp) (res : Sl) (args' : List Sl), Same G G2 → Sta K O G2 H2 (some v :: sms vs) (some res :: sls args') → R res args' → Q v H2) ∧
  (∀ (C : Addr) (d : Option Addr) (fs : List (Str × Dt)) (G2 H2 : Hp) (args' : List Sl), Same G G2 → Sta K O G2 H2 (sms vs) (sls args') → RepX K G2 d fs → Y C fs args' → E (.ref C) d H2)
theorem fps_fr (ds : List Dt) : fps (sls (ds.map .fr)) = [] := by
  induction ds with
  | nil => rfl
  | cons d ds ih => simpa [fps, fpO, Sl.fp] using ih
theorem slots_fr {G H : Hp} : ∀ {vs : List V} {ds : List Dt}, Reps K G vs ds → Slots K G H (sms vs) (sls (ds.map .fr))
  | _, _, .nil => .nil
  | _, _, .cons r t => .yes (.fr r) (slots_fr t)
/-- foreign to the callee: what is foreign, and the own things that it does not get -/
def forn (O H : Hp) (as : List Addr) : Hp := fun a => if a ∈ as then H a else O a
theorem forn_in {O H : Hp} {as : List Addr} {a : Addr} (h : a ∈ as) : forn O H as a = H a := if_pos h
theorem forn_out {O H : Hp} {as : List Addr} {a : Addr} (h : a ∉ as) : forn O H as a = O a := if_neg h
theorem Sta.fornM {O G H : Hp} {σ : St} {Γ2 : Gm} (S : Sta K O G H σ Γ) (h : ∀ a ∈ fps Γ2, a ∈ fps Γ) : ∀ a o, forn O H (fps Γ2) a = some o → Mut (some o) := fun a o q => by
  by_cases ha : a ∈ fps Γ2
  · rw [forn_in ha] at q
    obtain ⟨o', h1, h2⟩ := S.muts a (h a ha)
    rw [q] at h1; cases h1; exact h2
  · rw [forn_out ha] at q; exact S.om a o q
/-- behind a call that left the slots' own things at `as` as they were -/
theorem Sta.back {O G G2 H H2 : Hp} {σ : St} (S : Sta K O G H σ Γ) (s2 : Same G G2) (g : Same G2 H2) (o : Same (forn O H (fps Γ)) H2) (d : ∀ a, forn O H (fps Γ) a ≠ none → G2 a = none) : Sta K O G2 H2 σ Γ := by
  refine ⟨g, fun a u q => ?_, fun a q => ?_, S.sl.mono s2 fun a ha u q => ?_, S.nd, fun a ha => ?_, S.no, S.om⟩
  · refine o a u ?_
    rw [forn_out fun z => by rw [S.no a z] at q; cases q]
    exact q
  · refine d a ?_
    rw [forn_out fun z => q (S.no a z)]
    exact q
  · refine o a u ?_
    rw [forn_in ha]
    exact q
  · refine d a ?_
    rw [forn_in ha]
    exact S.there a ha
theorem Sta.entry0 {O G H : Hp} {σ : St} {vs : List V} {ds : List Dt} (S : Sta K O G H σ Γ) (r : Reps K G vs ds) : Sta K (forn O H (fps Γ)) G H (sms vs) (sls (ds.map .fr)) := by
  refine ⟨S.g, fun a u q => ?_, fun a q => ?_, slots_fr r, by rw [fps_fr]; simp, fun a ha => by rw [fps_fr] at ha; simp at ha, fun a ha => by rw [fps_fr] at ha; simp at ha, S.fornM fun _ h => h⟩
  · by_cases ha : a ∈ fps Γ
    · rw [forn_in ha] at q; exact q
    · rw [forn_out ha] at q; exact S.o a u q
  · by_cases ha : a ∈ fps Γ
    · exact S.ng a ha
    · rw [forn_out ha] at q; exact S.d a q
theorem evo_call0 {S : DSp} {t : TA} {P : Sl → Gm → Prop} (h : EvA K W t Γ (fun ds Γ1 => S (ds.map .fr) (fun res _ => P res Γ1) (fun C fs _ => X C fs Γ1)) X) : EvO K W (tCallS (spD K S) (WE W) t) Γ P X := fun O G H σ Q S0 q x =>
  h O G H σ _ S0 (fun vs G1 H1 Γ1 ds s1 S1 r hS => by
    refine ⟨forn O H1 (fps Γ1), G1, ds.map .fr, _, _, S1.entry0 r, hS, fun v G2 H2 res args' s2 S2 p => ?_, fun C d fs G2 H2 args' s2 S2 rx p => ?_⟩
    · have T := S1.back s2 S2.g S2.o S2.d
      have nd := S2.nd
      simp only [fps, fpO] at nd
      have mem : ∀ a ∈ res.fp, a ∈ fps (some res :: sls args') := fun a ha => by simp [fps, fpO, ha]
      refine q v G2 H2 Γ1 res (s1.trans s2) (T.push S2.head (List.nodup_append.mp nd).1 (fun a ha => S2.ng a (mem a ha)) (fun a ha => ?_) (fun a ha z => ?_)) p
      · have n := S2.no a (mem a ha)
        by_cases hf : a ∈ fps Γ1
        · exact S1.no a hf
        · rw [forn_out hf] at n; exact n
      · have n := S2.no a (mem a ha)
        rw [forn_in z] at n
        exact S1.there a z n
    · exact x C d fs G2 H2 Γ1 (s1.trans s2) (S1.back s2 S2.g S2.o S2.d) rx p) x
theorem fps_part : ∀ {Γ : Gm} {i : Nat} {s : Sl}, Γ[i]? = some (some s) → (fps Γ).Nodup → s.fp.Nodup ∧ ∀ a ∈ s.fp, a ∉ fps (Γ.set i none)
  | [], i, s, h, _ => by simp at h
  | y :: r, 0, s, h, nd => by
    simp at h; subst h
    simp only [fps, fpO] at nd
    obtain ⟨n1, n2, n3⟩ := List.nodup_append.mp nd
    refine ⟨n1, fun a ha z => ?_⟩
    simp only [List.set_cons_zero, fps, fpO, List.nil_append] at z
    exact n3 a ha a z rfl
  | y :: r, i + 1, s, h, nd => by
    simp only [fps] at nd
    obtain ⟨n1, n2, n3⟩ := List.nodup_append.mp nd
    obtain ⟨m1, m2⟩ := fps_part (Γ := r) (i := i) (by simpa using h) n2
    refine ⟨m1, fun a ha z => ?_⟩
    simp only [List.set_cons_succ, fps, List.mem_append] at z
    rcases z with z | z
    · exact n3 a z a (mem_fps (Γ := r) (i := i) (by simpa using h) a ha) rfl
    · exact m2 a ha z
theorem fps_one (ds es : List Dt) (s : Sl) : fps (sls (ds.map .fr ++ s :: es.map .fr)) = s.fp := by
  induction ds with
  | nil => simpa [fps, fpO] using fps_fr es
  | cons d ds ih => simpa [fps, fpO, Sl.fp] using ih
theorem slots_one {G H : Hp} {v : V} {us : List V} {es : List Dt} {s : Sl} (h : Own K G H v s) (r2 : Reps K G us es) : ∀ {vs : List V} {ds : List Dt}, Reps K G vs ds → Slots K G H (sms (vs ++ v :: us)) (sls (ds.map .fr ++ s :: es.map .fr))
  | _, _, .nil => .yes h (slots_fr r2)
  | _, _, .cons r t => .yes (.fr r) (slots_one h r2 t)
theorem slots_mid {G H : Hp} {v : V} {us : List V} {es : List Dt} {s : Sl} : ∀ {vs : List V} {ds : List Dt}, vs.length = ds.length → Slots K G H (sms (vs ++ v :: us)) (sls (ds.map .fr ++ s :: es.map .fr)) → Own K G H v s
  | [], [], _, h => by cases h; assumption
  | [], _ :: _, hl, _ => by simp at hl
  | _ :: _, [], hl, _ => by simp at hl
  | _ :: vs, _ :: ds, hl, h => by
    cases h with
    | yes _ r => exact slots_mid (vs := vs) (ds := ds) (by simpa using hl) r
/-- a call that gets the slot i itself -/
theorem evo_call1 {S : DSp} {t : TA} {P : Sl → Gm → Prop} (h : EvB K W i t Γ (fun ds es Γ1 => ∃ s, Γ1[i]? = some (some s) ∧ S (ds.map .fr ++ s :: es.map .fr) (fun res args' => ∃ s', args' = ds.map .fr ++ s' :: es.map .fr ∧ P res (Γ1.set i (some s')))
    (fun C fs args' => ∃ s', args' = ds.map .fr ++ s' :: es.map .fr ∧ X C fs (Γ1.set i (some s')))) X) : EvO K W (tCallS (spD K S) (WE W) t) Γ P X := fun O G H σ Q S0 q x =>
  h O G H σ _ S0 (fun vs us v G1 H1 Γ1 ds es s1 S1 r1 hv r2 ⟨s, hs, hS⟩ => by
    obtain ⟨v', ev, ow⟩ := S1.get hs
    rw [hv] at ev
    obtain rfl : v = v' := Option.some.inj (Option.some.inj ev)
    obtain ⟨m1, m2⟩ := fps_part hs S1.nd
    have Sf : Sta K O G1 H1 (σ.set i (some v)) (Γ1.set i none) := S1.forget i (some v)
    have es' : σ.set i (some v) = σ := by
      apply List.ext_getElem?
      intro j
      rw [List.getElem?_set]
      by_cases hj : i = j
      · subst hj
        rw [if_pos rfl, hv]
        have : i < σ.length := by
          rcases Nat.lt_or_ge i σ.length with z | z
          · exact z
          · rw [List.getElem?_eq_none z] at hv; cases hv
        rw [if_pos this]
      · rw [if_neg hj]
    rw [es'] at Sf
    have ent : Sta K (forn O H1 (fps (Γ1.set i none))) G1 H1 (sms (vs ++ v :: us)) (sls (ds.map .fr ++ s :: es.map .fr)) := by
      refine ⟨S1.g, fun a u z => ?_, fun a z => ?_, slots_one ow r2 r1, by rw [fps_one]; exact m1, fun a ha => ?_, fun a ha => ?_, S1.fornM fun a h => (fps_set_sub i a h).elim (fun z => by simp [fpO] at z) id⟩
      · by_cases ha : a ∈ fps (Γ1.set i none)
        · rw [forn_in ha] at z; exact z
        · rw [forn_out ha] at z; exact S1.o a u z
      · by_cases ha : a ∈ fps (Γ1.set i none)
        · exact Sf.ng a ha
        · rw [forn_out ha] at z; exact S1.d a z
      · rw [fps_one] at ha; exact S1.ng a (mem_fps hs a ha)
      · rw [fps_one] at ha
        rw [forn_out (m2 a ha)]
        exact S1.no a (mem_fps hs a ha)
    have fin : ∀ {G2 H2 : Hp} {s' : Sl}, Same G1 G2 → Same G2 H2 → Same (forn O H1 (fps (Γ1.set i none))) H2 → (∀ a, forn O H1 (fps (Γ1.set i none)) a ≠ none → G2 a = none) → Own K G2 H2 v s' → s'.fp.Nodup → (∀ a ∈ s'.fp, G2 a = none) → (∀ a ∈ s'.fp, forn O H1 (fps (Γ1.set i none)) a = none) →
        Sta K O G2 H2 σ (Γ1.set i (some s')) := fun {G2 H2 s'} s2 g o d ow' nd ng no => by
      have T := Sf.back s2 g o d
      have T2 := (T.push ow' nd ng (fun a ha => ?_) (fun a ha z => ?_)).put i
      · rw [es', List.set_set] at T2
        exact T2
      · have n := no a ha
        by_cases hf : a ∈ fps (Γ1.set i none)
        · exact Sf.no a hf
        · rw [forn_out hf] at n; exact n
      · have n := no a ha
        rw [forn_in z] at n
        exact Sf.there a z n
    refine ⟨forn O H1 (fps (Γ1.set i none)), G1, _, _, _, ent, hS, fun u G2 H2 res args' s2 S2 ⟨s', ea, p⟩ => ?_, fun C d fs G2 H2 args' s2 S2 rx ⟨s', ea, p⟩ => ?_⟩
    · subst ea
      have St := S2.tail
      have ow2 := slots_mid r1.length St.sl
      have nds := St.nd
      rw [fps_one] at nds
      have ngs := St.ng
      rw [fps_one] at ngs
      have nos := St.no
      rw [fps_one] at nos
      have T := fin s2 S2.g S2.o S2.d ow2 nds ngs nos
      have nd := S2.nd
      simp only [fps, fpO] at nd
      rw [fps_one] at nd
      obtain ⟨n1, n2, n3⟩ := List.nodup_append.mp nd
      have mem : ∀ a ∈ res.fp, a ∈ fps (some res :: sls (ds.map .fr ++ s' :: es.map .fr)) := fun a ha => by simp [fps, fpO, ha]
      refine q u G2 H2 _ res (s1.trans s2) (T.push S2.head n1 (fun a ha => S2.ng a (mem a ha)) (fun a ha => ?_) (fun a ha z => ?_)) p
      · have n := S2.no a (mem a ha)
        by_cases hf : a ∈ fps (Γ1.set i none)
        · exact Sf.no a hf
        · rw [forn_out hf] at n; exact n
      · have e2 : Γ1.set i (some s') = (Γ1.set i none).set i (some s') := by rw [List.set_set]
        rw [e2] at z
        rcases fps_set_sub i a z with z | z
        · exact n3 a ha a z rfl
        · have n := S2.no a (mem a ha)
          rw [forn_in z] at n
          exact Sf.there a z n
    · subst ea
      have ow2 := slots_mid r1.length S2.sl
      have nds := S2.nd
      rw [fps_one] at nds
      have ngs := S2.ng
      rw [fps_one] at ngs
      have nos := S2.no
      rw [fps_one] at nos
      exact x C d fs G2 H2 _ (s1.trans s2) (fin s2 S2.g S2.o S2.d ow2 nds ngs nos) rx p) x
/-! ### a def by its body -/
def adr : Sl → Option Addr
  | .ol a _ => some a
  | .os a _ => some a
  | .oK a _ => some a
  | .oT a _ => some a
  | .oo a _ _ => some a
  | _ => none
theorem Own.adr {G H : Hp} {v : V} {s : Sl} {a : Addr} (h : Own K G H v s) (e : DL.adr s = some a) : v = .ref a := by
  cases h <;> simp [DL.adr] at e <;> subst e <;> rfl
/-- the parameters' slots behind the body -/
inductive Back : List Sl → Gm → List Sl → Prop
  | nil {Γ : Gm} : Back [] Γ []
  | fr {d : Dt} {as as' : List Sl} {x : Option Sl} {Γ : Gm} : Back as Γ as' → Back (.fr d :: as) (x :: Γ) (.fr d :: as')
  | pack {a : Addr} {ds : List Dt} {φ : List Dt → Prop} {as as' : List Sl} {Γ : Gm} : φ ds → Back as Γ as' → Back (.os a φ :: as) (some (.ol a ds) :: Γ) (.os a φ :: as')
  | own {s s' : Sl} {a : Addr} {as as' : List Sl} {Γ : Gm} : adr s = some a → adr s' = some a → Back as Γ as' → Back (s :: as) (some s' :: Γ) (s' :: as')
theorem Back.slots {G H G2 H2 : Hp} (s2 : Same G G2) : ∀ {vs : List V} {args args' : List Sl} {σ2 : St} {Γ2 : Gm}, Back args Γ2 args' → Slots K G H (sms vs) (sls args) → Slots K G2 H2 σ2 Γ2 → Slots K G2 H2 (sms vs) (sls args') ∧ (fps (sls args')).Sublist (fps Γ2)
  | [], _, _, _, _, .nil, .nil, _ => ⟨.nil, by simp [fps]⟩
  | _ :: _, _, _, _, _, @Back.fr _ _ _ _ Γ' b, .yes o r, q => by
    have q' : ∃ σ3, Slots K G2 H2 σ3 Γ' := by cases q with
      | no r => exact ⟨_, r⟩
      | yes _ r => exact ⟨_, r⟩
    obtain ⟨σ3, q3⟩ := q'
    obtain ⟨h1, h2⟩ := b.slots s2 r q3
    cases o with
    | fr rr =>
      refine ⟨.yes (.fr (rr.mono s2)) h1, ?_⟩
      simp only [fps, fpO, Sl.fp, List.map_cons, List.nil_append]
      exact h2.trans (List.sublist_append_right _ _)
  | _ :: _, _, _, _, _, .pack hp b, .yes o r, .yes o2 r2 => by
    obtain ⟨h1, h2⟩ := b.slots s2 r r2
    have z1 := o.adr rfl
    have z2 := o2.adr rfl
    subst z1 z2
    cases o2 with
    | ol hh rr =>
      refine ⟨.yes (.os hh rr hp) h1, ?_⟩
      simp only [fps, fpO, List.map_cons, Sl.fp]
      exact (List.Sublist.refl _).append h2
  | _ :: _, _, _, _, _, .own e1 e2 b, .yes o r, .yes o2 r2 => by
    obtain ⟨h1, h2⟩ := b.slots s2 r r2
    have z1 := o.adr e1
    have z2 := o2.adr e2
    subst z1 z2
    refine ⟨.yes o2 h1, ?_⟩
    simp only [fps, fpO, List.map_cons]
    exact (List.Sublist.refl _).append h2
theorem Back.sta {O G H G2 H2 : Hp} {vs : List V} {args args' : List Sl} {σ2 : St} {Γ2 : Gm} (b : Back args Γ2 args') (S : Sta K O G H (sms vs) (sls args)) (s2 : Same G G2) (S2 : Sta K O G2 H2 σ2 Γ2) : Sta K O G2 H2 (sms vs) (sls args') := by
  obtain ⟨h1, h2⟩ := b.slots s2 S.sl S2.sl
  exact ⟨S2.g, S2.o, S2.d, h1, h2.nodup S2.nd, fun a ha => S2.ng a (h2.subset ha), fun a ha => S2.no a (h2.subset ha), S2.om⟩
theorem Back.sta1 {O G H G2 H2 : Hp} {vs : List V} {args args' : List Sl} {σ2 : St} {Γ2 : Gm} {v : V} {s : Sl} (b : Back args Γ2 args') (S : Sta K O G H (sms vs) (sls args)) (s2 : Same G G2) (S2 : Sta K O G2 H2 (some v :: σ2) (some s :: Γ2)) : Sta K O G2 H2 (some v :: sms vs) (some s :: sls args') := by
  obtain ⟨h1, h2⟩ := b.slots s2 S.sl S2.tail.sl
  have h3 : (fps (some s :: sls args')).Sublist (fps (some s :: Γ2)) := by simp only [fps]; exact (List.Sublist.refl _).append h2
  exact ⟨S2.g, S2.o, S2.d, .yes S2.head h1, h3.nodup S2.nd, fun a ha => S2.ng a (h3.subset ha), fun a ha => S2.no a (h3.subset ha), S2.om⟩
/-- what is wanted of a body -/
def poOf (args : List Sl) (R : Sl → List Sl → Prop) (Y : Addr → List (Str × Dt) → List Sl → Prop) : Po where
  nx := fun Γ2 => ∃ args', Back args Γ2 args' ∧ R (.fr .non) args'
  rt := fun s Γ2 => ∃ args', Back args Γ2 args' ∧ R s args'
  xc := fun C fs Γ2 => ∃ args', Back args Γ2 args' ∧ Y C fs args'
theorem slots_more {G H : Hp} {n : Nat} : ∀ {σ : St} {Γ : Gm}, Slots K G H σ Γ → Slots K G H (σ ++ List.replicate n none) (Γ ++ List.replicate n none)
  | _, _, .nil => by
    induction n with
    | zero => exact .nil
    | succ n ih => exact .no ih
  | _, _, .no r => .no (slots_more r)
  | _, _, .yes o r => .yes o (slots_more r)
theorem fps_more {n : Nat} : ∀ {Γ : Gm}, fps (Γ ++ List.replicate n none) = fps Γ
  | [] => by
    induction n with
    | zero => rfl
    | succ n ih => simpa [List.replicate_succ, fps, fpO] using ih
  | x :: r => by simp only [List.cons_append, fps]; rw [fps_more]
theorem Sta.more {O G H : Hp} {σ : St} (S : Sta K O G H σ Γ) (n : Nat) : Sta K O G H (σ ++ List.replicate n none) (Γ ++ List.replicate n none) :=
  ⟨S.g, S.o, S.d, slots_more S.sl, by rw [fps_more]; exact S.nd, fun a ha => S.ng a (by rw [fps_more] at ha; exact ha), fun a ha => S.no a (by rw [fps_more] at ha; exact ha), S.om⟩
/-- the slots at a def's entry -/
def gm0 (n : Nat) (args : List Sl) : Gm := sls args ++ List.replicate (n - args.length) none
end
section
variable {P : Program} {w : World} {K : PySem.W.Frag} {mg : Str → Option Value} {base : Heap}
/-- THE RULE for a def -/
theorem fn_d {x qual : Str} {st : Stmt} {f : Addr} {fd : FuncData} {N ps : List Str} {k : Nat} {S : DSp} (F : Fun K x qual st f fd) (Sc : FnScope N ps (defScope st)) (len : ∀ args R Y, S args R Y → args.length = ps.length)
    (hbody : ∀ (cdv : Value) (A : Around) (outer : List Env) (s : Shared) (H : Hp) (E : XK), Room k (A.deeper (PyProof.Rows.envOfC qual (defScope st) s.heap.objs.size f cdv)) →
      ∃ t, PSs (cxOf (L2.CX P w) P w K mg base N qual (defScope st) f cdv A outer s H E) (defBody st) t ∧ ∀ args R Y, S args R Y → Go K (fun c d _ H => E c d H) t (gm0 N.length args) (poOf args R Y)) :
    FnOk P w K mg base (L2.CX P w) (k + 1) f fd ps (spD K S) := by
  refine F.okX Sc (fun vs H Q E h => ?_) (fun cdv A outer s H vs Q E hr h => ?_)
  · obtain ⟨O, G, args, R, Y, St, hS, _, _⟩ := h
    have l1 := len _ _ _ hS
    have l2 := St.sl.len
    simp at l2
    omega
  · obtain ⟨t, ht, go⟩ := hbody cdv A outer s H E hr
    refine ⟨t, ht, ?_⟩
    obtain ⟨O, G, args, R, Y, St, hS, hQ, hE⟩ := h
    have l2 : vs.length = args.length := by have := St.sl.len; simpa using this
    have St' := St.more (N.length - args.length)
    have e : L2.start N vs = sms vs ++ List.replicate (N.length - args.length) none := by unfold L2.start; rw [l2]
    rw [e]
    refine go args R Y hS O G H _ _ St' ?_ ?_ ?_ ?_ ?_
    · intro G2 H2 σ2 Γ2 s2 S2 ⟨args', b, p⟩
      exact hQ .non G2 H2 (.fr .non) args' s2 ((b.sta St s2 S2).pushF .non) p
    · intro v G2 H2 σ2 Γ2 z s2 S2 ⟨args', b, p⟩
      exact hQ v G2 H2 z args' s2 (b.sta1 St s2 S2) p
    · intro G2 H2 σ2 Γ2 s2 S2 p; exact p.elim
    · intro G2 H2 σ2 Γ2 s2 S2 p; exact p.elim
    · intro σ2 C d fs G2 H2 Γ2 s2 S2 r ⟨args', b, p⟩
      exact hE C d fs G2 H2 args' s2 (b.sta St s2 S2) r p
end
end DL

/-! DD, part a: dicts: what HandS lacks; tables as data. -/
namespace L2
open PySem PySem.Spec PyProof.Rows
def rDG : R2 := fun x y H Q => ∃ a v, x = .ref a ∧ DGet H a y (some v) ∧ Q v H
def rDI (neg : Bool) : R2 := fun y x H Q => ∃ a o, x = .ref a ∧ DGet H a y o ∧ Q (.bl (o.isSome ^^ neg)) H
def rDL : List V → Hp → VK → Prop := fun xs H Q => ∃ a, xs = [.ref a] ∧ ((∃ kvs : List (Key × V), Rd H a (.dK kvs) ∧ Q (.int kvs.length) H) ∨ ∃ kvs : List (List Key × V), Rd H a (.dT kvs) ∧ Q (.int kvs.length) H)
def rDS : V → V → V → Hp → (Hp → Prop) → Prop := fun o i v H Q => ∃ a H', o = .ref a ∧ DPut H a i v H' ∧ Q H'
section
variable {X : Cx}
theorem ix_dict (hu : X.A.units + 1 < cLine) : IxR X rDG := by
  intro value slice pins s σ H x y v u Q I rx ry h hs
  obtain ⟨a, z, rfl, g, q⟩ := h
  obtain rfl : v = Value.ref a := rx
  have hT := dict_typeIs I g
  have h2 := d_getItem (E := X.xe) (Q := EP X pins σ Q) hu I g ry fun w' s3 I3 rw' => ⟨z, H, I3, rw', q⟩
  unfold subscriptTail
  refine wpAny_bind ?_
  rw [getitemInPython_of_ne hT.not_modules]
  refine wpAny_bind (wpAny_specialOf hT PySem.F.slot_dict_getitem.lookup ?_)
  have fin : wpAny (model X.prog X.w) X.A (subscripted slice false (.ref a) u) (fun r s₃ => wpAny (model X.prog X.w) X.A (letTemporaryGo value (.ref a) r >>= fun _ => pure r) (EP X pins σ Q) X.xe s₃) X.xe s := by
    rw [hs]
    exact wpAny_operating (wpAny_mono h2 (fun r s₃ h₃ => wpAny_bind (wpAny_letTemporaryGo (wpAny_pure h₃))) fun _ _ x => x)
  first
    | exact wpAny_pure (wpAny_bind fin)
    | (refine wpAny_pure ?_; simpa using fin)
    | exact wpAny_bind fin
theorem op_in_dict (hu : X.A.units + 1 < cLine) : OpR X (compareOp .In) (rDI false) := by
  intro pins s σ H x y v u Q I rx ry h
  obtain ⟨a, o, rfl, g, q⟩ := h
  obtain rfl : u = Value.ref a := ry
  exact d_in hu I g rx fun s3 I3 => ⟨.bl o.isSome, H, I3, rfl, by simpa using q⟩
theorem op_notIn_dict (hu : X.A.units + 1 < cLine) : OpR X (compareOp .NotIn) (rDI true) := by
  intro pins s σ H x y v u Q I rx ry h
  obtain ⟨a, o, rfl, g, q⟩ := h
  obtain rfl : u = Value.ref a := ry
  exact d_notIn hu I g rx fun s3 I3 => ⟨.bl (!o.isSome), H, I3, rfl, by simpa using q⟩
theorem call_len_dict2 : CallR X (.builtin "len") rDL := by
  intro pins s σ H xs us Q I r h
  obtain ⟨a, rfl, h⟩ := h
  obtain ⟨u, rfl, ru⟩ := vals1 r
  cases ru
  rcases h with ⟨kvs, ha, q⟩ | ⟨kvs, ha, q⟩
  · exact d_len I ha fun t s' I' => ⟨.int kvs.length, H, I', ⟨t, rfl⟩, q⟩
  · obtain ⟨z, hd, ys, rel, dd⟩ := dt_rd I.hok ha
    have hl : kvs.length = ys.length := Paired.length rel
    refine call_len_dictH hd dd (by rw [← hl]; rw [sizeLine_eq] at z; omega) ?_
    rw [← hl]
    exact ⟨.int ((kvs.length : Nat) : Int), H, I.tok _, ⟨_, rfl⟩, q⟩
theorem set_dict (hu : X.A.units + 1 < cLine) : PSet X rDS := by
  intro pins s σ H o i v ov iv u Q I ro ri rv h
  obtain ⟨a, H', rfl, g, q⟩ := h
  obtain rfl : ov = Value.ref a := ro
  exact d_setItem hu I g ri rv fun s' I' => ⟨H', I', q⟩
theorem PSet.or {t t' : TSet} (h : PSet X t) (h' : PSet X t') : PSet X (fun o i v H Q => t o i v H Q ∨ t' o i v H Q) := by
  intro pins s σ H o i v ov iv u Q I ro ri rv q
  rcases q with q | q
  · exact h pins s σ H o i v ov iv u Q I ro ri rv q
  · exact h' pins s σ H o i v ov iv u Q I ro ri rv q
/-! ### things are pinned -/
/-- from here on some things are not changed any more -/
inductive Pins : Hp → (Hp → Prop) → Prop
  | done {H : Hp} {Q : Hp → Prop} : Q H → Pins H Q
  | pin {H : Hp} {Q : Hp → Prop} (d : Addr) (u : HO) : H d = some u → Mut (some u) → (∀ od, Pins (upd H d (.frz od u)) Q) → Pins H Q
theorem Inv.pins {pins : List (Addr × Obj)} {σ : St} {s : Shared} {H : Hp} {Q : Hp → Prop} (h : Pins H Q) (I : Inv X pins σ H s) : ∃ H', Inv X pins σ H' s ∧ Q H' := by
  induction h with
  | done q => exact ⟨_, I, q⟩
  | pin d u hd mu _ ih =>
    obtain ⟨od, I1⟩ := I.lock hd mu
    exact ih od I1
def tPin (t : TE) : TE := fun σ H Q => t σ H fun v H1 => Pins H1 (Q v)
theorem mkPin {e : Expr} {t : TE} (h : PE X e t) : PE X e (tPin t) := by
  refine ⟨fun pins s σ H Q I hw => ?_⟩
  refine thn (h.run pins s σ H _ I hw) fun v s1 ⟨x, H1, I1, r, q⟩ => ?_
  obtain ⟨H2, I2, q2⟩ := I1.pins q
  exact ⟨x, H2, I2, r, q2⟩
/-! ### locked for a while -/
inductive Lk (t : Hp → VK → Prop) : Hp → VK → Prop
  | run {H : Hp} {Q : VK} : t H Q → Lk t H Q
  | lock {H : Hp} {Q : VK} (d : Addr) (u : HO) : H d = some u → Mut (some u) → (∀ od, Lk t (upd H d (.frz od u)) fun v H' => H' d = some (.frz od u) ∧ Q v (upd H' d u)) → Lk t H Q
def tLk (t : TE) : TE := fun σ H Q => Lk (t σ) H Q
theorem mkLk {e : Expr} {t : TE} (h : PE X e t) : PE X e (tLk t) := by
  refine ⟨fun pins s σ H Q I hw => ?_⟩
  have go : ∀ {H : Hp} {Q : VK}, Lk (t σ) H Q → Inv X pins σ H s → wpAny (model X.prog X.w) X.A (eval e X.env) (EP X pins σ Q) X.xe s := by
    intro H Q hw
    induction hw with
    | run hw => exact fun I => h.run pins s σ _ _ I hw
    | lock d u hd mu _ ih =>
      intro I
      obtain ⟨od, I1⟩ := I.lock hd mu
      refine thn (ih od I1) fun v s1 ⟨x, H1, I2, r, e2, q⟩ => ?_
      exact ⟨x, _, I2.unlock e2 (I.nofrz hd mu), r, q⟩
  exact go hw I
inductive LkS (t : Ends → Hp → Prop) : Ends → Hp → Prop
  | run {D : Ends} {H : Hp} : t D H → LkS t D H
  | lock {D : Ends} {H : Hp} (d : Addr) (u : HO) : H d = some u → Mut (some u) → (∀ od, LkS t ⟨fun σ' H' => H' d = some (.frz od u) ∧ D.nx σ' (upd H' d u), fun v H' => H' d = some (.frz od u) ∧ D.rt v (upd H' d u), fun σ' H' => H' d = some (.frz od u) ∧ D.bk σ' (upd H' d u), fun σ' H' => H' d = some (.frz od u) ∧ D.ct σ' (upd H' d u)⟩ (upd H d (.frz od u))) → LkS t D H
def tLkS (t : TS) : TS := fun D σ H => LkS (fun D H => t D σ H) D H
theorem mkLkS {st : Stmt} {t : TS} (h : PS X st t) : PS X st (tLkS t) := by
  refine ⟨fun pins s σ H D I hw => ?_⟩
  have go : ∀ {D : Ends} {H : Hp}, LkS (fun D H => t D σ H) D H → Inv X pins σ H s → _ := fun {D H} hw => by
    induction hw with
    | run hw => exact fun I => h.run pins s σ _ _ I hw
    | lock d u hd mu _ ih =>
      intro I
      obtain ⟨od, I1⟩ := I.lock hd mu
      refine thn (ih od I1) fun f s1 q => ?_
      cases f with
      | next => obtain ⟨σ', H', I2, e, q⟩ := q; exact ⟨σ', _, I2.unlock e (I.nofrz hd mu), q⟩
      | brk => obtain ⟨σ', H', I2, e, q⟩ := q; exact ⟨σ', _, I2.unlock e (I.nofrz hd mu), q⟩
      | cont => obtain ⟨σ', H', I2, e, q⟩ := q; exact ⟨σ', _, I2.unlock e (I.nofrz hd mu), q⟩
      | ret v => obtain ⟨x, σ', H', I2, r, e, q⟩ := q; exact ⟨x, σ', _, I2.unlock e (I.nofrz hd mu), r, q⟩
  exact go hw I
end
end L2
namespace DL
open PySem PySem.Spec L2
/-! ### tables as data -/
section
variable {κ β : Type} [DecidableEq κ]
def vA (kvs : List (κ × β)) (k : κ) : Option β := (kvs.find? fun kv => decide (kv.1 = k)).map (·.2)
def pA (kvs : List (κ × β)) (k : κ) (v : β) : List (κ × β) :=
  if (kvs.any fun kv => decide (kv.1 = k)) = true then kvs.map (fun kv => if kv.1 = k then (kv.1, v) else kv) else kvs ++ [(k, v)]
theorem vA_nil {k : κ} : vA ([] : List (κ × β)) k = none := rfl
theorem vA_cons {p : κ × β} {r : List (κ × β)} {k : κ} : vA (p :: r) k = if p.1 = k then some p.2 else vA r k := by
  unfold vA
  rw [List.find?_cons]
  by_cases e : p.1 = k
  · rw [if_pos e, decide_eq_true e]; rfl
  · rw [if_neg e, decide_eq_false e]
theorem vA_any (k : κ) : ∀ kvs : List (κ × β), (kvs.any fun kv => decide (kv.1 = k)) = (vA kvs k).isSome
  | [] => rfl
  | p :: r => by
    rw [List.any_cons, vA_cons]
    by_cases e : p.1 = k
    · rw [if_pos e, decide_eq_true e]; rfl
    · rw [if_neg e, decide_eq_false e, Bool.false_or]; exact vA_any k r
theorem vA_put (kvs : List (κ × β)) (k j : κ) (y : β) : vA (pA kvs k y) j = if j = k then some y else vA kvs j := by
  have m : ∀ kvs : List (κ × β), vA (kvs.map fun kv => if kv.1 = k then (kv.1, y) else kv) j = (vA kvs j).map fun x => if j = k then y else x := by
    intro kvs
    induction kvs with
    | nil => rfl
    | cons p r ih =>
      rw [List.map_cons, vA_cons, vA_cons, ih]
      by_cases h : p.1 = k
      · rw [if_pos h]
        by_cases e : p.1 = j
        · rw [if_pos e, if_pos e, Option.map_some, if_pos (e.symm.trans h)]
        · rw [if_neg e, if_neg e]
      · rw [if_neg h]
        by_cases e : p.1 = j
        · rw [if_pos e, if_pos e, Option.map_some, if_neg (fun z => h (e.trans z))]
        · rw [if_neg e, if_neg e]
  have n : ∀ kvs : List (κ × β), vA kvs k = none → vA (kvs ++ [(k, y)]) j = if j = k then some y else vA kvs j := by
    intro kvs
    induction kvs with
    | nil =>
      intro _
      rw [List.nil_append, vA_cons, vA_nil]
      by_cases e : k = j
      · rw [if_pos e, if_pos e.symm]
      · rw [if_neg e, if_neg (fun z => e z.symm)]
    | cons p r ih =>
      intro hn
      rw [vA_cons] at hn
      by_cases h : p.1 = k
      · rw [if_pos h] at hn; cases hn
      · rw [if_neg h] at hn
        rw [List.cons_append, vA_cons, vA_cons, ih hn]
        by_cases e : p.1 = j
        · rw [if_pos e, if_pos e, if_neg (fun z => h (e.trans z))]
        · rw [if_neg e, if_neg e]
  unfold pA
  by_cases a : (kvs.any fun kv => decide (kv.1 = k)) = true
  · rw [if_pos a, m]
    rw [vA_any] at a
    by_cases e : j = k
    · obtain ⟨x, hx⟩ := Option.isSome_iff_exists.mp a
      rw [if_pos e, e, hx, Option.map_some, if_pos rfl]
    · rw [if_neg e]
      cases vA kvs j with
      | none => rfl
      | some x => rw [Option.map_some, if_neg e]
  · rw [if_neg a]
    refine n kvs ?_
    rw [vA_any] at a
    cases q : vA kvs k with
    | none => rfl
    | some x => rw [q] at a; exact (a rfl).elim
theorem pA_new {kvs : List (κ × β)} {k : κ} (v : β) (h : vA kvs k = none) : pA kvs k v = kvs ++ [(k, v)] := by
  unfold pA
  rw [vA_any, h]
  exact if_neg (by simp)
theorem pA_len (kvs : List (κ × β)) (k : κ) (v : β) : (pA kvs k v).length ≤ kvs.length + 1 := by
  unfold pA
  split
  · rw [List.length_map]; omega
  · rw [List.length_append, List.length_cons, List.length_nil]; omega
/-- keys that differ -/
theorem vA_mem {kvs : List (κ × β)} {k : κ} {v : β} (h : vA kvs k = some v) : (k, v) ∈ kvs := by
  induction kvs with
  | nil => cases h
  | cons p r ih =>
    rw [vA_cons] at h
    by_cases e : p.1 = k
    · rw [if_pos e] at h; cases h; rw [← e]; exact List.mem_cons_self ..
    · rw [if_neg e] at h; exact List.mem_cons_of_mem _ (ih h)
theorem vA_none {kvs : List (κ × β)} {k : κ} : vA kvs k = none ↔ k ∉ kvs.map (·.1) := by
  induction kvs with
  | nil => simp [vA]
  | cons p r ih =>
    rw [vA_cons, List.map_cons, List.mem_cons]
    by_cases e : p.1 = k
    · rw [if_pos e]; simp [e]
    · rw [if_neg e, ih]
      constructor
      · intro h z; rcases z with z | z
        · exact e z.symm
        · exact h z
      · intro h z; exact h (.inr z)
theorem vA_of {kvs : List (κ × β)} {k : κ} {v : β} (nd : (kvs.map (·.1)).Nodup) (h : (k, v) ∈ kvs) : vA kvs k = some v := by
  induction kvs with
  | nil => cases h
  | cons p r ih =>
    rw [List.map_cons, List.nodup_cons] at nd
    rw [vA_cons]
    rcases List.mem_cons.mp h with h | h
    · rw [← h, if_pos rfl]
    · rw [if_neg (fun e => nd.1 (by rw [e]; exact List.mem_map.mpr ⟨_, h, rfl⟩)), ih nd.2 h]
end
def kD : Key → Dt
  | .inl i => .int i
  | .inr s => .str s
abbrev kDs (k : List Key) : Dt := .tup (k.map kD)
section
variable {K : PySem.W.Frag} {G H : Hp}
theorem rep_kD (k : Key) : Rep K G (kV k) (kD k) := by
  cases k with
  | inl i => exact .int i
  | inr x => exact .str x
theorem kD_inj {v : V} {k : Key} (r : Rep K G v (kD k)) : v = kV k := by
  cases k with
  | inl i => cases r; rfl
  | inr x => cases r; rfl
theorem reps_kD {vs : List V} {k : List Key} (r : Reps K G vs (k.map kD)) : vs = k.map kV := by
  induction k generalizing vs with
  | nil => cases r; rfl
  | cons x k ih => cases r with | cons h t => rw [kD_inj h, ih t]; rfl
theorem reps_kV : ∀ k : List Key, Reps K G (k.map kV) (k.map kD)
  | [] => .nil
  | x :: k => .cons (rep_kD x) (reps_kV k)
theorem RepK.get {xs : List (Key × V)} {ds : List (Key × Dt)} (r : RepK K G xs ds) (k : Key) : (∀ d, vA ds k = some d → ∃ v, valV xs k = some v ∧ Rep K G v d) ∧ (vA ds k = none → valV xs k = none) := by
  induction ds generalizing xs with
  | nil => cases r; exact ⟨fun d h => (by cases h), fun _ => rfl⟩
  | cons p ds ih =>
    cases r with
    | @cons f v vs d' _ h t =>
      rw [vA_cons]
      by_cases e : f = k
      · rw [if_pos e]
        exact ⟨fun d q => by cases q; exact ⟨v, valV_pos (p := (f, v)) e, h⟩, fun q => by cases q⟩
      · rw [if_neg e]
        have z : valV ((f, v) :: vs) k = valV vs k := valV_neg (p := (f, v)) e
        rw [z]
        exact ih t
theorem RepT.get {xs : List (List Key × V)} {ds : List (List Key × Dt)} (r : RepT K G xs ds) (k : List Key) : (∀ d, vA ds k = some d → ∃ v, valV xs k = some v ∧ Rep K G v d) ∧ (vA ds k = none → valV xs k = none) := by
  induction ds generalizing xs with
  | nil => cases r; exact ⟨fun d h => (by cases h), fun _ => rfl⟩
  | cons p ds ih =>
    cases r with
    | @cons f v vs d' _ h t =>
      rw [vA_cons]
      by_cases e : f = k
      · rw [if_pos e]
        exact ⟨fun d q => by cases q; exact ⟨v, valV_pos (p := (f, v)) e, h⟩, fun q => by cases q⟩
      · rw [if_neg e]
        have z : valV ((f, v) :: vs) k = valV vs k := valV_neg (p := (f, v)) e
        rw [z]
        exact ih t
theorem RepK.length {xs : List (Key × V)} {ds : List (Key × Dt)} (r : RepK K G xs ds) : xs.length = ds.length := by
  induction ds generalizing xs with
  | nil => cases r; rfl
  | cons d ds ih => cases r with | cons h t => simp [ih t]
theorem RepT.length {xs : List (List Key × V)} {ds : List (List Key × Dt)} (r : RepT K G xs ds) : xs.length = ds.length := by
  induction ds generalizing xs with
  | nil => cases r; rfl
  | cons d ds ih => cases r with | cons h t => simp [ih t]
theorem RepK.any {xs : List (Key × V)} {ds : List (Key × Dt)} (r : RepK K G xs ds) (k : Key) : (xs.any fun kv => decide (kv.1 = k)) = ds.any fun kv => decide (kv.1 = k) := by
  induction ds generalizing xs with
  | nil => cases r; rfl
  | cons d ds ih => cases r with | cons h t => rw [List.any_cons, List.any_cons, ih t]
theorem RepT.any {xs : List (List Key × V)} {ds : List (List Key × Dt)} (r : RepT K G xs ds) (k : List Key) : (xs.any fun kv => decide (kv.1 = k)) = ds.any fun kv => decide (kv.1 = k) := by
  induction ds generalizing xs with
  | nil => cases r; rfl
  | cons d ds ih => cases r with | cons h t => rw [List.any_cons, List.any_cons, ih t]
theorem RepK.put {xs : List (Key × V)} {ds : List (Key × Dt)} {v : V} {d : Dt} (r : RepK K G xs ds) (k : Key) (h : Rep K G v d) : RepK K G (putK xs k v) (pA ds k d) := by
  unfold putK pA
  rw [r.any k]
  by_cases e : (ds.any fun kv => decide (kv.1 = k)) = true
  · rw [if_pos e, if_pos e]
    clear e
    induction ds generalizing xs with
    | nil => cases r; exact .nil
    | cons p ds ih =>
      cases r with
      | @cons f v' vs d' _ q t =>
        rw [List.map_cons, List.map_cons]
        by_cases e : f = k
        · rw [if_pos e, if_pos e]; exact .cons h (ih t)
        · rw [if_neg e, if_neg e]; exact .cons q (ih t)
  · rw [if_neg e, if_neg e]
    clear e
    induction ds generalizing xs with
    | nil => cases r; exact .cons h .nil
    | cons p ds ih => cases r with | cons q t => exact .cons q (ih t)
theorem RepT.put {xs : List (List Key × V)} {ds : List (List Key × Dt)} {v : V} {d : Dt} (r : RepT K G xs ds) (k : List Key) (h : Rep K G v d) : RepT K G (putK xs k v) (pA ds k d) := by
  unfold putK pA
  rw [r.any k]
  by_cases e : (ds.any fun kv => decide (kv.1 = k)) = true
  · rw [if_pos e, if_pos e]
    clear e
    induction ds generalizing xs with
    | nil => cases r; exact .nil
    | cons p ds ih =>
      cases r with
      | @cons f v' vs d' _ q t =>
        rw [List.map_cons, List.map_cons]
        by_cases e : f = k
        · rw [if_pos e, if_pos e]; exact .cons h (ih t)
        · rw [if_neg e, if_neg e]; exact .cons q (ih t)
  · rw [if_neg e, if_neg e]
    clear e
    induction ds generalizing xs with
    | nil => cases r; exact .cons h .nil
    | cons p ds ih => cases r with | cons q t => exact .cons q (ih t)
theorem RepK.at {xs : List (Key × V)} {ds : List (Key × Dt)} (r : RepK K G xs ds) {i : Nat} {k : Key} {v : V} (h : xs[i]? = some (k, v)) : ∃ d, ds[i]? = some (k, d) ∧ Rep K G v d := by
  induction ds generalizing xs i with
  | nil => cases r; simp at h
  | cons p ds ih =>
    cases r with
    | cons q t =>
      cases i with
      | zero => simp at h; obtain ⟨rfl, rfl⟩ := h; exact ⟨_, rfl, q⟩
      | succ i => simpa using ih t (by simpa using h)
theorem RepT.at {xs : List (List Key × V)} {ds : List (List Key × Dt)} (r : RepT K G xs ds) {i : Nat} {k : List Key} {v : V} (h : xs[i]? = some (k, v)) : ∃ d, ds[i]? = some (k, d) ∧ Rep K G v d := by
  induction ds generalizing xs i with
  | nil => cases r; simp at h
  | cons p ds ih =>
    cases r with
    | cons q t =>
      cases i with
      | zero => simp at h; obtain ⟨rfl, rfl⟩ := h; exact ⟨_, rfl, q⟩
      | succ i => simpa using ih t (by simpa using h)
/-- what a dict holds at a key, by data -/
theorem dget_K {a : Addr} {xs : List (Key × V)} {ds : List (Key × Dt)} {k : Key} (h : Rd H a (.dK xs)) : DGet H a (kV k) (valV xs k) := .inl ⟨xs, k, h, rfl, rfl⟩
theorem dget_T {a b : Addr} {xs : List (List Key × V)} {k : List Key} (h : Rd H a (.dT xs)) (hb : H b = some (.tup (k.map kV))) : DGet H a (.ref b) (valV xs k) := .inr ⟨xs, k, b, h, rfl, hb, rfl⟩
theorem isSome_val {α β : Type} {x : Option α} {y : Option β} {P : α → β → Prop} (h1 : ∀ d, y = some d → ∃ v, x = some v ∧ P v d) (h2 : y = none → x = none) : x.isSome = y.isSome := by
  cases y with
  | none => rw [h2 rfl]; rfl
  | some d => obtain ⟨v, e, _⟩ := h1 d rfl; rw [e]; rfl
end
end DL

/-! DL, part d: loops, tries. -/
namespace L2
open PySem PySem.Spec PyProof.Rows
/-! ### a list, a tuple or a text, walked -/
def iSeq (K : PySem.W.Frag) (tl : TE) : TI := fun σ H R => tl σ H fun x H1 => (∃ a, x = .ref a ∧ (∃ xs, SqL K H1 a xs) ∧ R (Itl K a) H1) ∨ (∃ a, x = .ref a ∧ (∃ xs, SqT K H1 a xs) ∧ R (Itt K a) H1) ∨ (∃ z, x = .str z ∧ R (Its z) H1) ∨ ∃ d o, x = .ref d ∧ ((∃ kvs, H1 d = some (.frz o (.dK kvs)) ∧ R (Itk d o kvs) H1) ∨ ∃ kvs, H1 d = some (.frz o (.dT kvs)) ∧ R (Itkt d o kvs) H1)
theorem pi_seq {X : Cx} {tg l : Expr} {tl : TE} (hl : PE X l tl) : PI X tg l (iSeq X.K tl) := by
  refine ⟨fun pins s σ H R I h => ?_⟩
  refine thn (hl.run pins s σ H _ I h) fun v s1 ⟨x, H1, I1, r1, q1⟩ => ?_
  rcases q1 with ⟨a, e, ⟨xs, hq⟩, q⟩ | ⟨a, e, ⟨xs, hq⟩, q⟩ | ⟨z, e, q⟩ | ⟨d, o, e, q⟩
  · subst e
    cases r1
    obtain ⟨its, rv, p, hz⟩ := I1.list hq
    refine wpAny_pyIter_list p.isList ?_
    refine ⟨s1.heap.objs.size, [s1.heap.objs.size], _, _, H1, rfl, I1.kept (t' := s1.toks) fun b o e => Heap.get?_push_of_some _ e, turn_list a _, ⟨_, Heap.get?_push_size _ rfl, rfl, rfl⟩, fun b hb => ?_, q⟩
    have e : b = s1.heap.objs.size := by simpa using hb
    subst e
    exact I1.fpOk (Nat.le_refl _) (I1.hok.fresh (Nat.le_refl _))
  · subst e
    cases r1
    obtain ⟨its, rv, p, hz⟩ := I1.tuple hq
    refine wpAny_pyIter_tuple (show s1.heap.IsTuple a its.toArray from p) ?_
    refine ⟨s1.heap.objs.size, [s1.heap.objs.size], _, _, H1, rfl, I1.kept (t' := s1.toks) fun b o e => Heap.get?_push_of_some _ e, turn_tuple a _, ⟨_, Heap.get?_push_size _ rfl, rfl, rfl⟩, fun b hb => ?_, q⟩
    have e : b = s1.heap.objs.size := by simpa using hb
    subst e
    exact I1.fpOk (Nat.le_refl _) (I1.hok.fresh (Nat.le_refl _))
  · subst e
    obtain ⟨t, rfl⟩ := r1
    cases ha : z.cps.all (· < 128)
    · exact wpAny_pyIter_wide ha (pi_one (tk := s1.toks) I1 _ (turn_str _ z t "str_iterator" (.inr rfl)) ⟨_, Heap.get?_push_size _ rfl, rfl, rfl⟩ q)
    · exact wpAny_pyIter_ascii ha (pi_one (tk := s1.toks) I1 _ (turn_str _ z t "str_ascii_iterator" (.inl rfl)) ⟨_, Heap.get?_push_size _ rfl, rfl, rfl⟩ q)
  · subst e
    obtain rfl : v = Value.ref d := r1
    rcases q with ⟨kvs, hd, q⟩ | ⟨kvs, hd, q⟩
    · obtain ⟨hs, hgd, hx, es, ep, vs, hdt, hsz, kv, hm⟩ := I1.frzK hd
      refine iter_keys hs hgd hx hdt (pi_one (tk := s1.toks) I1 _ (turn_keys _ hdt) ⟨_, Heap.get?_push_size _ rfl, rfl, ?_⟩ q)
      rw [hsz] <;> rfl
    · obtain ⟨hs, hgd, hx, es, ep, hdt, hsz, ent⟩ := I1.frzT hd
      refine iter_keys hs hgd hx hdt (pi_one (tk := s1.toks) I1 _ (turn_keysT _ hdt) ⟨_, Heap.get?_push_size _ rfl, rfl, ?_⟩ q)
      rw [hsz] <;> rfl
end L2
namespace DL
open PySem PySem.Spec L2
section
variable {K : PySem.W.Frag} {W : WX} {Γ : Gm} {X : XP} {te ta tb : TE} {i : Nat} {PP : Po} {g : TG} {tbd : TS}
/-! ### loops -/
/-- the items of what is walked -/
inductive SeqD : Dt → List Dt → Prop
  | lst (ds : List Dt) : SeqD (.lst ds) ds
  | tup (ds : List Dt) : SeqD (.tup ds) ds
  | scr (ns : List Int) : SeqD (.scr ns) (ns.map .int)
  | str (z : Str) : SeqD (.str z) (z.cps.toList.map fun c => .str ⟨#[c]⟩)
  | dK (kvs : List (Key × Dt)) : SeqD (.dK kvs) (kvs.map fun p => kD p.1)
  | dT (kvs : List (List Key × Dt)) : SeqD (.dT kvs) (kvs.map fun p => kDs p.1)
/-- a tuple that stands is frozen -/
theorem ext_tup {G H : Hp} {q : Addr} {xs : List V} (g : Same G H) (h : H q = some (.tup xs)) : ∃ G', Ext G H G' H ∧ G' q = some (.tup xs) := by
  cases e : G q with
  | some o =>
    have := g q o e
    rw [h] at this
    cases this
    exact ⟨G, Ext.refl g, e⟩
  | none =>
    refine ⟨upd G q (.tup xs), ⟨fun b o z => ?_, Same.refl _, fun b o z => ?_, fun b z1 z2 => ?_⟩, upd_same⟩
    · rw [upd_ne (ne_of_none z e)]; exact z
    · by_cases hb : b = q
      · subst hb; rw [upd_same] at z; cases z; exact h
      · rw [upd_ne hb] at z; exact g b o z
    · by_cases hb : b = q
      · subst hb; right; rw [h]; exact fun z => z
      · left; rw [upd_ne hb]; exact z2
theorem item_K {G2 H2 H3 : Hp} {kvs : List (Key × V)} {ds : List (Key × Dt)} {k : Nat} {x : Dt} {v : V} (rs : RepK K G2 kvs ds) (g2 : Same G2 H2) (hx : (ds.map fun p => kD p.1)[k]? = some x) (y : H3 = H2 ∧ ∃ k' v', kvs[k]? = some (k', v') ∧ v = kV k') : ∃ G4, Ext G2 H2 G4 H3 ∧ Rep K G4 v x := by
  obtain ⟨rfl, k', v', hk, rfl⟩ := y
  obtain ⟨d, hd, _⟩ := rs.at hk
  rw [List.getElem?_map, hd] at hx
  cases hx
  exact ⟨G2, Ext.refl g2, rep_kD k'⟩
theorem item_T {G2 H2 H3 : Hp} {kvs : List (List Key × V)} {ds : List (List Key × Dt)} {k : Nat} {x : Dt} {v : V} (rs : RepT K G2 kvs ds) (g2 : Same G2 H2) (hx : (ds.map fun p => kDs p.1)[k]? = some x) (y : H3 = H2 ∧ ∃ (k' : List Key) (v' : V) (q : Addr), kvs[k]? = some (k', v') ∧ v = .ref q ∧ H2 q = some (.tup (k'.map kV))) : ∃ G4, Ext G2 H2 G4 H3 ∧ Rep K G4 v x := by
  obtain ⟨rfl, k', v', q, hk, rfl, hq⟩ := y
  obtain ⟨d, hd, _⟩ := rs.at hk
  rw [List.getElem?_map, hd] at hx
  cases hx
  obtain ⟨G4, ex, h4⟩ := ext_tup g2 hq
  exact ⟨G4, ex, .tup h4 (reps_kV k')⟩
/-- what a turn reaches -/
abbrev turnPo (PP : Po) (N : Gm → Prop) : Po := { PP with nx := N, ct := N, bk := PP.nx }
/-- a walk whose items are frozen data -/
theorem go_walk {O G H : Hp} {σ : St} {D : Ends} {J : It} {n : Nat} {GG : Hp → Prop} {Y : Nat → Hp → V → Hp → Prop} (w : Walk J n GG Y) (xs : List Dt) (hn : n = xs.length) (S : Sta K O G H σ Γ) (hG : ∀ H', Same G H' → GG H')
    (hY : ∀ k x v G1 H1 H2, k < n → xs[k]? = some x → Same G G1 → Same G1 H1 → Y k H1 v H2 → ∃ G2, Ext G1 H1 G2 H2 ∧ Rep K G2 v x)
    (a : ∀ (G2 H2 : Hp) (σ2 : St) (Γ2 : Gm), Same G G2 → Sta K O G2 H2 σ2 Γ2 → PP.nx Γ2 → D.nx σ2 H2) (b : ∀ (v : V) (G2 H2 : Hp) (σ2 : St) (Γ2 : Gm) (s : Sl), Same G G2 → Sta K O G2 H2 (some v :: σ2) (some s :: Γ2) → PP.rt s Γ2 → D.rt v H2) (e : ∀ σ2, XOk K W O G σ2 PP.xc)
    (I : Nat → Gm → Prop) (h0 : I 0 Γ) (hs : ∀ k x Γ2, xs[k]? = some x → I k Γ2 → GoG K W g x Γ2 (fun Γ3 => Go K W tbd Γ3 (turnPo PP (I (k + 1)))) PP.xc) (hd : ∀ Γ2, I xs.length Γ2 → PP.nx Γ2) :
    ∃ W : Nat → Nat → St → Hp → Prop, (∃ m, W 0 m σ H) ∧ ∀ i m σ H, W i m σ H →
      (J.stop i H ∧ D.nx σ H) ∨ (J.go i H ∧ ∃ N : St → Hp → Prop, (∀ σ' H', N σ' H' → ∃ m', m' < m ∧ W (i + 1) m' σ' H') ∧ ∀ x H', J.yld i H x H' → g x σ H' fun σ2 H2 => tbd { D with nx := N, ct := N, bk := D.nx } σ2 H2) := by
  refine for_it w (fun k σ2 H2 => ∃ G2 Γ2, Same G G2 ∧ Sta K O G2 H2 σ2 Γ2 ∧ I k Γ2) ⟨G, Γ, Same.refl _, S, h0⟩ (fun k σ2 H2 _ ⟨G2, Γ2, s2, S2, _⟩ => hG H2 (s2.trans S2.g)) ?_ ?_
  · intro k v σ2 H2 H3 hk ⟨G2, Γ2, s2, S2, p⟩ y
    have hx : xs[k]? = some (xs[k]'(by omega)) := by simp
    obtain ⟨G3, ex, r⟩ := hY k _ v G2 H2 H3 hk hx s2 S2.g y
    refine hs k _ Γ2 hx p O G3 H3 σ2 v _ (S2.ext ex) r (fun G4 H4 σ4 Γ4 s4 S4 p4 => ?_) fun σ5 => (e σ5).mono (s2.trans ex.g)
    have s24 : Same G G4 := s2.trans (ex.g.trans s4)
    exact p4 O G4 H4 σ4 _ S4 (fun G5 H5 σ5 Γ5 s5 S5 p5 => ⟨G5, Γ5, s24.trans s5, S5, p5⟩) (fun v G5 H5 σ5 Γ5 z s5 S5 p5 => b v G5 H5 σ5 Γ5 z (s24.trans s5) S5 p5) (fun G5 H5 σ5 Γ5 s5 S5 p5 => a G5 H5 σ5 Γ5 (s24.trans s5) S5 p5)
      (fun G5 H5 σ5 Γ5 s5 S5 p5 => ⟨G5, Γ5, s24.trans s5, S5, p5⟩) fun σ5 => (e σ5).mono s24
  · intro σ2 H2 ⟨G2, Γ2, s2, S2, p⟩
    exact a G2 H2 σ2 Γ2 s2 S2 (hd Γ2 (by rw [← hn]; exact p))
/-- for x in a list, a tuple, a text -/
theorem go_for (h : Ev K W te Γ (fun d Γ1 => ∃ xs, SeqD d xs ∧ ∃ I : Nat → Gm → Prop, I 0 Γ1 ∧ (∀ k x Γ2, xs[k]? = some x → I k Γ2 → GoG K W g x Γ2 (fun Γ3 => Go K W tbd Γ3 (turnPo PP (I (k + 1)))) PP.xc) ∧ (∀ Γ2, I xs.length Γ2 → PP.nx Γ2)) PP.xc) :
    Go K W (tFor (iSeq K te) g tbd) Γ PP := fun O G H σ D S a b c d e =>
  h O G H σ _ S (fun v G1 H1 Γ1 dd s1 S1 r ⟨xs, sq, I, h0, hs, hd⟩ => by
    have a' : ∀ (G2 H2 : Hp) (σ2 : St) (Γ2 : Gm), Same G1 G2 → Sta K O G2 H2 σ2 Γ2 → PP.nx Γ2 → D.nx σ2 H2 := fun G2 H2 σ2 Γ2 s2 S2 p => a G2 H2 σ2 Γ2 (s1.trans s2) S2 p
    have b' : ∀ (v : V) (G2 H2 : Hp) (σ2 : St) (Γ2 : Gm) (s : Sl), Same G1 G2 → Sta K O G2 H2 (some v :: σ2) (some s :: Γ2) → PP.rt s Γ2 → D.rt v H2 := fun v G2 H2 σ2 Γ2 s s2 S2 p => b v G2 H2 σ2 Γ2 s (s1.trans s2) S2 p
    cases sq with
    | lst ds =>
      cases r with
      | @lst ad vs _ ha rs =>
        refine .inl ⟨ad, rfl, ⟨vs, SqL.of (S1.g _ _ ha)⟩, go_walk (walk_list (K := K) (a := ad) (xs := vs)) _ rs.length S1 (fun H' s' => SqL.of (s' _ _ ha)) (fun k x v G2 H2 H3 hk hx s2 g2 y => ?_) a' b' (fun σ2 => (e σ2).mono s1) I h0 hs hd⟩
        obtain ⟨rfl, hv⟩ := y
        obtain ⟨d', hd', rr⟩ := rs.get' hv
        rw [hx] at hd'; cases hd'
        exact ⟨G2, Ext.refl g2, rr.mono s2⟩
    | tup ds =>
      cases r with
      | @tup ad vs _ ha rs =>
        refine .inr (.inl ⟨ad, rfl, ⟨vs, SqT.of (S1.g _ _ ha)⟩, go_walk (walk_tup (K := K) (a := ad) (xs := vs)) _ rs.length S1 (fun H' s' => SqT.of (s' _ _ ha)) (fun k x v G2 H2 H3 hk hx s2 g2 y => ?_) a' b' (fun σ2 => (e σ2).mono s1) I h0 hs hd⟩)
        obtain ⟨rfl, hv⟩ := y
        obtain ⟨d', hd', rr⟩ := rs.get' hv
        rw [hx] at hd'; cases hd'
        exact ⟨G2, Ext.refl g2, rr.mono s2⟩
    | scr ns =>
      cases r with
      | @scr ad _ ha =>
        refine .inl ⟨ad, rfl, ⟨_, S1.g.seq ha⟩, go_walk (walk_list (K := K) (a := ad) (xs := ns.map V.int)) (ns.map .int) (by simp) S1 (fun H' s' => s'.seq ha) (fun k x v G2 H2 H3 hk hx s2 g2 y => ?_) a' b' (fun σ2 => (e σ2).mono s1) I h0 hs hd⟩
        obtain ⟨rfl, hv⟩ := y
        rw [List.getElem?_map] at hv hx
        cases q : ns[k]? with
        | none => rw [q] at hx; cases hx
        | some n =>
          rw [q] at hx hv
          cases hx; cases hv
          exact ⟨G2, Ext.refl g2, .int n⟩
    | str z =>
      cases r
      refine .inr (.inr (.inl ⟨z, rfl, go_walk (walk_str (z := z)) _ (by simp) S1 (fun _ _ => trivial) (fun k x v G2 H2 H3 hk hx s2 g2 y => ?_) a' b' (fun σ2 => (e σ2).mono s1) I h0 hs hd⟩))
      obtain ⟨rfl, c, hc, rfl⟩ := y
      rw [List.getElem?_map] at hx
      have hc' : z.cps.toList[k]? = some c := by simpa using hc
      rw [hc'] at hx
      cases hx
      exact ⟨G2, Ext.refl g2, .str _⟩
    | dK ds =>
      cases r with
      | @dK ad ob vs _ ha rs =>
        exact .inr (.inr (.inr ⟨ad, ob, rfl, .inl ⟨vs, S1.g _ _ ha, go_walk (walk_keys (d := ad) (o := ob) (kvs := vs)) (ds.map fun p => kD p.1) (by rw [rs.length, List.length_map]) S1 (fun H' s' => s' _ _ ha) (fun k x v G2 H2 H3 hk hx s2 g2 y => item_K (rs.mono s2) g2 hx y) a' b' (fun σ2 => (e σ2).mono s1) I h0 hs hd⟩⟩))
    | dT ds =>
      cases r with
      | @dT ad ob vs _ ha rs =>
        exact .inr (.inr (.inr ⟨ad, ob, rfl, .inr ⟨vs, S1.g _ _ ha, go_walk (walk_keysT (d := ad) (o := ob) (kvs := vs)) (ds.map fun p => kDs p.1) (by rw [rs.length, List.length_map]) S1 (fun H' s' => s' _ _ ha) (fun k x v G2 H2 H3 hk hx s2 g2 y => item_T (rs.mono s2) g2 hx y) a' b' (fun σ2 => (e σ2).mono s1) I h0 hs hd⟩⟩))) (e σ)
/-- turn by turn -/
def Unr (K : PySem.W.Frag) (W : WX) (g : TG) (tbd : TS) (PP : Po) : List Dt → Gm → Prop
  | [], Γ => PP.nx Γ
  | x :: xs, Γ => GoG K W g x Γ (fun Γ3 => Go K W tbd Γ3 (turnPo PP (Unr K W g tbd PP xs))) PP.xc
theorem go_unr (h : Ev K W te Γ (fun d Γ1 => ∃ xs, SeqD d xs ∧ Unr K W g tbd PP xs Γ1) PP.xc) : Go K W (tFor (iSeq K te) g tbd) Γ PP :=
  go_for (h.imp fun d Γ2 ⟨xs, sq, u⟩ => ⟨xs, sq, fun k Γ3 => Unr K W g tbd PP (xs.drop k) Γ3, u, fun k x Γ3 hx p => by
    have e : xs.drop k = x :: xs.drop (k + 1) := by
      obtain ⟨hk, hx'⟩ := List.getElem?_eq_some_iff.mp hx
      rw [List.drop_eq_getElem_cons hk, hx']
    have p' : Unr K W g tbd PP (xs.drop k) Γ3 := p
    rw [e] at p'
    exact p', fun Γ3 p => by
    have p' : Unr K W g tbd PP (xs.drop xs.length) Γ3 := p
    rw [List.drop_length] at p'
    exact p'⟩)
/-- for k in range(n) -/
theorem go_range1 {t : TA} (h : EvA K W t Γ (fun ds Γ1 => ∃ n : Int, ds = [.int n] ∧ -(2 ^ 62) ≤ n ∧ n < 2 ^ 62 ∧ ∃ I : Nat → Gm → Prop, I 0 Γ1 ∧ (∀ (k : Nat) Γ2, k < n.toNat → I k Γ2 → GoG K W g (.int k) Γ2 (fun Γ3 => Go K W tbd Γ3 (turnPo PP (I (k + 1)))) PP.xc) ∧ (∀ Γ2, I n.toNat Γ2 → PP.nx Γ2)) PP.xc) :
    Go K W (tFor (iRng1 t) g tbd) Γ PP := fun O G H σ D S a b c d e =>
  h O G H σ _ S (fun vs G1 H1 Γ1 ds s1 S1 r ⟨n, en, l1, l2, I, h0, hs, hd⟩ => by
    subst en
    cases r with
    | cons r1 r2 =>
      cases r1; cases r2
      refine ⟨n, rfl, l1, l2, go_walk (walk_range (lo := 0) (n := n.toNat)) ((List.range n.toNat).map fun (k : Nat) => .int (k : Int)) (by simp) S1 (fun _ _ => trivial) (fun k x v G2 H2 H3 hk hx s2 g2 y => ?_) (fun G2 H2 σ2 Γ2 s2 S2 p => a G2 H2 σ2 Γ2 (s1.trans s2) S2 p)
        (fun v G2 H2 σ2 Γ2 s s2 S2 p => b v G2 H2 σ2 Γ2 s (s1.trans s2) S2 p) (fun σ2 => (e σ2).mono s1) I h0 (fun k x Γ2 hx p => ?_) (fun Γ2 p => hd Γ2 (by simpa using p))⟩
      · obtain ⟨rfl, rfl⟩ := y
        rw [List.getElem?_map, List.getElem?_range hk] at hx
        cases hx
        exact ⟨G2, Ext.refl g2, by simpa using Rep.int (K := K) (G := G2) (k : Int)⟩
      · have hk : k < n.toNat := by
          rcases Nat.lt_or_ge k n.toNat with z | z
          · exact z
          · rw [List.getElem?_eq_none (by simpa using z)] at hx; cases hx
        rw [List.getElem?_map, List.getElem?_range hk] at hx
        cases hx
        exact hs k Γ2 hk p) (e σ)
theorem go_range2 {t : TA} (h : EvA K W t Γ (fun ds Γ1 => ∃ m n : Int, ds = [.int m, .int n] ∧ (-(2 ^ 62) ≤ m ∧ m < 2 ^ 62 ∧ -(2 ^ 62) ≤ n ∧ n < 2 ^ 62) ∧ ∃ I : Nat → Gm → Prop, I 0 Γ1 ∧ (∀ (k : Nat) Γ2, k < (n - m).toNat → I k Γ2 → GoG K W g (.int (m + k)) Γ2 (fun Γ3 => Go K W tbd Γ3 (turnPo PP (I (k + 1)))) PP.xc) ∧ (∀ Γ2, I (n - m).toNat Γ2 → PP.nx Γ2)) PP.xc) :
    Go K W (tFor (iRng2 t) g tbd) Γ PP := fun O G H σ D S a b c d e =>
  h O G H σ _ S (fun vs G1 H1 Γ1 ds s1 S1 r ⟨m, n, en, l, I, h0, hs, hd⟩ => by
    subst en
    cases r with
    | cons r1 r2 =>
      cases r2 with
      | cons r2 r3 =>
      cases r1; cases r2; cases r3
      refine ⟨m, n, rfl, l, go_walk (walk_range (lo := m) (n := (n - m).toNat)) ((List.range (n - m).toNat).map fun (k : Nat) => .int (m + (k : Int))) (by simp) S1 (fun _ _ => trivial) (fun k x v G2 H2 H3 hk hx s2 g2 y => ?_) (fun G2 H2 σ2 Γ2 s2 S2 p => a G2 H2 σ2 Γ2 (s1.trans s2) S2 p)
        (fun v G2 H2 σ2 Γ2 s s2 S2 p => b v G2 H2 σ2 Γ2 s (s1.trans s2) S2 p) (fun σ2 => (e σ2).mono s1) I h0 (fun k x Γ2 hx p => ?_) (fun Γ2 p => hd Γ2 (by simpa using p))⟩
      · obtain ⟨rfl, rfl⟩ := y
        rw [List.getElem?_map, List.getElem?_range hk] at hx
        cases hx
        exact ⟨G2, Ext.refl g2, .int _⟩
      · have hk : k < (n - m).toNat := by
          rcases Nat.lt_or_ge k (n - m).toNat with z | z
          · exact z
          · rw [List.getElem?_eq_none (by simpa using z)] at hx; cases hx
        rw [List.getElem?_map, List.getElem?_range hk] at hx
        cases hx
        exact hs k Γ2 hk p) (e σ)
/-- while -/
theorem go_while {tc : TT} (I : Nat → Gm → Prop) (m : Nat) (h0 : I m Γ) (hs : ∀ m Γ2, I m Γ2 → EvT K W tc Γ2 (fun b Γ3 => (b = true → Go K W tbd Γ3 (turnPo PP fun Γ4 => ∃ m', m' < m ∧ I m' Γ4)) ∧ (b = false → PP.nx Γ3)) PP.xc) :
    Go K W (tWhile tc tbd) Γ PP := fun O G H σ D S a b c d e => by
  refine ⟨fun m σ2 H2 => ∃ G2 Γ2, Same G G2 ∧ Sta K O G2 H2 σ2 Γ2 ∧ I m Γ2, ⟨m, G, Γ, Same.refl _, S, h0⟩, fun m σ2 H2 ⟨G2, Γ2, s2, S2, p⟩ => ?_⟩
  refine hs m Γ2 p O G2 H2 σ2 _ S2 (fun bb G3 H3 Γ3 s3 S3 ⟨p1, p2⟩ => ?_) ((e σ2).mono s2)
  have s23 : Same G G3 := s2.trans s3
  cases bb with
  | true =>
    refine iteT ⟨fun σ4 H4 => ∃ m', m' < m ∧ ∃ G4 Γ4, Same G G4 ∧ Sta K O G4 H4 σ4 Γ4 ∧ I m' Γ4, fun σ4 H4 z => z, ?_⟩
    exact p1 rfl O G3 H3 σ2 _ S3 (fun G5 H5 σ5 Γ5 s5 S5 ⟨m', hm, p5⟩ => ⟨m', hm, G5, Γ5, s23.trans s5, S5, p5⟩) (fun v G5 H5 σ5 Γ5 z s5 S5 p5 => b v G5 H5 σ5 Γ5 z (s23.trans s5) S5 p5) (fun G5 H5 σ5 Γ5 s5 S5 p5 => a G5 H5 σ5 Γ5 (s23.trans s5) S5 p5)
      (fun G5 H5 σ5 Γ5 s5 S5 ⟨m', hm, p5⟩ => ⟨m', hm, G5, Γ5, s23.trans s5, S5, p5⟩) fun σ5 => (e σ5).mono s23
  | false => exact iteF (a G3 H3 σ2 Γ3 s23 S3 (p2 rfl))
/-- e.f of the error that the suite holds -/
theorem ev_xf {a C : Addr} {d : Option Addr} {fs : List (Str × Dt)} {f : Str} {y : Dt} {P : Dt → Gm → Prop} (h : Γ[i]? = some (some (.ex a C d fs))) (hf : fs.lookup f = some y) (p : P y Γ) : Ev K W (tXf a (.ref C) d C f (tVar i)) Γ P X := fun O G H σ Q S q _ => by
  obtain ⟨v, e, o⟩ := S.get h
  cases o with
  | ex r =>
    cases r with
    | none => simp at hf
    | @some dd fsv _ hd rf =>
      obtain ⟨u, hu, ru⟩ := rf.look hf
      exact ⟨_, e, rfl, rfl, dd, fsv, u, rfl, S.g _ _ hd, hu, q u G H Γ y (Same.refl _) S ru p⟩
end
end DL

/-! DL, part e: operations by data. -/
namespace L2
open PySem PySem.Spec PyProof.Rows
section
variable {X : Cx}
def rAddP (K : PySem.W.Frag) : R2 := fun x y H Q => rI0 (fun i j => .int (i + j)) x y H Q ∨ (∃ i j, x = .str i ∧ y = .str j ∧ i.length + j.length ≤ sizeLine ∧ Q (.str (i ++ j)) H) ∨ rCat x y H Q ∨ rCatA K x y H Q
theorem op_addP : OpR X (binaryOp .Add) (rAddP X.K) := op_add.or (op_add_str.or (op_cat.or op_catA))
def rSubP : R2 := rI0 fun i j => .int (i - j)
theorem op_subP : OpR X (binaryOp .Sub) rSubP := op_sub
def rMulP : R2 := rI CMul fun i j => .int (i * j)
theorem op_mulP : OpR X (binaryOp .Mult) rMulP := op_mul
def rFdivP : R2 := rI CDiv fun i j => .int (i / j)
theorem op_fdivP : OpR X (binaryOp .FloorDiv) rFdivP := op_fdiv
def rModP : R2 := rI (fun _ j => 0 < j) fun i j => .int (i % j)
theorem op_modP : OpR X (binaryOp .Mod) rModP := op_mod
def rPowP : R2 := rI CPow fun i j => .int (i ^ j.toNat)
theorem op_powP : OpR X (binaryOp .Pow) rPowP := op_pow
def rLtP : R2 := rI0 fun i j => .bl (decide (i < j))
def rLeP : R2 := rI0 fun i j => .bl (decide (i ≤ j))
def rGtP : R2 := rI0 fun i j => .bl (decide (j < i))
def rGeP : R2 := rI0 fun i j => .bl (decide (j ≤ i))
theorem op_ltP : OpR X (compareOp .Lt) rLtP := op_lt
theorem op_leP : OpR X (compareOp .LtE) rLeP := op_le
theorem op_gtP : OpR X (compareOp .Gt) rGtP := op_gt
theorem op_geP : OpR X (compareOp .GtE) rGeP := op_ge
def rEqP (K : PySem.W.Frag) : R2 := fun x y H Q => rEq x y H Q ∨ rEqD K x y H Q
def rNeP (K : PySem.W.Frag) : R2 := fun x y H Q => rNe x y H Q ∨ rNeD K x y H Q
theorem op_eqP (hu : X.A.units + 64 < cLine) : OpR X (compareOp .Eq) (rEqP X.K) := op_eq.or (op_eqD hu)
theorem op_neP (hu : X.A.units + 64 < cLine) : OpR X (compareOp .NotEq) (rNeP X.K) := op_ne.or (op_neD hu)
def rIsP : R2 := fun x y H Q => y = .non ∧ Q (.bl (decide (x = .non))) H
def rIsntP : R2 := fun x y H Q => y = .non ∧ Q (.bl (!decide (x = .non))) H
theorem op_isP : OpR X (compareOp .Is) rIsP := op_isN
theorem op_isntP : OpR X (compareOp .IsNot) rIsntP := op_notN
def rInP (K : PySem.W.Frag) : R2 := fun x y H Q => (∃ (c : Nat) (z : Str), x = .str ⟨#[c]⟩ ∧ y = .str z ∧ Q (.bl (decide (c ∈ z.cps.toList))) H) ∨ rIn K false x y H Q ∨ rDI false x y H Q
def rNotInP (K : PySem.W.Frag) : R2 := fun x y H Q => (∃ (c : Nat) (z : Str), x = .str ⟨#[c]⟩ ∧ y = .str z ∧ Q (.bl (!decide (c ∈ z.cps.toList))) H) ∨ rIn K true x y H Q ∨ rDI true x y H Q
theorem op_inP (hu : X.A.units + 1 < cLine) : OpR X (compareOp .In) (rInP X.K) := op_in_sign.or (op_in_seq.or (op_in_dict hu))
theorem op_notInP (hu : X.A.units + 1 < cLine) : OpR X (compareOp .NotIn) (rNotInP X.K) := op_notIn_sign.or (op_notIn_seq.or (op_notIn_dict hu))
def rIxP (K : PySem.W.Frag) : R2 := fun x y H Q => rIx K x y H Q ∨ rDG x y H Q
theorem ix_P (hu : X.A.units + 1 < cLine) : IxR X (rIxP X.K) := ix_seq.or (ix_dict hu)
def rSlP (K : PySem.W.Frag) : V → Option Int → Option Int → Hp → VK → Prop := fun x lo hi H Q => rSlL K x lo hi H Q ∨ rSlA K x lo hi H Q ∨ rSlS x lo hi H Q
theorem sl_P : SlR X (rSlP X.K) := sl_list.or (sl_tupA.or sl_str)
def rLenP (K : PySem.W.Frag) : List V → Hp → VK → Prop := fun xs H Q => (∃ x n, xs = [x] ∧ LenV K x H n ∧ Q (.int n) H) ∨ rDL xs H Q
theorem call_lenP : CallR X (.builtin "len") (rLenP X.K) := call_len.or call_len_dict2
def rAbsP : List V → Hp → VK → Prop := fun xs H Q => ∃ i, xs = [.int i] ∧ Q (.int (if i < 0 then -i else i)) H
theorem call_absP : CallR X (.builtin "abs") rAbsP := call_abs
def rMaxP : List V → Hp → VK → Prop := fun xs H Q => ∃ i j, xs = [.int i, .int j] ∧ Q (.int (if j > i then j else i)) H
def rMinP : List V → Hp → VK → Prop := fun xs H Q => ∃ i j, xs = [.int i, .int j] ∧ Q (.int (if j < i then j else i)) H
theorem call_maxP (hc : X.calm = true) : CallR X (.builtin "max") rMaxP := call_max2 hc
theorem call_minP (hc : X.calm = true) : CallR X (.builtin "min") rMinP := call_min2 hc
def rIntP : List V → Hp → VK → Prop := fun xs H Q => ((∃ i, xs = [.int i] ∧ Q (.int i) H) ∨ ∃ k, xs = [.bl k] ∧ Q (.int (if k then 1 else 0)) H) ∨ (∃ a n, xs = [.str a] ∧ PySem.intText? a = some n ∧ a.length ≤ 640 ∧ Q (.int n) H)
theorem call_intP : CallR X (.type "int") rIntP := call_int1.or call_int_str
def rStrP : List V → Hp → VK → Prop := fun xs H Q => ∃ i, xs = [.int i] ∧ i.natAbs.log2 < 1920 ∧ Q (.str (toString i)) H
theorem call_strP : CallR X (.type "str") rStrP := call_str_int
def rListP (K : PySem.W.Frag) : List V → Hp → VK → Prop := fun xs H Q => ∃ p ys, xs = [.ref p] ∧ (SqL K H p ys ∨ SqT K H p ys) ∧ ∀ l, H l = none → Q (.ref l) (upd H l (.lst ys))
theorem call_listP : CallR X (.type "list") (rListP X.K) := call_list_of
def rTupleP (K : PySem.W.Frag) : List V → Hp → VK → Prop := fun xs H Q => ∃ p ys, xs = [.ref p] ∧ ((SqL K H p ys ∧ ∀ l, H l = none → Q (.ref l) (upd H l (.tup ys))) ∨ (SqT K H p ys ∧ Q (.ref p) H))
theorem call_tupleP : CallR X (.type "tuple") (rTupleP X.K) := call_tuple_of
def rFindP : V → List V → Hp → VK → Prop := fun x xs H Q => ∃ a b, x = .str a ∧ xs = [.str b] ∧ Q (.int (Txt.find a b)) H
theorem mt_findP : MtR X "str.find" rFindP := mt_find
end
end L2
namespace DL
open PySem PySem.Spec L2
/-! ### the meaning on data -/
def dI (C : Int → Int → Prop) (g : Int → Int → Dt) : Dt → Dt → (Dt → Prop) → Prop := fun x y R => ∃ i j, x = .int i ∧ y = .int j ∧ C i j ∧ R (g i j)
def dI0 (g : Int → Int → Dt) : Dt → Dt → (Dt → Prop) → Prop := fun x y R => ∃ i j, x = .int i ∧ y = .int j ∧ R (g i j)
def dAdd : Dt → Dt → (Dt → Prop) → Prop
  | .int i, .int j, R => R (.int (i + j))
  | .str x, .str y, R => x.length + y.length ≤ sizeLine ∧ R (.str (x ++ y))
  | .lst a, .lst b, R => a.length + b.length ≤ 1000000 ∧ R (.lst (a ++ b))
  | .tup a, .tup b, R => a.length + b.length ≤ 1000000 ∧ R (.tup (a ++ b))
  | _, _, _ => False
mutual
def Dt.py : Dt → Option PyData
  | .non => some .none
  | .bl b => some (.bool b)
  | .int i => some (.int i)
  | .str x => some (.str x)
  | .lst xs => (pyL xs).map .list
  | .tup xs => (pyL xs).map .tuple
  | _ => none
def pyL : List Dt → Option (List PyData)
  | [] => some []
  | x :: xs => match x.py, pyL xs with
    | some p, some ps => some (p :: ps)
    | _, _ => none
end
/-- == of data without objects -/
def eqS : Dt → Dt → Option Bool
  | .int i, .int j => some (decide (i = j))
  | .str i, .str j => some (decide (i = j))
  | .bl i, .bl j => some (decide (i = j))
  | .non, .non => some true
  | .non, .int _ | .int _, .non | .non, .bl _ | .bl _, .non | .non, .str _ | .str _, .non => some false
  | .int _, .str _ | .str _, .int _ | .bl _, .str _ | .str _, .bl _ => some false
  | _, _ => none
def dEq (x y : Dt) (R : Dt → Prop) : Prop := (∃ b, eqS x y = some b ∧ R (.bl b)) ∨ ∃ p q, x.py = some p ∧ y.py = some q ∧ SeqAt.shaped p = true ∧ SeqAt.shaped q = true ∧ R (.bl (PyData.eqv p q))
def dNe (x y : Dt) (R : Dt → Prop) : Prop := (∃ b, eqS x y = some b ∧ R (.bl (!b))) ∨ ∃ p q, x.py = some p ∧ y.py = some q ∧ SeqAt.shaped p = true ∧ SeqAt.shaped q = true ∧ R (.bl (!PyData.eqv p q))
def isNon : Dt → Bool
  | .non => true
  | _ => false
def dIs (x y : Dt) (R : Dt → Prop) : Prop := y = .non ∧ R (.bl (isNon x))
def dIsnt (x y : Dt) (R : Dt → Prop) : Prop := y = .non ∧ R (.bl (!isNon x))
def flatD : Dt → Bool
  | .non => true
  | .bl _ => true
  | .int _ => true
  | .str _ => true
  | _ => false
def toV : Dt → V
  | .bl b => .bl b
  | .int i => .int i
  | .str x => .str x
  | _ => .non
/-- x in y -/
def dIn (neg : Bool) : Dt → Dt → (Dt → Prop) → Prop
  | x, .str z, R => ∃ c, x = .str ⟨#[c]⟩ ∧ R (.bl (neg ^^ decide (c ∈ z.cps.toList)))
  | x, .lst ds, R => flatD x = true ∧ ds.all flatD = true ∧ R (.bl (neg ^^ inV (toV x) (ds.map toV)))
  | x, .tup ds, R => flatD x = true ∧ ds.all flatD = true ∧ R (.bl (neg ^^ inV (toV x) (ds.map toV)))
  | x, .dK kvs, R => ∃ k, x = kD k ∧ R (.bl ((vA kvs k).isSome ^^ neg))
  | x, .dT kvs, R => ∃ k, x = kDs k ∧ R (.bl ((vA kvs k).isSome ^^ neg))
  | _, _, _ => False
def dIx : Dt → Dt → (Dt → Prop) → Prop
  | .lst ds, y, R => ∃ j v, y = .int j ∧ atI ds j = some v ∧ R v
  | .tup ds, y, R => ∃ j v, y = .int j ∧ atI ds j = some v ∧ R v
  | .scr ns, y, R => ∃ j v, y = .int j ∧ atI ns j = some v ∧ R (.int v)
  | .str z, y, R => ∃ j c, y = .int j ∧ z.length ≤ sizeLine ∧ atI z.cps.toList j = some c ∧ R (.str ⟨#[c]⟩)
  | .dK kvs, y, R => ∃ k v, y = kD k ∧ vA kvs k = some v ∧ R v
  | .dT kvs, y, R => ∃ k v, y = kDs k ∧ vA kvs k = some v ∧ R v
  | _, _, _ => False
def cutD (xs : List Dt) (lo hi : Option Int) : List Dt := (xs.drop (HT.sIx xs.length 0 lo)).take (HT.sIx xs.length xs.length hi - HT.sIx xs.length 0 lo)
def dSl : Dt → Option Int → Option Int → (Dt → Prop) → Prop
  | .lst ds, lo, hi, R => R (.lst (cutD ds lo hi))
  | .tup ds, lo, hi, R => R (.tup (cutD ds lo hi))
  | .str z, lo, hi, R => z.length ≤ sizeLine ∧ R (.str (cutS z lo hi))
  | _, _, _, _ => False
def dLen : List Dt → (Dt → Prop) → Prop
  | [.lst ds], R => R (.int ds.length)
  | [.tup ds], R => R (.int ds.length)
  | [.scr ns], R => R (.int ns.length)
  | [.str z], R => z.length ≤ sizeLine ∧ R (.int z.length)
  | [.dK kvs], R => R (.int kvs.length)
  | [.dT kvs], R => R (.int kvs.length)
  | _, _ => False
def dAbs (ds : List Dt) (R : Dt → Prop) : Prop := ∃ i, ds = [.int i] ∧ R (.int (if i < 0 then -i else i))
def dMax (ds : List Dt) (R : Dt → Prop) : Prop := ∃ i j, ds = [.int i, .int j] ∧ R (.int (if j > i then j else i))
def dMin (ds : List Dt) (R : Dt → Prop) : Prop := ∃ i j, ds = [.int i, .int j] ∧ R (.int (if j < i then j else i))
def dInt : List Dt → (Dt → Prop) → Prop
  | [.int i], R => R (.int i)
  | [.bl b], R => R (.int (if b then 1 else 0))
  | [.str z], R => ∃ n, PySem.intText? z = some n ∧ z.length ≤ 640 ∧ R (.int n)
  | _, _ => False
def dStr (ds : List Dt) (R : Dt → Prop) : Prop := ∃ i, ds = [.int i] ∧ i.natAbs.log2 < 1920 ∧ R (.str (toString i))
def dList : List Dt → (Dt → Prop) → Prop
  | [.lst ds], R => R (.lst ds)
  | [.tup ds], R => R (.lst ds)
  | _, _ => False
def dTuple : List Dt → (Dt → Prop) → Prop
  | [.lst ds], R => R (.tup ds)
  | [.tup ds], R => R (.tup ds)
  | _, _ => False
section
variable {K : PySem.W.Frag}
theorem rd_I {C : Int → Int → Prop} {g : Int → Int → V} {g' : Int → Int → Dt} (hg : ∀ i j G, Rep K G (g i j) (g' i j)) : RD K (rI C g) (dI C g') := fun G H x y dx dy R Q s rx ry ⟨i, j, ex, ey, c, p⟩ q => by
  subst ex ey; cases rx; cases ry
  exact ⟨i, j, rfl, rfl, c, q _ G H _ (Ext.refl s) (hg i j G) p⟩
theorem rd_I0 {g : Int → Int → V} {g' : Int → Int → Dt} (hg : ∀ i j G, Rep K G (g i j) (g' i j)) : RD K (rI0 g) (dI0 g') := fun G H x y dx dy R Q s rx ry ⟨i, j, ex, ey, p⟩ q => by
  subst ex ey; cases rx; cases ry
  exact ⟨i, j, rfl, rfl, q _ G H _ (Ext.refl s) (hg i j G) p⟩
theorem rd_sub : RD K rSubP (dI0 fun i j => .int (i - j)) := rd_I0 fun _ _ _ => .int _
theorem rd_mul : RD K rMulP (dI CMul fun i j => .int (i * j)) := rd_I fun _ _ _ => .int _
theorem rd_fdiv : RD K rFdivP (dI CDiv fun i j => .int (i / j)) := rd_I fun _ _ _ => .int _
theorem rd_mod : RD K rModP (dI (fun _ j => 0 < j) fun i j => .int (i % j)) := rd_I fun _ _ _ => .int _
theorem rd_pow : RD K rPowP (dI CPow fun i j => .int (i ^ j.toNat)) := rd_I fun _ _ _ => .int _
theorem rd_lt : RD K rLtP (dI0 fun i j => .bl (decide (i < j))) := rd_I0 fun _ _ _ => .bl _
theorem rd_le : RD K rLeP (dI0 fun i j => .bl (decide (i ≤ j))) := rd_I0 fun _ _ _ => .bl _
theorem rd_gt : RD K rGtP (dI0 fun i j => .bl (decide (j < i))) := rd_I0 fun _ _ _ => .bl _
theorem rd_ge : RD K rGeP (dI0 fun i j => .bl (decide (j ≤ i))) := rd_I0 fun _ _ _ => .bl _
theorem big_ok {n : Nat} (h : n ≤ 1000000) : n ≤ sizeLine := Nat.le_trans h (by decide)
theorem rd_add : RD K (rAddP K) dAdd := fun G H x y dx dy R Q s rx ry h q => by
  unfold dAdd at h
  split at h
  · cases rx; cases ry
    exact .inl ⟨_, _, rfl, rfl, q _ G H _ (Ext.refl s) (.int _) h⟩
  · cases rx; cases ry
    obtain ⟨l, p⟩ := h
    exact .inr (.inl ⟨_, _, rfl, rfl, l, q _ G H _ (Ext.refl s) (.str _) p⟩)
  · obtain ⟨l, p⟩ := h
    cases rx with
    | lst h1 r1 =>
    cases ry with
    | lst h2 r2 =>
    refine .inr (.inr (.inl ⟨_, _, _, _, rfl, rfl, s _ _ h1, s _ _ h2, by rw [r1.length, r2.length]; exact big_ok l, fun a na => ?_⟩))
    exact q _ _ _ _ (Ext.new s na) (Rep.newL s na (r1.append r2)) p
  · obtain ⟨l, p⟩ := h
    cases rx with
    | @tup a1 xs1 ds1 h1 r1 =>
    cases ry with
    | @tup a2 xs2 ds2 h2 r2 =>
    refine .inr (.inr (.inr ⟨_, _, _, _, rfl, rfl, SqT.of (s _ _ h1), SqT.of (s _ _ h2), by rw [r1.length, r2.length]; exact big_ok l, fun e => ?_, fun _ e => ?_, fun _ _ a na => ?_⟩))
    · subst e; cases r1
      exact q _ G H _ (Ext.refl s) (.tup h2 r2) p
    · subst e; cases r2
      rw [List.append_nil] at p
      exact q _ G H _ (Ext.refl s) (.tup h1 r1) p
    · exact q _ _ _ _ (Ext.new s na) (Rep.newT s na (r1.append r2)) p
  · exact h.elim
mutual
theorem rep_dp {G H : Hp} (s : Same G H) : ∀ {v : V} {d : Dt} {p : PyData}, Rep K G v d → d.py = some p → Dp K H v p
  | _, _, _, .non, h => by simp [Dt.py] at h; subst h; exact .non
  | _, _, _, .bl b, h => by simp [Dt.py] at h; subst h; exact .bl b
  | _, _, _, .int i, h => by simp [Dt.py] at h; subst h; exact .int i
  | _, _, _, .str x, h => by simp [Dt.py] at h; subst h; exact .str x
  | _, _, _, .ty _, h => by simp [Dt.py] at h
  | _, _, _, .ref _, h => by simp [Dt.py] at h
  | _, _, _, .lst ha r, h => by
    simp only [Dt.py, Option.map_eq_some_iff] at h
    obtain ⟨ps, e, rfl⟩ := h
    exact .lst (SqL.of (s _ _ ha)) (reps_dp s r e)
  | _, _, _, .tup ha r, h => by
    simp only [Dt.py, Option.map_eq_some_iff] at h
    obtain ⟨ps, e, rfl⟩ := h
    exact .tup (SqT.of (s _ _ ha)) (reps_dp s r e)
  | _, _, _, .scr _, h => by simp [Dt.py] at h
  | _, _, _, .obj _ _, h => by simp [Dt.py] at h
  | _, _, _, .dK _ _, h => by simp [Dt.py] at h
  | _, _, _, .dT _ _, h => by simp [Dt.py] at h
  | _, _, _, .exc _ _, h => by simp [Dt.py] at h
  | _, _, _, .at_ _, h => by simp [Dt.py] at h
theorem reps_dp {G H : Hp} (s : Same G H) : ∀ {v : List V} {d : List Dt} {p : List PyData}, Reps K G v d → pyL d = some p → DpAll K H v p
  | _, _, _, .nil, h => by simp [pyL] at h; subst h; exact .nil
  | _, _, _, .cons (d := d) (ds := ds) r1 r2, h => by
    simp only [pyL] at h
    cases e1 : d.py with
    | none => rw [e1] at h; cases h
    | some p1 =>
      cases e2 : pyL ds with
      | none => rw [e1, e2] at h; cases h
      | some p2 => rw [e1, e2] at h; cases h; exact .cons (rep_dp s r1 e1) (reps_dp s r2 e2)
end
theorem eqS_ok {G : Hp} {x y : V} {dx dy : Dt} {b : Bool} (rx : Rep K G x dx) (ry : Rep K G y dy) (h : eqS dx dy = some b) : scal x y = true ∧ decide (x = y) = b := by
  cases rx <;> cases ry <;> simp [eqS] at h <;> subst h <;> simp [scal]
theorem rd_eq : RD K (rEqP K) dEq := fun G H x y dx dy R Q s rx ry h q => by
  rcases h with ⟨b, e, p⟩ | ⟨p', q', e1, e2, s1, s2, p⟩
  · obtain ⟨h1, h2⟩ := eqS_ok rx ry e
    exact .inl ⟨h1, by rw [h2]; exact q _ G H _ (Ext.refl s) (.bl b) p⟩
  · exact .inr ⟨p', q', rep_dp s rx e1, rep_dp s ry e2, s1, s2, q _ G H _ (Ext.refl s) (.bl _) p⟩
theorem rd_ne : RD K (rNeP K) dNe := fun G H x y dx dy R Q s rx ry h q => by
  rcases h with ⟨b, e, p⟩ | ⟨p', q', e1, e2, s1, s2, p⟩
  · obtain ⟨h1, h2⟩ := eqS_ok rx ry e
    exact .inl ⟨h1, by rw [h2]; exact q _ G H _ (Ext.refl s) (.bl _) p⟩
  · exact .inr ⟨p', q', rep_dp s rx e1, rep_dp s ry e2, s1, s2, q _ G H _ (Ext.refl s) (.bl _) p⟩
theorem non_ok {G : Hp} {x : V} {dx : Dt} (rx : Rep K G x dx) : decide (x = .non) = isNon dx := by
  cases rx <;> simp [isNon]
theorem rd_is : RD K rIsP dIs := fun G H x y dx dy R Q s rx ry ⟨e, p⟩ q => by
  subst e; cases ry
  exact ⟨rfl, by rw [non_ok rx]; exact q _ G H _ (Ext.refl s) (.bl _) p⟩
theorem rd_isnt : RD K rIsntP dIsnt := fun G H x y dx dy R Q s rx ry ⟨e, p⟩ q => by
  subst e; cases ry
  exact ⟨rfl, by rw [non_ok rx]; exact q _ G H _ (Ext.refl s) (.bl _) p⟩
theorem flat_ok {G : Hp} {x : V} {dx : Dt} (rx : Rep K G x dx) (h : flatD dx = true) : flatV x = true ∧ toV dx = x := by
  cases rx <;> simp [flatD] at h <;> exact ⟨rfl, rfl⟩
theorem flats_ok {G : Hp} : ∀ {xs : List V} {ds : List Dt}, Reps K G xs ds → ds.all flatD = true → xs.all flatV = true ∧ ds.map toV = xs
  | _, _, .nil, _ => ⟨rfl, rfl⟩
  | _, _, .cons r t, h => by
    rw [List.all_cons, Bool.and_eq_true] at h
    obtain ⟨h1, h2⟩ := flat_ok r h.1
    obtain ⟨h3, h4⟩ := flats_ok t h.2
    exact ⟨by rw [List.all_cons, h1, h3]; rfl, by rw [List.map_cons, h2, h4]⟩
theorem rd_in : RD K (rInP K) (dIn false) := fun G H x y dx dy R Q s rx ry h q => by
  unfold dIn at h
  split at h
  · obtain ⟨c, e, p⟩ := h
    subst e; cases rx; cases ry
    exact .inl ⟨c, _, rfl, rfl, q _ G H _ (Ext.refl s) (.bl _) (by simpa using p)⟩
  · obtain ⟨f1, f2, p⟩ := h
    cases ry with
    | lst ha r =>
      obtain ⟨h1, h2⟩ := flat_ok rx f1
      obtain ⟨h3, h4⟩ := flats_ok r f2
      rw [h2, h4] at p
      exact .inr (.inl ⟨_, _, rfl, .inl (SqL.of (s _ _ ha)), h1, h3, q _ G H _ (Ext.refl s) (.bl _) (by simpa using p)⟩)
  · obtain ⟨f1, f2, p⟩ := h
    cases ry with
    | tup ha r =>
      obtain ⟨h1, h2⟩ := flat_ok rx f1
      obtain ⟨h3, h4⟩ := flats_ok r f2
      rw [h2, h4] at p
      exact .inr (.inl ⟨_, _, rfl, .inr (SqT.of (s _ _ ha)), h1, h3, q _ G H _ (Ext.refl s) (.bl _) (by simpa using p)⟩)
  · obtain ⟨k, e, p⟩ := h
    subst e
    cases ry with
    | @dK a ob xs _ ha r =>
      obtain ⟨g1, g2⟩ := r.get k
      rw [kD_inj rx]
      refine .inr (.inr ⟨a, _, rfl, dget_K (ds := []) (.inr ⟨_, s _ _ ha⟩), ?_⟩)
      rw [isSome_val g1 g2]
      exact q _ G H _ (Ext.refl s) (.bl _) p
  · obtain ⟨k, e, p⟩ := h
    subst e
    cases ry with
    | @dT a ob xs _ ha r =>
      obtain ⟨g1, g2⟩ := r.get k
      cases rx with
      | @tup b ys _ hb rb =>
        rw [reps_kD rb] at hb
        refine .inr (.inr ⟨a, _, rfl, dget_T (.inr ⟨_, s _ _ ha⟩) (s _ _ hb), ?_⟩)
        rw [isSome_val g1 g2]
        exact q _ G H _ (Ext.refl s) (.bl _) p
  · exact h.elim
theorem rd_notIn : RD K (rNotInP K) (dIn true) := fun G H x y dx dy R Q s rx ry h q => by
  unfold dIn at h
  split at h
  · obtain ⟨c, e, p⟩ := h
    subst e; cases rx; cases ry
    exact .inl ⟨c, _, rfl, rfl, q _ G H _ (Ext.refl s) (.bl _) (by simpa using p)⟩
  · obtain ⟨f1, f2, p⟩ := h
    cases ry with
    | lst ha r =>
      obtain ⟨h1, h2⟩ := flat_ok rx f1
      obtain ⟨h3, h4⟩ := flats_ok r f2
      rw [h2, h4] at p
      exact .inr (.inl ⟨_, _, rfl, .inl (SqL.of (s _ _ ha)), h1, h3, q _ G H _ (Ext.refl s) (.bl _) (by simpa using p)⟩)
  · obtain ⟨f1, f2, p⟩ := h
    cases ry with
    | tup ha r =>
      obtain ⟨h1, h2⟩ := flat_ok rx f1
      obtain ⟨h3, h4⟩ := flats_ok r f2
      rw [h2, h4] at p
      exact .inr (.inl ⟨_, _, rfl, .inr (SqT.of (s _ _ ha)), h1, h3, q _ G H _ (Ext.refl s) (.bl _) (by simpa using p)⟩)
  · obtain ⟨k, e, p⟩ := h
    subst e
    cases ry with
    | @dK a ob xs _ ha r =>
      obtain ⟨g1, g2⟩ := r.get k
      rw [kD_inj rx]
      refine .inr (.inr ⟨a, _, rfl, dget_K (ds := []) (.inr ⟨_, s _ _ ha⟩), ?_⟩)
      rw [isSome_val g1 g2]
      exact q _ G H _ (Ext.refl s) (.bl _) p
  · obtain ⟨k, e, p⟩ := h
    subst e
    cases ry with
    | @dT a ob xs _ ha r =>
      obtain ⟨g1, g2⟩ := r.get k
      cases rx with
      | @tup b ys _ hb rb =>
        rw [reps_kD rb] at hb
        refine .inr (.inr ⟨a, _, rfl, dget_T (.inr ⟨_, s _ _ ha⟩) (s _ _ hb), ?_⟩)
        rw [isSome_val g1 g2]
        exact q _ G H _ (Ext.refl s) (.bl _) p
  · exact h.elim
theorem atI_rep {G : Hp} {xs : List V} {ds : List Dt} {j : Int} {d : Dt} (r : Reps K G xs ds) (h : atI ds j = some d) : ∃ v, atI xs j = some v ∧ Rep K G v d := by
  unfold atI at h ⊢
  rw [r.length]
  cases e : ixN ds.length j with
  | none => rw [e] at h; cases h
  | some k =>
    rw [e] at h
    exact r.get (i := k) h
theorem rd_ix : RD K (rIxP K) dIx := fun G H x y dx dy R Q s rx ry h q => by
  unfold dIx at h
  split at h
  · obtain ⟨j, d, e, ha, p⟩ := h
    subst e; cases ry
    cases rx with
    | lst hh r =>
      obtain ⟨v, hv, rv⟩ := atI_rep r ha
      exact .inl (.inl ⟨_, _, _, v, rfl, rfl, SqL.of (s _ _ hh), hv, q _ G H _ (Ext.refl s) rv p⟩)
  · obtain ⟨j, d, e, ha, p⟩ := h
    subst e; cases ry
    cases rx with
    | tup hh r =>
      obtain ⟨v, hv, rv⟩ := atI_rep r ha
      exact .inl (.inr (.inl ⟨_, _, _, v, rfl, rfl, SqT.of (s _ _ hh), hv, q _ G H _ (Ext.refl s) rv p⟩))
  · obtain ⟨j, d, e, ha, p⟩ := h
    subst e; cases ry
    cases rx with
    | scr hh =>
      refine .inl (.inl ⟨_, _, _, .int d, rfl, rfl, s.seq hh, ?_, q _ G H _ (Ext.refl s) (.int d) p⟩)
      unfold atI at ha ⊢
      rw [List.length_map]
      cases e : ixN _ j with
      | none => rw [e] at ha; cases ha
      | some k =>
        rw [e] at ha
        show (List.map V.int _)[k]? = _
        rw [List.getElem?_map]
        have ha' : (some k).bind (fun j => (_ : List Int)[j]?) = some d := ha
        rw [Option.bind_some] at ha'
        rw [ha']; rfl
  · obtain ⟨j, c, e, l, ha, p⟩ := h
    subst e; cases ry; cases rx
    exact .inl (.inr (.inr ⟨_, _, c, rfl, rfl, l, ha, q _ G H _ (Ext.refl s) (.str _) p⟩))
  · obtain ⟨k, d, e, hv, p⟩ := h
    subst e
    cases rx with
    | @dK a ob xs _ ha r =>
      obtain ⟨v, ev, rv⟩ := (r.get k).1 d hv
      rw [kD_inj ry]
      exact .inr ⟨a, v, rfl, by rw [← ev]; exact dget_K (ds := []) (.inr ⟨_, s _ _ ha⟩), q _ G H _ (Ext.refl s) rv p⟩
  · obtain ⟨k, d, e, hv, p⟩ := h
    subst e
    cases rx with
    | @dT a ob xs _ ha r =>
      obtain ⟨v, ev, rv⟩ := (r.get k).1 d hv
      cases ry with
      | @tup b ys _ hb rb =>
        rw [reps_kD rb] at hb
        exact .inr ⟨a, v, rfl, by rw [← ev]; exact dget_T (.inr ⟨_, s _ _ ha⟩) (s _ _ hb), q _ G H _ (Ext.refl s) rv p⟩
  · exact h.elim
theorem cut_rep {G : Hp} {xs : List V} {ds : List Dt} (r : Reps K G xs ds) (lo hi : Option Int) : Reps K G (cutV xs lo hi) (cutD ds lo hi) := by
  unfold cutV cutD
  rw [r.length]
  exact (r.drop _).take _
theorem cut_whole {G : Hp} {xs : List V} {ds : List Dt} {lo hi : Option Int} (r : Reps K G xs ds) (e : HT.sIx xs.length 0 lo = 0 ∧ HT.sIx xs.length xs.length hi = xs.length) : Reps K G xs (cutD ds lo hi) := by
  have c := cut_rep r lo hi
  unfold cutV at c
  rw [e.1, e.2, Nat.sub_zero, List.drop_zero, List.take_length] at c
  exact c
theorem rdc_len : RDC K (rLenP K) dLen := fun G H xs ds R Q s r h q => by
  unfold dLen at h
  split at h
  · cases r with
    | cons r1 r2 => cases r2; cases r1 with
      | lst ha rr => exact .inl ⟨_, _, rfl, .inl ⟨_, SqL.of (s _ _ ha), rfl⟩, q _ G H _ (Ext.refl s) (.int _) (by rw [rr.length]; exact h)⟩
  · cases r with
    | cons r1 r2 => cases r2; cases r1 with
      | tup ha rr => exact .inl ⟨_, _, rfl, .inr ⟨_, SqT.of (s _ _ ha), rfl⟩, q _ G H _ (Ext.refl s) (.int _) (by rw [rr.length]; exact h)⟩
  · cases r with
    | cons r1 r2 => cases r2; cases r1 with
      | scr ha => exact .inl ⟨_, _, rfl, .inl ⟨_, s.seq ha, rfl⟩, q _ G H _ (Ext.refl s) (.int _) (by rw [List.length_map]; exact h)⟩
  · obtain ⟨l, p⟩ := h
    cases r with
    | cons r1 r2 => cases r2; cases r1; exact .inl ⟨_, _, rfl, ⟨l, rfl⟩, q _ G H _ (Ext.refl s) (.int _) p⟩
  · cases r with
    | cons r1 r2 => cases r2; cases r1 with
      | dK ha rr => exact .inr ⟨_, rfl, .inl ⟨_, .inr ⟨_, s _ _ ha⟩, q _ G H _ (Ext.refl s) (.int _) (by rw [rr.length]; exact h)⟩⟩
  · cases r with
    | cons r1 r2 => cases r2; cases r1 with
      | dT ha rr => exact .inr ⟨_, rfl, .inr ⟨_, .inr ⟨_, s _ _ ha⟩, q _ G H _ (Ext.refl s) (.int _) (by rw [rr.length]; exact h)⟩⟩
  · exact h.elim
theorem rdc_abs : RDC K rAbsP dAbs := fun G H xs ds R Q s r ⟨i, e, p⟩ q => by
  subst e
  cases r with
  | cons r1 r2 => cases r1; cases r2; exact ⟨i, rfl, q _ G H _ (Ext.refl s) (.int _) p⟩
theorem rdc_max : RDC K rMaxP dMax := fun G H xs ds R Q s r ⟨i, j, e, p⟩ q => by
  subst e
  cases r with
  | cons r1 r2 => cases r2 with
    | cons r2 r3 => cases r1; cases r2; cases r3; exact ⟨i, j, rfl, q _ G H _ (Ext.refl s) (.int _) p⟩
theorem rdc_min : RDC K rMinP dMin := fun G H xs ds R Q s r ⟨i, j, e, p⟩ q => by
  subst e
  cases r with
  | cons r1 r2 => cases r2 with
    | cons r2 r3 => cases r1; cases r2; cases r3; exact ⟨i, j, rfl, q _ G H _ (Ext.refl s) (.int _) p⟩
theorem rdc_int : RDC K rIntP dInt := fun G H xs ds R Q s r h q => by
  unfold dInt at h
  split at h
  · cases r with
    | cons r1 r2 => cases r1; cases r2; exact .inl (.inl ⟨_, rfl, q _ G H _ (Ext.refl s) (.int _) h⟩)
  · cases r with
    | cons r1 r2 => cases r1; cases r2; exact .inl (.inr ⟨_, rfl, q _ G H _ (Ext.refl s) (.int _) h⟩)
  · obtain ⟨n, e, l, p⟩ := h
    cases r with
    | cons r1 r2 => cases r1; cases r2; exact .inr ⟨_, n, rfl, e, l, q _ G H _ (Ext.refl s) (.int _) p⟩
  · exact h.elim
theorem rdc_str : RDC K rStrP dStr := fun G H xs ds R Q s r ⟨i, e, l, p⟩ q => by
  subst e
  cases r with
  | cons r1 r2 => cases r1; cases r2; exact ⟨i, rfl, l, q _ G H _ (Ext.refl s) (.str _) p⟩
theorem rdc_list : RDC K (rListP K) dList := fun G H xs ds R Q s r h q => by
  unfold dList at h
  split at h
  · cases r with
    | cons r1 r2 => cases r2; cases r1 with
      | lst ha rr => exact ⟨_, _, rfl, .inl (SqL.of (s _ _ ha)), fun a na => q _ _ _ _ (Ext.new s na) (Rep.newL s na rr) h⟩
  · cases r with
    | cons r1 r2 => cases r2; cases r1 with
      | tup ha rr => exact ⟨_, _, rfl, .inr (SqT.of (s _ _ ha)), fun a na => q _ _ _ _ (Ext.new s na) (Rep.newL s na rr) h⟩
  · exact h.elim
theorem rdc_tuple : RDC K (rTupleP K) dTuple := fun G H xs ds R Q s r h q => by
  unfold dTuple at h
  split at h
  · cases r with
    | cons r1 r2 => cases r2; cases r1 with
      | lst ha rr => exact ⟨_, _, rfl, .inl ⟨SqL.of (s _ _ ha), fun a na => q _ _ _ _ (Ext.new s na) (Rep.newT s na rr) h⟩⟩
  · cases r with
    | cons r1 r2 => cases r2; cases r1 with
      | tup ha rr => exact ⟨_, _, rfl, .inr ⟨SqT.of (s _ _ ha), q _ G H _ (Ext.refl s) (.tup ha rr) h⟩⟩
  · exact h.elim
end
section
variable {K : PySem.W.Frag} {W : WX} {Γ : Gm} {X : XP} {P : Dt → Gm → Prop} {te ta tb : TE} {i : Nat} {PP : Po}
/-! ### slices -/
def EvP (K : PySem.W.Frag) (W : WX) (tp : TO) (Γ : Gm) (P : Option Int → Gm → Prop) (X : XP) : Prop :=
  ∀ (O G H : Hp) (σ : St) (Q : Option Int → Hp → Prop), Sta K O G H σ Γ →
    (∀ (o : Option Int) (G2 H2 : Hp) (Γ2 : Gm), Same G G2 → Sta K O G2 H2 σ Γ2 → P o Γ2 → Q o H2) → XOk K W O G σ X → tp σ H Q
theorem ep_none {P : Option Int → Gm → Prop} (p : P none Γ) : EvP K W tNoPart Γ P X := fun O G H σ Q S q _ => q none G H Γ (Same.refl _) S p
theorem ep_some {P : Option Int → Gm → Prop} (h : Ev K W te Γ (fun d Γ1 => ∃ j, d = .int j ∧ P (some j) Γ1) X) : EvP K W (tPart te) Γ P X := fun O G H σ Q S q x =>
  h O G H σ _ S (fun v G1 H1 Γ1 d s1 S1 r ⟨j, e, p⟩ => by subst e; cases r; exact ⟨j, rfl, q (some j) G1 H1 Γ1 s1 S1 p⟩) x
theorem ev_sl {lo hi : TO} (h : Ev K W te Γ (fun d Γ1 => EvP K W lo Γ1 (fun l Γ2 => EvP K W hi Γ2 (fun u Γ3 => dSl d l u fun z => P z Γ3) X) X) X) : Ev K W (tSl (rSlP K) te lo hi) Γ P X := fun O G H σ Q S q x =>
  h O G H σ _ S (fun v G1 H1 Γ1 d s1 S1 r h1 => h1 O G1 H1 σ _ S1 (fun l G2 H2 Γ2 s2 S2 h2 => h2 O G2 H2 σ _ S2 (fun u G3 H3 Γ3 s3 S3 h3 => by
    have r3 := (r.mono s2).mono s3
    have s13 := (s1.trans s2).trans s3
    have h3 : dSl d l u fun z => P z Γ3 := h3
    unfold dSl at h3
    split at h3
    · cases r3 with
      | lst ha rr => exact .inl ⟨_, _, rfl, SqL.of (S3.g _ _ ha), fun a na => q _ _ _ Γ3 _ (s13.trans (Ext.new S3.g na).g) (S3.ext (Ext.new S3.g na)) (Rep.newL S3.g na (cut_rep rr _ _)) h3⟩
    · cases r3 with
      | @tup ad xs _ ha rr =>
        refine .inr (.inl ⟨_, _, rfl, SqT.of (S3.g _ _ ha), fun e => ?_, fun _ a na => q _ _ _ Γ3 _ (s13.trans (Ext.new S3.g na).g) (S3.ext (Ext.new S3.g na)) (Rep.newT S3.g na (cut_rep rr _ _)) h3⟩)
        exact q _ G3 H3 Γ3 _ s13 S3 (.tup ha (cut_whole rr e)) h3
    · cases r3
      exact .inr (.inr ⟨_, rfl, h3.1, q _ G3 H3 Γ3 _ s13 S3 (.str _) h3.2⟩)
    · exact h3.elim) ((x.mono s1).mono s2)) (x.mono s1)) x
/-! ### a slot's own list -/
theorem ev_ixO {a : Addr} {ds : List Dt} (h : Ev K W te Γ (fun y Γ1 => ∃ a ds j v, Γ1[i]? = some (some (.ol a ds)) ∧ y = .int j ∧ atI ds j = some v ∧ P v Γ1) X) (hi : Γ[i]? = some (some (.ol a ds))) : Ev K W (tOp (rIxP K) (tVar i) te) Γ P X := fun O G H σ Q S q x => by
  obtain ⟨v0, e0, o0⟩ := S.get hi
  refine ⟨v0, e0, h O G H σ _ S (fun v G1 H1 Γ1 d s1 S1 r ⟨a, ds, j, u, hg, ey, ha, p⟩ => ?_) x⟩
  obtain ⟨v1, e1, o1⟩ := S1.get hg
  rw [e0] at e1
  obtain rfl : v0 = v1 := Option.some.inj (Option.some.inj e1)
  subst ey; cases r
  cases o1 with
  | ol hh rr =>
    obtain ⟨w, hw, rw'⟩ := atI_rep rr ha
    exact .inl (.inl ⟨_, _, _, w, rfl, rfl, SqL.of hh, hw, q w G1 H1 Γ1 u s1 S1 rw' p⟩)
theorem ev_lenO {a : Addr} {ds : List Dt} (hi : Γ[i]? = some (some (.ol a ds))) (p : P (.int ds.length) Γ) : Ev K W (tCB (rLenP K) (tCons (tVar i) tNil)) Γ P X := fun O G H σ Q S q x => by
  obtain ⟨v0, e0, o0⟩ := S.get hi
  cases o0 with
  | ol hh rr => exact ⟨_, e0, .inl ⟨_, _, rfl, .inl ⟨_, SqL.of hh, rfl⟩, q _ G H Γ _ (Same.refl _) S (.int _) (by rw [rr.length]; exact p)⟩⟩
/-- the list at slot i is changed -/
theorem Sta.mutL {O G H : Hp} {σ : St} {a : Addr} {ds es : List Dt} {ys : List V} (S : Sta K O G H σ Γ) (hi : Γ[i]? = some (some (.ol a ds))) (r : Reps K G ys es) : Sta K O G (upd H a (.lst ys)) σ (Γ.set i (some (.ol a es))) := by
  obtain ⟨v, e, o⟩ := S.get hi
  have ev : v = .ref a := o.adr rfl
  subst ev
  have ma : a ∈ fps Γ := mem_fps hi a (by simp [Sl.fp])
  have ga := S.ng a ma
  have oa := S.no a ma
  obtain ⟨m1, m2⟩ := fps_part hi S.nd
  have na : a ∉ fps (Γ.set i none) := m2 a (by simp [Sl.fp])
  have il : i < σ.length := by
    rcases Nat.lt_or_ge i σ.length with z | z
    · exact z
    · rw [List.getElem?_eq_none z] at e; cases e
  have Sf := S.forget i (some (.ref a))
  have es' : σ.set i (some (.ref a)) = σ := by
    apply List.ext_getElem?
    intro j
    rw [List.getElem?_set]
    by_cases hj : i = j
    · subst hj; rw [if_pos rfl, e, if_pos il]
    · rw [if_neg hj]
  rw [es'] at Sf
  have T : Sta K O G (upd H a (.lst ys)) σ (Γ.set i none) := by
    refine ⟨fun b u q => ?_, fun b u q => ?_, Sf.d, Sf.sl.mono (Same.refl _) fun b hb u q => ?_, Sf.nd, Sf.ng, Sf.no, Sf.om⟩
    · rw [upd_ne (ne_of_none q ga)]; exact S.g b u q
    · rw [upd_ne (ne_of_none q oa)]; exact S.o b u q
    · rw [upd_ne (fun z : b = a => na (by rw [← z]; exact hb))]; exact q
  have T2 := (T.push (v := .ref a) (s := .ol a es) (.ol upd_same r) (by simp [Sl.fp]) (fun b hb => by simp [Sl.fp] at hb; subst hb; exact ga) (fun b hb => by simp [Sl.fp] at hb; subst hb; exact oa) (fun b hb => by simp [Sl.fp] at hb; subst hb; exact na)).put i
  rw [es', List.set_set] at T2
  exact T2
/-- xs[k] = e -/
theorem go_setO {ti : TE} {a0 : Addr} {ds0 : List Dt} (h : Ev K W te Γ (fun v Γ1 => ∃ a ds, Γ1[i]? = some (some (.ol a ds)) ∧ Ev K W ti Γ1 (fun y Γ2 => ∃ a ds k j, Γ2[i]? = some (some (.ol a ds)) ∧ y = .int k ∧ ixN ds.length k = some j ∧ PP.nx (Γ2.set i (some (.ol a (ds.set j v))))) PP.xc) PP.xc) :
    Go K W (tAsg te (gSub (tVar i) ti rSetL)) Γ PP := fun O G H σ D S a b c d e =>
  h O G H σ _ S (fun v G1 H1 Γ1 dv s1 S1 r ⟨a1, ds1, hg1, h1⟩ => by
    obtain ⟨v1, e1, o1⟩ := S1.get hg1
    have z1 := o1.adr rfl
    subst z1
    refine ⟨_, e1, h1 O G1 H1 σ _ S1 (fun u G2 H2 Γ2 dy s2 S2 r2 ⟨a2, ds2, k, j, hg2, ey, hj, p⟩ => ?_) ((e σ).mono s1)⟩
    obtain ⟨v2, e2, o2⟩ := S2.get hg2
    rw [e1] at e2
    obtain rfl : V.ref a1 = v2 := Option.some.inj (Option.some.inj e2)
    have z2 := o2.adr rfl
    cases z2
    subst ey; cases r2
    cases o2 with
    | ol hh rr =>
      refine ⟨_, _, k, j, rfl, rfl, hh, by rw [rr.length]; exact hj, ?_⟩
      exact a G2 _ σ _ (s1.trans s2) (S2.mutL hg2 (rr.set j (r.mono s2))) p) (e σ)
/-- xs.append(e) -/
theorem go_append {a0 : Addr} {ds0 : List Dt} (hi : Γ[i]? = some (some (.ol a0 ds0))) (h : Ev K W te Γ (fun v Γ1 => ∃ a ds, Γ1[i]? = some (some (.ol a ds)) ∧ ds.length < 1000000 ∧ PP.nx (Γ1.set i (some (.ol a (ds ++ [v]))))) PP.xc) :
    Go K W (tDrop (tBM K "list" rAppend (tVar i) (tCons te tNil))) Γ PP := fun O G H σ D S a b c d e => by
  obtain ⟨v0, e0, o0⟩ := S.get hi
  have z0 := o0.adr rfl
  subst z0
  cases o0 with
  | ol hh0 rr0 =>
  refine ⟨_, e0, .inl ⟨rfl, _, SqL.of hh0⟩, h O G H σ _ S (fun v G1 H1 Γ1 dv s1 S1 r ⟨a1, ds1, hg, hl, p⟩ => ?_) (e σ)⟩
  obtain ⟨v1, e1, o1⟩ := S1.get hg
  rw [e0] at e1
  obtain rfl := Option.some.inj (Option.some.inj e1)
  have z1 := o1.adr rfl
  cases z1
  cases o1 with
  | ol hh rr =>
    refine ⟨_, _, _, rfl, rfl, hh, by rw [rr.length]; exact Nat.lt_of_lt_of_le hl (by decide), ?_⟩
    exact a G1 _ σ _ s1 (S1.mutL hg (rr.append (.cons r .nil))) p
/-- xs.extend(e), e a frozen list -/
theorem go_extend {a0 : Addr} {ds0 : List Dt} (hi : Γ[i]? = some (some (.ol a0 ds0))) (h : Ev K W te Γ (fun v Γ1 => ∃ a ds es, v = .lst es ∧ Γ1[i]? = some (some (.ol a ds)) ∧ ds.length + es.length ≤ 1000000 ∧ PP.nx (Γ1.set i (some (.ol a (ds ++ es))))) PP.xc) :
    Go K W (tDrop (tBM K "list" rExtend (tVar i) (tCons te tNil))) Γ PP := fun O G H σ D S a b c d e => by
  obtain ⟨v0, e0, o0⟩ := S.get hi
  have z0 := o0.adr rfl
  subst z0
  cases o0 with
  | ol hh0 rr0 =>
  refine ⟨_, e0, .inl ⟨rfl, _, SqL.of hh0⟩, h O G H σ _ S (fun v G1 H1 Γ1 dv s1 S1 r ⟨a1, ds1, es, ev, hg, hl, p⟩ => ?_) (e σ)⟩
  subst ev
  obtain ⟨v1, e1, o1⟩ := S1.get hg
  rw [e0] at e1
  obtain rfl := Option.some.inj (Option.some.inj e1)
  have z1 := o1.adr rfl
  cases z1
  cases o1 with
  | ol hh rr =>
    cases r with
    | lst hb rb =>
      refine ⟨_, _, _, _, rfl, rfl, hh, S1.g _ _ hb, by rw [rr.length, rb.length]; exact big_ok hl, ?_⟩
      exact a G1 _ σ _ s1 (S1.mutL hg (rr.append rb)) p
/-- what stands in a slot of which only φ is known -/
theorem Sta.unpack {O G H : Hp} {σ : St} {a : Addr} {φ : List Dt → Prop} (S : Sta K O G H σ Γ) (hi : Γ[i]? = some (some (.os a φ))) : ∃ ds, φ ds ∧ Sta K O G H σ (Γ.set i (some (.ol a ds))) := by
  obtain ⟨v, e, o⟩ := S.get hi
  cases o with
  | @os a xs ds _ hh rr hp =>
    refine ⟨ds, hp, ?_⟩
    obtain ⟨m1, m2⟩ := fps_part hi S.nd
    have il : i < σ.length := by
      rcases Nat.lt_or_ge i σ.length with z | z
      · exact z
      · rw [List.getElem?_eq_none z] at e; cases e
    have Sf := S.forget i (some (.ref a))
    have es' : σ.set i (some (.ref a)) = σ := by
      apply List.ext_getElem?
      intro j
      rw [List.getElem?_set]
      by_cases hj : i = j
      · subst hj; rw [if_pos rfl, e, if_pos il]
      · rw [if_neg hj]
    rw [es'] at Sf
    have ma : a ∈ fps Γ := mem_fps hi a (by simp [Sl.fp])
    have T2 := (Sf.push (v := .ref a) (s := .ol a ds) (.ol hh rr) (by simp [Sl.fp]) (fun b hb => by simp [Sl.fp] at hb; subst hb; exact S.ng _ ma) (fun b hb => by simp [Sl.fp] at hb; subst hb; exact S.no _ ma) (fun b hb => by simp [Sl.fp] at hb; subst hb; exact m2 _ (by simp [Sl.fp]))).put i
    rw [es', List.set_set] at T2
    exact T2
theorem go_unpack {t : TS} {a : Addr} {φ : List Dt → Prop} (hi : Γ[i]? = some (some (.os a φ))) (h : ∀ ds, φ ds → Go K W t (Γ.set i (some (.ol a ds))) PP) : Go K W t Γ PP := fun O G H σ D S => by
  obtain ⟨ds, hp, S2⟩ := S.unpack hi
  exact h ds hp O G H σ D S2
/-- a text's method find -/
theorem ev_find {t : TA} (h : Ev K W te Γ (fun x Γ1 => ∃ z, x = .str z ∧ EvA K W t Γ1 (fun ds Γ2 => ∃ y, ds = [.str y] ∧ P (.int (Txt.find z y)) Γ2) X) X) : Ev K W (tBM K "str" rFindP te t) Γ P X := fun O G H σ Q S q x =>
  h O G H σ _ S (fun v G1 H1 Γ1 d s1 S1 r ⟨z, e, h1⟩ => by
    subst e; cases r
    exact ⟨rfl, h1 O G1 H1 σ _ S1 (fun vs G2 H2 Γ2 ds s2 S2 r2 ⟨y, e2, p⟩ => by
      subst e2
      cases r2 with
      | cons r3 r4 => cases r3; cases r4; exact ⟨_, _, rfl, rfl, q _ G2 H2 Γ2 _ (s1.trans s2) S2 (.int _) p⟩) (x.mono s1)⟩) x
end
end DL

/-! DL, part f: tries, isinstance, fields. -/
namespace L2
open PySem PySem.Spec PyProof.Rows
/-- an exception object that nothing tracks is tracked -/
theorem Inv.track {X : Cx} {pins : List (Addr × Obj)} {σ : St} {H : Hp} {s : Shared} {a C : Addr} {d : Option Addr} {oe : Obj} {vs : Array Value} (I : Inv X pins σ H s) (ha : s.heap.get? a = some oe) (hz : Zc (.ref C) d oe) (hd : oe.data = .fields vs) (na : H a = none)
    (n0 : X.s_0.heap.get? a = none) (nL : a ≠ X.env.locals) (nC : ∀ x c, X.env.cells.lookup x = some c → c ≠ a) (nP : ∀ p ∈ X.pn ++ pins, p.1 ≠ a) : Inv X pins σ (upd H a (DL.ExK C d a)) s := by
  have b0 : ∀ b o, X.s_0.heap.get? b = some o → b ≠ a := fun b o e z => by rw [z, n0] at e; cases e
  have keep : ∀ b o, H b = some o → upd H a (DL.ExK C d a) b = some o := fun b o e => by rw [upd_ne (ne_of_none e na)]; exact e
  refine ⟨I.ok, I.os, I.bare, ⟨I.base.keep, I.base.slot, fun b o e n hx => ?_, I.base.there, fun b xs e => keep _ _ (I.base.tups b xs e), fun b o u e => keep _ _ (I.base.frzs b o u e), fun b ps e => ?_⟩, I.loc, I.cell, ?_, fun x c e => ?_, fun p hp => ?_, fun b o e => ?_, I.len⟩
  · rw [upd_ne (b0 b o e)]; exact I.base.free b o e n hx
  · obtain ⟨m, e⟩ := I.base.tbls b ps e
    exact ⟨m, keep _ _ e⟩
  · rw [upd_ne (Ne.symm nL)]; exact I.free
  · rw [upd_ne (nC x c e)]; exact I.freeC x c e
  · obtain ⟨e1, e2, e3⟩ := I.pin p hp
    exact ⟨e1, by rw [upd_ne (nP p hp)]; exact e2, e3⟩
  · by_cases hb : b = a
    · subst hb
      rw [upd_same] at e
      cases e
      exact ⟨⟨oe, vs, ha, hz, hd⟩, ⟨oe, ha⟩, fun h1 h2 ⟨o, v, e1, r⟩ k => ⟨o, v, k o e1, r⟩⟩
    · rw [upd_ne hb] at e
      exact (I.hok b o e).stay (fun c v _ q => q) (fun c q => keep _ _ q) fun c xs q => keep _ _ q
/-! ### try, several clauses with or without names -/
/-- a clause: its class, its name's slot, its suite -/
structure Hdl where
  c : Value
  i : Option Nat
  ts : Addr → Value → Option Addr → TS
def slotOff (i : Option Nat) (σ : St) : St := match i with
  | none => σ
  | some i => σ.set i none
def slotOn (i : Option Nat) (a : Addr) (σ : St) : St := match i with
  | none => σ
  | some i => σ.set i (some (.ref a))
/-- the exception is tracked from now on -/
def trkE (cls : Value) (d : Option Addr) (a : Addr) (H : Hp) : Hp := match cls with
  | .ref C => upd H a (DL.ExK C d a)
  | _ => H
def wHds (K : PySem.W.Frag) (Wout : WX) (D : Ends) : List Hdl → WX
  | [] => Wout
  | h :: r => fun cls d σ H => ∃ b, PySem.W.exmOne K cls h.c = some b ∧ (b = true → ∀ a, H a = none → h.ts a cls d { nx := fun σ' H' => H' a = none → D.nx (slotOff h.i σ') (trkE cls d a H'), rt := fun v H' => H' a = none → D.rt v (trkE cls d a H'), bk := fun σ' H' => H' a = none → D.bk (slotOff h.i σ') (trkE cls d a H'), ct := fun σ' H' => H' a = none → D.ct (slotOff h.i σ') (trkE cls d a H') } (slotOn h.i a σ) H) ∧
    (b = false → wHds K Wout D r cls d σ H)
/-- a try: the body by the wish of the clauses -/
def tTry (K : PySem.W.Frag) (Wout : WX) (l : List Hdl) (tb : WX → TS) : TS := fun D σ H => tb (wHds K Wout D l) D σ H
inductive HdlOk (X : Cx) : List ExceptHandler → List Hdl → Prop
  | nil : HdlOk X [] []
  | cons {x : Str} {c : Value} {ts : Addr → Value → Option Addr → TS} {b₀ : Stmt} {suite : List Stmt} {np pos' : Pos} {hds : List ExceptHandler} {l : List Hdl} (hc : Names X x c)
      (hsu : ∀ (a : Addr) (oe : Obj) (cls : Value) (d : Option Addr) (pn : List (Addr × Obj)), Zc cls d oe → (∃ vs, oe.data = .fields vs) → PSs (X.suite a ((a, oe) :: pn)) (b₀ :: suite) (ts a cls d)) (r : HdlOk X hds l) :
      HdlOk X (.ExceptHandler (some (.Name x np)) none (b₀ :: suite) pos' :: hds) (⟨c, none, ts⟩ :: l)
  | named {x n : Str} {i : Nat} {c : Value} {ts : Addr → Value → Option Addr → TS} {b₀ : Stmt} {suite : List Stmt} {np pos' : Pos} {hds : List ExceptHandler} {l : List Hdl} (hc : Names X x c) (hi : X.N[i]? = some n) (hln : X.env.kindOf n = some .local)
      (hsu : ∀ (a : Addr) (oe : Obj) (cls : Value) (d : Option Addr) (pn : List (Addr × Obj)), Zc cls d oe → (∃ vs, oe.data = .fields vs) → PSs (X.suite a ((a, oe) :: pn)) (b₀ :: suite) (ts a cls d)) (r : HdlOk X hds l) :
      HdlOk X (.ExceptHandler (some (.Name x np)) (some n) (b₀ :: suite) pos' :: hds) (⟨c, some i, ts⟩ :: l)
section
variable {X : Cx} {body : List Stmt} {h₀ : ExceptHandler} {hds : List ExceptHandler} {l : List Hdl} {pos : Pos} {tb : WX → TS} {Wout : WX}
theorem ps_try_h (hex : X.ex = []) (hs : X.stack = X.env :: X.outer) (hf : X.env.frame = some X.env.locals) (hN : X.N.Nodup) (tk : Takes X Wout)
    (hb : ∀ (W : WX) (pn : List (Addr × Obj)) (xe : Value → Shared → Prop), Takes (X.tr pn xe) W → PassesOwn (model X.prog X.w) X.A X.env xe → PSs (X.tr pn xe) body (tb W))
    (hh : HdlOk X (h₀ :: hds) l) : PS X (.Try body (h₀ :: hds) [] [] pos) (tTry X.K Wout l tb) := by
  refine ⟨fun pins s σ H D I h => ?_⟩
  have ok := I.ok
  have hfr : X.A.frames = some (X.env :: X.outer) := by rw [ok.frames, hs]
  refine wpAny_Try_except ?_
  refine wpAny_mono ((hb (wHds X.K Wout D l) (X.pn ++ pins) (fun e s₁ => wpAny (model X.prog X.w) X.A (noteFrame e X.env) (fun _ s₂ => wpAny (model X.prog X.w) X.A (setFlight e none) (fun _ s₃ =>
    wpAny (model X.prog X.w) X.A (handleBy e X.env (h₀ :: hds)) (SP X pins D) X.xe s₃) X.xe s₂) X.xe s₁) (fun u s' xx => ?_) PassesOwn.looking).run [] s σ H D (I.toTry _) h) (fun f s1 hsp => ?_) (fun e s1 he => he)
  · -- the catch
    obtain ⟨a, B, sI, pins', σ', H', cls, d, rfl, J', nb, up, sky, na, os, ag, w⟩ := xx
    have J : Inv X pins σ' H' sI := J'.ofTry ok
    have sky' : Sky B (X.env :: X.outer) a (Zc cls d) X.env.locals s'.heap := by rw [← hs]; exact sky
    show wpAny (model X.prog X.w) X.A (noteFrame (.ref a) X.env) _ _ _
    refine Sky.land Zc.steady hfr hf sky' fun h3 fl3 up3 => ?_
    have J3 : Inv X pins σ' H' { s' with heap := h3 } := J.landed nb fl3.1 (up.trans up3) os ag
    obtain ⟨oe3, vs3, he3, hz3, hd3⟩ := fl3.there
    have notFr : ∀ {h : Heap} {o : Obj} {vs : Array Value}, h.FunFrames B (X.env :: X.outer) → h.get? a = some o → o.data = .fields vs → a ∉ frs (X.env :: X.outer) := fun {h o vs} ff e dd hm => by
      obtain ⟨_, o', e', hnf⟩ := ff.mem hm
      rw [e] at e'; cases e'
      exact hnf _ dd
    have nfr := notFr fl3.2.2.1 he3 hd3
    have nL : a ≠ X.env.locals := fun z => nfr (List.mem_filterMap.mpr ⟨X.env, List.mem_cons_self, by rw [hf, z]⟩)
    have nF : a ∉ X.fs := fun hm => by
      obtain ⟨e, he, q⟩ := List.mem_filterMap.mp hm
      exact nfr (List.mem_filterMap.mpr ⟨e, List.mem_cons_of_mem _ he, q⟩)
    have S3 := J3.suite he3 hd3 na nL nF
    have nB : B.get? a = none := fl3.2.1
    have nI : sI.heap.get? a = none := by
      cases e : sI.heap.get? a with
      | none => rfl
      | some o =>
        have z := nb a o e (by rw [hs]; exact nfr)
        rw [nB] at z; cases z
    have n0 : X.s_0.heap.get? a = none := by
      cases e : X.s_0.heap.get? a with
      | none => rfl
      | some o =>
        obtain ⟨o', z⟩ := J.base.there a o e (by rw [hex]; exact fun z => nomatch z)
        rw [nI] at z; cases z
    have nC : ∀ x c, X.env.cells.lookup x = some c → c ≠ a := fun x c e z => by
      obtain ⟨v, o, ho, _⟩ := J.cell x c e
      rw [z, nI] at ho; cases ho
    have nP : ∀ p ∈ X.pn ++ pins, p.1 ≠ a := fun p hp z => by
      obtain ⟨e, _⟩ := J.pin p hp
      rw [z, nI] at e; cases e
    have fin : ∀ {oe : Obj} {vs : Array Value} {σ6 : St} {H6 : Hp} {s6 : Shared}, Zc cls d oe → oe.data = .fields vs → Inv X ((a, oe) :: pins) σ6 H6 s6 → Inv X pins σ6 (trkE cls d a H6) s6 := fun {oe vs σ6 H6 s6} hz hd I6 => by
      obtain ⟨e1, e2, _⟩ := I6.pin (a, oe) (List.mem_append_right _ List.mem_cons_self)
      have I7 : Inv X pins σ6 H6 s6 := I6.pins_of fun p hp => I6.pin p (List.mem_append_right _ (List.mem_cons_of_mem _ hp))
      unfold trkE
      cases cls with
      | ref C => exact I7.track e1 hz hd e2 n0 nL nC nP
      | _ => exact I7
    have gone : ∀ {oe : Obj} {σ6 : St} {H6 : Hp} {s6 : Shared}, Inv X ((a, oe) :: pins) σ6 H6 s6 → H6 a = none := fun I6 => (I6.pin _ (List.mem_append_right _ List.mem_cons_self)).2.1
    have keepP : ∀ {oe : Obj} {σ6 : St} {H6 : Hp} {s6 : Shared}, Inv (X.suite a ((a, oe) :: (X.pn ++ pins))) [] σ6 H6 s6 → Inv X ((a, oe) :: pins) σ6 H6 s6 := fun {oe σ6 H6 s6} S6 =>
      (S6.unsuite ok).pins_of fun p hp => by
        refine S6.pin p ?_
        rcases List.mem_cons.mp hp with rfl | hp
        · exact List.mem_append_left _ List.mem_cons_self
        · exact List.mem_append_left _ (List.mem_cons_of_mem _ (List.mem_append_right _ hp))
    have test : ∀ {x : Str} {c : Value} {np : Pos}, Names X x c → ∀ {Q : Value → Shared → Prop} {E : Value → Shared → Prop}, Q c { s' with heap := h3 } → wpAny (model X.prog X.w) (X.A.mark (some (.ref a))) (eval (.Name x np) X.env) Q E { s' with heap := h3 } := fun {x c np} hc {Q E} q => by
      obtain ⟨hg, hdbg, hm | ⟨hm, hv, hnn⟩⟩ := hc
      · exact ld_glob (X := X.suite a ((a, oe3) :: (X.pn ++ pins))) S3 hg hm q hdbg
      · exact ld_blt (X := X.suite a ((a, oe3) :: (X.pn ++ pins))) S3 hg hm hv q hnn hdbg
    have LT : PySem.W.Looks (model X.prog X.w) h3 (typeOf (.ref a)) cls := fun A Q E s k q => wpAny_typeOf_ref (k _ _ he3) (by rw [hz3.1]; exact q)
    have go : ∀ {hds' : List ExceptHandler} {l' : List Hdl}, HdlOk X hds' l' → wHds X.K Wout D l' cls d σ' H' →
        wpAny (model X.prog X.w) X.A (handleBy (.ref a) X.env hds') (SP X pins D) X.xe { s' with heap := h3 } := by
      intro hds' l' hk
      induction hk with
      | nil =>
        intro w
        refine wpAny_handleBy_nil ?_
        obtain ⟨k1, k2, k3, oe, vs, T, oT, ts', he, hz, hd, h1, hr⟩ := id fl3
        unfold PySem.passOn
        refine wpAny_bind (wpAny_field he hd h1 ?_)
        rw [if_neg (show ¬ ((Value.ref T == Value.none) = true) from by simp)]
        have fin : wpAny (model X.prog X.w) X.A (setFlight (.ref a) X.env.frame) (fun _ s4 => wpAny (model X.prog X.w) X.A (throw (.ref a) : Sem Flow) (SP X pins D) X.xe s4) X.xe { s' with heap := h3 } := by
          rw [hf]
          refine HandSPX.setFlight_upZ fl3 fun h4 hh4 up4 => wpAny_throw (tk _ _ ?_)
          exact ⟨a, B, sI, pins, σ', H', cls, d, rfl, J, nb, (up.trans up3).trans up4, .inr (.inr (by rw [hs]; exact hh4)), na, os, ag, w⟩
        first
          | exact wpAny_bind (wpAny_pure (wpAny_bind fin))
          | exact wpAny_bind fin
      | @cons x c ts b₀ suite np pos' hds2 l2 hc hsu r ih =>
        intro w
        obtain ⟨b, hb1, hyes, hno⟩ := w
        refine wpAny_handleBy_cons (codeAny_handlers_test ?_) (by intro q; cases q)
        have LM := PySem.W.exm_one (M := model X.prog X.w) (J3.kIn) LT hb1
        refine test hc (LM.here ?_)
        cases b with
        | true =>
          refine codeAny_handlers_suite ?_
          refine HandSPX.lands_againZ fl3 fun h4 fl4 up4 => ?_
          have J4 : Inv X pins σ' H' { s' with heap := h4 } := J.landed nb fl4.1 ((up.trans up3).trans up4) os ag
          obtain ⟨oe4, vs4, he4, hz4, hd4⟩ := fl4.there
          have S4 := J4.suite he4 hd4 na nL nF
          refine wpAny_mono ((hsu a oe4 cls d (X.pn ++ pins) hz4 ⟨_, hd4⟩).run [] _ _ H' _ S4 (hyes rfl a na)) (fun f s6 hsp => ?_) (fun _ _ z => False.elim z)
          cases f with
          | next =>
            obtain ⟨σ6, H6, S6, q6⟩ := hsp
            exact ⟨_, _, fin hz4 hd4 (keepP S6), q6 (gone (keepP S6))⟩
          | brk =>
            obtain ⟨σ6, H6, S6, q6⟩ := hsp
            exact ⟨_, _, fin hz4 hd4 (keepP S6), q6 (gone (keepP S6))⟩
          | cont =>
            obtain ⟨σ6, H6, S6, q6⟩ := hsp
            exact ⟨_, _, fin hz4 hd4 (keepP S6), q6 (gone (keepP S6))⟩
          | ret u =>
            obtain ⟨v6, σ6, H6, S6, r6, q6⟩ := hsp
            exact ⟨_, _, _, fin hz4 hd4 (keepP S6), r6, q6 (gone (keepP S6))⟩
        | false =>
          show wpAny _ X.A (handleBy (.ref a) X.env hds2) _ _ _
          exact ih (hno rfl)
      | @named x n i c ts b₀ suite np pos' hds2 l2 hc hi hln hsu r ih =>
        intro w
        obtain ⟨b, hb1, hyes, hno⟩ := w
        have hloc : Loc X.env.scope n := .inl hln
        refine wpAny_handleBy_cons (codeAny_handlers_test ?_) (by intro q; cases q)
        have LM := PySem.W.exm_one (M := model X.prog X.w) (J3.kIn) LT hb1
        refine test hc (LM.here ?_)
        cases b with
        | true =>
          refine codeAny_handlers_suite_as ?_
          refine HandSPX.lands_againZ fl3 fun h4 fl4 up4 => ?_
          have J4 : Inv X pins σ' H' { s' with heap := h4 } := J.landed nb fl4.1 ((up.trans up3).trans up4) os ag
          obtain ⟨oe4, vs4, he4, hz4, hd4⟩ := fl4.there
          have S4 := J4.suite he4 hd4 na nL nF
          refine store_ok (X := X.suite a ((a, oe4) :: (X.pn ++ pins))) (v := .ref a) S4 hN hi hloc rfl (fun s5 S5 => ?_) (.inr hln)
          refine wpAny_mono ((hsu a oe4 cls d (X.pn ++ pins) hz4 ⟨_, hd4⟩).run [] s5 _ H' _ S5 (hyes rfl a na)) (fun f s6 hsp => ?_) (fun _ _ z => False.elim z)
          have end_ : ∀ {σ6 : St} {H6 : Hp} {Q : Shared → Prop}, Inv (X.suite a ((a, oe4) :: (X.pn ++ pins))) [] σ6 H6 s6 → (∀ s7, Inv X pins (σ6.set i none) (trkE cls d a H6) s7 → Q s7) →
              wpAny (model X.prog X.w) X.A (do bindName X.env n .none; unbindBehindTheSuite X.env n pos') (fun _ s7 => Q s7) X.xe s6 := fun {σ6 H6 Q} S6 hq => gone_ok (keepP S6) hN hi hln fun s7 I7 => hq s7 (fin hz4 hd4 I7)
          cases f with
          | next =>
            obtain ⟨σ6, H6, S6, q6⟩ := hsp
            exact end_ S6 fun s7 J7 => ⟨_, _, J7, q6 (gone (keepP S6))⟩
          | brk =>
            obtain ⟨σ6, H6, S6, q6⟩ := hsp
            exact end_ S6 fun s7 J7 => ⟨_, _, J7, q6 (gone (keepP S6))⟩
          | cont =>
            obtain ⟨σ6, H6, S6, q6⟩ := hsp
            exact end_ S6 fun s7 J7 => ⟨_, _, J7, q6 (gone (keepP S6))⟩
          | ret u =>
            obtain ⟨v6, σ6, H6, S6, r6, q6⟩ := hsp
            exact end_ S6 fun s7 J7 => ⟨_, _, _, J7, r6, q6 (gone (keepP S6))⟩
        | false =>
          show wpAny _ X.A (handleBy (.ref a) X.env hds2) _ _ _
          exact ih (hno rfl)
    exact go hh w
  · cases f with
    | next =>
      obtain ⟨σ', H', J', q⟩ := hsp
      exact wpAny_execs_nil ⟨σ', H', J'.ofTry ok, q⟩
    | brk =>
      obtain ⟨σ', H', J', q⟩ := hsp
      exact ⟨σ', H', J'.ofTry ok, q⟩
    | cont =>
      obtain ⟨σ', H', J', q⟩ := hsp
      exact ⟨σ', H', J'.ofTry ok, q⟩
    | ret u =>
      obtain ⟨v, σ', H', J', r, q⟩ := hsp
      exact ⟨v, σ', H', J'.ofTry ok, r, q⟩
end

/-! ### isinstance, also of an error that is kept -/
def rIsiE (K : PySem.W.Frag) : List V → Hp → VK → Prop := fun xs H Q => ∃ (a C : Addr) (d : Option Addr) (c : V) (u : Value) (b : Bool), xs = [.ref a, c] ∧ H a = some (DL.ExK C d a) ∧ (d = none ∨ ∃ dd fs, d = some dd ∧ H dd = some (.xd fs)) ∧ ClsV c u ∧ ExcC K C ∧ PySem.W.kitOne K (.ref C) u = some b ∧ Q (.bl b) H
theorem exk_inst {X : Cx} {pins : List (Addr × Obj)} {σ : St} {H : Hp} {s : Shared} {a C : Addr} {d : Option Addr} (I : Inv X pins σ H s) (ha : H a = some (DL.ExK C d a)) (hd : d = none ∨ ∃ dd fs, d = some dd ∧ H dd = some (.xd fs)) :
    ∃ oe od, PySem.W.InstAt s.heap a oe C od := by
  obtain ⟨⟨oe, vs, h1, h2, h3⟩, _, _⟩ := I.hok a _ ha
  rcases hd with rfl | ⟨dd, fs, rfl, hx⟩
  · refine ⟨oe, none, h1, h2.1, by unfold PySem.W.notCls; rw [h3] <;> rfl, ?_⟩
    rw [h2.2]; trivial
  · obtain ⟨mA, hns, hr⟩ := I.hok dd _ hx
    obtain ⟨od, ho, hl⟩ := lookIn_ns hns
    exact ⟨oe, some od, h1, h2.1, by unfold PySem.W.notCls; rw [h3] <;> rfl, by rw [h2.2]; exact ho⟩
theorem call_isiE {X : Cx} : CallR X (.builtin "isinstance") (rIsiE X.K) := by
  intro pins s σ H xs us Q I r h
  obtain ⟨a, C, d, c, u, b, rfl, ha, hd, k, f, e, q⟩ := h
  obtain ⟨u1, u2, rfl, r1, r2⟩ := vals2 r
  have e2 := k.eq r2
  subst e2
  cases (show u1 = Value.ref a from r1)
  obtain ⟨oe, od, J⟩ := exk_inst I ha hd
  refine PySem.W.kia_one (PySem.W.kitx_exc ?_ f.hg f.hk f.hs f.ha f.hn f.ht f.hm) I.kIn J e (fun z => nomatch z) fun tk => ⟨.bl b, H, I.tok tk, rfl, q⟩
  obtain ⟨cd, hc, _⟩ := PySem.W.any_some f.hd
  rw [hc]; rfl
def rIsiP (K : PySem.W.Frag) : List V → Hp → VK → Prop := fun xs H Q => rIsi K xs H Q ∨ rIsiE K xs H Q
theorem call_isiP {X : Cx} : CallR X (.builtin "isinstance") (rIsiP X.K) := call_isi.or call_isiE
/-! ### e.f of an instance, of an error that is kept -/
def tFldP (K : PySem.W.Frag) (ta : TE) (f : Str) : TE := fun σ H Q => ta σ H fun x H1 => (∃ a C dx fs v, x = .ref a ∧ H1 a = some (.ins C dx fs) ∧ Cls K C ∧ NoAttr K C f ∧ fs.lookup f = some v ∧ Q v H1) ∨
  (∃ a C dd fs v, x = .ref a ∧ H1 a = some (DL.ExK C (some dd) a) ∧ H1 dd = some (.xd fs) ∧ XfC K C ∧ PySem.W.findIn K (.ref C) f = some none ∧ fs.lookup f = some v ∧ Q v H1)
theorem pe_fldP {X : Cx} {e : Expr} {f : Str} {pos : Pos} {ta : TE} (he : PE X e ta) (hb : attributeBase e f X.env (eval e X.env) = eval e X.env := by rfl) : PE X (.Attribute e f pos) (tFldP X.K ta f) := by
  refine ⟨fun pins s σ H Q I h => ?_⟩
  refine attr_of hb (thn (he.run pins s σ H _ I h) fun u s1 hh => ?_)
  obtain ⟨x, H1, I1, rx, hh⟩ := hh
  rcases hh with ⟨a, C, dx, fs, v, ex, ea, hc, hn, l, q⟩ | ⟨a, C, dd, fs, v, ex, ea, ed, T, hno, l, q⟩
  · subst ex
    obtain rfl : u = Value.ref a := rx
    exact getattr_ok I1 ea hc hn l fun w s2 I2 rw' => ⟨v, H1, I2, rw', q⟩
  · subst ex
    obtain rfl : u = Value.ref a := rx
    obtain ⟨⟨oe, vs, h1, h2, h3⟩, _, _⟩ := I1.hok a _ ea
    obtain ⟨mA, hns, hr⟩ := I1.hok dd _ ed
    obtain ⟨od, ho, hl⟩ := lookIn_ns hns
    obtain ⟨w, hw, rw'⟩ := RelO.some_of (v := v) (o := mA f) (by rw [← l]; exact hr f)
    have J : PySem.W.InstAt s1.heap a oe C (some od) := ⟨h1, h2.1, by unfold PySem.W.notCls; rw [h3] <;> rfl, by rw [h2.2]; exact ho⟩
    exact HandSPX.exc_get I1.kIn J T.ga T.gg T.exC (PySem.W.findObj_own T.hdC hno rfl (by rw [hl, hw])) (handed_of rw') ⟨v, H1, I1.tok _, rw', q⟩
end L2
namespace DL
open PySem PySem.Spec L2
section
variable {K : PySem.W.Frag} {W : WX} {Γ : Gm} {X : XP} {te ta tb : TE} {i : Nat} {PP : Po} {g : TG} {tbd : TS}
/-! ### try -/
def gOff (i : Option Nat) (Γ : Gm) : Gm := match i with
  | none => Γ
  | some i => Γ.set i none
def gOn (i : Option Nat) (a C : Addr) (d : Option Addr) (fs : List (Str × Dt)) (Γ : Gm) : Gm := match i with
  | none => Γ
  | some i => Γ.set i (some (.ex a C d fs))
/-- behind the suite the error is data -/
def fixS : Sl → Sl
  | .ex _ C _ fs => .fr (.exc C fs)
  | s => s
def fixE : Gm → Gm
  | [] => []
  | none :: r => none :: fixE r
  | some s :: r => some (fixS s) :: fixE r
def exOk (a C : Addr) (d : Option Addr) : Sl → Prop
  | .ex a' C' d' _ => a' = a ∧ C' = C ∧ d' = d
  | _ => True
def ExAll (a C : Addr) (d : Option Addr) : Gm → Prop
  | [] => True
  | none :: r => ExAll a C d r
  | some s :: r => exOk a C d s ∧ ExAll a C d r
theorem fp_fix (s : Sl) : (fixS s).fp = s.fp := by cases s <;> rfl
theorem fps_fix : ∀ Γ : Gm, fps (fixE Γ) = fps Γ
  | [] => rfl
  | none :: r => by simp only [fixE, fps]; rw [fps_fix r]
  | some s :: r => by simp only [fixE, fps, fpO]; rw [fps_fix r, fp_fix]
theorem slots_fix {G H : Hp} {a C : Addr} {d : Option Addr} (ha : G a = some (ExK C d a)) : ∀ {σ : St} {Γ : Gm}, Slots K G H σ Γ → ExAll a C d Γ → Slots K G H σ (fixE Γ)
  | _, _, .nil, _ => .nil
  | _, _, .no r, h => .no (slots_fix ha r h)
  | _, _, .yes o r, ⟨h1, h2⟩ => by
    refine .yes ?_ (slots_fix ha r h2)
    cases o with
    | ex rx =>
      obtain ⟨rfl, rfl, rfl⟩ := h1
      exact .fr (.exc ha rx)
    | fr r => exact .fr r
    | ol x y => exact .ol x y
    | os x y z => exact .os x y z
    | oK x y => exact .oK x y
    | oT x y => exact .oT x y
    | oo x y => exact .oo x y
theorem sta_fix {O G H : Hp} {σ : St} {a C : Addr} {d : Option Addr} (S : Sta K O G H σ Γ) (na : H a = none) (h : ExAll a C d Γ) : ∃ G2, Same G G2 ∧ Sta K O G2 (upd H a (ExK C d a)) σ (fixE Γ) := by
  have ex := Ext.new (ob := ExK C d a) S.g na
  have S2 := S.ext ex
  exact ⟨_, ex.g, S2.g, S2.o, S2.d, slots_fix upd_same S2.sl h, by rw [fps_fix]; exact S2.nd, fun b hb => S2.ng b (by rw [fps_fix] at hb; exact hb), fun b hb => S2.no b (by rw [fps_fix] at hb; exact hb), S2.om⟩
/-- what the clauses do with an error -/
def Hds (K : PySem.W.Frag) (PP : Po) : List Hdl → XP
  | [] => PP.xc
  | h :: r => fun C fs Γ => ∃ b, PySem.W.exmOne K (.ref C) h.c = some b ∧ (b = true → ∀ a d, Go K (fun _ _ _ _ => False) (h.ts a (.ref C) d) (gOn h.i a C d fs Γ)
      { nx := fun Γ2 => ExAll a C d (gOff h.i Γ2) ∧ PP.nx (fixE (gOff h.i Γ2)), rt := fun s Γ2 => ExAll a C d (some s :: Γ2) ∧ PP.rt (fixS s) (fixE Γ2), xc := fun _ _ _ => False,
        bk := fun Γ2 => ExAll a C d (gOff h.i Γ2) ∧ PP.bk (fixE (gOff h.i Γ2)), ct := fun Γ2 => ExAll a C d (gOff h.i Γ2) ∧ PP.ct (fixE (gOff h.i Γ2)) }) ∧ (b = false → Hds K PP r C fs Γ)
theorem sta_off {O G H : Hp} {σ : St} {j : Option Nat} (S : Sta K O G H σ Γ) : Sta K O G H (slotOff j σ) (gOff j Γ) := by
  cases j with
  | none => exact S
  | some j => exact S.forget j none
theorem sta_on {O G H : Hp} {σ : St} {j : Option Nat} {a C : Addr} {d : Option Addr} {fs : List (Str × Dt)} (S : Sta K O G H σ Γ) (r : RepX K G d fs) : Sta K O G H (slotOn j a σ) (gOn j a C d fs Γ) := by
  cases j with
  | none => exact S
  | some j => exact (S.push (v := .ref a) (s := .ex a C d fs) (.ex r) (by simp [Sl.fp]) (by simp [Sl.fp]) (by simp [Sl.fp]) (by simp [Sl.fp])).put j
theorem go_try {tt : WX → TS} {l : List Hdl} (h : ∀ W', Go K W' (tt W') Γ { PP with xc := Hds K PP l }) : Go K W (tTry K W l tt) Γ PP := fun O G H σ D S a b c d e => by
  refine h (wHds K W D l) O G H σ D S a b c d fun σ2 => ?_
  have go : ∀ (l : List Hdl), XOk K (wHds K W D l) O G σ2 (Hds K PP l) := by
    intro l
    induction l with
    | nil => exact e σ2
    | cons hd r ih =>
      intro C dd fs G2 H2 Γ2 s2 S2 rx ⟨bb, e1, p1, p2⟩
      refine ⟨bb, e1, fun hb ad na => ?_, fun hb => ih C dd fs G2 H2 Γ2 s2 S2 rx (p2 hb)⟩
      refine p1 hb ad dd O G2 H2 _ _ (sta_on S2 rx) (fun G3 H3 σ3 Γ3 s3 S3 ⟨p3, p4⟩ n3 => ?_) (fun v G3 H3 σ3 Γ3 z s3 S3 ⟨p3, p4⟩ n3 => ?_) (fun G3 H3 σ3 Γ3 s3 S3 ⟨p3, p4⟩ n3 => ?_) (fun G3 H3 σ3 Γ3 s3 S3 ⟨p3, p4⟩ n3 => ?_) ?_
      · obtain ⟨G4, s4, S4⟩ := sta_fix (sta_off S3) n3 p3
        exact a G4 _ _ _ (s2.trans (s3.trans s4)) S4 p4
      · obtain ⟨G4, s4, S4⟩ := sta_fix S3 n3 p3
        exact b v G4 _ σ3 _ _ (s2.trans (s3.trans s4)) S4 p4
      · obtain ⟨G4, s4, S4⟩ := sta_fix (sta_off S3) n3 p3
        exact c G4 _ _ _ (s2.trans (s3.trans s4)) S4 p4
      · obtain ⟨G4, s4, S4⟩ := sta_fix (sta_off S3) n3 p3
        exact d G4 _ _ _ (s2.trans (s3.trans s4)) S4 p4
      · intro σ3 C3 d3 fs3 G3 H3 Γ3 s3 S3 r3 p3
        exact p3.elim
  exact go l

/-! ### isinstance, fields -/
inductive ClsD : Dt → Value → Prop
  | ty (n : String) : ClsD (.ty n) (.type n)
  | own (C : Addr) : ClsD (.ref C) (.ref C)
/-- an own class whose instances isinstance asks -/
structure InsF (K : PySem.W.Frag) (C : Addr) : Prop where
  cl : Cls K C
  ha : PySem.W.findIn K (.ref C) "__class__" = some (some (.builtin "object.__class__"))
  hn : PySem.W.specialIn K (.builtin "object.__class__") "__get__" = some (some (.builtin "getset_descriptor.__get__"))
  ht : PySem.W.takesIn K (.builtin "object.__class__") = some true
  hm : PySem.W.mroIn K C (.type "object") = some true
inductive TyD (K : PySem.W.Frag) : Dt → Value → Prop
  | non : TyD K .non (.type "NoneType")
  | bl (b : Bool) : TyD K (.bl b) (.type "bool")
  | int (i : Int) : TyD K (.int i) (.type "int")
  | str (x : Str) : TyD K (.str x) (.type "str")
  | lst (ds : List Dt) : TyD K (.lst ds) (.type "list")
  | tup (ds : List Dt) : TyD K (.tup ds) (.type "tuple")
  | dK (ds : List (Key × Dt)) : TyD K (.dK ds) (.type "dict")
  | obj {C : Addr} {fs : List (Str × Dt)} (f : InsF K C) : TyD K (.obj C fs) (.ref C)
  | exc {C : Addr} {fs : List (Str × Dt)} (f : ExcC K C) : TyD K (.exc C fs) (.ref C)
def dIsi (K : PySem.W.Frag) (ds : List Dt) (R : Dt → Prop) : Prop := ∃ x c t u b, ds = [x, c] ∧ ClsD c u ∧ TyD K x t ∧ PySem.W.kitOne K t u = some b ∧ R (.bl b)
theorem rdc_isi : RDC K (rIsiP K) (dIsi K) := fun G H xs ds R Q s r ⟨x, c, t, u, b, e, hc, ht, hk, p⟩ q => by
  subst e
  cases r with
  | cons r1 r2 => cases r2 with
    | @cons cv _ _ _ r2 r3 =>
    cases r3
    have hc' : ClsV cv u ∧ True := by
      cases hc with
      | ty n => cases r2; exact ⟨.ty n, trivial⟩
      | own C => cases r2; exact ⟨.own C, trivial⟩
    have fin : ∀ {v : V}, TyX K H v t → Rep K G v x → rIsiP K [v, cv] H Q := fun {v} ty _ => .inl ⟨v, cv, t, u, b, rfl, hc'.1, ty, hk, q _ G H _ (Ext.refl s) (.bl b) p⟩
    cases ht with
    | non => cases r1; exact fin (.base .non) .non
    | bl b => cases r1; exact fin (.base (.bl b)) (.bl b)
    | int i => cases r1; exact fin (.base (.int i)) (.int i)
    | str z => cases r1; exact fin (.base (.str z)) (.str z)
    | lst ds => cases r1 with
      | lst ha rr => exact fin (.base (.lst (s _ _ ha))) (.lst ha rr)
    | tup ds => cases r1 with
      | tup ha rr => exact fin (.base (.tup (s _ _ ha))) (.tup ha rr)
    | dK ds => cases r1 with
      | dK ha rr => exact fin (.fDict (s _ _ ha)) (.dK ha rr)
    | obj f => cases r1 with
      | obj ha rr => exact fin (.base (.ins (s _ _ ha) f.cl f.ha f.hn f.ht f.hm)) (.obj ha rr)
    | exc f => cases r1 with
      | exc ha rx =>
        refine .inr ⟨_, _, _, _, u, b, rfl, s _ _ ha, ?_, hc'.1, f, hk, q _ G H _ (Ext.refl s) (.bl b) p⟩
        cases rx with
        | none => exact .inl rfl
        | some hd _ => exact .inr ⟨_, _, rfl, s _ _ hd⟩
/-- e.f: a field of a frozen instance, of an error that is kept -/
theorem ev_fld {f : Str} {P : Dt → Gm → Prop} (h : Ev K W te Γ (fun d Γ1 => (∃ C fs y, d = .obj C fs ∧ Cls K C ∧ NoAttr K C f ∧ fs.lookup f = some y ∧ P y Γ1) ∨ (∃ C fs y, d = .exc C fs ∧ XfC K C ∧ PySem.W.findIn K (.ref C) f = some none ∧ fs.lookup f = some y ∧ P y Γ1)) X) : Ev K W (tFldP K te f) Γ P X := fun O G H σ Q S q x =>
  h O G H σ _ S (fun v G1 H1 Γ1 d s1 S1 r hh => by
    rcases hh with ⟨C, fs, y, e, hc, hn, hl, p⟩ | ⟨C, fs, y, e, hc, hn, hl, p⟩
    · subst e
      cases r with
      | obj ha rf =>
        obtain ⟨u, hu, ru⟩ := rf.look hl
        exact .inl ⟨_, _, _, _, u, rfl, S1.g _ _ ha, hc, hn, hu, q u G1 H1 Γ1 y s1 S1 ru p⟩
    · subst e
      cases r with
      | exc ha rx =>
        cases rx with
        | none => simp at hl
        | some hd rf =>
          obtain ⟨u, hu, ru⟩ := rf.look hl
          exact .inr ⟨_, _, _, _, u, rfl, S1.g _ _ ha, S1.g _ _ hd, hc, hn, hu, q u G1 H1 Γ1 y s1 S1 ru p⟩) x
end
end DL

/-! DL, part g: a def by its name, the head's facts, the end. -/
namespace DL
open PySem PySem.Spec L2
/-- the def x of the module keeps the promise S -/
structure Dfn (P : Program) (w : World) (K : PySem.W.Frag) (mg : Str → Option Value) (base : Heap) (x : Str) (ps : List Str) (k : Nat) (S : DSp) : Prop where
  ex : ∃ f fd, FnOk P w K mg base (L2.CX P w) k f fd ps (spD K S) ∧ Binds K fd ps [] ∧ mg x = some (.ref f) ∧ PySem.W.keepIn K (.ref f) = true
section
variable {X : Cx} {x : Str} {ps : List Str} {k j : Nat} {S : DSp} {W : WX} {e : Expr} {es : List Expr} {t : TA} {p pos : Pos}
theorem pe_d (D : Dfn X.prog X.w X.K X.mg X.base x ps k S) (hr : Room j X.A) (hj : k ≤ j) (tk : Takes X W) (ha : PA X (e :: es) t) (hg : Gl X x := by rfl) (hdb : (x == ("__debug__" : Str)) = false := by decide) (he : starEach (e :: es) X.env = (false, eval e X.env) :: starEach es X.env := by rfl) (hpl : (backTo pos (starEach es X.env)).any (·.1) = false := by rfl) :
    PE X (.Call (.Name x p) (e :: es) [] pos) (tCallS (spD X.K S) (WE W) t) := by
  obtain ⟨f, fd, F, b, hm, hk⟩ := D.ex
  exact pe_callS F (hr.mono hj) hg hm hk b (fun σ => passAt tk σ) ha hdb he hpl
theorem pe_d0 (D : Dfn X.prog X.w X.K X.mg X.base x ps k S) (hr : Room j X.A) (hj : k ≤ j) (tk : Takes X W) (hg : Gl X x := by rfl) (hdb : (x == ("__debug__" : Str)) = false := by decide) :
    PE X (.Call (.Name x p) [] [] pos) (tCallS (spD X.K S) (WE W) tNil) := by
  obtain ⟨f, fd, F, b, hm, hk⟩ := D.ex
  refine ⟨fun pins s σ H Q I h => ?_⟩
  refine wpAny_Call_Name_kw (ld_glob I hg hm ?_ hdb)
  refine PySem.W.callWith_K0 I.kIn hk ?_
  exact run_fnS F (hr.mono hj) b (passAt tk σ) I .nil h
end
/-- a def of the text without defaults -/
def fun_of {K : PySem.W.Frag} {x qual : Str} {st : Stmt} {f : Addr} {fd : FuncData} (F : FunD K x qual (defArgs st) (defBody st) (defScope st) [] [] f fd) : Fun K x qual st f fd := by
  obtain ⟨oc, od, dV, kV, doc, pm, an, cdv, ct, osl, e, l, c, d, _⟩ := F.ex
  rcases d with ⟨_, rfl⟩ | ⟨z, _⟩
  · exact ⟨⟨oc, od, kV, doc, pm, an, cdv, ct, osl, e, l, c⟩, F.kp⟩
  · exact absurd rfl z
/-! ### the facts -/
/-- an error class and its __init__ -/
structure EDef where
  x : Str
  qual : Str
  params : Arguments
  body : List Stmt
  scope : Scope
  fs : List Str
abbrev FnE : Type := Option (Str × Str × Arguments × FuncBody × Scope × Addr × Addr)
def fnE (K : PySem.W.Frag) (x : Str) : FnE := match K.lookup (He.ma K (He.ga K x) "__init__") with
  | some ⟨_, _, .func fd, _⟩ => some (fd.name, fd.qualname, fd.params, fd.body, fd.scope, fd.globals, fd.builtins)
  | _ => none
def EDef.val (d : EDef) : FnE := some ("__init__", d.qual, d.params, .stmts d.body, d.scope, mainGlobals, builtinsNs)
def clsB (K : PySem.W.Frag) (C : Addr) : Bool := match K.lookup C with
  | some ⟨.type "type", _, .cls cd, sl⟩ => (match cd.mro, sl.toList with
    | .ref C' :: bm, [_, _, _, _, some (.builtin n), _] => C' == C && n == "ValueError.__new__" && !cd.hasDel && cd.hasDict && HandSPX.refsVE bm && He.eqO (PySem.W.alongIn K "__init__" bm) (some (some (.builtin "ValueError.__init__")))
    | _, _ => false)
  | _ => false
theorem clsB_ok {K : PySem.W.Frag} {C : Addr} (q : clsB K C = true) : ∃ nm qn N bs bm sn sub ab col dd k0 k1 k2 k3 k5, K.lookup C = some (excClassObj nm qn C N bs bm true sn sub ab col dd k0 k1 k2 k3 k5 "ValueError.__new__") ∧ HandSPX.refsVE bm = true ∧
    PySem.W.alongIn K "__init__" ((Value.ref C :: bm).dropWhile (· != .ref C) |>.drop 1) = some (some (.builtin "ValueError.__init__")) := by
  unfold clsB at q
  split at q
  · rename_i dd cd sl ho
    split at q
    · rename_i C' bm k0 k1 k2 k3 n k5 hm hs
      simp only [Bool.and_eq_true, beq_iff_eq, Bool.not_eq_true'] at q
      obtain ⟨⟨⟨⟨⟨rfl, rfl⟩, hdel⟩, hdct⟩, hr⟩, hal⟩ := q
      obtain ⟨nm, bs, mro, ns, qn, hd, sn, sub, ab, col, del⟩ := cd
      dsimp only at hm hdel hdct
      subst hm hdel hdct
      have hsl : sl = #[k0, k1, k2, k3, some (.builtin "ValueError.__new__"), k5] := by
        obtain ⟨l⟩ := sl
        simp only at hs
        rw [hs]
      subst hsl
      exact ⟨nm, qn, ns, bs, bm, sn, sub, ab, col, dd, k0, k1, k2, k3, k5, ho, hr, by rw [ESX.drop_own]; exact He.eqO_ok hal⟩
    · cases q
  · cases q
def initB (file : Str) (K : PySem.W.Frag) (C fI : Addr) (qual : Str) : Bool := match K.lookup fI with
  | some ⟨_, _, .func fd, _⟩ => (match fd.closure, fd.code, fd.defaults, fd.kwdefaults with
    | [(n, cc)], .ref cda, .none, .none => decide (n = "__class__") && PySem.W.codeIn K (.ref cda) qual && (match K.lookup cc with
        | some ⟨_, _, .cell (some (.ref D)), _⟩ => D == C
        | _ => false) && (match K.lookup cda with
        | some ⟨_, _, .fields vs, _⟩ => (match (vs : Array Value)[2]? with
          | some (Value.str f _) => decide (f = file)
          | _ => false)
        | _ => false)
    | _, _, _, _ => false)
  | _ => false
theorem init_ok {prog : Program} {K : PySem.W.Frag} {x qual : Str} {a : Pos} {fps : List (Str × Pos)} {body : List Stmt} {C : Addr}
    (e : fnE K x = (some ("__init__", qual, ER.eArgs a fps, FuncBody.stmts body, ER.eScope (ER.nmz fps), mainGlobals, builtinsNs) : FnE)) (q : initB prog.main.file K C (He.ma K (He.ga K x) "__init__") qual = true) : ER.InitT prog K qual a fps body C (He.ma K (He.ga K x) "__init__") := by
  unfold fnE at e
  unfold initB at q
  cases lk : K.lookup (He.ma K (He.ga K x) "__init__") with
  | none => rw [lk] at e; cases e
  | some o =>
    obtain ⟨oc, od, dt, osl⟩ := o
    rw [lk] at e q
    cases dt with
    | func fd =>
      obtain ⟨n1, n2, n3, n4, n5, n6, n7, n8, n9, n10, n11, n12, n13, n14, n15⟩ := fd
      have e2 : (some (n1, n2, n3, n4, n5, n6, n15) : FnE) = (some ("__init__", qual, ER.eArgs a fps, FuncBody.stmts body, ER.eScope (ER.nmz fps), mainGlobals, builtinsNs) : FnE) := e
      simp only [Option.some.injEq, Prod.mk.injEq] at e2
      obtain ⟨h1, h2, h3, h4, h5, h6, h7⟩ := e2
      subst h1 h2 h3 h4 h5 h6 h7
      dsimp only at q
      split at q
      · rename_i n cc cda
        simp only [Bool.and_eq_true, decide_eq_true_eq] at q
        obtain ⟨⟨⟨rfl, q2⟩, q3⟩, q4⟩ := q
        split at q3
        · rename_i c1 c2 D c4 hcell
          have : D = C := by simpa using q3
          subst this
          split at q4
          · rename_i e1 e2 vs e4 hcode
            split at q4
            · rename_i f tf hv
              have : f = prog.main.file := by simpa using q4
              subst this
              exact ⟨_, _, _, _, _, _, _, _, _, _, _, _, _, _, _, _, _, lk, q2, hcell, hcode, hv⟩
            · cases q4
          · cases q4
        · cases q3
      · cases q
    | _ => cases e
/-- the class itself -/
def errB (prog : Program) (K : PySem.W.Frag) (x qual : Str) (fs : List Str) : Bool :=
  let C := He.ga K x
  let fI := He.ma K C "__init__"
  He.eqO (PySem.W.nsIn K mainGlobals x) (some (some (.ref C))) && (clsB K C && (He.eqO (PySem.W.findIn K (.ref C) "__setattr__") (some (some (.builtin "object.__setattr__"))) && (He.eqO (PySem.W.findIn K (.ref C) "__getattribute__") (some (some (.builtin "BaseException.__getattribute__"))) &&
  (He.eqO (PySem.W.findIn K (.ref C) "__getattr__") (some none) && ((fs.all fun f => He.eqO (PySem.W.findIn K (.ref C) f) (some none)) && (He.eqO (PySem.W.findIn K (.ref C) "__init__") (some (some (.ref fI))) && (decide (PySem.W.typeIn K (.ref fI) = some (.type "function")) &&
  (PySem.W.keepIn K (.ref C) && (decide (PySem.W.subIn K (.ref C) (.type "BaseException") = some true) && (decide (PySem.W.typeIn K (.ref C) = some (.type "type")) && (PySem.W.hasDictIn K C && (He.eqO (PySem.W.nsIn K mainGlobals "super") (some none) &&
  (!(prog.main.scope.names.lookup ("super" : Str)).isSome && (He.eqO (PySem.W.nsIn K cStatics "thirdparty.any") (some none) && initB prog.main.file K C fI qual))))))))))))))
theorem err_ok {prog : Program} {K : PySem.W.Frag} {h : Heap} {mg : Str → Option Value} {x qual : Str} {fs : List Str} (X : K.In h) (G : h.Ns mainGlobals mg) (q : errB prog K x qual fs = true) :
    ER.ErrT prog K mg x fs (He.ga K x) (He.ma K (He.ga K x) "__init__") ∧ initB prog.main.file K (He.ga K x) (He.ma K (He.ga K x) "__init__") qual = true := by
  unfold errB at q
  simp only [Bool.and_eq_true, List.all_eq_true, decide_eq_true_eq, Bool.not_eq_true'] at q
  obtain ⟨q1, q2, q3, q4, q5, q6, q7, q8, q9, q10, q11, q12, q13, q14, q15, q16⟩ := q
  exact ⟨⟨PySem.W.mg_of X G (He.eqO_ok q1), clsB_ok q2, He.eqO_ok q3, He.eqO_ok q4, He.eqO_ok q5, fun f hf => He.eqO_ok (q6 f hf), He.eqO_ok q7, q8, q9, q10, q11, q12, PySem.W.mg_none_of X G (He.eqO_ok q13), q14, He.eqO_ok q15⟩, q16⟩
/-- what a raise of it asks, what its caught instances ask -/
structure ErrK (prog : Program) (K : PySem.W.Frag) (mg : Str → Option Value) (x : Str) (C : Addr) (fs : List Str) : Prop where
  mker : ER.Mker prog K mg C fs
  gC : mg x = some (.ref C)
  kC : PySem.W.keepIn K (.ref C) = true
  exC : PySem.W.subIn K (.ref C) (.type "BaseException") = some true
  tyC : PySem.W.typeIn K (.ref C) = some (.type "type")
  xf : XfC K C
  no : ∀ f ∈ fs, PySem.W.findIn K (.ref C) f = some none
theorem ErrK.at {X : Cx} {x : Str} {C : Addr} {fs : List Str} (E : ErrK X.prog X.K X.mg x C fs) : ErrC X x C fs := ⟨E.mker, E.gC, E.kC, raises_own E.exC E.tyC⟩
theorem errK_of {prog : Program} {K : PySem.W.Frag} {mg : Str → Option Value} {x : Str} {fs : List Str} {C fI : Addr} (T : ER.ErrT prog K mg x fs C fI) (M : ER.Mker prog K mg C fs) : ErrK prog K mg x C fs :=
  ⟨M, T.gC, T.kC, T.exC, T.tyC, ⟨T.ga, T.gg, T.exC, T.hdC⟩, T.noN⟩
def excCB (K : PySem.W.Frag) (D : Addr) : Bool :=
  He.eqO (PySem.W.findIn K (.ref D) "__getattribute__") (some (some (.builtin "BaseException.__getattribute__"))) && (He.eqO (PySem.W.findIn K (.ref D) "__getattr__") (some none) && (decide (PySem.W.subIn K (.ref D) (.type "BaseException") = some true) && (PySem.W.hasDictIn K D &&
  (He.eqO (PySem.W.findIn K (.ref D) "__class__") (some (some (.builtin "object.__class__"))) && (He.eqO (PySem.W.specialIn K (.builtin "object.__class__") "__get__") (some (some (.builtin "getset_descriptor.__get__"))) && (decide (PySem.W.takesIn K (.builtin "object.__class__") = some true) && decide (PySem.W.mroIn K D (.type "object") = some true)))))))
theorem excCB_ok {K : PySem.W.Frag} {D : Addr} (q : excCB K D = true) : ExcC K D := by
  unfold excCB at q
  simp only [Bool.and_eq_true, decide_eq_true_eq] at q
  obtain ⟨q1, q2, q3, q4, q5, q6, q7, q8⟩ := q
  exact ⟨He.eqO_ok q1, He.eqO_ok q2, q3, q4, He.eqO_ok q5, He.eqO_ok q6, q7, q8⟩
def insFB (K : PySem.W.Frag) (C : Addr) : Bool :=
  PySem.W.plainGet K C Str.empty && (PySem.W.hasDictIn K C && (PySem.W.plainOver K C && (He.eqO (PySem.W.findIn K (.ref C) "__setattr__") (some (some (.builtin "object.__setattr__"))) &&
  (He.eqO (PySem.W.findIn K (.ref C) "__class__") (some (some (.builtin "object.__class__"))) && (He.eqO (PySem.W.specialIn K (.builtin "object.__class__") "__get__") (some (some (.builtin "getset_descriptor.__get__"))) && (decide (PySem.W.takesIn K (.builtin "object.__class__") = some true) && decide (PySem.W.mroIn K C (.type "object") = some true)))))))
theorem insFB_ok {K : PySem.W.Frag} {C : Addr} (q : insFB K C = true) : InsF K C := by
  unfold insFB at q
  simp only [Bool.and_eq_true, decide_eq_true_eq] at q
  obtain ⟨q1, q2, q3, q4, q5, q6, q7, q8⟩ := q
  exact ⟨⟨q1, q2, q3, He.eqO_ok q4⟩, He.eqO_ok q5, He.eqO_ok q6, q7, q8⟩
/-! ### the Hook -/
abbrev AlX : Type := Bool × List He.FnW × List FnE
def obsX (prog : Program) (fx : PySem.W.Frag → Bool) (fa : List He.Fa) (fn : List He.DefD) (en : List EDef) (K : PySem.W.Frag) : AlX :=
  (fx K && ((fa.all fun f => f.ok K) && ((fn.all fun d => d.ok K) && en.all fun d => errB prog K d.x d.qual d.fs)), fn.map fun d => He.fnW K d.at_, en.map fun d => fnE K d.x)
/-- written out by itself: the kernel must not meet List.map on both sides -/
def valsD : List He.DefD → List He.FnW
  | [] => []
  | d :: r => d.val :: valsD r
def valsE : List EDef → List FnE
  | [] => []
  | d :: r => d.val :: valsE r
theorem valsD_eq : ∀ l : List He.DefD, valsD l = l.map He.DefD.val
  | [] => rfl
  | d :: r => by rw [valsD, valsD_eq r]; rfl
theorem valsE_eq : ∀ l : List EDef, valsE l = l.map EDef.val
  | [] => rfl
  | d :: r => by rw [valsE, valsE_eq r]; rfl
def valX (fn : List He.DefD) (en : List EDef) : AlX := (true, valsD fn, valsE en)
def SaysX (prog : Program) (fx : PySem.W.Frag → Bool) (fa : List He.Fa) (fn : List He.DefD) (en : List EDef) (K : PySem.W.Frag) : Prop := obsX prog fx fa fn en K = valX fn en
def asX (g : Addr → Option Obj) (n : Nat) : List Addr := cStatics :: He.asD g n
def obsXG (n : Nat) (prog : Program) (fx : PySem.W.Frag → Bool) (fa : List He.Fa) (fn : List He.DefD) (en : List EDef) (g : Addr → Option Obj) : AlX := obsX prog fx fa fn en (He.frG g (asX g n))
def hookX (n : Nat) (prog : Program) (fx : PySem.W.Frag → Bool) (fa : List He.Fa) (fn : List He.DefD) (en : List EDef) : PySem.W.Hook where
  α := AlX
  obs := fun s => obsXG n prog fx fa fn en s.heap.get?
  val := fun _ => valX fn en
  says := fun _ h => ∃ K : PySem.W.Frag, K.In h ∧ SaysX prog fx fa fn en K
  of := fun _ _ e => ⟨_, He.frG_in, e⟩
  keeps := fun _ _ _ ⟨K, hK, c⟩ k => ⟨K, PySem.W.Frag.In.keeps hK k, c⟩
theorem obsXG_eq {n : Nat} {prog : Program} {fx : PySem.W.Frag → Bool} {fa : List He.Fa} {fn : List He.DefD} {en : List EDef} {g : Addr → Option Obj} {s : Shared} (h : ∀ a, g a = s.heap.get? a) : obsXG n prog fx fa fn en g = (hookX n prog fx fa fn en).obs s := by
  have e : g = s.heap.get? := funext h
  rw [e] <;> rfl
section
variable {prog : Program} {fx : PySem.W.Frag → Bool} {fa : List He.Fa} {fn : List He.DefD} {en : List EDef} {K : PySem.W.Frag}
theorem SaysX.parts (c : SaysX prog fx fa fn en K) : fx K = true ∧ (fa.all fun f => f.ok K) = true ∧ (fn.all fun d => d.ok K) = true ∧ (en.all fun d => errB prog K d.x d.qual d.fs) = true := by
  have z : (fx K && ((fa.all fun f => f.ok K) && ((fn.all fun d => d.ok K) && en.all fun d => errB prog K d.x d.qual d.fs))) = true := congrArg (fun z : AlX => z.1) c
  rw [Bool.and_eq_true, Bool.and_eq_true, Bool.and_eq_true] at z
  exact z
theorem SaysX.own (c : SaysX prog fx fa fn en K) : fx K = true := c.parts.1
theorem SaysX.fact (c : SaysX prog fx fa fn en K) (i : Nat) {f : He.Fa} (h : fa[i]? = some f := by rfl) : f.ok K = true := List.all_eq_true.mp c.parts.2.1 f (List.mem_of_getElem? h)
theorem SaysX.def_ (c : SaysX prog fx fa fn en K) (i : Nat) {d : He.DefD} (h : fn[i]? = some d := by rfl) : ∃ fd, FunD K d.name d.qual d.params d.body d.scope (d.dvs K) (d.kws K) (He.fAd K d.at_) fd := by
  have e : fn.map (fun d => He.fnW K d.at_) = fn.map He.DefD.val := (congrArg (fun z : AlX => z.2.1) c).trans (valsD_eq fn)
  have e2 : (fn.map fun d => He.fnW K d.at_)[i]? = (fn.map He.DefD.val)[i]? := by rw [e]
  rw [List.getElem?_map, List.getElem?_map, h] at e2
  exact He.DefD.funD (Option.some.inj e2) (List.all_eq_true.mp c.parts.2.2.1 d (List.mem_of_getElem? h))
theorem SaysX.err (c : SaysX prog fx fa fn en K) (i : Nat) {d : EDef} (h : en[i]? = some d := by rfl) : fnE K d.x = d.val ∧ errB prog K d.x d.qual d.fs = true := by
  have e : en.map (fun d => fnE K d.x) = en.map EDef.val := (congrArg (fun z : AlX => z.2.2) c).trans (valsE_eq en)
  have e2 : (en.map fun d => fnE K d.x)[i]? = (en.map EDef.val)[i]? := by rw [e]
  rw [List.getElem?_map, List.getElem?_map, h] at e2
  exact ⟨Option.some.inj e2, List.all_eq_true.mp c.parts.2.2.2 d (List.mem_of_getElem? h)⟩
end
/-! ### the law -/
/-- the law's own promise: it gives True whatever the script is -/
def SLaw : DSp := fun args R _ => ∃ ns : List Int, args = [.fr (.scr ns)] ∧ ns.length ≤ 63 ∧ ∀ args', R (.fr (.bl true)) args'
theorem law_sp {K : PySem.W.Frag} {H : Hp} {a : Addr} {ns : List Int} (hl : ns.length ≤ 63) (hS : SqL K H a (ns.map V.int)) : spD K SLaw [.ref a] H (fun v _ => v = .bl true) fun _ _ _ => False := by
  refine ⟨fun _ => none, H, [.fr (.scr ns)], fun res _ => res = .fr (.bl true), fun _ _ _ => False, ⟨Same.refl _, (fun b o e => by cases e), (fun b e => absurd rfl e), .yes (.fr (.scr hS)) .nil, (by simp [fps, fpO, Sl.fp]), (by simp [fps, fpO, Sl.fp]), (by simp [fps, fpO, Sl.fp]), (fun b o e => by cases e)⟩, ⟨ns, rfl, hl, fun _ => rfl⟩, ?_, ?_⟩
  · intro v G2 H2 res args' s2 S2 e
    subst e
    have h := S2.head
    cases h with | fr r => cases r; rfl
  · intro C d fs G2 H2 args' s2 S2 r e
    exact e.elim
theorem cx_none {P : Program} {w : World} {H : Hp} {s : Shared} {e : Value} {s' : Shared} (h : L2.CX P w [] H s (fun _ _ _ => False) e s') : False := by
  obtain ⟨_, _, _, _, _, _, _, _, _, _, _, _, z⟩ := h
  exact z
/-- a law's end: what it asks of the law's own def -/
theorem end_of {l : PySem.W.OpenLaw} {k n : Nat} {q : Program} {loose : List Str} {XP : (Str → Option Value) → Heap → Prop} {YP : World → Heap → Prop} {d : DefRec} (hn : l.most = some n) (hn2 : n ≤ 63) (hdf : d.params.defaults = []) (hr : Room k callerA)
    (F : ∀ (w : World) (mg : Str → Option Value) (fa : Addr) (h : Heap), YP w h → h.Ns mainGlobals mg → mg d.name = some (.ref fa) →
      ∃ (K : PySem.W.Frag) (fd : FuncData), K.In h ∧ (∀ (s : Shared) (u : Value), BindsTo s fd ⟨[u], []⟩ [("_law_script", u)]) ∧
        ∀ base : Heap, FnOk l.prog w K mg base (L2.CX l.prog w) k fa fd ["_law_script"] (spD K SLaw)) :
    PySem.W.WalkO q loose XP YP l.row.toRowW d [] (fun f vs => PySem.call f vs) := by
  refine Att.attach_call hn hdf fun w s0 s1 mg mb fa o pm cd doc a vs ns G Y ho hd hcd hmg hobj hints hlen hg => ?_
  obtain ⟨K, fd, KX, hb, hF⟩ := F w mg fa _ Y G.T.g hmg
  exact law_call KX G.T.g G.T.b G.T.builtins G.T.nolimit hg hobj hints (Nat.le_trans hlen (Nat.le_trans hn2 (by decide))) hr (fun base _ _ => hF base) hb (fun H hO hS => law_sp (Nat.le_trans hlen hn2) hS) fun H e s' z => cx_none z
end DL

/-! DL, part h: rules for the driver. -/
namespace L2
open PySem PySem.Spec
/-! readings that carry a mark for the driver -/
def tAsgO (te : TE) (g : TG) : TS := tAsg te g
def tRetO (te : TE) : TS := tRet te
def tCall1 (_ : Nat) := @tCallS
end L2
namespace DL
open PySem PySem.Spec L2
section
variable {K : PySem.W.Frag} {W : WX} {Γ : Gm} {X : XP} {P : Dt → Gm → Prop} {te ta tb : TE} {i : Nat} {PP : Po} {R : Dt → Prop}
/-! ### freezing in place -/
theorem Sta.frzAt {O G H : Hp} {σ : St} {s : Sl} {d : Dt} (S : Sta K O G H σ Γ) (hi : Γ[i]? = some (some s)) (f : Frz s d) : ∃ G2, Same G G2 ∧ Sta K O G2 H σ (Γ.set i (some (.fr d))) := by
  obtain ⟨v, e, o⟩ := S.get hi
  obtain ⟨m1, m2⟩ := fps_part hi S.nd
  have il : i < σ.length := by
    rcases Nat.lt_or_ge i σ.length with z | z
    · exact z
    · rw [List.getElem?_eq_none z] at e; cases e
  have Sf := S.forget i (some v)
  have es : σ.set i (some v) = σ := by
    apply List.ext_getElem?
    intro j
    rw [List.getElem?_set]
    by_cases hj : i = j
    · subst hj; rw [if_pos rfl, e, if_pos il]
    · rw [if_neg hj]
  rw [es] at Sf
  have Sp := Sf.push o m1 (fun a ha => S.ng a (mem_fps hi a ha)) (fun a ha => S.no a (mem_fps hi a ha)) m2
  obtain ⟨G2, s2, S2, r⟩ := Sp.freeze1 f
  have S3 := (S2.pushF r).put i
  rw [es, List.set_set] at S3
  exact ⟨G2, s2, S3⟩
theorem ev_varF {s : Sl} {d : Dt} (h : Γ[i]? = some (some s)) (f : Frz s d) (p : P d (Γ.set i (some (.fr d)))) : Ev K W (tVar i) Γ P X := fun O G H σ Q S q _ => by
  obtain ⟨G2, s2, S2⟩ := S.frzAt h f
  have il : i < Γ.length := by
    rcases Nat.lt_or_ge i Γ.length with z | z
    · exact z
    · rw [List.getElem?_eq_none z] at h; cases h
  obtain ⟨v, e, r⟩ := S2.getF (i := i) (d := d) (by rw [List.getElem?_set_self il])
  exact ⟨v, e, q v G2 H _ d s2 S2 r p⟩
theorem go_frz {t : TS} {s : Sl} {d : Dt} (h : Γ[i]? = some (some s)) (f : Frz s d) (g : Go K W t (Γ.set i (some (.fr d))) PP) : Go K W t Γ PP := fun O G H σ D S a b c dd e => by
  obtain ⟨G2, s2, S2⟩ := S.frzAt h f
  exact g O G2 H σ D S2 (fun G3 H3 σ3 Γ3 s3 S3 p => a G3 H3 σ3 Γ3 (s2.trans s3) S3 p) (fun v G3 H3 σ3 Γ3 z s3 S3 p => b v G3 H3 σ3 Γ3 z (s2.trans s3) S3 p) (fun G3 H3 σ3 Γ3 s3 S3 p => c G3 H3 σ3 Γ3 (s2.trans s3) S3 p) (fun G3 H3 σ3 Γ3 s3 S3 p => dd G3 H3 σ3 Γ3 (s2.trans s3) S3 p) fun σ3 => (e σ3).mono s2
/-- a new list of which only φ is told -/
theorem evo_pack {P : Sl → Gm → Prop} (φ : List Dt → Prop) (h : EvO K W te Γ (fun s Γ1 => ∃ a ds, s = .ol a ds ∧ φ ds ∧ P (.os a φ) Γ1) X) : EvO K W te Γ P X := fun O G H σ Q S q x =>
  h O G H σ _ S (fun v G2 H2 Γ2 s s1 S2 ⟨a, ds, e, hp, p⟩ => by
    subst e
    refine q v G2 H2 Γ2 (.os a φ) s1 ?_ p
    have hd := S2.head
    refine ⟨S2.g, S2.o, S2.d, ?_, S2.nd, S2.ng, S2.no, S2.om⟩
    cases hd with
    | ol h1 h2 => exact .yes (.os h1 h2 hp) S2.tail.sl) x
/-- the state in the middle is told -/
theorem go_mid {t1 t2 : TS} (M : Gm → Prop) (h1 : Go K W t1 Γ { PP with nx := M }) (h2 : ∀ Γ1, M Γ1 → Go K W t2 Γ1 PP) : Go K W (tSeq t1 t2) Γ PP :=
  go_seq (h1.imp (fun _ p => h2 _ p) (fun _ _ p => p) (fun _ _ _ p => p) (fun _ p => p) (fun _ p => p))
theorem go_setO' (h : EvO K W te Γ (fun s Γ1 => PP.nx (Γ1.set i (some s))) PP.xc) : Go K W (tAsgO te (gName i)) Γ PP := go_set h
/-- a call's result, whatever it is, into a slot -/
theorem go_setC {S : DSp} {t : TA} (h : EvO K W (tCallS (spD K S) (WE W) t) Γ (fun s Γ1 => PP.nx (Γ1.set i (some s))) PP.xc) : Go K W (tAsg (tCallS (spD K S) (WE W) t) (gName i)) Γ PP := go_set h
/-! ### leaves -/
theorem l_sub {i j : Int} (h : R (.int (i - j))) : dI0 (fun i j => .int (i - j)) (.int i) (.int j) R := ⟨_, _, rfl, rfl, h⟩
theorem l_mul {i j : Int} (c : CMul i j) (h : R (.int (i * j))) : dI CMul (fun i j => .int (i * j)) (.int i) (.int j) R := ⟨_, _, rfl, rfl, c, h⟩
theorem l_fdiv {i j : Int} (c : CDiv i j) (h : R (.int (i / j))) : dI CDiv (fun i j => .int (i / j)) (.int i) (.int j) R := ⟨_, _, rfl, rfl, c, h⟩
theorem l_mod {i j : Int} (c : 0 < j) (h : R (.int (i % j))) : dI (fun _ j => 0 < j) (fun i j => .int (i % j)) (.int i) (.int j) R := ⟨_, _, rfl, rfl, c, h⟩
theorem l_pow {i j : Int} (c : CPow i j) (h : R (.int (i ^ j.toNat))) : dI CPow (fun i j => .int (i ^ j.toNat)) (.int i) (.int j) R := ⟨_, _, rfl, rfl, c, h⟩
theorem l_lt {i j : Int} (h : R (.bl (decide (i < j)))) : dI0 (fun i j => .bl (decide (i < j))) (.int i) (.int j) R := ⟨_, _, rfl, rfl, h⟩
theorem l_le {i j : Int} (h : R (.bl (decide (i ≤ j)))) : dI0 (fun i j => .bl (decide (i ≤ j))) (.int i) (.int j) R := ⟨_, _, rfl, rfl, h⟩
theorem l_gt {i j : Int} (h : R (.bl (decide (j < i)))) : dI0 (fun i j => .bl (decide (j < i))) (.int i) (.int j) R := ⟨_, _, rfl, rfl, h⟩
theorem l_ge {i j : Int} (h : R (.bl (decide (j ≤ i)))) : dI0 (fun i j => .bl (decide (j ≤ i))) (.int i) (.int j) R := ⟨_, _, rfl, rfl, h⟩
theorem l_addI {i j : Int} (h : R (.int (i + j))) : dAdd (.int i) (.int j) R := h
theorem l_addS {i j : Str} (c : i.length + j.length ≤ sizeLine) (h : R (.str (i ++ j))) : dAdd (.str i) (.str j) R := ⟨c, h⟩
theorem l_addL {i j : List Dt} (c : i.length + j.length ≤ 1000000) (h : R (.lst (i ++ j))) : dAdd (.lst i) (.lst j) R := ⟨c, h⟩
theorem l_addT {i j : List Dt} (c : i.length + j.length ≤ 1000000) (h : R (.tup (i ++ j))) : dAdd (.tup i) (.tup j) R := ⟨c, h⟩
theorem l_eqI {i j : Int} (h : R (.bl (decide (i = j)))) : dEq (.int i) (.int j) R := .inl ⟨_, rfl, h⟩
theorem l_eqS {i j : Str} (h : R (.bl (decide (i = j)))) : dEq (.str i) (.str j) R := .inl ⟨_, rfl, h⟩
theorem l_eqB {i j : Bool} (h : R (.bl (decide (i = j)))) : dEq (.bl i) (.bl j) R := .inl ⟨_, rfl, h⟩
theorem l_neI {i j : Int} (h : R (.bl (!decide (i = j)))) : dNe (.int i) (.int j) R := .inl ⟨_, rfl, h⟩
theorem l_neS {i j : Str} (h : R (.bl (!decide (i = j)))) : dNe (.str i) (.str j) R := .inl ⟨_, rfl, h⟩
theorem l_neB {i j : Bool} (h : R (.bl (!decide (i = j)))) : dNe (.bl i) (.bl j) R := .inl ⟨_, rfl, h⟩
theorem l_eqX {x y : Dt} {b : Bool} (e : eqS x y = some b) (h : R (.bl b)) : dEq x y R := .inl ⟨_, e, h⟩
theorem l_neX {x y : Dt} {b : Bool} (e : eqS x y = some b) (h : R (.bl (!b))) : dNe x y R := .inl ⟨_, e, h⟩
theorem l_isN (h : R (.bl true)) : dIs .non .non R := ⟨rfl, h⟩
theorem l_isnN (h : R (.bl false)) : dIsnt .non .non R := ⟨rfl, h⟩
theorem l_is {x : Dt} (h : R (.bl (isNon x))) : dIs x .non R := ⟨rfl, h⟩
theorem l_isnt {x : Dt} (h : R (.bl (!isNon x))) : dIsnt x .non R := ⟨rfl, h⟩
theorem l_lenL {ds : List Dt} (h : R (.int ds.length)) : dLen [.lst ds] R := h
theorem l_lenT {ds : List Dt} (h : R (.int ds.length)) : dLen [.tup ds] R := h
theorem l_lenC {ds : List Int} (h : R (.int ds.length)) : dLen [.scr ds] R := h
theorem l_lenS {z : Str} (c : z.length ≤ sizeLine) (h : R (.int z.length)) : dLen [.str z] R := ⟨c, h⟩
theorem l_abs {i : Int} (h : R (.int (if i < 0 then -i else i))) : dAbs [.int i] R := ⟨_, rfl, h⟩
theorem l_max {i j : Int} (h : R (.int (if j > i then j else i))) : dMax [.int i, .int j] R := ⟨_, _, rfl, h⟩
theorem l_min {i j : Int} (h : R (.int (if j < i then j else i))) : dMin [.int i, .int j] R := ⟨_, _, rfl, h⟩
theorem l_intI {i : Int} (h : R (.int i)) : dInt [.int i] R := h
theorem l_intB {b : Bool} (h : R (.int (if b then 1 else 0))) : dInt [.bl b] R := h
theorem l_intS {z : Str} {n : Int} (e : PySem.intText? z = some n) (l : z.length ≤ 640) (h : R (.int n)) : dInt [.str z] R := ⟨n, e, l, h⟩
theorem l_str {i : Int} (l : i.natAbs.log2 < 1920) (h : R (.str (toString i))) : dStr [.int i] R := ⟨_, rfl, l, h⟩
theorem l_listL {ds : List Dt} (h : R (.lst ds)) : dList [.lst ds] R := h
theorem l_listT {ds : List Dt} (h : R (.lst ds)) : dList [.tup ds] R := h
theorem l_tupleL {ds : List Dt} (h : R (.tup ds)) : dTuple [.lst ds] R := h
theorem l_tupleT {ds : List Dt} (h : R (.tup ds)) : dTuple [.tup ds] R := h
theorem l_inS {c : Nat} {z : Str} (h : R (.bl (decide (c ∈ z.cps.toList)))) : dIn false (.str ⟨#[c]⟩) (.str z) R := ⟨c, rfl, by simpa using h⟩
theorem l_ninS {c : Nat} {z : Str} (h : R (.bl (!decide (c ∈ z.cps.toList)))) : dIn true (.str ⟨#[c]⟩) (.str z) R := ⟨c, rfl, by simpa using h⟩
theorem l_ixL {ds : List Dt} {j : Int} {v : Dt} (e : atI ds j = some v) (h : R v) : dIx (.lst ds) (.int j) R := ⟨_, _, rfl, e, h⟩
theorem l_ixT {ds : List Dt} {j : Int} {v : Dt} (e : atI ds j = some v) (h : R v) : dIx (.tup ds) (.int j) R := ⟨_, _, rfl, e, h⟩
theorem l_ixC {ds : List Int} {j : Int} {v : Int} (e : atI ds j = some v) (h : R (.int v)) : dIx (.scr ds) (.int j) R := ⟨_, _, rfl, e, h⟩
theorem l_ixS {z : Str} {j : Int} {c : Nat} (l : z.length ≤ sizeLine) (e : atI z.cps.toList j = some c) (h : R (.str ⟨#[c]⟩)) : dIx (.str z) (.int j) R := ⟨_, _, rfl, l, e, h⟩
theorem l_slL {ds : List Dt} {lo hi : Option Int} (h : R (.lst (cutD ds lo hi))) : dSl (.lst ds) lo hi R := h
theorem l_slT {ds : List Dt} {lo hi : Option Int} (h : R (.tup (cutD ds lo hi))) : dSl (.tup ds) lo hi R := h
theorem l_slS {z : Str} {lo hi : Option Int} (l : z.length ≤ sizeLine) (h : R (.str (cutS z lo hi))) : dSl (.str z) lo hi R := ⟨l, h⟩
theorem l_isi {x c : Dt} {t u : Value} {b : Bool} (hc : ClsD c u) (ht : TyD K x t) (hk : PySem.W.kitOne K t u = some b) (h : R (.bl b)) : dIsi K [x, c] R := ⟨_, _, _, _, _, rfl, hc, ht, hk, h⟩
theorem l_find {z y : Str} {PB : Int → Prop} (h : PB (Txt.find z y)) : PB (Txt.find z y) := h
/-! ### branches -/
theorem br_tt {A B : Prop} (h : A) : (true = true → A) ∧ (true = false → B) := ⟨fun _ => h, fun z => nomatch z⟩
theorem br_ff {A B : Prop} (h : B) : (false = true → A) ∧ (false = false → B) := ⟨fun z => (nomatch z), fun _ => h⟩
theorem br_dec {p A B : Prop} [Decidable p] (h1 : p → A) (h2 : ¬ p → B) : (decide p = true → A) ∧ (decide p = false → B) := ⟨fun z => h1 (of_decide_eq_true z), fun z => h2 (of_decide_eq_false z)⟩
theorem br_nd {p A B : Prop} [Decidable p] (h1 : ¬ p → A) (h2 : p → B) : ((!decide p) = true → A) ∧ ((!decide p) = false → B) := ⟨fun z => h1 (by simpa using z), fun z => h2 (by simpa using z)⟩
theorem br_tf {A B : Prop} (h : A) : (true = false → B) ∧ (true = true → A) := ⟨fun z => (nomatch z), fun _ => h⟩
theorem br_ft {A B : Prop} (h : B) : (false = false → B) ∧ (false = true → A) := ⟨fun _ => h, fun z => nomatch z⟩
theorem br_decO {p A B : Prop} [Decidable p] (h1 : p → A) (h2 : ¬ p → B) : (decide p = false → B) ∧ (decide p = true → A) := ⟨fun z => h2 (of_decide_eq_false z), fun z => h1 (of_decide_eq_true z)⟩
theorem br_ndO {p A B : Prop} [Decidable p] (h1 : ¬ p → A) (h2 : p → B) : ((!decide p) = false → B) ∧ ((!decide p) = true → A) := ⟨fun z => h2 (by simpa using z), fun z => h1 (by simpa using z)⟩
theorem br_g {b : Bool} {A B : Prop} (h1 : b = true → A) (h2 : b = false → B) : (b = true → A) ∧ (b = false → B) := ⟨h1, h2⟩
theorem br_gO {b : Bool} {A B : Prop} (h1 : b = true → A) (h2 : b = false → B) : (b = false → B) ∧ (b = true → A) := ⟨h2, h1⟩
/-- the draw's state -/
def St4 (ds : List Dt) : Prop := ∃ a b c k : Int, ds = [.int a, .int b, .int c, .int k]
theorem St4.mk (a b c k : Int) : St4 [.int a, .int b, .int c, .int k] := ⟨a, b, c, k, rfl⟩
end
/-! ### the marks -/
theorem mkO {X : Cx} {s : Stmt} {te : TE} {g : TG} (h : PS X s (tAsg te g)) : PS X s (tAsgO te g) := h
theorem mkR {X : Cx} {s : Stmt} {te : TE} (h : PS X s (tRet te)) : PS X s (tRetO te) := h
theorem mk1 {X : Cx} {e : Expr} (i : Nat) {sp : Sp} {W : WX} {t : TA} (h : PE X e (tCallS sp (WE W) t)) : PE X e (tCall1 i sp (WE W) t) := h
section
variable {K : PySem.W.Frag} {W : WX} {Γ : Gm} {X : XP} {P : Dt → Gm → Prop} {te ta tb : TE} {i : Nat} {PP : Po}
theorem go_retO (h : EvO K W te Γ (fun s Γ1 => PP.rt s Γ1) PP.xc) : Go K W (tRetO te) Γ PP := go_ret h
theorem go_retF (h : Ev K W te Γ (fun d Γ1 => PP.rt (.fr d) Γ1) PP.xc) : Go K W (tRet te) Γ PP := go_ret (evo_of h)
theorem ec1 {S : DSp} {t : TA} {P : Sl → Gm → Prop} (h : EvB K W i t Γ (fun ds es Γ1 => ∃ s, Γ1[i]? = some (some s) ∧ S (ds.map .fr ++ s :: es.map .fr) (fun res args' => ∃ s', args' = ds.map .fr ++ s' :: es.map .fr ∧ P res (Γ1.set i (some s')))
    (fun C fs args' => ∃ s', args' = ds.map .fr ++ s' :: es.map .fr ∧ X C fs (Γ1.set i (some s')))) X) : EvO K W (tCall1 i (spD K S) (WE W) t) Γ P X := evo_call1 h
theorem go_setC1 {S : DSp} {t : TA} {j : Nat} (h : EvO K W (tCall1 j (spD K S) (WE W) t) Γ (fun s Γ1 => PP.nx (Γ1.set i (some s))) PP.xc) : Go K W (tAsg (tCall1 j (spD K S) (WE W) t) (gName i)) Γ PP := go_set h
theorem ev_call0 {S : DSp} {t : TA} (h : EvO K W (tCallS (spD K S) (WE W) t) Γ (fun s Γ2 => ∃ d, Frz s d ∧ P d Γ2) X) : Ev K W (tCallS (spD K S) (WE W) t) Γ P X := ev_frz h
theorem ev_call1 {S : DSp} {t : TA} {j : Nat} (h : EvO K W (tCall1 j (spD K S) (WE W) t) Γ (fun s Γ2 => ∃ d, Frz s d ∧ P d Γ2) X) : Ev K W (tCall1 j (spD K S) (WE W) t) Γ P X := ev_frz h
end
section
variable {K : PySem.W.Frag} {W : WX} {Γ : Gm} {P : Dt → Gm → Prop} {te ta tb : TE} {i : Nat} {nx : Gm → Prop} {rt : Sl → Gm → Prop} {xc : XP} {bk ct : Gm → Prop} {t1 t2 : TS} {tt : TT} {g : TG} {X : XP}
theorem g_start {t : TS} {args : List Sl} {R : Sl → List Sl → Prop} {Y : Addr → List (Str × Dt) → List Sl → Prop} (h : Go K W t Γ ⟨fun Γ2 => ∃ args', Back args Γ2 args' ∧ R (.fr .non) args', fun s Γ2 => ∃ args', Back args Γ2 args' ∧ R s args', fun C fs Γ2 => ∃ args', Back args Γ2 args' ∧ Y C fs args', fun _ => False, fun _ => False⟩) : Go K W t Γ (poOf args R Y) := h
theorem g_seq (h : Go K W t1 Γ ⟨fun Γ1 => Go K W t2 Γ1 ⟨nx, rt, xc, bk, ct⟩, rt, xc, bk, ct⟩) : Go K W (tSeq t1 t2) Γ ⟨nx, rt, xc, bk, ct⟩ := go_seq h
theorem g_mid (M : Gm → Prop) (h1 : Go K W t1 Γ ⟨M, rt, xc, bk, ct⟩) (h2 : ∀ Γ1, M Γ1 → Go K W t2 Γ1 ⟨nx, rt, xc, bk, ct⟩) : Go K W (tSeq t1 t2) Γ ⟨nx, rt, xc, bk, ct⟩ := go_mid M h1 h2
theorem g_next (h : nx Γ) : Go K W tNext Γ ⟨nx, rt, xc, bk, ct⟩ := go_next h
theorem g_break (h : bk Γ) : Go K W tBreak Γ ⟨nx, rt, xc, bk, ct⟩ := go_break h
theorem g_cont (h : ct Γ) : Go K W tCont Γ ⟨nx, rt, xc, bk, ct⟩ := go_cont h
theorem g_if (h : EvT K W tt Γ (fun b Γ1 => (b = true → Go K W t1 Γ1 ⟨nx, rt, xc, bk, ct⟩) ∧ (b = false → Go K W t2 Γ1 ⟨nx, rt, xc, bk, ct⟩)) xc) : Go K W (tIfS tt t1 t2) Γ ⟨nx, rt, xc, bk, ct⟩ := go_if h
theorem g_setF (h : Ev K W te Γ (fun d Γ1 => nx (Γ1.set i (some (.fr d)))) xc) : Go K W (tAsg te (gName i)) Γ ⟨nx, rt, xc, bk, ct⟩ := go_setF h
theorem g_setO (h : EvO K W te Γ (fun s Γ1 => nx (Γ1.set i (some s))) xc) : Go K W (tAsgO te (gName i)) Γ ⟨nx, rt, xc, bk, ct⟩ := go_set h
theorem g_setC {S : DSp} {t : TA} (h : EvO K W (tCallS (spD K S) (WE W) t) Γ (fun s Γ1 => nx (Γ1.set i (some s))) xc) : Go K W (tAsg (tCallS (spD K S) (WE W) t) (gName i)) Γ ⟨nx, rt, xc, bk, ct⟩ := go_set h
theorem g_setC1 {S : DSp} {t : TA} {j : Nat} (h : EvO K W (tCall1 j (spD K S) (WE W) t) Γ (fun s Γ1 => nx (Γ1.set i (some s))) xc) : Go K W (tAsg (tCall1 j (spD K S) (WE W) t) (gName i)) Γ ⟨nx, rt, xc, bk, ct⟩ := go_set h
theorem g_sub {ti : TE} (h : Ev K W te Γ (fun v Γ1 => ∃ a ds, Γ1[i]? = some (some (.ol a ds)) ∧ Ev K W ti Γ1 (fun y Γ2 => ∃ a ds k j, Γ2[i]? = some (some (.ol a ds)) ∧ y = .int k ∧ ixN ds.length k = some j ∧ nx (Γ2.set i (some (.ol a (ds.set j v))))) xc) xc) :
    Go K W (tAsg te (gSub (tVar i) ti rSetL)) Γ ⟨nx, rt, xc, bk, ct⟩ := go_setO (a0 := 0) (ds0 := []) h
theorem g_asg (h : Ev K W te Γ (fun d Γ1 => GoG K W g d Γ1 nx xc) xc) : Go K W (tAsg te g) Γ ⟨nx, rt, xc, bk, ct⟩ := go_asg h
theorem g_drop (h : EvO K W te Γ (fun _ Γ1 => nx Γ1) xc) : Go K W (tDrop te) Γ ⟨nx, rt, xc, bk, ct⟩ := go_drop h
theorem g_append {a0 : Addr} {ds0 : List Dt} (hi : Γ[i]? = some (some (.ol a0 ds0))) (h : Ev K W te Γ (fun v Γ1 => ∃ a ds, Γ1[i]? = some (some (.ol a ds)) ∧ ds.length < 1000000 ∧ nx (Γ1.set i (some (.ol a (ds ++ [v]))))) xc) :
    Go K W (tDrop (tBM K "list" rAppend (tVar i) (tCons te tNil))) Γ ⟨nx, rt, xc, bk, ct⟩ := go_append hi h
theorem g_extend {a0 : Addr} {ds0 : List Dt} (hi : Γ[i]? = some (some (.ol a0 ds0))) (h : Ev K W te Γ (fun v Γ1 => ∃ a ds es, v = .lst es ∧ Γ1[i]? = some (some (.ol a ds)) ∧ ds.length + es.length ≤ 1000000 ∧ nx (Γ1.set i (some (.ol a (ds ++ es))))) xc) :
    Go K W (tDrop (tBM K "list" rExtend (tVar i) (tCons te tNil))) Γ ⟨nx, rt, xc, bk, ct⟩ := go_extend hi h
theorem g_retN (h : rt (.fr .non) Γ) : Go K W tRetN Γ ⟨nx, rt, xc, bk, ct⟩ := go_retN h
theorem g_retO (h : EvO K W te Γ rt xc) : Go K W (tRetO te) Γ ⟨nx, rt, xc, bk, ct⟩ := go_ret h
theorem g_retF (h : Ev K W te Γ (fun d Γ1 => rt (.fr d) Γ1) xc) : Go K W (tRet te) Γ ⟨nx, rt, xc, bk, ct⟩ := go_ret (evo_of h)
theorem g_raise {C : Addr} {fs : List Str} {t : TA} (h : EvA K W t Γ (fun ds Γ1 => ds.length = fs.length ∧ xc C (fs.zip ds) Γ1) xc) : Go K W (tRaiseE C fs W t) Γ ⟨nx, rt, xc, bk, ct⟩ := go_raise h
theorem g_for {tbd : TS} (h : Ev K W te Γ (fun d Γ1 => ∃ xs, SeqD d xs ∧ ∃ I : Nat → Gm → Prop, I 0 Γ1 ∧ (∀ k x Γ2, xs[k]? = some x → I k Γ2 → GoG K W g x Γ2 (fun Γ3 => Go K W tbd Γ3 ⟨I (k + 1), rt, xc, nx, I (k + 1)⟩) xc) ∧ (∀ Γ2, I xs.length Γ2 → nx Γ2)) xc) :
    Go K W (tFor (iSeq K te) g tbd) Γ ⟨nx, rt, xc, bk, ct⟩ := go_for h
theorem g_unr {tbd : TS} (h : Ev K W te Γ (fun d Γ1 => ∃ xs, SeqD d xs ∧ Unr K W g tbd ⟨nx, rt, xc, bk, ct⟩ xs Γ1) xc) : Go K W (tFor (iSeq K te) g tbd) Γ ⟨nx, rt, xc, bk, ct⟩ := go_unr h
theorem u_nil {tbd : TS} (h : nx Γ) : Unr K W g tbd ⟨nx, rt, xc, bk, ct⟩ [] Γ := h
theorem u_cons {tbd : TS} {x : Dt} {xs : List Dt} (h : GoG K W g x Γ (fun Γ3 => Go K W tbd Γ3 ⟨Unr K W g tbd ⟨nx, rt, xc, bk, ct⟩ xs, rt, xc, nx, Unr K W g tbd ⟨nx, rt, xc, bk, ct⟩ xs⟩) xc) : Unr K W g tbd ⟨nx, rt, xc, bk, ct⟩ (x :: xs) Γ := h
theorem g_range1 {t : TA} {tbd : TS} (h : EvA K W t Γ (fun ds Γ1 => ∃ n : Int, ds = [.int n] ∧ (-(2 ^ 62) ≤ n ∧ n < 2 ^ 62) ∧ ∃ I : Nat → Gm → Prop, I 0 Γ1 ∧ (∀ (k : Nat) Γ2, k < n.toNat → I k Γ2 → GoG K W g (.int k) Γ2 (fun Γ3 => Go K W tbd Γ3 ⟨I (k + 1), rt, xc, nx, I (k + 1)⟩) xc) ∧ (∀ Γ2, I n.toNat Γ2 → nx Γ2)) xc) :
    Go K W (tFor (iRng1 t) g tbd) Γ ⟨nx, rt, xc, bk, ct⟩ := go_range1 (fun O G H σ Q S q x => h O G H σ Q S (fun vs G2 H2 Γ2 ds s S2 r ⟨n, e, ⟨l1, l2⟩, I, a⟩ => q vs G2 H2 Γ2 ds s S2 r ⟨n, e, l1, l2, I, a⟩) x)
theorem g_range2 {t : TA} {tbd : TS} (h : EvA K W t Γ (fun ds Γ1 => ∃ m n : Int, ds = [.int m, .int n] ∧ (-(2 ^ 62) ≤ m ∧ m < 2 ^ 62 ∧ -(2 ^ 62) ≤ n ∧ n < 2 ^ 62) ∧ ∃ I : Nat → Gm → Prop, I 0 Γ1 ∧ (∀ (k : Nat) Γ2, k < (n - m).toNat → I k Γ2 → GoG K W g (.int (m + k)) Γ2 (fun Γ3 => Go K W tbd Γ3 ⟨I (k + 1), rt, xc, nx, I (k + 1)⟩) xc) ∧ (∀ Γ2, I (n - m).toNat Γ2 → nx Γ2)) xc) :
    Go K W (tFor (iRng2 t) g tbd) Γ ⟨nx, rt, xc, bk, ct⟩ := go_range2 h
theorem g_while {tc : TT} {tbd : TS} (I : Nat → Gm → Prop) (m : Nat) (h0 : I m Γ) (hs : ∀ m Γ2, I m Γ2 → EvT K W tc Γ2 (fun b Γ3 => (b = true → Go K W tbd Γ3 ⟨fun Γ4 => ∃ m', m' < m ∧ I m' Γ4, rt, xc, nx, fun Γ4 => ∃ m', m' < m ∧ I m' Γ4⟩) ∧ (b = false → nx Γ3)) xc) :
    Go K W (tWhile tc tbd) Γ ⟨nx, rt, xc, bk, ct⟩ := go_while I m h0 hs
/-- the clauses -/
def HdsX (K : PySem.W.Frag) (nx : Gm → Prop) (rt : Sl → Gm → Prop) (xc : XP) (bk ct : Gm → Prop) : List Hdl → XP := Hds K ⟨nx, rt, xc, bk, ct⟩
theorem g_try {tt : WX → TS} {l : List Hdl} (h : ∀ W', Go K W' (tt W') Γ ⟨nx, rt, HdsX K nx rt xc bk ct l, bk, ct⟩) : Go K W (tTry K W l tt) Γ ⟨nx, rt, xc, bk, ct⟩ := go_try h
theorem hx_nil {C : Addr} {fs : List (Str × Dt)} (h : xc C fs Γ) : HdsX K nx rt xc bk ct [] C fs Γ := h
theorem hx_yes {C : Addr} {fs : List (Str × Dt)} {h : Hdl} {r : List Hdl} (e : PySem.W.exmOne K (.ref C) h.c = some true) (k : ∀ a d, Go K (fun _ _ _ _ => False) (h.ts a (.ref C) d) (gOn h.i a C d fs Γ)
    ⟨fun Γ2 => ExAll a C d (gOff h.i Γ2) ∧ nx (fixE (gOff h.i Γ2)), fun s Γ2 => ExAll a C d (some s :: Γ2) ∧ rt (fixS s) (fixE Γ2), fun _ _ _ => False, fun Γ2 => ExAll a C d (gOff h.i Γ2) ∧ bk (fixE (gOff h.i Γ2)), fun Γ2 => ExAll a C d (gOff h.i Γ2) ∧ ct (fixE (gOff h.i Γ2))⟩) :
    HdsX K nx rt xc bk ct (h :: r) C fs Γ := ⟨true, e, fun _ => k, fun z => nomatch z⟩
theorem hx_no {C : Addr} {fs : List (Str × Dt)} {h : Hdl} {r : List Hdl} (e : PySem.W.exmOne K (.ref C) h.c = some false) (k : HdsX K nx rt xc bk ct r C fs Γ) : HdsX K nx rt xc bk ct (h :: r) C fs Γ := ⟨false, e, fun z => (nomatch z), fun _ => k⟩
theorem e_int {j : Int} (p : P (.int j) Γ) : Ev K W (tC (.int j)) Γ P X := ev_c p
theorem e_str {j : Str} (p : P (.str j) Γ) : Ev K W (tC (.str j)) Γ P X := ev_c p
theorem e_bl {j : Bool} (p : P (.bl j) Γ) : Ev K W (tC (.bl j)) Γ P X := ev_c p
theorem e_non (p : P .non Γ) : Ev K W (tC .non) Γ P X := ev_c p
theorem e_ty {j : String} (p : P (.ty j) Γ) : Ev K W (tC (.ty j)) Γ P X := ev_c p
theorem e_ref {j : Addr} (p : P (.ref j) Γ) : Ev K W (tC (.ref j)) Γ P X := ev_c p
end
section
variable {R : Dt → Prop}
theorem atI_in {α : Type} {xs : List α} {j : Int} (h1 : 0 ≤ j) (h2 : j < xs.length) : ∃ v, atI xs j = some v ∧ xs[j.toNat]? = some v := by
  have hj : j.toNat < xs.length := by omega
  refine ⟨xs[j.toNat], ?_, by simp⟩
  unfold atI ixN
  have e1 : ¬ j < 0 := by omega
  simp [h1, h2, hj]
theorem x_ixC {ns : List Int} {j : Int} (h1 : 0 ≤ j) (h2 : j < ns.length) (h : ∀ v, R (.int v)) : dIx (.scr ns) (.int j) R := by
  obtain ⟨v, e, _⟩ := atI_in h1 h2
  exact l_ixC e (h v)
theorem x_ixL {ds : List Dt} {j : Int} (h1 : 0 ≤ j) (h2 : j < ds.length) (h : ∀ v, ds[j.toNat]? = some v → R v) : dIx (.lst ds) (.int j) R := by
  obtain ⟨v, e, f⟩ := atI_in h1 h2
  exact l_ixL e (h v f)
theorem x_ixT {ds : List Dt} {j : Int} (h1 : 0 ≤ j) (h2 : j < ds.length) (h : ∀ v, ds[j.toNat]? = some v → R v) : dIx (.tup ds) (.int j) R := by
  obtain ⟨v, e, f⟩ := atI_in h1 h2
  exact l_ixT e (h v f)
theorem x_ixS {z : Str} {j : Int} (l : z.length ≤ sizeLine) (h1 : 0 ≤ j) (h2 : j < z.length) (h : ∀ c, z.cps.toList[j.toNat]? = some c → R (.str ⟨#[c]⟩)) : dIx (.str z) (.int j) R := by
  obtain ⟨v, e, f⟩ := atI_in (xs := z.cps.toList) h1 (by simpa [Str.length] using h2)
  exact l_ixS l e (h v f)
end
section
variable {K : PySem.W.Frag} {W : WX} {Γ : Gm} {te : TE} {i : Nat} {nx : Gm → Prop} {rt : Sl → Gm → Prop} {xc : XP} {bk ct : Gm → Prop} {g : TG} {X : XP}
/-- a caught error's second name -/
theorem evo_ex {P : Sl → Gm → Prop} {a C : Addr} {d : Option Addr} {fs : List (Str × Dt)} (h : Γ[i]? = some (some (.ex a C d fs))) (p : P (.ex a C d fs) Γ) : EvO K W (tVar i) Γ P X := fun O G H σ Q S q _ => by
  obtain ⟨v, e, r⟩ := S.get h
  exact ⟨v, e, q v G H Γ _ (Same.refl _) (S.push r (by simp [Sl.fp]) (by simp [Sl.fp]) (by simp [Sl.fp]) (by simp [Sl.fp])) p⟩
theorem ex_and {a C : Addr} {d : Option Addr} {Γ : Gm} {Q : Prop} (h : ExAll a C d Γ) (q : Q) : ExAll a C d Γ ∧ Q := ⟨h, q⟩
/-- for c in a text -/
theorem g_forS {tbd : TS} (h : Ev K W te Γ (fun d Γ1 => ∃ z, d = .str z ∧ ∃ I : Nat → Gm → Prop, I 0 Γ1 ∧ (∀ k c Γ2, z.cps.toList[k]? = some c → I k Γ2 → GoG K W g (.str ⟨#[c]⟩) Γ2 (fun Γ3 => Go K W tbd Γ3 ⟨I (k + 1), rt, xc, nx, I (k + 1)⟩) xc) ∧ (∀ Γ2, I z.cps.toList.length Γ2 → nx Γ2)) xc) :
    Go K W (tFor (iSeq K te) g tbd) Γ ⟨nx, rt, xc, bk, ct⟩ := g_for (h.imp fun d Γ1 ⟨z, e, I, h0, h1, h2⟩ => ⟨_, e ▸ SeqD.str z, I, h0, fun k x Γ2 hx hI => by
  rw [List.getElem?_map] at hx
  cases q : z.cps.toList[k]? with
  | none => rw [q] at hx; cases hx
  | some c =>
    rw [q] at hx
    cases hx
    exact h1 k c Γ2 q hI, fun Γ2 hI => h2 Γ2 (by simpa using hI)⟩)
theorem own_at {l : List Bool} (h : l.all id = true) (i : Nat) {b : Bool} (e : l[i]? = some b := by rfl) : b = true := by
  rw [List.all_eq_true] at h
  exact h b (List.mem_of_getElem? e)
theorem take_more {α : Type} {xs : List α} {k : Nat} {x : α} (h : xs[k]? = some x) : xs.take (k + 1) = xs.take k ++ [x] := by
  rw [List.take_add_one, h]; rfl
end
/-! ### texts -/
section
theorem len_list (z : Str) : z.cps.toList.length = z.length := by simp [Str.length]
theorem cutS_len (z : Str) (lo hi : Option Int) : (cutS z lo hi).length ≤ z.length := by
  unfold cutS
  show (List.toArray _).size ≤ _
  rw [List.size_toArray, List.length_take, List.length_drop, len_list]
  omega
theorem app_len (x y : Str) : (x ++ y).length = x.length + y.length := by
  show (x ++ y).cps.size = _
  rw [PySem.Str.cps_append, Array.size_append]; rfl
theorem app_list (x y : Str) : (x ++ y).cps.toList = x.cps.toList ++ y.cps.toList := by
  rw [PySem.Str.cps_append, Array.toList_append]
theorem dig_list : ("0123456789" : Str).cps.toList = [48, 49, 50, 51, 52, 53, 54, 55, 56, 57] := by decide +kernel
theorem dig_mem (c : Nat) : c ∈ ("0123456789" : Str).cps.toList ↔ 48 ≤ c ∧ c ≤ 57 := by
  rw [dig_list]
  simp only [List.mem_cons, List.not_mem_nil, or_false]
  omega
theorem find_dig (c : Nat) : Txt.find "0123456789" ⟨#[c]⟩ = if 48 ≤ c ∧ c ≤ 57 then (c : Int) - 48 else -1 := by
  by_cases h : 48 ≤ c ∧ c ≤ 57
  · rw [if_pos h]
    have : c = 48 ∨ c = 49 ∨ c = 50 ∨ c = 51 ∨ c = 52 ∨ c = 53 ∨ c = 54 ∨ c = 55 ∨ c = 56 ∨ c = 57 := by omega
    rcases this with rfl | rfl | rfl | rfl | rfl | rfl | rfl | rfl | rfl | rfl <;> decide +kernel
  · rw [if_neg h]
    have e := StrLaws.found_one ("0123456789" : Str) c
    rw [decide_eq_false (fun z => h ((dig_mem c).mp z))] at e
    unfold Txt.find
    have e2 : Builtin.Str.occurrences ("0123456789" : Str) ⟨#[c]⟩ 0 ("0123456789" : Str).length 1 = [] := by simpa using e
    rw [e2]
end
/-! ### dispatch -/
class OpC (K : PySem.W.Frag) (r : R2) (ρ : outParam (Dt → Dt → (Dt → Prop) → Prop)) : Prop where
  rd : RD K r ρ
class CbC (K : PySem.W.Frag) (r : List V → Hp → VK → Prop) (ρ : outParam (List Dt → (Dt → Prop) → Prop)) : Prop where
  rd : RDC K r ρ
section
variable {K : PySem.W.Frag} {W : WX} {Γ : Gm} {X : XP} {P : Dt → Gm → Prop} {te ta tb : TE}
instance : OpC K (rAddP K) (dAdd) := ⟨rd_add⟩
instance : OpC K (rSubP) (dI0 fun i j => .int (i - j)) := ⟨rd_sub⟩
instance : OpC K (rMulP) (dI CMul fun i j => .int (i * j)) := ⟨rd_mul⟩
instance : OpC K (rFdivP) (dI CDiv fun i j => .int (i / j)) := ⟨rd_fdiv⟩
instance : OpC K (rModP) (dI (fun _ j => 0 < j) fun i j => .int (i % j)) := ⟨rd_mod⟩
instance : OpC K (rPowP) (dI CPow fun i j => .int (i ^ j.toNat)) := ⟨rd_pow⟩
instance : OpC K (rLtP) (dI0 fun i j => .bl (decide (i < j))) := ⟨rd_lt⟩
instance : OpC K (rLeP) (dI0 fun i j => .bl (decide (i ≤ j))) := ⟨rd_le⟩
instance : OpC K (rGtP) (dI0 fun i j => .bl (decide (j < i))) := ⟨rd_gt⟩
instance : OpC K (rGeP) (dI0 fun i j => .bl (decide (j ≤ i))) := ⟨rd_ge⟩
instance : OpC K (rEqP K) (dEq) := ⟨rd_eq⟩
instance : OpC K (rNeP K) (dNe) := ⟨rd_ne⟩
instance : OpC K (rIsP) (dIs) := ⟨rd_is⟩
instance : OpC K (rIsntP) (dIsnt) := ⟨rd_isnt⟩
instance : OpC K (rInP K) (dIn false) := ⟨rd_in⟩
instance : OpC K (rNotInP K) (dIn true) := ⟨rd_notIn⟩
instance : OpC K (rIxP K) (dIx) := ⟨rd_ix⟩
instance : CbC K (rLenP K) (dLen) := ⟨rdc_len⟩
instance : CbC K (rAbsP) (dAbs) := ⟨rdc_abs⟩
instance : CbC K (rMaxP) (dMax) := ⟨rdc_max⟩
instance : CbC K (rMinP) (dMin) := ⟨rdc_min⟩
instance : CbC K (rIntP) (dInt) := ⟨rdc_int⟩
instance : CbC K (rStrP) (dStr) := ⟨rdc_str⟩
instance : CbC K (rListP K) (dList) := ⟨rdc_list⟩
instance : CbC K (rTupleP K) (dTuple) := ⟨rdc_tuple⟩
instance : CbC K (rIsiP K) (dIsi K) := ⟨rdc_isi⟩
theorem v_op {r : R2} {ρ : Dt → Dt → (Dt → Prop) → Prop} [c : OpC K r ρ] (h : Ev K W ta Γ (fun x Γ1 => Ev K W tb Γ1 (fun y Γ2 => ρ x y fun z => P z Γ2) X) X) : Ev K W (tOp r ta tb) Γ P X := ev_op c.rd h
theorem v_cb {r : List V → Hp → VK → Prop} {ρ : List Dt → (Dt → Prop) → Prop} {t : TA} [c : CbC K r ρ] (h : EvA K W t Γ (fun ds Γ1 => ρ ds fun z => P z Γ1) X) : Ev K W (tCB r t) Γ P X := ev_cb c.rd h
theorem isEv (h : Ev K W te Γ P X) : Ev K W te Γ P X := h
theorem isEvT {t : TT} {P : Bool → Gm → Prop} (h : EvT K W t Γ P X) : EvT K W t Γ P X := h
theorem isEvA {t : TA} {P : List Dt → Gm → Prop} (h : EvA K W t Γ P X) : EvA K W t Γ P X := h
theorem isEvO {P : Sl → Gm → Prop} (h : EvO K W te Γ P X) : EvO K W te Γ P X := h
theorem isEvB {t : TA} {i : Nat} {P : List Dt → List Dt → Gm → Prop} (h : EvB K W i t Γ P X) : EvB K W i t Γ P X := h
theorem isEvP {t : TO} {P : Option Int → Gm → Prop} (h : EvP K W t Γ P X) : EvP K W t Γ P X := h
theorem isGo {t : TS} {PP : Po} (h : Go K W t Γ PP) : Go K W t Γ PP := h
theorem isGoG {g : TG} {d : Dt} {N : Gm → Prop} (h : GoG K W g d Γ N X) : GoG K W g d Γ N X := h
theorem isGoGs {g : TGs} {d : List Dt} {N : Gm → Prop} (h : GoGs K W g d Γ N X) : GoGs K W g d Γ N X := h
theorem isAnd {A B : Prop} (h : A ∧ B) : A ∧ B := h
theorem isEx {α : Type} {A : α → Prop} (h : Exists A) : Exists A := h
theorem l_I0 {R : Dt → Prop} {g : Int → Int → Dt} {i j : Int} (h : R (g i j)) : dI0 g (.int i) (.int j) R := ⟨_, _, rfl, rfl, h⟩
end
/-! ### the written part by its name -/
section
variable {X : Cx}
theorem op_addK (K : PySem.W.Frag) (h : X.K = K) : OpR X (binaryOp .Add) (rAddP K) := by subst h; exact op_addP
theorem op_inK (K : PySem.W.Frag) (h : X.K = K) (hu : X.A.units + 64 < cLine) : OpR X (compareOp .In) (rInP K) := by subst h; exact op_inP (by omega)
theorem op_notInK (K : PySem.W.Frag) (h : X.K = K) (hu : X.A.units + 64 < cLine) : OpR X (compareOp .NotIn) (rNotInP K) := by subst h; exact op_notInP (by omega)
theorem ix_K (K : PySem.W.Frag) (h : X.K = K) (hu : X.A.units + 64 < cLine) : IxR X (rIxP K) := by subst h; exact ix_P (by omega)
theorem sl_K (K : PySem.W.Frag) (h : X.K = K) : SlR X (rSlP K) := by subst h; exact sl_P
theorem call_lenK (K : PySem.W.Frag) (h : X.K = K) : CallR X (.builtin "len") (rLenP K) := by subst h; exact call_lenP
theorem call_listK (K : PySem.W.Frag) (h : X.K = K) : CallR X (.type "list") (rListP K) := by subst h; exact call_listP
theorem call_tupleK (K : PySem.W.Frag) (h : X.K = K) : CallR X (.type "tuple") (rTupleP K) := by subst h; exact call_tupleP
theorem call_isiK (K : PySem.W.Frag) (h : X.K = K) : CallR X (.builtin "isinstance") (rIsiP K) := by subst h; exact call_isiP
theorem op_eqK (K : PySem.W.Frag) (h : X.K = K) (hu : X.A.units + 64 < cLine) : OpR X (compareOp .Eq) (rEqP K) := by subst h; exact op_eqP hu
theorem op_neK (K : PySem.W.Frag) (h : X.K = K) (hu : X.A.units + 64 < cLine) : OpR X (compareOp .NotEq) (rNeP K) := by subst h; exact op_neP hu
theorem pi_seqK {tg l : Expr} {tl : TE} (K : PySem.W.Frag) (h : X.K = K) (hl : PE X l tl) : PI X tg l (iSeq K tl) := by subst h; exact pi_seq hl
theorem pe_fldK {e : Expr} {f : Str} {pos : Pos} {ta : TE} (K : PySem.W.Frag) (h : X.K = K) (he : PE X e ta) (hb : attributeBase e f X.env (eval e X.env) = eval e X.env := by rfl) : PE X (.Attribute e f pos) (tFldP K ta f) := by subst h; exact pe_fldP he hb
theorem pe_dK {x : Str} {ps : List Str} {k j : Nat} {S : DSp} {W : WX} {e : Expr} {es : List Expr} {t : TA} {p pos : Pos} (K : PySem.W.Frag) (h : X.K = K) (D : Dfn X.prog X.w K X.mg X.base x ps k S) (hr : Room j X.A) (hj : k ≤ j) (tk : Takes X W) (ha : PA X (e :: es) t) (hg : Gl X x := by rfl) (hdb : (x == ("__debug__" : Str)) = false := by decide) (he : starEach (e :: es) X.env = (false, eval e X.env) :: starEach es X.env := by rfl) (hpl : (backTo pos (starEach es X.env)).any (·.1) = false := by rfl) :
    PE X (.Call (.Name x p) (e :: es) [] pos) (tCallS (spD K S) (WE W) t) := by subst h; exact pe_d D hr hj tk ha hg hdb he hpl
theorem pe_d0K {x : Str} {ps : List Str} {k j : Nat} {S : DSp} {W : WX} {p pos : Pos} (K : PySem.W.Frag) (h : X.K = K) (D : Dfn X.prog X.w K X.mg X.base x ps k S) (hr : Room j X.A) (hj : k ≤ j) (tk : Takes X W) (hg : Gl X x := by rfl) (hdb : (x == ("__debug__" : Str)) = false := by decide) :
    PE X (.Call (.Name x p) [] [] pos) (tCallS (spD K S) (WE W) tNil) := by subst h; exact pe_d0 D hr hj tk hg hdb
end
/-! ### isinstance of plain data -/
class KitC (a c : String) (r : outParam Bool) : Prop where
  kit : ∀ K : PySem.W.Frag, PySem.W.kitOne K (.type a) (.type c) = some r
class TyC (d : Dt) (a : outParam String) : Prop where
  ty : ∀ K : PySem.W.Frag, TyD K d (.type a)
instance : KitC "NoneType" "int" false := ⟨fun K => by kernel_rfl⟩
instance : KitC "NoneType" "str" false := ⟨fun K => by kernel_rfl⟩
instance : KitC "NoneType" "bool" false := ⟨fun K => by kernel_rfl⟩
instance : KitC "NoneType" "list" false := ⟨fun K => by kernel_rfl⟩
instance : KitC "NoneType" "tuple" false := ⟨fun K => by kernel_rfl⟩
instance : KitC "NoneType" "dict" false := ⟨fun K => by kernel_rfl⟩
instance : KitC "bool" "int" true := ⟨fun K => by kernel_rfl⟩
instance : KitC "bool" "str" false := ⟨fun K => by kernel_rfl⟩
instance : KitC "bool" "bool" true := ⟨fun K => by kernel_rfl⟩
instance : KitC "bool" "list" false := ⟨fun K => by kernel_rfl⟩
instance : KitC "bool" "tuple" false := ⟨fun K => by kernel_rfl⟩
instance : KitC "bool" "dict" false := ⟨fun K => by kernel_rfl⟩
instance : KitC "int" "int" true := ⟨fun K => by kernel_rfl⟩
instance : KitC "int" "str" false := ⟨fun K => by kernel_rfl⟩
instance : KitC "int" "bool" false := ⟨fun K => by kernel_rfl⟩
instance : KitC "int" "list" false := ⟨fun K => by kernel_rfl⟩
instance : KitC "int" "tuple" false := ⟨fun K => by kernel_rfl⟩
instance : KitC "int" "dict" false := ⟨fun K => by kernel_rfl⟩
instance : KitC "str" "int" false := ⟨fun K => by kernel_rfl⟩
instance : KitC "str" "str" true := ⟨fun K => by kernel_rfl⟩
instance : KitC "str" "bool" false := ⟨fun K => by kernel_rfl⟩
instance : KitC "str" "list" false := ⟨fun K => by kernel_rfl⟩
instance : KitC "str" "tuple" false := ⟨fun K => by kernel_rfl⟩
instance : KitC "str" "dict" false := ⟨fun K => by kernel_rfl⟩
instance : KitC "list" "int" false := ⟨fun K => by kernel_rfl⟩
instance : KitC "list" "str" false := ⟨fun K => by kernel_rfl⟩
instance : KitC "list" "bool" false := ⟨fun K => by kernel_rfl⟩
instance : KitC "list" "list" true := ⟨fun K => by kernel_rfl⟩
instance : KitC "list" "tuple" false := ⟨fun K => by kernel_rfl⟩
instance : KitC "list" "dict" false := ⟨fun K => by kernel_rfl⟩
instance : KitC "tuple" "int" false := ⟨fun K => by kernel_rfl⟩
instance : KitC "tuple" "str" false := ⟨fun K => by kernel_rfl⟩
instance : KitC "tuple" "bool" false := ⟨fun K => by kernel_rfl⟩
instance : KitC "tuple" "list" false := ⟨fun K => by kernel_rfl⟩
instance : KitC "tuple" "tuple" true := ⟨fun K => by kernel_rfl⟩
instance : KitC "tuple" "dict" false := ⟨fun K => by kernel_rfl⟩
instance : KitC "dict" "int" false := ⟨fun K => by kernel_rfl⟩
instance : KitC "dict" "str" false := ⟨fun K => by kernel_rfl⟩
instance : KitC "dict" "bool" false := ⟨fun K => by kernel_rfl⟩
instance : KitC "dict" "list" false := ⟨fun K => by kernel_rfl⟩
instance : KitC "dict" "tuple" false := ⟨fun K => by kernel_rfl⟩
instance : KitC "dict" "dict" true := ⟨fun K => by kernel_rfl⟩
instance : TyC (.non) "NoneType" := ⟨fun K => .non⟩
instance {b : Bool} : TyC (.bl b) "bool" := ⟨fun K => .bl b⟩
instance {i : Int} : TyC (.int i) "int" := ⟨fun K => .int i⟩
instance {x : Str} : TyC (.str x) "str" := ⟨fun K => .str x⟩
instance {x : List Dt} : TyC (.lst x) "list" := ⟨fun K => .lst x⟩
instance {x : List Dt} : TyC (.tup x) "tuple" := ⟨fun K => .tup x⟩
instance {x : List (Key × Dt)} : TyC (.dK x) "dict" := ⟨fun K => .dK x⟩
theorem x_isi {K : PySem.W.Frag} {R : Dt → Prop} {x : Dt} {a c : String} {r : Bool} [t : TyC x a] [k : KitC a c r] (h : R (.bl r)) : dIsi K [x, .ty c] R := l_isi (.ty c) (t.ty K) (k.kit K) h
theorem br_kt {b : Bool} {A B : Prop} (h : b = true) (a : A) : (b = true → A) ∧ (b = false → B) := ⟨fun _ => a, fun z => absurd (h.symm.trans z) (by decide)⟩
theorem br_kf {b : Bool} {A B : Prop} (h : b = false) (a : B) : (b = true → A) ∧ (b = false → B) := ⟨fun z => absurd (h.symm.trans z) (by decide), fun _ => a⟩
theorem br_ktO {b : Bool} {A B : Prop} (h : b = true) (a : A) : (b = false → B) ∧ (b = true → A) := ⟨fun z => absurd (h.symm.trans z) (by decide), fun _ => a⟩
theorem br_kfO {b : Bool} {A B : Prop} (h : b = false) (a : B) : (b = false → B) ∧ (b = true → A) := ⟨fun _ => a, fun z => absurd (h.symm.trans z) (by decide)⟩
theorem and_len {ds : List Dt} {Q : Prop} (h : ds.length ≤ 1000000) (q : Q) : ds.length ≤ 1000000 ∧ Q := ⟨h, q⟩
theorem and_eq {ds : List Dt} {fs : List Str} {Q : Prop} (h : ds.length = fs.length) (q : Q) : ds.length = fs.length ∧ Q := ⟨h, q⟩
theorem br_nt {A B : Prop} (h : B) : ((!true) = true → A) ∧ ((!true) = false → B) := ⟨fun z => absurd z (by decide), fun _ => h⟩
theorem br_nf {A B : Prop} (h : A) : ((!false) = true → A) ∧ ((!false) = false → B) := ⟨fun _ => h, fun z => absurd z (by decide)⟩
theorem br_ntO {A B : Prop} (h : B) : ((!true) = false → B) ∧ ((!true) = true → A) := ⟨fun _ => h, fun z => absurd z (by decide)⟩
theorem br_nfO {A B : Prop} (h : A) : ((!false) = false → B) ∧ ((!false) = true → A) := ⟨fun z => absurd z (by decide), fun _ => h⟩
theorem br_ng {b : Bool} {A B : Prop} (h1 : b = false → A) (h2 : b = true → B) : ((!b) = true → A) ∧ ((!b) = false → B) := ⟨fun z => h1 (by simpa using z), fun z => h2 (by simpa using z)⟩
theorem br_ngO {b : Bool} {A B : Prop} (h1 : b = false → A) (h2 : b = true → B) : ((!b) = false → B) ∧ ((!b) = true → A) := ⟨fun z => h2 (by simpa using z), fun z => h1 (by simpa using z)⟩
/-- what holds behind the statement is told -/
theorem g_cut {K : PySem.W.Frag} {W : WX} {Γ : Gm} {t : TS} {nx : Gm → Prop} {rt : Sl → Gm → Prop} {xc : XP} {bk ct : Gm → Prop} (M : Gm → Prop) (h1 : Go K W t Γ ⟨M, rt, xc, bk, ct⟩) (h2 : ∀ Γ1, M Γ1 → nx Γ1) : Go K W t Γ ⟨nx, rt, xc, bk, ct⟩ :=
  h1.imp (fun _ p => h2 _ p) (fun _ _ p => p) (fun _ _ _ p => p) (fun _ p => p) (fun _ p => p)
/-- a field of an error that is kept -/
theorem x_fldE {K : PySem.W.Frag} {C : Addr} {fs : List (Str × Dt)} {f : Str} {y : Dt} {Q : Dt → Prop} (hc : XfC K C) (hn : PySem.W.findIn K (.ref C) f = some none) (hl : fs.lookup f = some y) (p : Q y) :
    (∃ C' fs' y, Dt.exc C fs = .obj C' fs' ∧ Cls K C' ∧ NoAttr K C' f ∧ fs'.lookup f = some y ∧ Q y) ∨ (∃ C' fs' y, Dt.exc C fs = .exc C' fs' ∧ XfC K C' ∧ PySem.W.findIn K (.ref C') f = some none ∧ fs'.lookup f = some y ∧ Q y) := .inr ⟨_, _, _, rfl, hc, hn, hl, p⟩
theorem x_isE {K : PySem.W.Frag} {R : Dt → Prop} {C D : Addr} {fs : List (Str × Dt)} {b : Bool} (f : ExcC K C) (hk : PySem.W.kitOne K (.ref C) (.ref D) = some b) (h : R (.bl b)) : dIsi K [.exc C fs, .ref D] R := l_isi (.own D) (.exc f) hk h
theorem x_isV {K : PySem.W.Frag} {R : Dt → Prop} {C : Addr} {n : String} {fs : List (Str × Dt)} {b : Bool} (f : ExcC K C) (hk : PySem.W.kitOne K (.ref C) (.type n) = some b) (h : R (.bl b)) : dIsi K [.exc C fs, .ty n] R := l_isi (.ty n) (.exc f) hk h
/-! ### plain values of any kind -/
inductive Fl : Dt → Prop
  | non : Fl .non
  | bl (b : Bool) : Fl (.bl b)
  | int (i : Int) : Fl (.int i)
  | str {z : Str} (h : z.length ≤ 1000) : Fl (.str z)
def isInt : Dt → Bool
  | .int _ => true
  | _ => false
def isStr : Dt → Bool
  | .str _ => true
  | _ => false
def isBl : Dt → Bool
  | .bl _ => true
  | _ => false
/-- d is the text s -/
def eqStr (s : Str) : Dt → Bool
  | .str z => decide (z = s)
  | _ => false
section
variable {R : Dt → Prop} {K : PySem.W.Frag}
theorem f_eqS {d : Dt} {s : Str} (f : Fl d) (h : R (.bl (eqStr s d))) : dEq d (.str s) R := by
  cases f with
  | non => exact l_eqX rfl h
  | bl b => exact l_eqX rfl h
  | int i => exact l_eqX rfl h
  | str l => exact l_eqS h
theorem f_eqD {d : Dt} (f : Fl d) (h : R (.bl true)) : dEq d d R := by
  cases f with
  | non => exact l_eqX rfl h
  | bl b => exact l_eqX (by simp [eqS]) h
  | int i => exact l_eqX (by simp [eqS]) h
  | str l => exact l_eqX (by simp [eqS]) h
theorem f_neD {d : Dt} (f : Fl d) (h : R (.bl false)) : dNe d d R := by
  cases f with
  | non => exact l_neX (b := true) rfl h
  | bl b => exact l_neX (b := true) (by simp [eqS]) h
  | int i => exact l_neX (b := true) (by simp [eqS]) h
  | str l => exact l_neX (b := true) (by simp [eqS]) h
theorem f_isInt {d : Dt} (f : Fl d) (h : R (.bl (isInt d || isBl d))) : dIsi K [d, .ty "int"] R := by
  cases f with
  | non => exact x_isi h
  | bl b => exact x_isi h
  | int i => exact x_isi h
  | str l => exact x_isi h
theorem f_isBl {d : Dt} (f : Fl d) (h : R (.bl (isBl d))) : dIsi K [d, .ty "bool"] R := by
  cases f with
  | non => exact x_isi h
  | bl b => exact x_isi h
  | int i => exact x_isi h
  | str l => exact x_isi h
theorem f_isStr {d : Dt} (f : Fl d) (h : R (.bl (isStr d))) : dIsi K [d, .ty "str"] R := by
  cases f with
  | non => exact x_isi h
  | bl b => exact x_isi h
  | int i => exact x_isi h
  | str l => exact x_isi h
end
end DL

/-! DL, part i: instances made, their fields, their methods. -/
namespace L2
open PySem PySem.Spec PyProof.Rows
section
variable {X : Cx} {CX : CXT} {k : Nat} {f C : Addr} {fd : FuncData} {ps : List Str} {sp : Sp} {E : St → XK} {x m : Str} {p pos apos : Pos} {e o : Expr} {es : List Expr} {ta : TE} {t : TA}
/-- the class at C is called; what __init__ lets out goes by the slots -/
def tMakeS (C : Addr) (sp : Sp) (E : St → XK) (t : TA) : TE := fun σ H Q => t σ H fun vs H1 =>
  ∀ y dy, H1 y = none → H1 dy = none → dy ≠ y → sp (.ref y :: vs) (upd (upd H1 dy (.own y)) y (.ins C dy [])) (fun v H2 => v = .non ∧ Q (.ref y) H2) (E σ)
theorem run_makeS {pins : List (Addr × Obj)} {σ : St} {H : Hp} {s : Shared} {Q : VK} {us : List Value} {vs : List V} (M : Mk X.K C f)
    (F : FnOk X.prog X.w X.K X.mg X.base CX k f fd ps sp) (hr : Room (k + 1) X.A) (hb : Binds X.K fd ps []) (hx : PassesAt CX X σ (E σ)) (I : Inv X pins σ H s) (r : Vals vs us)
    (h : ∀ y dy, H y = none → H dy = none → dy ≠ y → sp (.ref y :: vs) (upd (upd H dy (.own y)) y (.ins C dy [])) (fun v H2 => v = .non ∧ Q (.ref y) H2) (E σ)) :
    wpAny (model X.prog X.w) X.A (call (.ref C) us) (EP X pins σ Q) X.xe s := by
  have hn := h (s.heap.objs.size + 1) s.heap.objs.size (I.hok.fresh (Nat.le_succ _)) (I.hok.fresh (Nat.le_refl _)) (Nat.ne_of_lt (Nat.lt_succ_self _))
  have J := Inv.made (C := C) I
  have rr : Vals (V.ref (s.heap.objs.size + 1) :: vs) (Value.ref (s.heap.objs.size + 1) :: us) := .cons rfl r
  have len : (Value.ref (s.heap.objs.size + 1) :: us).length = ps.length := by rw [← rr.length]; exact F.len _ _ _ _ hn
  have bi := hb _ (Value.ref (s.heap.objs.size + 1) :: us) J.kIn (by rw [List.append_nil]; exact len)
  rw [List.append_nil] at bi
  have body := F.run _ X.stack _ _ ⟨Value.ref (s.heap.objs.size + 1) :: us, []⟩ (Value.ref (s.heap.objs.size + 1) :: us) _ _ (E σ) (hr.make C us []) (J.env0.make C us []) bi rr hn
  refine wpAny_call (make_map (f := f) I.kIn M.makes M.init (beq_iff_eq.mp M.fn) (codeAny_mono body fun q s' hq => ?_))
  cases q with
  | error e => exact hx pins _ _ e s' J hq
  | ok fl =>
    cases fl with
    | ret u =>
      obtain ⟨v, H', I3, rv, ev, q3⟩ := J.after hq
      subst ev
      exact ⟨rv, ⟨V.ref (s.heap.objs.size + 1), H', I3, rfl, q3⟩⟩
    | next => exact hq.elim
    | brk => exact hq.elim
    | cont => exact hq.elim
theorem pe_makeS (M : Mk X.K C f) (F : FnOk X.prog X.w X.K X.mg X.base CX k f fd ps sp) (hr : Room (k + 1) X.A) (hg : Gl X x) (hm : X.mg x = some (.ref C)) (hb : Binds X.K fd ps []) (hx : ∀ σ, PassesAt CX X σ (E σ)) (ha : PA X (e :: es) t)
    (hdb : (x == ("__debug__" : Str)) = false) (he : starEach (e :: es) X.env = (false, eval e X.env) :: starEach es X.env) (hpl : (backTo pos (starEach es X.env)).any (·.1) = false) : PE X (.Call (.Name x p) (e :: es) [] pos) (tMakeS C sp E t) := by
  refine ⟨fun pins s σ H Q I h => wpAny_Call_Name_kw (ld_glob I hg hm ?_ hdb)⟩
  refine PySem.W.callWith_K (h₀ := X.base) I.ok.mod.kin M.kp (thn (ha.run pos pins s σ H _ I h) fun us s1 hh => ?_) he hpl
  obtain ⟨vs, H1, I1, r, q⟩ := hh
  exact ⟨I1.kIn, run_makeS M F hr hb (hx σ) I1 r q⟩
/-- o.m(e, ..), what m lets out goes by the slots -/
def tMethE (C : Addr) (m : Str) (sp : Sp) (E : St → XK) (ta : TE) (t : TA) : TE := fun σ H Q => ta σ H fun y H1 => ∃ a dx fs, y = .ref a ∧ H1 a = some (.ins C dx fs) ∧ fs.lookup m = none ∧ t σ H1 fun vs H2 => sp (.ref a :: vs) H2 Q (E σ)
theorem pe_methE {pl : Sem Bool} (he : PE X o ta) (c : Cls X.K C) (hm : Meth X.K C m f) (F : FnOk X.prog X.w X.K X.mg X.base CX k f fd ps sp) (hr : Room k X.A) (hb : Binds X.K fd ps []) (hx : ∀ σ, PassesAt CX X σ (E σ)) (ha : PA X (e :: es) t)
    (hst : starEach (e :: es) X.env = (false, eval e X.env) :: starEach es X.env) (hpl : (backTo pos (starEach es X.env)).any (·.1) = false)
    (ht : eval (.Call (.Attribute o m apos) (e :: es) [] pos) X.env = (do
      let ov ← eval o X.env
      standAt apos.atName
      let (g, first) ← holding [ov] (getMethod ov m pl)
      callWith pos g first (backTo pos (starEach (e :: es) X.env)) (backToKw pos (keywordEach [] X.env)))) : PE X (.Call (.Attribute o m apos) (e :: es) [] pos) (tMethE C m sp E ta t) := by
  refine ⟨fun pins s σ H Q I h => PySem.W.methodCall_KW (pl := pl) (thn (he.run pins s σ H _ I h) fun u s1 hh => ?_) ht⟩
  obtain ⟨y, H1, I1, ry, a, dx, fs, ey, ea, l, q⟩ := hh
  subst ey
  obtain rfl : u = Value.ref a := ry
  refine getmeth_ok I1 ea c hm l ?_
  refine PySem.W.callWith_K (first := [.ref a]) (h₀ := X.base) I.ok.mod.kin hm.kp (thn (ha.run pos pins s1 σ H1 _ I1 q) fun us s2 hh => ?_) hst hpl
  obtain ⟨vs, H2, I2, r, q2⟩ := hh
  exact ⟨I2.kIn, run_fnS (us := .ref a :: us) (vs := .ref a :: vs) F hr hb (hx σ) I2 (.cons rfl r) q2⟩
theorem pe_methE0 {pl : Sem Bool} (he : PE X o ta) (c : Cls X.K C) (hm : Meth X.K C m f) (F : FnOk X.prog X.w X.K X.mg X.base CX k f fd ps sp) (hr : Room k X.A) (hb : Binds X.K fd ps []) (hx : ∀ σ, PassesAt CX X σ (E σ))
    (ht : eval (.Call (.Attribute o m apos) [] [] pos) X.env = (do
      let ov ← eval o X.env
      standAt apos.atName
      let (g, first) ← holding [ov] (getMethod ov m pl)
      callWith pos g first (backTo pos (starEach [] X.env)) (backToKw pos (keywordEach [] X.env)))) : PE X (.Call (.Attribute o m apos) [] [] pos) (tMethE C m sp E ta tNil) := by
  refine ⟨fun pins s σ H Q I h => PySem.W.methodCall_KW (pl := pl) (thn (he.run pins s σ H _ I h) fun u s1 hh => ?_) ht⟩
  obtain ⟨y, H1, I1, ry, a, dx, fs, ey, ea, l, q⟩ := hh
  subst ey
  obtain rfl : u = Value.ref a := ry
  refine getmeth_ok I1 ea c hm l ?_
  exact PySem.W.callWith_K0 (first := [.ref a]) I1.kIn hm.kp (run_fnS (us := [.ref a]) (vs := [.ref a]) F hr hb (hx σ) I1 (.cons rfl .nil) q)
end
end L2
namespace DL
open PySem PySem.Spec L2
/-- the function at f keeps the promise S -/
structure DfnA (P : Program) (w : World) (K : PySem.W.Frag) (mg : Str → Option Value) (base : Heap) (f : Addr) (ps : List Str) (k : Nat) (S : DSp) : Prop where
  ex : ∃ fd, FnOk P w K mg base (L2.CX P w) k f fd ps (spD K S) ∧ Binds K fd ps []
section
variable {X : Cx} {x m : Str} {ps : List Str} {k j : Nat} {S : DSp} {W : WX} {e o : Expr} {es : List Expr} {t : TA} {ta : TE} {p pos apos : Pos} {C f : Addr}
theorem pe_mkK (K : PySem.W.Frag) (h : X.K = K) (M : Mk K C f) (D : DfnA X.prog X.w K X.mg X.base f ps k S) (hr : Room j X.A) (hj : k + 1 ≤ j) (tk : Takes X W) (hm : X.mg x = some (.ref C)) (ha : PA X (e :: es) t) (hg : Gl X x := by rfl) (hdb : (x == ("__debug__" : Str)) = false := by decide)
    (he : starEach (e :: es) X.env = (false, eval e X.env) :: starEach es X.env := by rfl) (hpl : (backTo pos (starEach es X.env)).any (·.1) = false := by rfl) : PE X (.Call (.Name x p) (e :: es) [] pos) (tMakeS C (spD K S) (WE W) t) := by
  subst h
  obtain ⟨fd, F, b⟩ := D.ex
  exact pe_makeS M F (hr.mono hj) hg hm b (fun σ => passAt tk σ) ha hdb he hpl
theorem pe_meK {pl : Sem Bool} (K : PySem.W.Frag) (h : X.K = K) (c : Cls K C) (hm : Meth K C m f) (D : DfnA X.prog X.w K X.mg X.base f ps k S) (hr : Room j X.A) (hj : k ≤ j) (tk : Takes X W) (ho : PE X o ta) (ha : PA X (e :: es) t)
    (hst : starEach (e :: es) X.env = (false, eval e X.env) :: starEach es X.env := by rfl) (hpl : (backTo pos (starEach es X.env)).any (·.1) = false := by rfl)
    (ht : eval (.Call (.Attribute o m apos) (e :: es) [] pos) X.env = (do
      let ov ← eval o X.env
      standAt apos.atName
      let (g, first) ← holding [ov] (getMethod ov m pl)
      callWith pos g first (backTo pos (starEach (e :: es) X.env)) (backToKw pos (keywordEach [] X.env))) := by rfl) : PE X (.Call (.Attribute o m apos) (e :: es) [] pos) (tMethE C m (spD K S) (WE W) ta t) := by
  subst h
  obtain ⟨fd, F, b⟩ := D.ex
  exact pe_methE ho c hm F (hr.mono hj) b (fun σ => passAt tk σ) ha hst hpl ht
theorem pe_me0K {pl : Sem Bool} (K : PySem.W.Frag) (h : X.K = K) (c : Cls K C) (hm : Meth K C m f) (D : DfnA X.prog X.w K X.mg X.base f ps k S) (hr : Room j X.A) (hj : k ≤ j) (tk : Takes X W) (ho : PE X o ta)
    (ht : eval (.Call (.Attribute o m apos) [] [] pos) X.env = (do
      let ov ← eval o X.env
      standAt apos.atName
      let (g, first) ← holding [ov] (getMethod ov m pl)
      callWith pos g first (backTo pos (starEach [] X.env)) (backToKw pos (keywordEach [] X.env))) := by rfl) : PE X (.Call (.Attribute o m apos) [] [] pos) (tMethE C m (spD K S) (WE W) ta tNil) := by
  subst h
  obtain ⟨fd, F, b⟩ := D.ex
  exact pe_methE0 ho c hm F (hr.mono hj) b (fun σ => passAt tk σ) ht
theorem ps_fldK {value : Expr} {f : Str} {pos' : Pos} {tv : TE} (K : PySem.W.Frag) (h : X.K = K) (ha : PE X o ta) (hv : PE X value tv) (hs : swapsWith value (some (.Attribute o f pos')) pos.line X.env = pure false := by rfl) : PS X (.Assign [.Attribute o f pos'] value pos) (sFld K ta tv f) := by
  subst h
  exact ps_fld ha hv hs
end
section
variable {K : PySem.W.Frag} {W : WX} {Γ : Gm} {X : XP} {P : Dt → Gm → Prop} {te ta tb tv : TE} {i : Nat} {nx : Gm → Prop} {rt : Sl → Gm → Prop} {xc : XP} {bk ct : Gm → Prop}
/-- fields that are frozen -/
abbrev frF (fs : List (Str × Dt)) : List (Str × Sl) := fs.map fun p => (p.1, .fr p.2)
def putD (f : Str) (d : Dt) : List (Str × Dt) → List (Str × Dt)
  | [] => [(f, d)]
  | (g, c) :: r => if g = f then (g, d) :: r else (g, c) :: putD f d r
theorem fpF_fr : ∀ fs : List (Str × Dt), fpF (frF fs) = []
  | [] => rfl
  | (f, d) :: r => by
    show (Sl.fr d).fp ++ fpF (frF r) = []
    rw [fpF_fr r]; rfl
theorem ownF_rep {G H : Hp} : ∀ {vs : List (Str × V)} {fs : List (Str × Dt)}, OwnF K G H vs (frF fs) → RepF K G vs fs
  | _, [], .nil => .nil
  | _, (f, d) :: r, .cons (.fr h) t => .cons h (ownF_rep t)
theorem rep_ownF {G H : Hp} : ∀ {vs : List (Str × V)} {fs : List (Str × Dt)}, RepF K G vs fs → OwnF K G H vs (frF fs)
  | _, _, .nil => .nil
  | _, _, .cons h t => .cons (.fr h) (rep_ownF t)
/-- what stands at one address of a slot of its own is frozen -/
theorem Sta.frz1 {O G H : Hp} {σ : St} {v : V} {s : Sl} {a : Addr} {ob : HO} (S : Sta K O G H (some v :: σ) (some s :: Γ)) (hf : s.fp = [a]) (ha : H a = some ob) : Same G (upd G a ob) ∧ Sta K O (upd G a ob) H σ Γ := by
  have na : G a = none := S.ng a (by simp [fps, fpO, hf])
  have oa : O a = none := S.no a (by simp [fps, fpO, hf])
  obtain ⟨s1, s2⟩ := same_frz S.g ha na
  have T := S.tail
  have nd := S.nd
  simp only [fps, fpO, hf] at nd
  have nf : a ∉ fps Γ := fun z => (List.nodup_append.mp nd).2.2 a (by simp) a z rfl
  refine ⟨s1, s2, T.o, fun b hb => ?_, T.sl.mono s1 fun _ _ _ q => q, T.nd, fun b hb => ?_, T.no, T.om⟩
  · by_cases e : b = a
    · subst e; exact absurd oa hb
    · rw [upd_ne e]; exact T.d b hb
  · by_cases e : b = a
    · subst e; exact absurd hb nf
    · rw [upd_ne e]; exact T.ng b hb
/-- an instance is made, frozen behind its __init__ -/
theorem ev_make {S : DSp} {C : Addr} {t : TA} (h : EvA K W t Γ (fun ds Γ1 => ∀ y, S (.oo y C [] :: ds.map .fr) (fun res args' => ∃ fs, res = .fr .non ∧ args' = .oo y C (frF fs) :: ds.map .fr ∧ P (.obj C fs) Γ1) (fun D fs _ => X D fs Γ1)) X) : Ev K W (tMakeS C (spD K S) (WE W) t) Γ P X := fun O G H σ Q S0 q x =>
  h O G H σ _ S0 (fun vs G1 H1 Γ1 ds s1 S1 r hS y dy ny nd ne => by
    have e1 : Ext G1 H1 G1 (upd H1 dy (.own y)) := Ext.raw S1.g nd
    have ny2 : upd H1 dy (.own y) y = none := by rw [upd_ne (Ne.symm ne)]; exact ny
    have e2 : Ext G1 (upd H1 dy (.own y)) G1 (upd (upd H1 dy (.own y)) y (.ins C dy [])) := Ext.raw e1.s ny2
    have S2 := S1.ext (e1.trans e2)
    have Se := S2.entry0 r
    have yf : y ∉ fps Γ1 := fun z => S1.there y z ny
    have Sp := Se.push (v := .ref y) (s := .oo y C []) (.oo upd_same .nil) (by simp [Sl.fp, fpF]) (fun a ha => by
      simp [Sl.fp, fpF] at ha; subst ha; exact S1.g.free ny) (fun a ha => by
      simp [Sl.fp, fpF] at ha; subst ha
      rw [forn_out yf]; exact S1.o.free ny) (fun a ha => by rw [fps_fr]; simp)
    refine ⟨_, G1, .oo y C [] :: ds.map .fr, _, _, Sp, hS y, fun v G2 H2 res args' s2 T2 p => ?_, fun D d fs G2 H2 args' s2 T2 rx p => ?_⟩
    · obtain ⟨fs, er, ea, p⟩ := p
      subst er ea
      have hv := T2.head
      cases hv with
      | fr rv =>
      cases rv
      refine ⟨rfl, ?_⟩
      have Tt := T2.tail
      have oy := Tt.head
      have Tb := S2.back s2 T2.g T2.o T2.d
      have fpy : (Sl.oo y C (frF fs)).fp = [y] := by simp only [Sl.fp]; rw [fpF_fr]
      have Tp := Tb.push oy (by rw [fpy]; simp) (fun a ha => Tt.ng a (by simp only [List.map_cons, fps, fpO, List.mem_append]; exact .inl ha)) (fun a ha => by
        have n := Tt.no a (by simp only [List.map_cons, fps, fpO, List.mem_append]; exact .inl ha)
        by_cases hf : a ∈ fps Γ1
        · exact S1.no a hf
        · rw [forn_out hf] at n; exact n) (fun a ha z => by
        rw [fpy] at ha; simp at ha; subst ha; exact yf z)
      cases oy with
      | @oo _ _ dx fsv _ hy of =>
      obtain ⟨s3, T3⟩ := Tp.frz1 fpy hy
      exact q (.ref y) _ H2 Γ1 (.obj C fs) (s1.trans (s2.trans s3)) T3 (.obj upd_same ((ownF_rep of).mono s3)) p
    · exact x D d fs G2 H2 Γ1 (s1.trans s2) (S2.back s2 T2.g T2.o T2.d) rx p) x
theorem repF_put {G : Hp} {f : Str} {v : V} {d : Dt} (h : Rep K G v d) : ∀ {vs : List (Str × V)} {fs : List (Str × Dt)}, RepF K G vs fs → RepF K G (putF f v vs) (putD f d fs)
  | _, _, .nil => .cons h .nil
  | _, _, .cons (f := g) (vs := r) (ds := r') q t => by
    unfold putF putD
    by_cases e : g = f
    · rw [if_pos e, if_pos e]; exact .cons h t
    · rw [if_neg e, if_neg e]; exact .cons q (repF_put h t)
/-- the object at slot i is changed in its own place -/
theorem Sta.mutO {O G H : Hp} {σ : St} {a C dx : Addr} {s : Sl} {fs : List (Str × Dt)} {vs : List (Str × V)} (S : Sta K O G H σ Γ) (hi : Γ[i]? = some (some s)) (hf : s.fp = [a]) (ev : σ[i]? = some (some (.ref a))) (r : RepF K G vs fs) :
    Sta K O G (upd H a (.ins C dx vs)) σ (Γ.set i (some (.oo a C (frF fs)))) := by
  have ma : a ∈ fps Γ := mem_fps hi a (by rw [hf]; simp)
  have ga := S.ng a ma
  have oa := S.no a ma
  obtain ⟨m1, m2⟩ := fps_part hi S.nd
  have na : a ∉ fps (Γ.set i none) := m2 a (by rw [hf]; simp)
  have il : i < σ.length := by
    rcases Nat.lt_or_ge i σ.length with z | z
    · exact z
    · rw [List.getElem?_eq_none z] at ev; cases ev
  have Sf := S.forget i (some (.ref a))
  have es : σ.set i (some (.ref a)) = σ := by
    apply List.ext_getElem?
    intro j
    rw [List.getElem?_set]
    by_cases hj : i = j
    · subst hj; rw [if_pos rfl, ev, if_pos il]
    · rw [if_neg hj]
  rw [es] at Sf
  have T : Sta K O G (upd H a (.ins C dx vs)) σ (Γ.set i none) := by
    refine ⟨fun b u q => ?_, fun b u q => ?_, Sf.d, Sf.sl.mono (Same.refl _) fun b hb u q => ?_, Sf.nd, Sf.ng, Sf.no, Sf.om⟩
    · rw [upd_ne (ne_of_none q ga)]; exact S.g b u q
    · rw [upd_ne (ne_of_none q oa)]; exact S.o b u q
    · rw [upd_ne (fun z : b = a => na (by rw [← z]; exact hb))]; exact q
  have fpa : (Sl.oo a C (frF fs)).fp = [a] := by simp only [Sl.fp]; rw [fpF_fr]
  have T2 := (T.push (v := .ref a) (s := .oo a C (frF fs)) (.oo upd_same (rep_ownF r)) (by rw [fpa]; simp) (fun b hb => by rw [fpa] at hb; simp at hb; subst hb; exact ga) (fun b hb => by rw [fpa] at hb; simp at hb; subst hb; exact oa) (fun b hb => by rw [fpa] at hb; simp at hb; subst hb; exact na)).put i
  rw [es, List.set_set] at T2
  exact T2
/-- self.f = e -/
theorem g_fld {f : Str} (h : Ev K W tv Γ (fun d Γ1 => ∃ a C fs, Γ1[i]? = some (some (.oo a C (frF fs))) ∧ (Cls K C ∧ NoAttr K C f ∧ fs.length < 1000) ∧ nx (Γ1.set i (some (.oo a C (frF (putD f d fs)))))) xc) : Go K W (sFld K (tVar i) tv f) Γ ⟨nx, rt, xc, bk, ct⟩ := fun O G H σ D S a b c d e =>
  h O G H σ _ S (fun v G1 H1 Γ1 dv s1 S1 r ⟨ad, C, fs, hg, ⟨hc, hn, hl⟩, p⟩ => by
    obtain ⟨u, eu, ou⟩ := S1.get hg
    have z := ou.adr rfl
    subst z
    cases ou with
    | @oo _ _ dx fsv _ hy of =>
    have rf := ownF_rep of
    refine ⟨_, eu, ad, C, dx, fsv, rfl, hy, hc, hn, by rw [rf.length]; exact hl, ?_⟩
    exact a G1 _ σ _ s1 (S1.mutO hg (by simp only [Sl.fp]; rw [fpF_fr]) eu (repF_put r rf)) p) (e σ)
/-- e.m(..) of a frozen instance -/
theorem evo_meth {S : DSp} {C : Addr} {m : Str} {t : TA} {P : Sl → Gm → Prop} (h : Ev K W ta Γ (fun d Γ1 => ∃ fs, d = .obj C fs ∧ fs.lookup m = none ∧ EvA K W t Γ1 (fun ds Γ2 => S (.fr d :: ds.map .fr) (fun res _ => P res Γ2) (fun D fs _ => X D fs Γ2)) X) X) : EvO K W (tMethE C m (spD K S) (WE W) ta t) Γ P X := fun O G H σ Q S0 q x =>
  h O G H σ _ S0 (fun v G1 H1 Γ1 d s1 S1 r ⟨fs, ed, hl, hA⟩ => by
    subst ed
    have r' := r
    cases r with
    | @obj a _ dx fsv _ ha rf =>
    refine ⟨a, dx, fsv, rfl, S1.g _ _ ha, rf.none hl, hA O G1 H1 σ _ S1 (fun vs G2 H2 Γ2 ds s2 S2 r2 hS => ?_) (x.mono s1)⟩
    have E0 := S2.entry0 (.cons (r'.mono s2) r2)
    refine ⟨forn O H2 (fps Γ2), G2, .fr (.obj C fs) :: ds.map .fr, _, _, E0, hS, fun v G3 H3 res args' s3 S3 p => ?_, fun D d fs G3 H3 args' s3 S3 rx p => ?_⟩
    · have T := S2.back s3 S3.g S3.o S3.d
      have nd := S3.nd
      simp only [fps, fpO] at nd
      have mem : ∀ a ∈ res.fp, a ∈ fps (some res :: sls args') := fun a ha => by simp [fps, fpO, ha]
      refine q v G3 H3 Γ2 res (s1.trans (s2.trans s3)) (T.push S3.head (List.nodup_append.mp nd).1 (fun a ha => S3.ng a (mem a ha)) (fun a ha => ?_) (fun a ha z => ?_)) p
      · have n := S3.no a (mem a ha)
        by_cases hf : a ∈ fps Γ2
        · exact S2.no a hf
        · rw [forn_out hf] at n; exact n
      · have n := S3.no a (mem a ha)
        rw [forn_in z] at n
        exact S2.there a z n
    · exact x D d fs G3 H3 Γ2 (s1.trans (s2.trans s3)) (S2.back s3 S3.g S3.o S3.d) rx p) x
theorem ev_meth {S : DSp} {C : Addr} {m : Str} {t : TA} (h : EvO K W (tMethE C m (spD K S) (WE W) ta t) Γ (fun s Γ2 => ∃ d, Frz s d ∧ P d Γ2) X) : Ev K W (tMethE C m (spD K S) (WE W) ta t) Γ P X := ev_frz h
end
end DL

/-! DL, part j: what is walked, as a judgement; comprehensions. -/
namespace DL
open PySem PySem.Spec L2
/-- the iterable gives the items xs, frozen -/
def EvI (K : PySem.W.Frag) (W : WX) (wi : TI) (Γ : Gm) (P : List Dt → Gm → Prop) (X : XP) : Prop :=
  ∀ (O G H : Hp) (σ : St) (R : It → Hp → Prop), Sta K O G H σ Γ →
    (∀ (J : It) (G2 H2 : Hp) (Γ2 : Gm) (xs : List Dt) (n : Nat) (GG : Hp → Prop) (Y : Nat → Hp → V → Hp → Prop), Same G G2 → Sta K O G2 H2 σ Γ2 → Walk J n GG Y → n = xs.length → (∀ H', Same G2 H' → GG H') →
      (∀ k x v G3 H3 H4, xs[k]? = some x → Same G2 G3 → Same G3 H3 → Y k H3 v H4 → ∃ G4, DL.Ext G3 H3 G4 H4 ∧ Rep K G4 v x) → P xs Γ2 → R J H2) → XOk K W O G σ X → wi σ H R
section
variable {K : PySem.W.Frag} {W : WX} {Γ : Gm} {X : XP} {te ta tb : TE} {i : Nat} {nx : Gm → Prop} {rt : Sl → Gm → Prop} {xc : XP} {bk ct : Gm → Prop} {g : TG} {tbd : TS} {wi : TI} {PI : List Dt → Gm → Prop}
theorem g_forI (h : EvI K W wi Γ (fun xs Γ1 => ∃ I : Nat → Gm → Prop, I 0 Γ1 ∧ (∀ k x Γ2, xs[k]? = some x → I k Γ2 → GoG K W g x Γ2 (fun Γ3 => Go K W tbd Γ3 ⟨I (k + 1), rt, xc, nx, I (k + 1)⟩) xc) ∧ (∀ Γ2, I xs.length Γ2 → nx Γ2)) xc) :
    Go K W (tFor wi g tbd) Γ ⟨nx, rt, xc, bk, ct⟩ := fun O G H σ D S a b c d e =>
  h O G H σ _ S (fun J G1 H1 Γ1 xs n GG Y s1 S1 w hn hG hY ⟨I, h0, hs, hd⟩ => go_walk (PP := ⟨nx, rt, xc, bk, ct⟩) w xs hn S1 hG (fun k x v G2 H2 H3 _ hx s2 g2 y => hY k x v G2 H2 H3 hx s2 g2 y)
    (fun G2 H2 σ2 Γ2 s2 S2 p => a G2 H2 σ2 Γ2 (s1.trans s2) S2 p) (fun v G2 H2 σ2 Γ2 z s2 S2 p => b v G2 H2 σ2 Γ2 z (s1.trans s2) S2 p) (fun σ2 => (e σ2).mono s1) I h0 hs hd) (e σ)
/-! ### iterables -/
theorem ei_seq (h : Ev K W te Γ (fun d Γ1 => ∃ xs, SeqD d xs ∧ PI xs Γ1) X) : EvI K W (iSeq K te) Γ PI X := fun O G H σ R S q x =>
  h O G H σ _ S (fun v G1 H1 Γ1 dd s1 S1 r ⟨xs, sq, p⟩ => by
    cases sq with
    | lst ds =>
      cases r with
      | @lst ad vs _ ha rs =>
        refine .inl ⟨ad, rfl, ⟨vs, SqL.of (S1.g _ _ ha)⟩, q _ G1 H1 Γ1 _ _ _ _ s1 S1 (walk_list (K := K) (a := ad) (xs := vs)) rs.length (fun H' s' => SqL.of (s' _ _ ha)) (fun k x v G2 H2 H3 hx s2 g2 y => ?_) p⟩
        obtain ⟨rfl, hv⟩ := y
        obtain ⟨d', hd', rr⟩ := rs.get' hv
        rw [hx] at hd'; cases hd'
        exact ⟨G2, Ext.refl g2, rr.mono s2⟩
    | tup ds =>
      cases r with
      | @tup ad vs _ ha rs =>
        refine .inr (.inl ⟨ad, rfl, ⟨vs, SqT.of (S1.g _ _ ha)⟩, q _ G1 H1 Γ1 _ _ _ _ s1 S1 (walk_tup (K := K) (a := ad) (xs := vs)) rs.length (fun H' s' => SqT.of (s' _ _ ha)) (fun k x v G2 H2 H3 hx s2 g2 y => ?_) p⟩)
        obtain ⟨rfl, hv⟩ := y
        obtain ⟨d', hd', rr⟩ := rs.get' hv
        rw [hx] at hd'; cases hd'
        exact ⟨G2, Ext.refl g2, rr.mono s2⟩
    | scr ns =>
      cases r with
      | @scr ad _ ha =>
        refine .inl ⟨ad, rfl, ⟨_, S1.g.seq ha⟩, q _ G1 H1 Γ1 _ _ _ _ s1 S1 (walk_list (K := K) (a := ad) (xs := ns.map V.int)) (by simp) (fun H' s' => s'.seq ha) (fun k x v G2 H2 H3 hx s2 g2 y => ?_) p⟩
        obtain ⟨rfl, hv⟩ := y
        rw [List.getElem?_map] at hv hx
        cases z : ns[k]? with
        | none => rw [z] at hx; cases hx
        | some n =>
          rw [z] at hx hv
          cases hx; cases hv
          exact ⟨G2, Ext.refl g2, .int n⟩
    | str z =>
      cases r
      refine .inr (.inr (.inl ⟨z, rfl, q _ G1 H1 Γ1 _ _ _ _ s1 S1 (walk_str (z := z)) (by simp) (fun _ _ => trivial) (fun k x v G2 H2 H3 hx s2 g2 y => ?_) p⟩))
      obtain ⟨rfl, c, hc, rfl⟩ := y
      rw [List.getElem?_map] at hx
      have hc' : z.cps.toList[k]? = some c := by simpa using hc
      rw [hc'] at hx
      cases hx
      exact ⟨G2, Ext.refl g2, .str _⟩
    | dK ds =>
      cases r with
      | @dK ad ob vs _ ha rs =>
        exact .inr (.inr (.inr ⟨ad, ob, rfl, .inl ⟨vs, S1.g _ _ ha, q _ G1 H1 Γ1 (ds.map fun p => kD p.1) _ _ _ s1 S1 (walk_keys (d := ad) (o := ob) (kvs := vs)) (by rw [rs.length, List.length_map]) (fun H' s' => s' _ _ ha) (fun k x v G2 H2 H3 hx s2 g2 y => item_K (rs.mono s2) g2 hx y) p⟩⟩))
    | dT ds =>
      cases r with
      | @dT ad ob vs _ ha rs =>
        exact .inr (.inr (.inr ⟨ad, ob, rfl, .inr ⟨vs, S1.g _ _ ha, q _ G1 H1 Γ1 (ds.map fun p => kDs p.1) _ _ _ s1 S1 (walk_keysT (d := ad) (o := ob) (kvs := vs)) (by rw [rs.length, List.length_map]) (fun H' s' => s' _ _ ha) (fun k x v G2 H2 H3 hx s2 g2 y => item_T (rs.mono s2) g2 hx y) p⟩⟩))) x
def rngD (m n : Int) : List Dt := (List.range (n - m).toNat).map fun (k : Nat) => .int (m + (k : Int))
theorem rngD_get {m n : Int} {k : Nat} {x : Dt} (h : (rngD m n)[k]? = some x) : x = .int (m + k) ∧ m + k < n := by
  unfold rngD at h
  rw [List.getElem?_map] at h
  rcases Nat.lt_or_ge k (n - m).toNat with z | z
  · rw [List.getElem?_range z] at h
    cases h
    exact ⟨rfl, by omega⟩
  · rw [List.getElem?_eq_none (by simpa using z)] at h; cases h
theorem rngD_len (m n : Int) : (rngD m n).length = (n - m).toNat := by simp [rngD]
theorem ei_rng2 {t : TA} (h : EvA K W t Γ (fun ds Γ1 => ∃ m n : Int, ds = [.int m, .int n] ∧ (-(2 ^ 62) ≤ m ∧ m < 2 ^ 62 ∧ -(2 ^ 62) ≤ n ∧ n < 2 ^ 62) ∧ PI (rngD m n) Γ1) X) : EvI K W (iRng2 t) Γ PI X := fun O G H σ R S q x =>
  h O G H σ _ S (fun vs G1 H1 Γ1 ds s1 S1 r ⟨m, n, en, l, p⟩ => by
    subst en
    cases r with
    | cons r1 r2 =>
      cases r2 with
      | cons r2 r3 =>
      cases r1; cases r2; cases r3
      refine ⟨m, n, rfl, l, q _ G1 H1 Γ1 _ _ _ _ s1 S1 (walk_range (lo := m) (n := (n - m).toNat)) (rngD_len m n).symm (fun _ _ => trivial) (fun k x v G2 H2 H3 hx s2 g2 y => ?_) p⟩
      obtain ⟨rfl, rfl⟩ := y
      obtain ⟨rfl, _⟩ := rngD_get hx
      exact ⟨G2, Ext.refl g2, .int _⟩) x
theorem ei_rng1 {t : TA} (h : EvA K W t Γ (fun ds Γ1 => ∃ n : Int, ds = [.int n] ∧ (-(2 ^ 62) ≤ n ∧ n < 2 ^ 62) ∧ PI (rngD 0 n) Γ1) X) : EvI K W (iRng1 t) Γ PI X := fun O G H σ R S q x =>
  h O G H σ _ S (fun vs G1 H1 Γ1 ds s1 S1 r ⟨n, en, ⟨l1, l2⟩, p⟩ => by
    subst en
    cases r with
    | cons r1 r2 =>
      cases r1; cases r2
      refine ⟨n, rfl, l1, l2, q _ G1 H1 Γ1 _ _ _ _ s1 S1 (walk_range (lo := 0) (n := n.toNat)) (by rw [rngD_len]; simp) (fun _ _ => trivial) (fun k x v G2 H2 H3 hx s2 g2 y => ?_) p⟩
      obtain ⟨rfl, rfl⟩ := y
      obtain ⟨rfl, _⟩ := rngD_get hx
      exact ⟨G2, Ext.refl g2, .int _⟩) x
end
/-! ### slots, by place -/
section
variable {K : PySem.W.Frag} {G H : Hp}
theorem slots_of : ∀ {σ : St} {Γ : Gm}, σ.length = Γ.length → (∀ (i : Nat) (s : Sl), Γ[i]? = some (some s) → ∃ v, σ[i]? = some (some v) ∧ Own K G H v s) → Slots K G H σ Γ
  | [], [], _, _ => .nil
  | [], _ :: _, h, _ => by simp at h
  | _ :: _, [], h, _ => by simp at h
  | x :: σ, none :: Γ, h, k => .no (slots_of (by simpa using h) fun i s e => by simpa using k (i + 1) s (by simpa using e))
  | x :: σ, some y :: Γ, h, k => by
    obtain ⟨v, e, o⟩ := k 0 y rfl
    simp at e
    subst e
    exact .yes o (slots_of (by simpa using h) fun i s e => by simpa using k (i + 1) s (by simpa using e))
def wipeG (Γ : Gm) : List Nat → Gm
  | [] => Γ
  | v :: vs => (wipeG Γ vs).set v none
theorem wipe_get : ∀ {vs : List Nat} {σ : St} {i : Nat} {v : V}, (wipe σ vs)[i]? = some (some v) → σ[i]? = some (some v)
  | [], _, _, _, h => h
  | w :: vs, σ, i, v, h => by
    unfold wipe at h
    rw [List.getElem?_set] at h
    by_cases e : w = i
    · rw [if_pos e] at h
      split at h
      · cases h
      · cases h
    · rw [if_neg e] at h
      exact wipe_get h
theorem sta_unwipe {O : Hp} {σ : St} {Γ : Gm} {vs : List Nat} (S : Sta K O G H (wipe σ vs) Γ) : Sta K O G H σ Γ := by
  refine ⟨S.g, S.o, S.d, slots_of (by rw [← S.sl.len, wipe_length]) fun i s e => ?_, S.nd, S.ng, S.no, S.om⟩
  obtain ⟨v, e, o⟩ := S.get e
  exact ⟨v, wipe_get e, o⟩
theorem sta_wipe {O : Hp} {σ : St} {Γ : Gm} (S : Sta K O G H σ Γ) : ∀ vs : List Nat, Sta K O G H (wipe σ vs) (wipeG Γ vs)
  | [] => S
  | v :: vs => (sta_wipe S vs).forget v none
/-- one more foreign thing -/
theorem updM {O : Hp} {D : Addr} {o : HO} (h : ∀ a u, O a = some u → Mut (some u)) (mu : Mut (some o)) : ∀ a u, upd O D o a = some u → Mut (some u) := fun a u q => by
  by_cases e : a = D
  · subst e; rw [upd_same] at q; cases q; exact mu
  · rw [upd_ne e] at q; exact h a u q
theorem Sta.toO {O : Hp} {σ : St} {Γ : Gm} {D : Addr} {o : HO} (S : Sta K O G H σ Γ) (hD : H D = some o) (oD : O D = none) (gD : G D = none) (fD : D ∉ fps Γ) (mu : Mut (some o)) : Sta K (upd O D o) G H σ Γ := by
  refine ⟨S.g, fun a u q => ?_, fun a q => ?_, S.sl, S.nd, S.ng, fun a ha => ?_, updM S.om mu⟩
  · by_cases e : a = D
    · subst e; rw [upd_same] at q; cases q; exact hD
    · rw [upd_ne e] at q; exact S.o a u q
  · by_cases e : a = D
    · subst e; exact gD
    · rw [upd_ne e] at q; exact S.d a q
  · rw [upd_ne (fun z : a = D => fD (z ▸ ha))]; exact S.no a ha
theorem Sta.offO {O : Hp} {σ : St} {Γ : Gm} {D : Addr} {o : HO} (S : Sta K (upd O D o) G H σ Γ) (oD : O D = none) : Sta K O G H σ Γ := by
  refine ⟨S.g, fun a u q => S.o a u (by rw [upd_ne (ne_of_none q oD)]; exact q), fun a q => S.d a ?_, S.sl, S.nd, S.ng, fun a ha => ?_, fun a u q => S.om a u (by rw [upd_ne (ne_of_none q oD)]; exact q)⟩
  · by_cases e : a = D
    · subst e; exact absurd oD q
    · rw [upd_ne e]; exact q
  · have n := S.no a ha
    by_cases e : a = D
    · subst e; rw [upd_same] at n; cases n
    · rw [upd_ne e] at n; exact n
theorem Sta.updO {O : Hp} {σ : St} {Γ : Gm} {D : Addr} {o o' : HO} (S : Sta K (upd O D o) G H σ Γ) (mu : Mut (some o')) : Sta K (upd O D o') G (upd H D o') σ Γ := by
  have gD : G D = none := S.d D (by rw [upd_same]; simp)
  have fD : D ∉ fps Γ := fun z => by have n := S.no D z; rw [upd_same] at n; cases n
  refine ⟨fun a u q => ?_, fun a u q => ?_, fun a q => ?_, S.sl.mono (Same.refl _) fun a ha u q => ?_, S.nd, S.ng, fun a ha => ?_, fun a u q => ?om⟩
  · rw [upd_ne (ne_of_none q gD)]; exact S.g a u q
  · by_cases e : a = D
    · subst e; rw [upd_same] at q ⊢; exact q
    · rw [upd_ne e] at q ⊢; exact S.o a u (by rw [upd_ne e]; exact q)
  · by_cases e : a = D
    · subst e; exact gD
    · rw [upd_ne e] at q; exact S.d a (by rw [upd_ne e]; exact q)
  · rw [upd_ne (fun z : a = D => fD (z ▸ ha))]; exact q
  · rw [upd_ne (fun z : a = D => fD (z ▸ ha))]
    have n := S.no a ha
    rw [upd_ne (fun z : a = D => fD (z ▸ ha))] at n
    exact n
  case om =>
    by_cases e : a = D
    · subst e; rw [upd_same] at q; cases q; exact mu
    · rw [upd_ne e] at q; exact S.om a u (by rw [upd_ne e]; exact q)
end
/-! ### comprehensions -/
/-- g writes no slots but those of vs -/
def Wr (g : TG) (vs : List Nat) : Prop := ∀ (v : V) (σ : St) (H : Hp) (Q : St → Hp → Prop), g v σ H Q → g v σ H fun σ2 H2 => wipe σ2 vs = wipe σ vs ∧ Q σ2 H2
def Wrs (g : TGs) (vs : List Nat) : Prop := ∀ (v : List V) (σ : St) (H : Hp) (Q : St → Hp → Prop), g v σ H Q → g v σ H fun σ2 H2 => wipe σ2 vs = wipe σ vs ∧ Q σ2 H2
/-- no error is let out -/
abbrev WF : WX := fun _ _ _ _ => False
abbrev XF : XP := fun _ _ _ => False
theorem takes_none {X : Cx} : Takes X WF := fun u s' h => by
  obtain ⟨_, _, _, _, _, _, _, _, _, _, _, _, _, _, _, _, z⟩ := h
  exact z.elim
theorem wipe_set {σ : St} {x : Option V} : ∀ {vs : List Nat} {i : Nat}, i ∈ vs → wipe (σ.set i x) vs = wipe σ vs
  | [], _, h => by simp at h
  | w :: vs, i, h => by
    unfold wipe
    by_cases e : i = w
    · subst e
      by_cases m : i ∈ vs
      · rw [wipe_set m]
      · have key : ∀ (us : List Nat), (wipe (σ.set i x) us).set i none = (wipe σ us).set i none := by
          intro us
          induction us with
          | nil => simp [wipe]
          | cons u us ih =>
            unfold wipe
            by_cases q : u = i
            · subst q
              rw [List.set_set, List.set_set]; exact ih
            · rw [List.set_comm _ _ q, ih, List.set_comm _ _ q]
        exact key vs
    · have m : i ∈ vs := by
        rcases List.mem_cons.mp h with z | z
        · exact absurd z e
        · exact z
      rw [wipe_set m]
theorem wipe_in {σ : St} {us : List Nat} : ∀ {vs : List Nat}, (∀ v ∈ vs, v ∈ us) → wipe (wipe σ vs) us = wipe σ us
  | [], _ => rfl
  | v :: vs, h => by
    show wipe ((wipe σ vs).set v none) us = _
    rw [wipe_set (h v (by simp)), wipe_in fun w hw => h w (by simp [hw])]
theorem wr_name {i : Nat} {vs : List Nat} (h : i ∈ vs) : Wr (gName i) vs := fun v σ H Q q => ⟨wipe_set h, q⟩
theorem wrs_nil {vs : List Nat} : Wrs gNil vs := fun v σ H Q ⟨e, q⟩ => ⟨e, rfl, q⟩
/-- what a target does, it does for whatever is wanted behind it -/
def MoG (g : TG) : Prop := ∀ (v : V) (σ : St) (H : Hp) (Q Q' : St → Hp → Prop), (∀ a b, Q a b → Q' a b) → g v σ H Q → g v σ H Q'
def MoGs (g : TGs) : Prop := ∀ (v : List V) (σ : St) (H : Hp) (Q Q' : St → Hp → Prop), (∀ a b, Q a b → Q' a b) → g v σ H Q → g v σ H Q'
theorem mo_name {i : Nat} : MoG (gName i) := fun v σ H Q Q' k q => k _ _ q
theorem mos_nil : MoGs gNil := fun v σ H Q Q' k ⟨e, q⟩ => ⟨e, k _ _ q⟩
theorem mos_cons {g : TG} {r : TGs} (a : MoG g) (b : MoGs r) : MoGs (gCons g r) := fun v σ H Q Q' k ⟨x, y, e, q⟩ => ⟨x, y, e, a _ _ _ _ _ (fun _ _ z => b _ _ _ _ _ k z) q⟩
theorem mo_tup {K : PySem.W.Frag} {n : Nat} {r : TGs} (b : MoGs r) : MoG (gTup K n r) := fun v σ H Q Q' k ⟨a, xs, e, s, l, q⟩ => ⟨a, xs, e, s, l, b _ _ _ _ _ k q⟩
theorem wrs_cons {g : TG} {r : TGs} {vs : List Nat} (m : MoG g) (mr : MoGs r) (a : Wr g vs) (b : Wrs r vs) : Wrs (gCons g r) vs := fun v σ H Q ⟨x, y, e, q⟩ =>
  ⟨x, y, e, m _ _ _ _ _ (fun σ1 H1 ⟨e1, z⟩ => mr _ _ _ _ _ (fun σ2 H2 ⟨e2, w⟩ => ⟨e2.trans e1, w⟩) (b _ _ _ _ z)) (a _ _ _ _ q)⟩
theorem wr_tup {K : PySem.W.Frag} {n : Nat} {r : TGs} {vs : List Nat} (b : Wrs r vs) : Wr (gTup K n r) vs := fun v σ H Q ⟨a, xs, e, s, l, q⟩ => ⟨a, xs, e, s, l, b _ _ _ _ q⟩
section
variable {K : PySem.W.Frag} {W : WX} {Γ : Gm} {X : XP} {te : TE} {tt : TT} {g : TG} {wi : TI} {vs : List Nat}
theorem evo_lc {P : Sl → Gm → Prop} (hw : Wr g vs) (hm : MoG g) (h : EvI K W wi Γ (fun xs Γ1 => ∃ I : Nat → List Dt → Gm → Prop, I 0 [] (wipeG Γ1 vs) ∧
      (∀ k x acc Γ2, xs[k]? = some x → I k acc Γ2 → GoG K WF g x Γ2 (fun Γ3 => EvT K WF tt Γ3 (fun b Γ4 => (b = true → Ev K WF te Γ4 (fun y Γ5 => acc.length < 1000000 ∧ I (k + 1) (acc ++ [y]) (wipeG Γ5 vs)) XF) ∧ (b = false → I (k + 1) acc (wipeG Γ4 vs))) XF) XF) ∧
      (∀ a acc Γ2, I xs.length acc Γ2 → P (.ol a acc) Γ2)) X) : EvO K W (tLc wi g tt te vs) Γ P X := fun O G H σ Q S q x =>
  h O G H σ _ S (fun J G1 H1 Γ1 xs n GG Y s1 S1 w hn hG hY ⟨I, h0, hs, hd⟩ => by
    intro D nD
    have oD : O D = none := S1.o.free nD
    have gD : G1 D = none := S1.g.free nD
    have fD : D ∉ fps Γ1 := fun z => S1.there D z nD
    have xf : ∀ {O' G' : Hp} {σ' : St}, XOk K WF O' G' σ' XF := fun {O' G' σ'} C d fs G2 H2 Γ2 _ _ _ z => z
    refine lc_it w (fun k H' => ∃ (G2 : Hp) (Γ2 : Gm) (acc : List Dt) (av : List V), Same G1 G2 ∧ Sta K (upd O D (.lst av)) G2 H' (wipe σ vs) Γ2 ∧ Reps K G2 av acc ∧ I k acc Γ2) ?_ (fun k H' _ ⟨G2, Γ2, acc, av, s2, S2, _⟩ => hG H' (s2.trans S2.g)) ?_ ?_
    · have T := (S1.ext (Ext.raw (ob := .lst []) S1.g nD)).toO upd_same oD gD fD trivial
      exact ⟨G1, _, [], [], Same.refl _, sta_wipe T vs, .nil, h0⟩
    · rintro k v H2 H3 hk ⟨G2, Γ2, acc, av, s2, S2, ra, p⟩ y
      have hx : xs[k]? = some (xs[k]'(by omega)) := by simp
      obtain ⟨G3, ex, r⟩ := hY k _ v G2 H2 H3 hx s2 S2.g y
      refine hm _ _ _ _ _ (fun σ2 H2 z => (fun (e : wipe σ2 vs = wipe σ vs) => ⟨e, z.2 e⟩) (z.1.trans (wipe_in fun v hv => hv))) (hw v (wipe σ vs) H3 (fun σ2 H2 => wipe σ2 vs = wipe σ vs → tt σ2 H2 fun b H3 => if b = true then te σ2 H3 fun y H4 => ∃ acc, H4 D = some (HO.lst acc) ∧ acc.length < sizeLine ∧
        ∃ (G2 : Hp) (Γ2 : Gm) (acc_1 : List Dt) (av : List V), Same G1 G2 ∧ Sta K (upd O D (HO.lst av)) G2 (upd H4 D (HO.lst (acc ++ [y]))) (wipe σ vs) Γ2 ∧ Reps K G2 av acc_1 ∧ I (k + 1) acc_1 Γ2
        else ∃ (G2 : Hp) (Γ2 : Gm) (acc : List Dt) (av : List V), Same G1 G2 ∧ Sta K (upd O D (HO.lst av)) G2 H3 (wipe σ vs) Γ2 ∧ Reps K G2 av acc ∧ I (k + 1) acc Γ2) ?_)
      refine hs k _ acc Γ2 hx p _ G3 H3 _ v _ (S2.ext ex) r (fun G4 H4 σ4 Γ4 s4 S4 p4 e4 => ?_) fun σ5 => xf
      have r4 : Reps K G4 av acc := (ra.mono ex.g).mono s4
      have s14 : Same G1 G4 := s2.trans (ex.g.trans s4)
      refine p4 _ G4 H4 σ4 _ S4 (fun b G5 H5 Γ5 s5 S5 p5 => ?_) xf
      cases b with
      | false =>
        refine iteF ⟨G5, _, acc, av, s14.trans s5, ?_, r4.mono s5, p5.2 rfl⟩
        have T := sta_wipe S5 vs
        rw [e4] at T
        exact T
      | true =>
        refine iteT (p5.1 rfl _ G5 H5 σ4 _ S5 (fun y G6 H6 Γ6 dy s6 S6 r6 p6 => ?_) xf)
        refine ⟨av, S6.o D _ upd_same, by rw [((r4.mono s5).mono s6).length]; exact Nat.lt_of_lt_of_le p6.1 (by decide), G6, _, acc ++ [dy], av ++ [y], s14.trans (s5.trans s6), ?_, ((r4.mono s5).mono s6).append (.cons r6 .nil), p6.2⟩
        have T := sta_wipe (S6.updO (o' := .lst (av ++ [y])) trivial) vs
        rw [e4] at T
        exact T
    · rintro H2 ⟨G2, Γ2, acc, av, s2, S2, ra, p⟩
      have T := sta_unwipe S2
      have hD : H2 D = some (.lst av) := T.o D _ upd_same
      have gD2 : G2 D = none := T.d D (by rw [upd_same]; simp)
      have fD2 : D ∉ fps Γ2 := fun z => by have n := T.no D z; rw [upd_same] at n; cases n
      refine q (.ref D) G2 H2 Γ2 (.ol D acc) (s1.trans s2) ((T.offO oD).push (.ol hD ra) (by simp [Sl.fp]) ?_ ?_ ?_) (hd D acc Γ2 (by rw [← hn]; exact p))
      · intro b hb; simp [Sl.fp] at hb; subst hb; exact gD2
      · intro b hb; simp [Sl.fp] at hb; subst hb; exact oD
      · intro b hb; simp [Sl.fp] at hb; subst hb; exact fD2) x
end
/-! ### fields, counted -/
def Cnt (fs : List (Str × Dt)) (n : Nat) : Prop := fs.length ≤ n
theorem cnt_nil : Cnt [] 0 := Nat.le_refl _
theorem cnt_put {f : Str} {d : Dt} : ∀ {fs : List (Str × Dt)} {n : Nat}, Cnt fs n → Cnt (putD f d fs) (n + 1)
  | [], n, _ => by unfold Cnt putD; simp
  | (g, c) :: r, n, h => by
    unfold Cnt at h
    unfold putD
    by_cases e : g = f
    · rw [if_pos e]; unfold Cnt; simp at h ⊢; omega
    · rw [if_neg e]
      have := cnt_put (f := f) (d := d) (fs := r) (n := n - 1) (by unfold Cnt; simp at h; omega)
      unfold Cnt at this ⊢
      simp at h ⊢
      omega
theorem cnt_lt {fs : List (Str × Dt)} {n : Nat} (h : Cnt fs n) (k : n < 1000) : fs.length < 1000 := Nat.lt_of_le_of_lt h k
section
variable {K : PySem.W.Frag} {W : WX} {Γ : Gm} {X : XP} {P : Dt → Gm → Prop} {tv : TE} {i : Nat} {nx : Gm → Prop} {rt : Sl → Gm → Prop} {xc : XP} {bk ct : Gm → Prop}
/-- self.f = e, the slot known -/
theorem x_fldS {f : Str} {a C : Addr} {fs : List (Str × Dt)} {n : Nat} {Q : Addr → Addr → List (Str × Dt) → Prop} (hi : Γ[i]? = some (some (.oo a C (frF fs)))) (hc : Cls K C) (hn : NoAttr K C f) (hl : Cnt fs n) (hk : n < 1000) (p : Q a C fs) :
    ∃ a C fs, Γ[i]? = some (some (.oo a C (frF fs))) ∧ (Cls K C ∧ NoAttr K C f ∧ fs.length < 1000) ∧ Q a C fs := ⟨a, C, fs, hi, ⟨hc, hn, cnt_lt hl hk⟩, p⟩
theorem g_make {S : DSp} {C : Addr} {t : TA} (h : Ev K W (tMakeS C (spD K S) (WE W) t) Γ (fun _ Γ1 => nx Γ1) xc) : Go K W (tDrop (tMakeS C (spD K S) (WE W) t)) Γ ⟨nx, rt, xc, bk, ct⟩ := go_drop (evo_of h)
/-- a field of a frozen instance -/
theorem x_fldO {C : Addr} {fs : List (Str × Dt)} {f : Str} {y : Dt} {Q : Dt → Prop} (hc : Cls K C) (hn : NoAttr K C f) (hl : fs.lookup f = some y) (p : Q y) :
    (∃ C' fs' y, Dt.obj C fs = .obj C' fs' ∧ Cls K C' ∧ NoAttr K C' f ∧ fs'.lookup f = some y ∧ Q y) ∨ (∃ C' fs' y, Dt.obj C fs = .exc C' fs' ∧ XfC K C' ∧ PySem.W.findIn K (.ref C') f = some none ∧ fs'.lookup f = some y ∧ Q y) := .inl ⟨_, _, _, rfl, hc, hn, hl, p⟩
theorem ev_mk {S : DSp} {C : Addr} {t : TA} (h : EvA K W t Γ (fun ds Γ1 => ∀ y, S (.oo y C (frF []) :: ds.map .fr) (fun res args' => ∃ fs, res = .fr .non ∧ args' = .oo y C (frF fs) :: ds.map .fr ∧ P (.obj C fs) Γ1) (fun D fs _ => X D fs Γ1)) X) : Ev K W (tMakeS C (spD K S) (WE W) t) Γ P X := ev_make h
theorem pg_tupK {X : Cx} {es : List Expr} {k : Nat} {t : TGs} {n : Nat} {pos : Pos} (K : PySem.W.Frag) (h : X.K = K) (hc : X.calm = true) (hg : PGs X es t) (hn : (assignEach es X.env).length = n := by rfl) (hst : (assignEach es X.env).findIdx? (·.1) = none := by rfl) : PG X (.Tuple es k pos) (gTup K n t) := by
  subst h; exact pg_tup hc hg hn hst
end
end DL

/-! DL, part k: own special methods. -/
namespace OX
open PySem PySem.Spec PyProof.Rows PySem.SeqAt
section
variable {prog : Program} {w : World} {A : Around} {E : Value → Shared → Prop} {s : Shared} {K : PySem.W.Frag} {x y C f : Addr} {ox oy : Obj} {od od' : Option Obj}
theorem ne_body (X : K.In s.heap) (I : PySem.W.InstAt s.heap x ox C od) (he : PySem.W.findIn K (.ref C) "__eq__" = some (some (.ref f))) (hf : PySem.W.isFn K (.ref f) = true) (hu : A.units < cLine) {Q : Fin → Shared → Prop}
    (h : wpAny (model prog w) A (call (.ref f) [.ref x, .ref y]) (fun v s' => ∃ b, v = .bool b ∧ Q (.done (.ret (.bool (!b)))) s') E s) : wpAny (model prog w) A (Builtin.«object.__ne__» ⟨[.ref x, .ref y], []⟩) Q E s := by
  unfold Builtin.«object.__ne__»
  repeat (first
    | with_reducible refine wpAny_cRoomFor hu ?_
    | (refine wpAny_bind (m := callSpecialIfBound? (.ref x) (Str.ofString "__eq__") [.ref y]) (PySem.W.ifBound_K X I he hf (wpAny_mono h (fun r s' hr => by
        obtain ⟨b, rfl, hq⟩ := hr
        repeat (first | exact hq | exact wpAny_pure hq | exact wpAny_truthy_bool hq | (refine wpAny_bind (m := truthy (.bool _)) (wpAny_truthy_bool ?_)) | wp_step)) fun _ _ e => e)))
    | wp_step)
theorem ne_bound {M : Model} {args : List Value} {Q : Option Value → Shared → Prop} (X : K.In s.heap) (I : PySem.W.InstAt s.heap x ox C od) (hs : PySem.W.findIn K (.ref C) "__ne__" = some (some (.builtin "object.__ne__")))
    (h : wpAny M A (call (.builtin "object.__ne__") (.ref x :: args)) (fun v => Q (some v)) E s) : wpAny M A (callSpecialIfBound? (.ref x) "__ne__" args) Q E s := by
  simp only [callSpecialIfBound?, bindSpecialIfBound?]
  refine wpAny_holding (wpAny_bind (wpAny_bind (wpAny_bind (I.type.here ((PySem.W.looks_findIn X hs).here (wpAny_bind (wpAny_askSetting (wpAny_ite ?_))))))))
  have last : wpAny M A (call (.builtin "object.__ne__") ([.ref x] ++ args) >>= fun v => pure (some v)) Q E s := wpAny_bind (wpAny_mono h (fun v s' q => wpAny_pure q) fun _ _ q => q)
  split
  · exact wpAny_bind (wpAny_of_eq (F.cmp_object.ne.bind _) (wpAny_pure (by exact last)))
  · exact wpAny_tryCatch (wpAny_bind (wpAny_of_eq (F.cmp_object.ne.bind _) (wpAny_pure (by exact last))))
theorem ne_own (X : K.In s.heap) (I : PySem.W.InstAt s.heap x ox C od) (J : PySem.W.InstAt s.heap y oy C od') (hm : PySem.W.mroIn K C (.type "object") = some true) (hn : PySem.W.findIn K (.ref C) "__ne__" = some (some (.builtin "object.__ne__")))
    (he : PySem.W.findIn K (.ref C) "__eq__" = some (some (.ref f))) (hf : PySem.W.isFn K (.ref f) = true) (hu : A.units + 1 < cLine) {Q : Value → Shared → Prop}
    (h : wpAny (model prog w) A.in1 (call (.ref f) [.ref x, .ref y]) (fun v s' => ∃ b, v = .bool b ∧ Q (.bool (!b)) s') E s) : wpAny (model prog w) A (richCompare .NotEq (.ref x) (.ref y)) Q E s := by
  have one : wpAny (model prog w) A (tryCompare (.ref x) "__ne__" (.ref y)) (fun r s' => ∃ b, r = some (.bool b) ∧ Q (.bool b) s') E s := by
    simp only [tryCompare]
    refine wpAny_bind (ne_bound X I hn (wpAny_call (codeAny_call_builtin F.cmp_object.ne.plain F.cmpEntry_ne (PySem.W.check_slot F.cmpKind_ne F.cmpSplit_ne (I.type.andThen (PySem.W.looks_mroIn X hm)) (F.cmpArgs_ne _ _) (ne_body (A := A.in1) X I he hf hu (wpAny_mono h (fun v s' hv => ?_) fun _ _ e => e))))))
    obtain ⟨b, rfl, hq⟩ := hv
    first | exact ⟨b, rfl, wpAny_pure ⟨_, rfl, hq⟩⟩ | exact ⟨b, rfl, wpAny_pure (wpAny_pure ⟨_, rfl, hq⟩)⟩ | exact ⟨b, rfl, ⟨_, rfl, hq⟩⟩
  unfold richCompare
  simp only [oneThing_ref]
  refine wpAny_holding (wpAny_bind (wpAny_cRoomFor (Nat.lt_of_succ_lt hu) ?_))
  rw [cmpInfo_NotEq]
  dsimp only
  refine wpAny_bind (I.type.here (wpAny_bind (J.type.here ?_)))
  rw [show (Value.ref C != Value.ref C) = false from by simp]
  simp only [Bool.false_eq_true, if_false]
  refine wpAny_bind (wpAny_pure ?_)
  simp only [Bool.false_eq_true, if_false]
  refine wpAny_bind (wpAny_mono one (fun v s' hv => ?_) fun _ _ e => e)
  obtain ⟨b, rfl, hq⟩ := hv
  first | exact wpAny_pure hq | exact wpAny_pure (wpAny_pure hq)
end
end OX
namespace L2
open PySem PySem.Spec PyProof.Rows
section
variable {X : Cx} {CX : CXT} {k : Nat} {f C : Addr} {fd : FuncData} {ps : List Str} {sp : Sp} {E : St → XK} {pos : Pos} {a b : Expr} {ta tb : TE}
/-- a == b, a != b of two instances by their class's __eq__ -/
def tCmpO (C : Addr) (neg : Bool) (sp : Sp) (E : St → XK) (ta tb : TE) : TE := fun σ H Q => ta σ H fun x H1 => tb σ H1 fun y H2 => ∃ p q dx dy fs gs, x = .ref p ∧ y = .ref q ∧ H2 p = some (.ins C dx fs) ∧ H2 q = some (.ins C dy gs) ∧
  sp [.ref p, .ref q] H2 (fun v H3 => ∃ j, v = .bl j ∧ Q (.bl (j ^^ neg)) H3) (E σ)
/-- what a class must have for it -/
structure EqC (K : PySem.W.Frag) (C f : Addr) : Prop where
  eq : PySem.W.findIn K (.ref C) "__eq__" = some (some (.ref f))
  fn : PySem.W.isFn K (.ref f) = true
  ne : PySem.W.findIn K (.ref C) "__ne__" = some (some (.builtin "object.__ne__"))
  mro : PySem.W.mroIn K C (.type "object") = some true
theorem pe_eqO (c : EqC X.K C f) (F : FnOk X.prog X.w X.K X.mg X.base CX k f fd ps sp) (hr : Room k X.A) (hb : Binds X.K fd ps []) (hx : ∀ σ, PassesAt CX X σ (E σ)) (pa : PE X a ta) (pb : PE X b tb) : PE X (.Compare a [.Eq] [b] pos) (tCmpO C false sp E ta tb) := by
  refine ⟨fun pins s σ H Q I h => wpAny_Compare1 (binT pa pb I h fun v u s2 x y H2 I2 rx ry z => ?_) (nobehind _ (by decide) (by decide))⟩
  obtain ⟨p, q, dx, dy, fs, gs, rfl, rfl, hp, hq, z⟩ := z
  obtain rfl : v = Value.ref p := rx
  obtain rfl : u = Value.ref q := ry
  show wpAny _ _ (richCompare .Eq (.ref p) (.ref q)) _ _ _
  obtain ⟨mA, J, _⟩ := ins_get I2.hok hp
  obtain ⟨mB, J', _⟩ := ins_get I2.hok hq
  obtain ⟨od, J, _⟩ := J.look
  obtain ⟨od', J', _⟩ := J'.look
  obtain ⟨m, hF⟩ := I2.fr
  refine PySem.W.cmp_K (op := .Eq) (tb := .ref C) hr.units0 hF I2.ok.mod.kin J J'.type (by simp [PySem.W.notFirst]) c.eq c.fn ?_
  refine thn (run_fnS (us := [.ref p, .ref q]) (vs := [.ref p, .ref q]) F hr hb (hx σ) I2 (.cons rfl (.cons rfl .nil)) z) fun r s3 hh => ?_
  obtain ⟨r', H3, I3, rr, j, ej, q3⟩ := hh
  subst ej
  cases rr
  exact ⟨.bl j, H3, I3, rfl, by simpa using q3⟩
theorem pe_neO (c : EqC X.K C f) (F : FnOk X.prog X.w X.K X.mg X.base CX k f fd ps sp) (hr : Room (k + 1) X.A) (hb : Binds X.K fd ps []) (hx : ∀ σ, PassesAt CX X σ (E σ)) (pa : PE X a ta) (pb : PE X b tb) : PE X (.Compare a [.NotEq] [b] pos) (tCmpO C true sp E ta tb) := by
  refine ⟨fun pins s σ H Q I h => wpAny_Compare1 (binT pa pb I h fun v u s2 x y H2 I2 rx ry z => ?_) (nobehind _ (by decide) (by decide))⟩
  obtain ⟨p, q, dx, dy, fs, gs, rfl, rfl, hp, hq, z⟩ := z
  obtain rfl : v = Value.ref p := rx
  obtain rfl : u = Value.ref q := ry
  show wpAny _ _ (richCompare .NotEq (.ref p) (.ref q)) _ _ _
  obtain ⟨mA, J, _⟩ := ins_get I2.hok hp
  obtain ⟨mB, J', _⟩ := ins_get I2.hok hq
  obtain ⟨od, J, _⟩ := J.look
  obtain ⟨od', J', _⟩ := J'.look
  refine OX.ne_own I2.kIn J J' c.mro c.ne c.eq c.fn (by have := hr.units; omega) ?_
  have e0 : Env0 X.prog X.w X.K X.mg X.base X.A.in1 X.stack s2 H2 := by
    have e := I2.env0
    exact ⟨e.frames, e.mod, e.bs, e.bsz, e.funs, e.frf, e.hok, e.bare⟩
  have r2 : Vals [V.ref p, V.ref q] [Value.ref p, Value.ref q] := .cons rfl (.cons rfl .nil)
  have len := F.len _ _ _ _ z
  have bi := hb s2 [.ref p, .ref q] I2.kIn (by simpa using len)
  rw [List.append_nil] at bi
  refine wpAny_call (codeAny_mono (F.run X.A.in1 X.stack s2 H2 ⟨[.ref p, .ref q], []⟩ [.ref p, .ref q] [.ref p, .ref q] _ (E σ) hr.in1 e0 bi r2 z) fun r s3 hh => ?_)
  cases r with
  | error e => exact hx σ pins H2 s2 e s3 I2 hh
  | ok fl =>
    cases fl with
    | ret u =>
      obtain ⟨r', H3, I3, rr, j, ej, q3⟩ := I2.after hh
      subst ej
      cases rr
      exact ⟨j, rfl, .bl (!j), H3, I3, rfl, by simpa using q3⟩
    | next => exact hh.elim
    | brk => exact hh.elim
    | cont => exact hh.elim
end
end L2
namespace DL
open PySem PySem.Spec L2
section
variable {X : Cx} {ps : List Str} {k j : Nat} {S : DSp} {W : WX} {a b : Expr} {ta tb : TE} {pos : Pos} {C f : Addr}
theorem pe_eqOK (K : PySem.W.Frag) (h : X.K = K) (c : EqC K C f) (D : DfnA X.prog X.w K X.mg X.base f ps k S) (hr : Room j X.A) (hj : k + 1 ≤ j) (tk : Takes X W) (pa : PE X a ta) (pb : PE X b tb) : PE X (.Compare a [.Eq] [b] pos) (tCmpO C false (spD K S) (WE W) ta tb) := by
  subst h
  obtain ⟨fd, F, b⟩ := D.ex
  exact pe_eqO c F (hr.mono (Nat.le_of_succ_le hj)) b (fun σ => passAt tk σ) pa pb
theorem pe_neOK (K : PySem.W.Frag) (h : X.K = K) (c : EqC K C f) (D : DfnA X.prog X.w K X.mg X.base f ps k S) (hr : Room j X.A) (hj : k + 1 ≤ j) (tk : Takes X W) (pa : PE X a ta) (pb : PE X b tb) : PE X (.Compare a [.NotEq] [b] pos) (tCmpO C true (spD K S) (WE W) ta tb) := by
  subst h
  obtain ⟨fd, F, b⟩ := D.ex
  exact pe_neO c F (hr.mono hj) b (fun σ => passAt tk σ) pa pb
end
section
variable {K : PySem.W.Frag} {W : WX} {Γ : Gm} {X : XP} {P : Dt → Gm → Prop} {ta tb : TE}
/-- a def's promise used at frozen values -/
theorem call_at {S : DSp} {O G H : Hp} {σ : St} {vs : List V} {ds : List Dt} {Q : VK} {R : Sl → Prop} (S1 : Sta K O G H σ Γ) (r : Reps K G vs ds) (hS : S (ds.map .fr) (fun res _ => R res) (fun C fs _ => X C fs Γ)) (x : XOk K W O G σ X)
    (q : ∀ (v : V) (G2 H2 : Hp) (res : Sl), Same G G2 → Sta K O G2 H2 (some v :: σ) (some res :: Γ) → R res → Q v H2) : spD K S vs H Q (WE W σ) := by
  refine ⟨forn O H (fps Γ), G, ds.map .fr, _, _, S1.entry0 r, hS, fun v G2 H2 res args' s2 S2 p => ?_, fun C d fs G2 H2 args' s2 S2 rx p => ?_⟩
  · have T := S1.back s2 S2.g S2.o S2.d
    have nd := S2.nd
    simp only [fps, fpO] at nd
    have mem : ∀ a ∈ res.fp, a ∈ fps (some res :: sls args') := fun a ha => by simp [fps, fpO, ha]
    refine q v G2 H2 res s2 (T.push S2.head (List.nodup_append.mp nd).1 (fun a ha => S2.ng a (mem a ha)) (fun a ha => ?_) (fun a ha z => ?_)) p
    · have n := S2.no a (mem a ha)
      by_cases hf : a ∈ fps Γ
      · exact S1.no a hf
      · rw [forn_out hf] at n; exact n
    · have n := S2.no a (mem a ha)
      rw [forn_in z] at n
      exact S1.there a z n
  · exact x C d fs G2 H2 Γ s2 (S1.back s2 S2.g S2.o S2.d) rx p
theorem ev_cmpO {S : DSp} {C : Addr} {neg : Bool} (h : Ev K W ta Γ (fun d Γ1 => Ev K W tb Γ1 (fun e Γ2 => ∃ fs gs, d = .obj C fs ∧ e = .obj C gs ∧ S [.fr d, .fr e] (fun res _ => ∃ k, res = .fr (.bl k) ∧ P (.bl (k ^^ neg)) Γ2) (fun D fs _ => X D fs Γ2)) X) X) : Ev K W (tCmpO C neg (spD K S) (WE W) ta tb) Γ P X := fun O G H σ Q S0 q x =>
  h O G H σ _ S0 (fun v1 G1 H1 Γ1 d1 s1 S1 r1 h1 => h1 O G1 H1 σ _ S1 (fun v2 G2 H2 Γ2 d2 s2 S2 r2 hh => by
    obtain ⟨fs, gs, e1, e2, hS⟩ := hh
    subst e1 e2
    have r1' := r1.mono s2
    have k1 := r1'
    have k2 := r2
    cases r1' with
    | @obj p _ dx fsv _ hp rf =>
    cases r2 with
    | @obj q' _ dy gsv _ hq rg =>
    refine ⟨p, q', dx, dy, fsv, gsv, rfl, rfl, S2.g _ _ hp, S2.g _ _ hq, ?_⟩
    refine call_at (R := fun res => ∃ k, res = .fr (.bl k) ∧ P (.bl (k ^^ neg)) Γ2) S2 (.cons k1 (.cons k2 .nil)) hS ((x.mono s1).mono s2) fun v G3 H3 res s3 S3 hr => ?_
    obtain ⟨k, er, hP⟩ := hr
    subst er
    have hd := S3.head
    cases hd with
    | fr rv =>
    cases rv
    exact ⟨k, rfl, q (.bl (k ^^ neg)) G3 H3 Γ2 _ (s1.trans (s2.trans s3)) S3.tail (.bl _) hP⟩) (x.mono s1)) x
end
/-- its facts -/
def eqCB (K : PySem.W.Frag) (C f : Addr) : Bool := He.eqO (PySem.W.findIn K (.ref C) "__eq__") (some (some (.ref f))) && (PySem.W.isFn K (.ref f) && (He.eqO (PySem.W.findIn K (.ref C) "__ne__") (some (some (.builtin "object.__ne__"))) && decide (PySem.W.mroIn K C (.type "object") = some true)))
theorem eqCB_ok {K : PySem.W.Frag} {C f : Addr} (q : eqCB K C f = true) : EqC K C f := by
  unfold eqCB at q
  simp only [Bool.and_eq_true, decide_eq_true_eq] at q
  obtain ⟨q1, q2, q3, q4⟩ := q
  exact ⟨He.eqO_ok q1, q2, He.eqO_ok q3, q4⟩
/-! ### what is never reached; isinstance of an instance -/
def tNever : TE := fun _ _ _ => False
theorem pe_never {X : Cx} {e : Expr} : PE X e tNever := ⟨fun _ _ _ _ _ _ h => h.elim⟩
theorem kit_self {K : PySem.W.Frag} {C : Addr} : PySem.W.kitOne K (.ref C) (.ref C) = some true := by
  unfold PySem.W.kitOne
  rw [if_pos (by simp)]
theorem x_isO {K : PySem.W.Frag} {R : Dt → Prop} {C : Addr} {fs : List (Str × Dt)} (f : InsF K C) (h : R (.bl true)) : dIsi K [.obj C fs, .ref C] R := l_isi (.own C) (.obj f) kit_self h
theorem x_cmp {C : Addr} {fs gs : List (Str × Dt)} {Q : Prop} (h : Q) : ∃ fs' gs', Dt.obj C fs = .obj C fs' ∧ Dt.obj C gs = .obj C gs' ∧ Q := ⟨_, _, rfl, rfl, h⟩
end DL

/-! DL, part l: == and != of plain data, lists and tuples among it; the sign of a number. -/
namespace L2
open PySem PySem.Spec
def rNegP : V → Hp → VK → Prop := rU fun i => .int (-i)
theorem un_negP {X : Cx} : UnR X (unaryOp .USub) rNegP := un_neg
end L2
namespace DL
open PySem PySem.Spec L2
/-- data without objects, n deep at most -/
inductive Pl : Nat → Dt → Prop
  | non {n : Nat} : Pl n .non
  | bl {n : Nat} (b : Bool) : Pl n (.bl b)
  | int {n : Nat} (i : Int) : Pl n (.int i)
  | str {n : Nat} {x : Str} (h : PyData.strOk x = true) : Pl n (.str x)
  | lst {n : Nat} {xs : List Dt} (h : ∀ d ∈ xs, Pl n d) : Pl (n + 1) (.lst xs)
  | tup {n : Nat} {xs : List Dt} (h : ∀ d ∈ xs, Pl n d) : Pl (n + 1) (.tup xs)
mutual
def eqD : Dt → Dt → Bool
  | .non, .non => true
  | .bl a, .bl b => a == b
  | .bl a, .int j => (if a then 1 else 0) == j
  | .int i, .bl b => i == (if b then 1 else 0)
  | .int i, .int j => i == j
  | .str x, .str y => x == y
  | .lst xs, .lst ys => eqDs xs ys
  | .tup xs, .tup ys => eqDs xs ys
  | _, _ => false
def eqDs : List Dt → List Dt → Bool
  | [], [] => true
  | x :: xs, y :: ys => eqD x y && eqDs xs ys
  | _, _ => false
end
theorem py_list {n : Nat} : ∀ {xs : List Dt}, (∀ d ∈ xs, ∃ p, d.py = some p ∧ p.canLay0 = true ∧ p.depth ≤ n) → ∃ ps, pyL xs = some ps ∧ PyData.canLayAll0 ps = true ∧ PyData.depthAll ps ≤ n
  | [], _ => ⟨[], rfl, rfl, Nat.zero_le _⟩
  | x :: xs, h => by
    obtain ⟨p, e, c, d⟩ := h x (by simp)
    obtain ⟨ps, es, cs, ds⟩ := py_list (xs := xs) fun d hd => h d (by simp [hd])
    refine ⟨p :: ps, by simp only [pyL]; rw [e, es], by simp [PyData.canLayAll0, c, cs], ?_⟩
    simp only [PyData.depthAll]
    omega
theorem Pl.py {n : Nat} {d : Dt} (h : Pl n d) : ∃ p, d.py = some p ∧ p.canLay0 = true ∧ p.depth ≤ n := by
  induction h with
  | non => exact ⟨_, rfl, rfl, Nat.zero_le _⟩
  | bl b => exact ⟨_, rfl, rfl, Nat.zero_le _⟩
  | int i => exact ⟨_, rfl, rfl, Nat.zero_le _⟩
  | str h => exact ⟨_, rfl, h, Nat.zero_le _⟩
  | lst _ ih =>
    obtain ⟨ps, e, c, d⟩ := py_list ih
    exact ⟨.list ps, by simp only [Dt.py]; rw [e]; rfl, c, by simp only [PyData.depth]; omega⟩
  | tup _ ih =>
    obtain ⟨ps, e, c, d⟩ := py_list ih
    exact ⟨.tuple ps, by simp only [Dt.py]; rw [e]; rfl, c, by simp only [PyData.depth]; omega⟩
mutual
theorem eqD_ok : ∀ {x y : Dt} {p q : PyData}, x.py = some p → y.py = some q → PyData.eqv p q = eqD x y
  | .non, y, p, q, h1, h2 => by cases y <;> simp [Dt.py] at h1 h2 <;> first | (obtain ⟨_, _, rfl⟩ := h2; subst h1; simp [PyData.eqv, eqD]) | (subst h1 h2; simp [PyData.eqv, eqD])
  | .bl a, y, p, q, h1, h2 => by cases y <;> simp [Dt.py] at h1 h2 <;> first | (obtain ⟨_, _, rfl⟩ := h2; subst h1; simp [PyData.eqv, eqD]) | (subst h1 h2; simp [PyData.eqv, eqD])
  | .int i, y, p, q, h1, h2 => by cases y <;> simp [Dt.py] at h1 h2 <;> first | (obtain ⟨_, _, rfl⟩ := h2; subst h1; simp [PyData.eqv, eqD]) | (subst h1 h2; simp [PyData.eqv, eqD])
  | .str i, y, p, q, h1, h2 => by cases y <;> simp [Dt.py] at h1 h2 <;> first | (obtain ⟨_, _, rfl⟩ := h2; subst h1; simp [PyData.eqv, eqD]) | (subst h1 h2; simp [PyData.eqv, eqD])
  | .lst xs, y, p, q, h1, h2 => by
    simp [Dt.py] at h1
    obtain ⟨ps, e1, rfl⟩ := h1
    cases y <;> simp [Dt.py] at h2 <;> first
      | (obtain ⟨qs, e2, rfl⟩ := h2; first | (simp only [PyData.eqv, eqD]; exact eqDs_ok e1 e2) | simp [PyData.eqv, eqD])
      | (subst h2; simp [PyData.eqv, eqD])
  | .tup xs, y, p, q, h1, h2 => by
    simp [Dt.py] at h1
    obtain ⟨ps, e1, rfl⟩ := h1
    cases y <;> simp [Dt.py] at h2 <;> first
      | (obtain ⟨qs, e2, rfl⟩ := h2; first | (simp only [PyData.eqv, eqD]; exact eqDs_ok e1 e2) | simp [PyData.eqv, eqD])
      | (subst h2; simp [PyData.eqv, eqD])
  | .ty _, _, _, _, h1, _ => by simp [Dt.py] at h1
  | .ref _, _, _, _, h1, _ => by simp [Dt.py] at h1
  | .scr _, _, _, _, h1, _ => by simp [Dt.py] at h1
  | .obj _ _, _, _, _, h1, _ => by simp [Dt.py] at h1
  | .dK _, _, _, _, h1, _ => by simp [Dt.py] at h1
  | .dT _, _, _, _, h1, _ => by simp [Dt.py] at h1
  | .exc _ _, _, _, _, h1, _ => by simp [Dt.py] at h1
  | .at_ _ _, _, _, _, h1, _ => by simp [Dt.py] at h1
theorem eqDs_ok : ∀ {xs ys : List Dt} {ps qs : List PyData}, pyL xs = some ps → pyL ys = some qs → PyData.eqvAll ps qs = eqDs xs ys
  | [], [], _, _, h1, h2 => by simp [pyL] at h1 h2; subst h1 h2; rfl
  | [], y :: ys, _, _, h1, h2 => by
    simp only [pyL] at h1 h2
    cases h1
    split at h2
    · cases h2; rfl
    · cases h2
  | x :: xs, [], _, _, h1, h2 => by
    simp only [pyL] at h1 h2
    cases h2
    split at h1
    · cases h1; rfl
    · cases h1
  | x :: xs, y :: ys, _, _, h1, h2 => by
    simp only [pyL] at h1 h2
    split at h1
    · rename_i p ps ep eps
      split at h2
      · rename_i q qs eq eqs
        cases h1; cases h2
        simp only [PyData.eqvAll, eqDs]
        rw [eqD_ok ep eq, eqDs_ok eps eqs]
      · cases h2
    · cases h1
end
section
variable {R : Dt → Prop} {x y : Dt}
theorem p_eq {n m : Nat} (hx : Pl n x) (hy : Pl m y) (hn : n ≤ 64) (hm : m ≤ 64) (h : R (.bl (eqD x y))) : dEq x y R := by
  obtain ⟨p, e1, c1, d1⟩ := hx.py
  obtain ⟨q, e2, c2, d2⟩ := hy.py
  refine .inr ⟨p, q, e1, e2, ?_, ?_, by rw [eqD_ok e1 e2]; exact h⟩
  · unfold SeqAt.shaped; rw [c1]; simp; omega
  · unfold SeqAt.shaped; rw [c2]; simp; omega
theorem p_ne {n m : Nat} (hx : Pl n x) (hy : Pl m y) (hn : n ≤ 64) (hm : m ≤ 64) (h : R (.bl (!eqD x y))) : dNe x y R := by
  obtain ⟨p, e1, c1, d1⟩ := hx.py
  obtain ⟨q, e2, c2, d2⟩ := hy.py
  refine .inr ⟨p, q, e1, e2, ?_, ?_, by rw [eqD_ok e1 e2]; exact h⟩
  · unfold SeqAt.shaped; rw [c1]; simp; omega
  · unfold SeqAt.shaped; rw [c2]; simp; omega
end
def dNeg (x : Dt) (R : Dt → Prop) : Prop := ∃ i, x = .int i ∧ R (.int (-i))
theorem rd_neg {K : PySem.W.Frag} : RD1 K rNegP dNeg := fun G H x dx R Q s rx ⟨i, e, p⟩ q => by
  subst e; cases rx
  exact ⟨i, rfl, q _ G H _ (Ext.refl s) (.int _) p⟩
theorem l_neg {R : Dt → Prop} {i : Int} (h : R (.int (-i))) : dNeg (.int i) R := ⟨_, rfl, h⟩
end DL

/-! DL, part m: the driver by instances. -/
namespace DL
open PySem PySem.Spec L2
/-- to show g it is enough to show h -/
class Wk (g : Prop) (h : outParam Prop) : Prop where
  go : h → g
/-! ### slots -/
class At (Γ : Gm) (i : Nat) (s : outParam Sl) : Prop where
  h : Γ[i]? = some (some s)
class SetG (Γ : Gm) (i : Nat) (s : Option Sl) (Γ' : outParam Gm) : Prop where
  h : Γ.set i s = Γ'
class FrzC (s : Sl) (d : outParam Dt) : Prop where
  h : Frz s d
section
variable {Γ Γ1 Γ2 : Gm} {s t : Sl} {x v w : Option Sl} {i j n : Nat}
instance : At (some s :: Γ) 0 s := ⟨rfl⟩
instance [a : At Γ n s] : At (x :: Γ) (n + 1) s := ⟨by simpa using a.h⟩
instance : SetG (x :: Γ) 0 v (v :: Γ) := ⟨rfl⟩
instance [a : SetG Γ n v Γ1] : SetG (x :: Γ) (n + 1) v (x :: Γ1) := ⟨by rw [List.set_cons_succ, a.h]⟩
instance (priority := high) [a : SetG Γ i v Γ1] [b : SetG Γ1 j w Γ2] : SetG (Γ.set i v) j w Γ2 := ⟨by rw [a.h, b.h]⟩
instance {d : Dt} : FrzC (.fr d) d := ⟨.fr d⟩
instance {a : Addr} {ds : List Dt} : FrzC (.ol a ds) (.lst ds) := ⟨.ol a ds⟩
end
/-! ### what is left, by names -/
def Br (b : Bool) (A B : Prop) : Prop := (b = true → A) ∧ (b = false → B)
def BrP (p A B : Prop) : Prop := (p → A) ∧ (¬ p → B)
def Side (c Q : Prop) : Prop := c ∧ Q
def OwnL (Γ : Gm) (i : Nat) (Q : Addr → List Dt → Prop) : Prop := ∃ a ds, Γ[i]? = some (some (.ol a ds)) ∧ Q a ds
def OwnO (Γ : Gm) (i : Nat) (Q : Addr → Addr → List (Str × Dt) → Prop) : Prop := ∃ a C fs, Γ[i]? = some (some (.oo a C (frF fs))) ∧ Q a C fs
def Fz (s : Sl) (Q : Dt → Prop) : Prop := ∃ d, Frz s d ∧ Q d
def IsB (d : Dt) (Q : Bool → Prop) : Prop := ∃ b, d = .bl b ∧ Q b
def IsI (d : Dt) (Q : Int → Prop) : Prop := ∃ b, d = .int b ∧ Q b
def IsS (d : Dt) (Q : Str → Prop) : Prop := ∃ b, d = .str b ∧ Q b
def IsL (d : Dt) (Q : List Dt → Prop) : Prop := ∃ b, d = .lst b ∧ Q b
def IsO (C : Addr) (d : Dt) (Q : List (Str × Dt) → Prop) : Prop := ∃ b, d = .obj C b ∧ Q b
def Bk (args : List Sl) (Γ : Gm) (Q : List Sl → Prop) : Prop := ∃ args', Back args Γ args' ∧ Q args'
def Fld (K : PySem.W.Frag) (f : Str) (d : Dt) (Q : Dt → Prop) : Prop := (∃ C fs y, d = .obj C fs ∧ Cls K C ∧ NoAttr K C f ∧ fs.lookup f = some y ∧ Q y) ∨ (∃ C fs y, d = .exc C fs ∧ XfC K C ∧ PySem.W.findIn K (.ref C) f = some none ∧ fs.lookup f = some y ∧ Q y)
/-- a def's promise at frozen arguments -/
def CallS (S : DSp) (ds : List Dt) (R : Sl → Prop) (Y : Addr → List (Str × Dt) → Prop) : Prop := S (ds.map .fr) (fun res _ => R res) (fun C fs _ => Y C fs)
/-- .. with one slot of its own handed on -/
def CallB (S : DSp) (ds es : List Dt) (s : Sl) (R : Sl → Sl → Prop) (Y : Addr → List (Str × Dt) → Sl → Prop) : Prop :=
  S (ds.map .fr ++ s :: es.map .fr) (fun res args' => ∃ s', args' = ds.map .fr ++ s' :: es.map .fr ∧ R res s') (fun C fs args' => ∃ s', args' = ds.map .fr ++ s' :: es.map .fr ∧ Y C fs s')
/-- .. an instance made -/
def CallM (S : DSp) (C : Addr) (ds : List Dt) (R : List (Str × Dt) → Prop) (Y : Addr → List (Str × Dt) → Prop) : Prop :=
  ∀ y, S (.oo y C (frF []) :: ds.map .fr) (fun res args' => ∃ fs, res = .fr .non ∧ args' = .oo y C (frF fs) :: ds.map .fr ∧ R fs) (fun D fs _ => Y D fs)
def SeqQ (d : Dt) (Q : List Dt → Prop) : Prop := ∃ xs, SeqD d xs ∧ Q xs
section
variable {A B Q p : Prop}
theorem Side.mk (a : A) (b : B) : Side A B := ⟨a, b⟩
theorem BrP.mk (a : p → A) (b : ¬ p → B) : BrP p A B := ⟨a, b⟩
theorem Br.mk {b : Bool} (h1 : b = true → A) (h2 : b = false → B) : Br b A B := ⟨h1, h2⟩
instance : Wk (Br true A B) A := ⟨fun h => ⟨fun _ => h, fun z => nomatch z⟩⟩
instance : Wk (Br false A B) B := ⟨fun h => ⟨fun z => (nomatch z), fun _ => h⟩⟩
instance {b : Bool} : Wk (Br (!b) A B) (Br b B A) := ⟨fun h => ⟨fun z => h.2 (by simpa using z), fun z => h.1 (by simpa using z)⟩⟩
instance [Decidable p] : Wk (Br (decide p) A B) (BrP p A B) := ⟨fun h => ⟨fun z => h.1 (of_decide_eq_true z), fun z => h.2 (of_decide_eq_false z)⟩⟩
instance : Wk (BrP (¬ p) A B) (BrP p B A) := ⟨fun h => ⟨fun z => h.2 z, fun z => h.1 (Classical.not_not.mp z)⟩⟩
instance {Γ : Gm} {i : Nat} {a : Addr} {ds : List Dt} {Q : Addr → List Dt → Prop} [h : At Γ i (.ol a ds)] : Wk (OwnL Γ i Q) (Q a ds) := ⟨fun q => ⟨a, ds, h.h, q⟩⟩
instance (priority := high) {Γ Γ' : Gm} {i j : Nat} {v : Option Sl} {Q : Addr → List Dt → Prop} [h : SetG Γ j v Γ'] : Wk (OwnL (Γ.set j v) i Q) (OwnL Γ' i Q) := ⟨fun q => by rw [h.h]; exact q⟩
instance {Γ : Gm} {i : Nat} {a C : Addr} {fs : List (Str × Dt)} {Q : Addr → Addr → List (Str × Dt) → Prop} [h : At Γ i (.oo a C (frF fs))] : Wk (OwnO Γ i Q) (Q a C fs) := ⟨fun q => ⟨a, C, fs, h.h, q⟩⟩
instance (priority := high) {Γ Γ' : Gm} {i j : Nat} {v : Option Sl} {Q : Addr → Addr → List (Str × Dt) → Prop} [h : SetG Γ j v Γ'] : Wk (OwnO (Γ.set j v) i Q) (OwnO Γ' i Q) := ⟨fun q => by rw [h.h]; exact q⟩
instance {s : Sl} {d : Dt} {Q : Dt → Prop} [h : FrzC s d] : Wk (Fz s Q) (Q d) := ⟨fun q => ⟨d, h.h, q⟩⟩
instance {b : Bool} {Q : Bool → Prop} : Wk (IsB (.bl b) Q) (Q b) := ⟨fun q => ⟨b, rfl, q⟩⟩
instance {b : Int} {Q : Int → Prop} : Wk (IsI (.int b) Q) (Q b) := ⟨fun q => ⟨b, rfl, q⟩⟩
instance {b : Str} {Q : Str → Prop} : Wk (IsS (.str b) Q) (Q b) := ⟨fun q => ⟨b, rfl, q⟩⟩
instance {b : List Dt} {Q : List Dt → Prop} : Wk (IsL (.lst b) Q) (Q b) := ⟨fun q => ⟨b, rfl, q⟩⟩
instance {C : Addr} {fs : List (Str × Dt)} {Q : List (Str × Dt) → Prop} : Wk (IsO C (.obj C fs) Q) (Q fs) := ⟨fun q => ⟨fs, rfl, q⟩⟩
instance {ds : List Dt} {Q : List Dt → Prop} : Wk (SeqQ (.lst ds) Q) (Q ds) := ⟨fun q => ⟨_, .lst ds, q⟩⟩
instance {ds : List Dt} {Q : List Dt → Prop} : Wk (SeqQ (.tup ds) Q) (Q ds) := ⟨fun q => ⟨_, .tup ds, q⟩⟩
instance {ds : List Int} {Q : List Dt → Prop} : Wk (SeqQ (.scr ds) Q) (Q (ds.map .int)) := ⟨fun q => ⟨_, .scr ds, q⟩⟩
instance {z : Str} {Q : List Dt → Prop} : Wk (SeqQ (.str z) Q) (Q (z.cps.toList.map fun c => .str ⟨#[c]⟩)) := ⟨fun q => ⟨_, .str z, q⟩⟩
end
/-! ### slots written: brought into shape first -/
section
variable {K : PySem.W.Frag} {W : WX} {Γ Γ' : Gm} {X : XP} {j : Nat} {v : Option Sl}
instance (priority := 2000) {t : TS} {PP : Po} [h : SetG Γ j v Γ'] : Wk (Go K W t (Γ.set j v) PP) (Go K W t Γ' PP) := ⟨fun q => by rw [h.h]; exact q⟩
instance (priority := 2000) {t : TE} {P : Dt → Gm → Prop} [h : SetG Γ j v Γ'] : Wk (Ev K W t (Γ.set j v) P X) (Ev K W t Γ' P X) := ⟨fun q => by rw [h.h]; exact q⟩
instance (priority := 2000) {t : TE} {P : Sl → Gm → Prop} [h : SetG Γ j v Γ'] : Wk (EvO K W t (Γ.set j v) P X) (EvO K W t Γ' P X) := ⟨fun q => by rw [h.h]; exact q⟩
instance (priority := 2000) {t : TT} {P : Bool → Gm → Prop} [h : SetG Γ j v Γ'] : Wk (EvT K W t (Γ.set j v) P X) (EvT K W t Γ' P X) := ⟨fun q => by rw [h.h]; exact q⟩
instance (priority := 2000) {t : TA} {P : List Dt → Gm → Prop} [h : SetG Γ j v Γ'] : Wk (EvA K W t (Γ.set j v) P X) (EvA K W t Γ' P X) := ⟨fun q => by rw [h.h]; exact q⟩
instance (priority := 2000) {t : TA} {i : Nat} {P : List Dt → List Dt → Gm → Prop} [h : SetG Γ j v Γ'] : Wk (EvB K W i t (Γ.set j v) P X) (EvB K W i t Γ' P X) := ⟨fun q => by rw [h.h]; exact q⟩
instance (priority := 2000) {t : TO} {P : Option Int → Gm → Prop} [h : SetG Γ j v Γ'] : Wk (EvP K W t (Γ.set j v) P X) (EvP K W t Γ' P X) := ⟨fun q => by rw [h.h]; exact q⟩
instance (priority := 2000) {t : TI} {P : List Dt → Gm → Prop} [h : SetG Γ j v Γ'] : Wk (EvI K W t (Γ.set j v) P X) (EvI K W t Γ' P X) := ⟨fun q => by rw [h.h]; exact q⟩
instance (priority := 2000) {t : TG} {d : Dt} {P : Gm → Prop} [h : SetG Γ j v Γ'] : Wk (GoG K W t d (Γ.set j v) P X) (GoG K W t d Γ' P X) := ⟨fun q => by rw [h.h]; exact q⟩
instance (priority := 2000) {t : TGs} {d : List Dt} {P : Gm → Prop} [h : SetG Γ j v Γ'] : Wk (GoGs K W t d (Γ.set j v) P X) (GoGs K W t d Γ' P X) := ⟨fun q => by rw [h.h]; exact q⟩
instance (priority := 2000) {args : List Sl} {Q : List Sl → Prop} [h : SetG Γ j v Γ'] : Wk (Bk args (Γ.set j v) Q) (Bk args Γ' Q) := ⟨fun q => by rw [h.h]; exact q⟩
end
/-! ### statements -/
section
variable {K : PySem.W.Frag} {W : WX} {Γ Γ' : Gm} {X : XP} {P : Dt → Gm → Prop} {PO : Sl → Gm → Prop} {PB : Bool → Gm → Prop} {te ta tb ti tv : TE} {tt tu : TT} {t tr : TA} {i j : Nat} {nx : Gm → Prop} {rt : Sl → Gm → Prop} {xc : XP} {bk ct : Gm → Prop} {t1 t2 tbd : TS} {g : TG} {S : DSp} {s : Sl} {C : Addr} {f m : Str} {a : Addr} {ds : List Dt}
instance : Wk (Go K W (tSeq t1 t2) Γ ⟨nx, rt, xc, bk, ct⟩) (Go K W t1 Γ ⟨fun Γ1 => Go K W t2 Γ1 ⟨nx, rt, xc, bk, ct⟩, rt, xc, bk, ct⟩) := ⟨g_seq⟩
instance : Wk (Go K W (tIfS tt t1 t2) Γ ⟨nx, rt, xc, bk, ct⟩) (EvT K W tt Γ (fun b Γ1 => Br b (Go K W t1 Γ1 ⟨nx, rt, xc, bk, ct⟩) (Go K W t2 Γ1 ⟨nx, rt, xc, bk, ct⟩)) xc) := ⟨g_if⟩
instance (priority := low) : Wk (Go K W (tAsg te (gName i)) Γ ⟨nx, rt, xc, bk, ct⟩) (Ev K W te Γ (fun d Γ1 => nx (Γ1.set i (some (.fr d)))) xc) := ⟨g_setF⟩
instance : Wk (Go K W (tAsg (tCallS (spD K S) (WE W) t) (gName i)) Γ ⟨nx, rt, xc, bk, ct⟩) (EvO K W (tCallS (spD K S) (WE W) t) Γ (fun s Γ1 => nx (Γ1.set i (some s))) xc) := ⟨g_setC⟩
instance : Wk (Go K W (tAsg (tCall1 j (spD K S) (WE W) t) (gName i)) Γ ⟨nx, rt, xc, bk, ct⟩) (EvO K W (tCall1 j (spD K S) (WE W) t) Γ (fun s Γ1 => nx (Γ1.set i (some s))) xc) := ⟨g_setC1⟩
instance : Wk (Go K W (tAsg (tMethE C m (spD K S) (WE W) ta t) (gName i)) Γ ⟨nx, rt, xc, bk, ct⟩) (EvO K W (tMethE C m (spD K S) (WE W) ta t) Γ (fun s Γ1 => nx (Γ1.set i (some s))) xc) := ⟨fun h => go_set h⟩
instance : Wk (Go K W (tAsgO te (gName i)) Γ ⟨nx, rt, xc, bk, ct⟩) (EvO K W te Γ (fun s Γ1 => nx (Γ1.set i (some s))) xc) := ⟨g_setO⟩
instance : Wk (Go K W (tAsg te (gSub (tVar i) ti rSetL)) Γ ⟨nx, rt, xc, bk, ct⟩) (Ev K W te Γ (fun v Γ1 => OwnL Γ1 i fun _ _ => Ev K W ti Γ1 (fun y Γ2 => IsI y fun k => OwnL Γ2 i fun a ds => ∃ j, ixN ds.length k = some j ∧ nx (Γ2.set i (some (.ol a (ds.set j v))))) xc) xc) :=
  ⟨fun h => g_sub (h.imp fun v Γ1 ⟨a, ds, e, h1⟩ => ⟨a, ds, e, h1.imp fun y Γ2 ⟨k, ey, a, ds, e2, j, hj, p⟩ => ⟨a, ds, k, j, e2, ey, hj, p⟩⟩)⟩
instance (priority := 50) : Wk (Go K W (tAsg te g) Γ ⟨nx, rt, xc, bk, ct⟩) (Ev K W te Γ (fun d Γ1 => GoG K W g d Γ1 nx xc) xc) := ⟨g_asg⟩
instance : Wk (Go K W tNext Γ ⟨nx, rt, xc, bk, ct⟩) (nx Γ) := ⟨g_next⟩
instance : Wk (Go K W tBreak Γ ⟨nx, rt, xc, bk, ct⟩) (bk Γ) := ⟨g_break⟩
instance : Wk (Go K W tCont Γ ⟨nx, rt, xc, bk, ct⟩) (ct Γ) := ⟨g_cont⟩
instance : Wk (Go K W tRetN Γ ⟨nx, rt, xc, bk, ct⟩) (rt (.fr .non) Γ) := ⟨g_retN⟩
instance : Wk (Go K W (tRetO te) Γ ⟨nx, rt, xc, bk, ct⟩) (EvO K W te Γ rt xc) := ⟨g_retO⟩
instance (priority := low) : Wk (Go K W (tRet te) Γ ⟨nx, rt, xc, bk, ct⟩) (Ev K W te Γ (fun d Γ1 => rt (.fr d) Γ1) xc) := ⟨g_retF⟩
instance : Wk (Go K W (tRet (tCallS (spD K S) (WE W) t)) Γ ⟨nx, rt, xc, bk, ct⟩) (EvO K W (tCallS (spD K S) (WE W) t) Γ rt xc) := ⟨fun h => go_ret h⟩
instance : Wk (Go K W (tRet (tCall1 j (spD K S) (WE W) t)) Γ ⟨nx, rt, xc, bk, ct⟩) (EvO K W (tCall1 j (spD K S) (WE W) t) Γ rt xc) := ⟨fun h => go_ret h⟩
instance : Wk (Go K W (tRet (tMethE C m (spD K S) (WE W) ta t)) Γ ⟨nx, rt, xc, bk, ct⟩) (EvO K W (tMethE C m (spD K S) (WE W) ta t) Γ rt xc) := ⟨fun h => go_ret h⟩
instance [q : At Γ i (.ol a ds)] : Wk (Go K W (tDrop (tBM K "list" rAppend (tVar i) (tCons te tNil))) Γ ⟨nx, rt, xc, bk, ct⟩) (Ev K W te Γ (fun v Γ1 => OwnL Γ1 i fun a ds => Side (ds.length < 1000000) (nx (Γ1.set i (some (.ol a (ds ++ [v])))))) xc) :=
  ⟨fun h => g_append q.h (h.imp fun v Γ1 ⟨a, ds, e, l, p⟩ => ⟨a, ds, e, l, p⟩)⟩
instance [q : At Γ i (.ol a ds)] : Wk (Go K W (tDrop (tBM K "list" rExtend (tVar i) (tCons te tNil))) Γ ⟨nx, rt, xc, bk, ct⟩) (Ev K W te Γ (fun v Γ1 => IsL v fun es => OwnL Γ1 i fun a ds => Side (ds.length + es.length ≤ 1000000) (nx (Γ1.set i (some (.ol a (ds ++ es)))))) xc) :=
  ⟨fun h => g_extend q.h (h.imp fun v Γ1 ⟨es, ev, a, ds, e, l, p⟩ => ⟨a, ds, es, ev, e, l, p⟩)⟩
instance : Wk (Go K W (sFld K (tVar i) tv f) Γ ⟨nx, rt, xc, bk, ct⟩) (Ev K W tv Γ (fun d Γ1 => OwnO Γ1 i fun a C fs => Side (Cls K C ∧ NoAttr K C f ∧ fs.length < 1000) (nx (Γ1.set i (some (.oo a C (frF (putD f d fs))))))) xc) :=
  ⟨fun h => g_fld (h.imp fun d Γ1 ⟨a, C, fs, e, l, p⟩ => ⟨a, C, fs, e, l, p⟩)⟩
instance : Wk (Go K W (tDrop (tMakeS C (spD K S) (WE W) t)) Γ ⟨nx, rt, xc, bk, ct⟩) (Ev K W (tMakeS C (spD K S) (WE W) t) Γ (fun _ Γ1 => nx Γ1) xc) := ⟨g_make⟩
instance (priority := low) : Wk (Go K W (tDrop te) Γ ⟨nx, rt, xc, bk, ct⟩) (EvO K W te Γ (fun _ Γ1 => nx Γ1) xc) := ⟨g_drop⟩
instance {fs : List Str} : Wk (Go K W (tRaiseE C fs W t) Γ ⟨nx, rt, xc, bk, ct⟩) (EvA K W t Γ (fun ds Γ1 => Side (ds.length = fs.length) (xc C (fs.zip ds) Γ1)) xc) := ⟨g_raise⟩
instance {l : List Hdl} {tt : WX → TS} : Wk (Go K W (tTry K W l tt) Γ ⟨nx, rt, xc, bk, ct⟩) (∀ W', Go K W' (tt W') Γ ⟨nx, rt, HdsX K nx rt xc bk ct l, bk, ct⟩) := ⟨g_try⟩
/-! ### expressions -/
instance {d : Dt} [h : At Γ i (.fr d)] : Wk (Ev K W (tVar i) Γ P X) (P d Γ) := ⟨fun p => ev_var h.h p⟩
instance (priority := low) {d : Dt} [h : At Γ i s] [f : FrzC s d] [q : SetG Γ i (some (.fr d)) Γ'] : Wk (Ev K W (tVar i) Γ P X) (P d Γ') := ⟨fun p => ev_varF h.h f.h (by rw [q.h]; exact p)⟩
instance {b : Int} : Wk (Ev K W (tC (.int b)) Γ P X) (P (.int b) Γ) := ⟨e_int⟩
instance {b : Str} : Wk (Ev K W (tC (.str b)) Γ P X) (P (.str b) Γ) := ⟨e_str⟩
instance {b : Bool} : Wk (Ev K W (tC (.bl b)) Γ P X) (P (.bl b) Γ) := ⟨e_bl⟩
instance : Wk (Ev K W (tC .non) Γ P X) (P .non Γ) := ⟨e_non⟩
instance {b : String} : Wk (Ev K W (tC (.ty b)) Γ P X) (P (.ty b) Γ) := ⟨e_ty⟩
instance {b : Addr} : Wk (Ev K W (tC (.ref b)) Γ P X) (P (.ref b) Γ) := ⟨e_ref⟩
instance (priority := low) {r : R2} {ρ : Dt → Dt → (Dt → Prop) → Prop} [c : OpC K r ρ] : Wk (Ev K W (tOp r ta tb) Γ P X) (Ev K W ta Γ (fun x Γ1 => Ev K W tb Γ1 (fun y Γ2 => ρ x y fun z => P z Γ2) X) X) := ⟨fun h => v_op h⟩
instance [q : At Γ i (.ol a ds)] : Wk (Ev K W (tOp (rIxP K) (tVar i) te) Γ P X) (Ev K W te Γ (fun y Γ1 => OwnL Γ1 i fun _ ds => dIx (.lst ds) y fun z => P z Γ1) X) :=
  ⟨fun h => ev_ixO (h.imp fun y Γ1 ⟨a, ds, e, j, v, ey, ha, p⟩ => ⟨a, ds, j, v, e, ey, ha, p⟩) q.h⟩
instance (priority := low) {r : List V → Hp → VK → Prop} {ρ : List Dt → (Dt → Prop) → Prop} [c : CbC K r ρ] : Wk (Ev K W (tCB r t) Γ P X) (EvA K W t Γ (fun ds Γ1 => ρ ds fun z => P z Γ1) X) := ⟨fun h => v_cb h⟩
instance [q : At Γ i (.ol a ds)] : Wk (Ev K W (tCB (rLenP K) (tCons (tVar i) tNil)) Γ P X) (P (.int ds.length) Γ) := ⟨fun h => ev_lenO q.h h⟩
instance : Wk (Ev K W (tCallS (spD K S) (WE W) t) Γ P X) (EvO K W (tCallS (spD K S) (WE W) t) Γ (fun s Γ2 => Fz s fun d => P d Γ2) X) := ⟨ev_call0⟩
instance : Wk (Ev K W (tCall1 j (spD K S) (WE W) t) Γ P X) (EvO K W (tCall1 j (spD K S) (WE W) t) Γ (fun s Γ2 => Fz s fun d => P d Γ2) X) := ⟨ev_call1⟩
instance : Wk (Ev K W (tMakeS C (spD K S) (WE W) t) Γ P X) (EvA K W t Γ (fun ds Γ1 => CallM S C ds (fun fs => P (.obj C fs) Γ1) fun D fs => X D fs Γ1) X) := ⟨ev_mk⟩
instance : Wk (Ev K W (tMethE C m (spD K S) (WE W) ta t) Γ P X) (EvO K W (tMethE C m (spD K S) (WE W) ta t) Γ (fun s Γ2 => Fz s fun d => P d Γ2) X) := ⟨ev_meth⟩
instance {neg : Bool} : Wk (Ev K W (tCmpO C neg (spD K S) (WE W) ta tb) Γ P X) (Ev K W ta Γ (fun d Γ1 => Ev K W tb Γ1 (fun e Γ2 => IsO C d fun _ => IsO C e fun _ => CallS S [d, e] (fun res => ∃ k, res = .fr (.bl k) ∧ P (.bl (k ^^ neg)) Γ2) (fun D fs => X D fs Γ2)) X) X) :=
  ⟨fun h => ev_cmpO (h.imp fun d Γ1 h1 => h1.imp fun e Γ2 ⟨fs, e1, gs, e2, h2⟩ => ⟨fs, gs, e1, e2, h2⟩)⟩
instance : Wk (Ev K W (tFldP K te f) Γ P X) (Ev K W te Γ (fun d Γ1 => Fld K f d fun y => P y Γ1) X) := ⟨ev_fld⟩
instance : Wk (Ev K W (tTup t) Γ P X) (EvA K W t Γ (fun ds Γ1 => Side (ds.length ≤ 1000000) (P (.tup ds) Γ1)) X) := ⟨ev_tup⟩
instance : Wk (Ev K W (tLst t) Γ P X) (EvA K W t Γ (fun ds Γ1 => Side (ds.length ≤ 1000000) (P (.lst ds) Γ1)) X) := ⟨ev_lst⟩
instance : Wk (Ev K W (tAndV ta tb) Γ P X) (Ev K W ta Γ (fun d Γ1 => IsB d fun b => Br b (Ev K W tb Γ1 P X) (P (.bl false) Γ1)) X) := ⟨ev_andV⟩
instance : Wk (Ev K W (tOrV ta tb) Γ P X) (Ev K W ta Γ (fun d Γ1 => IsB d fun b => Br b (P (.bl true) Γ1) (Ev K W tb Γ1 P X)) X) := ⟨fun h => ev_orV (h.imp fun d Γ1 ⟨b, e, h1, h2⟩ => ⟨b, e, h2, h1⟩)⟩
instance : Wk (Ev K W (tNotV ta) Γ P X) (Ev K W ta Γ (fun d Γ1 => IsB d fun b => P (.bl (!b)) Γ1) X) := ⟨ev_notV⟩
instance : Wk (Ev K W (tIf tt ta tb) Γ P X) (EvT K W tt Γ (fun b Γ1 => Br b (Ev K W ta Γ1 P X) (Ev K W tb Γ1 P X)) X) := ⟨ev_if⟩
instance {lo hi : TO} : Wk (Ev K W (tSl (rSlP K) te lo hi) Γ P X) (Ev K W te Γ (fun d Γ1 => EvP K W lo Γ1 (fun l Γ2 => EvP K W hi Γ2 (fun u Γ3 => dSl d l u fun z => P z Γ3) X) X) X) := ⟨ev_sl⟩
instance : Wk (Ev K W (tUn rNegP ta) Γ P X) (Ev K W ta Γ (fun x Γ1 => IsI x fun i => P (.int (-i)) Γ1) X) := ⟨fun h => ev_un rd_neg h⟩
instance : Wk (Ev K W (tBM K "str" rFindP te t) Γ P X) (Ev K W te Γ (fun x Γ1 => IsS x fun z => EvA K W t Γ1 (fun ds Γ2 => ∃ y, ds = [.str y] ∧ P (.int (Txt.find z y)) Γ2) X) X) := ⟨ev_find⟩
/-! ### tests -/
instance : Wk (EvT K W (tTest te) Γ PB X) (Ev K W te Γ (fun d Γ1 => IsB d fun b => PB b Γ1) X) := ⟨et_test⟩
instance : Wk (EvT K W (tB te) Γ PB X) (Ev K W te Γ (fun d Γ1 => IsB d fun b => PB b Γ1) X) := ⟨et_B⟩
instance : Wk (EvT K W (tAnd tt tu) Γ PB X) (EvT K W tt Γ (fun b Γ1 => Br b (EvT K W tu Γ1 PB X) (PB false Γ1)) X) := ⟨et_and⟩
instance : Wk (EvT K W (tOr tt tu) Γ PB X) (EvT K W tt Γ (fun b Γ1 => Br b (PB true Γ1) (EvT K W tu Γ1 PB X)) X) := ⟨fun h => et_or (h.imp fun b Γ1 ⟨h1, h2⟩ => ⟨h2, h1⟩)⟩
instance : Wk (EvT K W (tNot tt) Γ PB X) (EvT K W tt Γ (fun b Γ1 => PB (!b) Γ1) X) := ⟨et_not⟩
/-! ### things of one's own -/
instance : Wk (EvO K W (tCallS (spD K S) (WE W) t) Γ PO X) (EvA K W t Γ (fun ds Γ1 => CallS S ds (fun res => PO res Γ1) fun C fs => X C fs Γ1) X) := ⟨evo_call0⟩
instance : Wk (EvO K W (tCall1 i (spD K S) (WE W) t) Γ PO X) (EvB K W i t Γ (fun ds es Γ1 => ∃ s, Γ1[i]? = some (some s) ∧ CallB S ds es s (fun res s' => PO res (Γ1.set i (some s'))) fun C fs s' => X C fs (Γ1.set i (some s'))) X) := ⟨fun h => ec1 h⟩
instance : Wk (EvO K W (tMethE C m (spD K S) (WE W) ta t) Γ PO X) (Ev K W ta Γ (fun d Γ1 => IsO C d fun fs => Side (fs.lookup m = none) (EvA K W t Γ1 (fun ds Γ2 => CallS S (d :: ds) (fun res => PO res Γ2) fun D fs => X D fs Γ2) X)) X) :=
  ⟨fun h => evo_meth (h.imp fun d Γ1 ⟨fs, e, l, p⟩ => ⟨fs, e, l, p⟩)⟩
instance : Wk (EvO K W (tLst t) Γ PO X) (EvA K W t Γ (fun ds Γ1 => Side (ds.length ≤ 1000000) (∀ a, PO (.ol a ds) Γ1)) X) := ⟨evo_lst⟩
instance {b C : Addr} {d : Option Addr} {fs : List (Str × Dt)} [h : At Γ i (.ex b C d fs)] : Wk (EvO K W (tVar i) Γ PO X) (PO (.ex b C d fs) Γ) := ⟨fun p => evo_ex h.h p⟩
instance (priority := low) [h : At Γ i s] [q : SetG Γ i none Γ'] : Wk (EvO K W (tVar i) Γ PO X) (PO s Γ') := ⟨fun p => evo_move h.h (by rw [q.h]; exact p)⟩
/-! ### arguments, parts, targets -/
variable {PA : List Dt → Gm → Prop}
instance : Wk (EvA K W tNil Γ PA X) (PA [] Γ) := ⟨ea_nil⟩
instance : Wk (EvA K W (tCons te tr) Γ PA X) (Ev K W te Γ (fun d Γ1 => EvA K W tr Γ1 (fun ds Γ2 => PA (d :: ds) Γ2) X) X) := ⟨ea_cons⟩
instance [h : At Γ i s] {Q : List Dt → List Dt → Gm → Prop} : Wk (EvB K W i (tCons (tVar i) tr) Γ Q X) (EvA K W tr Γ (fun es Γ2 => Q [] es Γ2) X) := ⟨fun q => eb_here h.h q⟩
instance (priority := low) {Q : List Dt → List Dt → Gm → Prop} : Wk (EvB K W i (tCons te tr) Γ Q X) (Ev K W te Γ (fun d Γ1 => EvB K W i tr Γ1 (fun ds es Γ2 => Q (d :: ds) es Γ2) X) X) := ⟨eb_cons⟩
instance {Q : Option Int → Gm → Prop} : Wk (EvP K W tNoPart Γ Q X) (Q none Γ) := ⟨ep_none⟩
instance {Q : Option Int → Gm → Prop} : Wk (EvP K W (tPart te) Γ Q X) (Ev K W te Γ (fun d Γ1 => IsI d fun j => Q (some j) Γ1) X) := ⟨ep_some⟩
variable {N : Gm → Prop} {d : Dt} {gr : TGs}
instance [q : SetG Γ i (some (.fr d)) Γ'] : Wk (GoG K W (gName i) d Γ N X) (N Γ') := ⟨fun h => gg_name (by rw [q.h]; exact h)⟩
instance {n : Nat} : Wk (GoG K W (gTup K n gr) (.tup ds) Γ N X) (Side (ds.length = n) (GoGs K W gr ds Γ N X)) := ⟨fun h => gg_tup rfl h.1 h.2⟩
instance : Wk (GoGs K W gNil [] Γ N X) (N Γ) := ⟨gs_nil⟩
instance : Wk (GoGs K W (gCons g gr) (d :: ds) Γ N X) (GoG K W g d Γ (fun Γ1 => GoGs K W gr ds Γ1 N X) X) := ⟨gs_cons⟩
/-! ### iterables -/
instance : Wk (EvI K W (iSeq K te) Γ PA X) (Ev K W te Γ (fun d Γ1 => SeqQ d fun xs => PA xs Γ1) X) := ⟨ei_seq⟩
instance : Wk (EvI K W (iRng1 t) Γ PA X) (EvA K W t Γ (fun ds Γ1 => ∃ n : Int, ds = [.int n] ∧ Side (-(2 ^ 62) ≤ n ∧ n < 2 ^ 62) (PA (rngD 0 n) Γ1)) X) := ⟨ei_rng1⟩
instance : Wk (EvI K W (iRng2 t) Γ PA X) (EvA K W t Γ (fun ds Γ1 => ∃ m n : Int, ds = [.int m, .int n] ∧ Side (-(2 ^ 62) ≤ m ∧ m < 2 ^ 62 ∧ -(2 ^ 62) ≤ n ∧ n < 2 ^ 62) (PA (rngD m n) Γ1)) X) := ⟨ei_rng2⟩
end
/-! ### leaves -/
section
variable {R : Dt → Prop} {i j : Int} {K : PySem.W.Frag}
instance {g : Int → Int → Dt} : Wk (dI0 g (.int i) (.int j) R) (R (g i j)) := ⟨l_I0⟩
instance : Wk (dAdd (.int i) (.int j) R) (R (.int (i + j))) := ⟨l_addI⟩
instance {x y : Str} : Wk (dAdd (.str x) (.str y) R) (Side (x.length + y.length ≤ sizeLine) (R (.str (x ++ y)))) := ⟨fun h => h⟩
instance {x y : List Dt} : Wk (dAdd (.lst x) (.lst y) R) (Side (x.length + y.length ≤ 1000000) (R (.lst (x ++ y)))) := ⟨fun h => h⟩
instance {x y : List Dt} : Wk (dAdd (.tup x) (.tup y) R) (Side (x.length + y.length ≤ 1000000) (R (.tup (x ++ y)))) := ⟨fun h => h⟩
instance {C : Int → Int → Prop} {g : Int → Int → Dt} : Wk (dI C g (.int i) (.int j) R) (Side (C i j) (R (g i j))) := ⟨fun h => ⟨_, _, rfl, rfl, h.1, h.2⟩⟩
instance : Wk (dEq (.int i) (.int j) R) (R (.bl (decide (i = j)))) := ⟨l_eqI⟩
instance {x y : Str} : Wk (dEq (.str x) (.str y) R) (R (.bl (decide (x = y)))) := ⟨l_eqS⟩
instance {x y : Bool} : Wk (dEq (.bl x) (.bl y) R) (R (.bl (decide (x = y)))) := ⟨l_eqB⟩
instance : Wk (dEq .non .non R) (R (.bl true)) := ⟨l_eqX rfl⟩
instance : Wk (dEq (.int i) .non R) (R (.bl false)) := ⟨l_eqX rfl⟩
instance {x : Str} : Wk (dEq (.str x) .non R) (R (.bl false)) := ⟨l_eqX rfl⟩
instance {x : Str} : Wk (dEq .non (.str x) R) (R (.bl false)) := ⟨l_eqX rfl⟩
instance {x : Str} : Wk (dEq (.int i) (.str x) R) (R (.bl false)) := ⟨l_eqX rfl⟩
instance {x : Str} : Wk (dEq (.str x) (.int i) R) (R (.bl false)) := ⟨l_eqX rfl⟩
instance : Wk (dEq .non (.int i) R) (R (.bl false)) := ⟨l_eqX rfl⟩
instance : Wk (dNe (.int i) (.int j) R) (R (.bl (!decide (i = j)))) := ⟨l_neI⟩
instance {x y : Str} : Wk (dNe (.str x) (.str y) R) (R (.bl (!decide (x = y)))) := ⟨l_neS⟩
instance {x y : Bool} : Wk (dNe (.bl x) (.bl y) R) (R (.bl (!decide (x = y)))) := ⟨l_neB⟩
instance : Wk (dIs .non .non R) (R (.bl true)) := ⟨l_isN⟩
instance (priority := low) {x : Dt} : Wk (dIs x .non R) (R (.bl (isNon x))) := ⟨fun h => ⟨rfl, h⟩⟩
instance : Wk (dIs (.int i) .non R) (R (.bl false)) := ⟨fun h => ⟨rfl, h⟩⟩
instance {x : Str} : Wk (dIs (.str x) .non R) (R (.bl false)) := ⟨fun h => ⟨rfl, h⟩⟩
instance {x : Bool} : Wk (dIs (.bl x) .non R) (R (.bl false)) := ⟨fun h => ⟨rfl, h⟩⟩
instance {x : List Dt} : Wk (dIs (.tup x) .non R) (R (.bl false)) := ⟨fun h => ⟨rfl, h⟩⟩
instance {x : List Dt} : Wk (dIs (.lst x) .non R) (R (.bl false)) := ⟨fun h => ⟨rfl, h⟩⟩
instance {C : Addr} {x : List (Str × Dt)} : Wk (dIs (.obj C x) .non R) (R (.bl false)) := ⟨fun h => ⟨rfl, h⟩⟩
instance : Wk (dIsnt .non .non R) (R (.bl false)) := ⟨l_isnN⟩
instance (priority := low) {x : Dt} : Wk (dIsnt x .non R) (R (.bl (!isNon x))) := ⟨fun h => ⟨rfl, h⟩⟩
instance : Wk (dIsnt (.int i) .non R) (R (.bl true)) := ⟨fun h => ⟨rfl, h⟩⟩
instance {x : Str} : Wk (dIsnt (.str x) .non R) (R (.bl true)) := ⟨fun h => ⟨rfl, h⟩⟩
instance {x : Bool} : Wk (dIsnt (.bl x) .non R) (R (.bl true)) := ⟨fun h => ⟨rfl, h⟩⟩
instance {x : List Dt} : Wk (dIsnt (.tup x) .non R) (R (.bl true)) := ⟨fun h => ⟨rfl, h⟩⟩
instance {x : List Dt} : Wk (dIsnt (.lst x) .non R) (R (.bl true)) := ⟨fun h => ⟨rfl, h⟩⟩
instance {C : Addr} {x : List (Str × Dt)} : Wk (dIsnt (.obj C x) .non R) (R (.bl true)) := ⟨fun h => ⟨rfl, h⟩⟩
instance {x : List Dt} : Wk (dLen [.lst x] R) (R (.int x.length)) := ⟨l_lenL⟩
instance {x : List Dt} : Wk (dLen [.tup x] R) (R (.int x.length)) := ⟨l_lenT⟩
instance {x : List Int} : Wk (dLen [.scr x] R) (R (.int x.length)) := ⟨l_lenC⟩
instance {x : Str} : Wk (dLen [.str x] R) (Side (x.length ≤ sizeLine) (R (.int x.length))) := ⟨fun h => h⟩
instance : Wk (dAbs [.int i] R) (R (.int (if i < 0 then -i else i))) := ⟨l_abs⟩
instance : Wk (dMax [.int i, .int j] R) (R (.int (if j > i then j else i))) := ⟨l_max⟩
instance : Wk (dMin [.int i, .int j] R) (R (.int (if j < i then j else i))) := ⟨l_min⟩
instance : Wk (dInt [.int i] R) (R (.int i)) := ⟨l_intI⟩
instance {b : Bool} : Wk (dInt [.bl b] R) (R (.int (if b then 1 else 0))) := ⟨l_intB⟩
instance : Wk (dStr [.int i] R) (Side (i.natAbs.log2 < 1920) (R (.str (toString i)))) := ⟨fun h => ⟨_, rfl, h.1, h.2⟩⟩
instance {x : List Dt} : Wk (dList [.lst x] R) (R (.lst x)) := ⟨l_listL⟩
instance {x : List Dt} : Wk (dList [.tup x] R) (R (.lst x)) := ⟨l_listT⟩
instance {x : List Dt} : Wk (dTuple [.lst x] R) (R (.tup x)) := ⟨l_tupleL⟩
instance {x : List Dt} : Wk (dTuple [.tup x] R) (R (.tup x)) := ⟨l_tupleT⟩
instance {c : Nat} {z : Str} : Wk (dIn false (.str ⟨#[c]⟩) (.str z) R) (R (.bl (decide (c ∈ z.cps.toList)))) := ⟨l_inS⟩
instance {c : Nat} {z : Str} : Wk (dIn true (.str ⟨#[c]⟩) (.str z) R) (R (.bl (!decide (c ∈ z.cps.toList)))) := ⟨l_ninS⟩
instance {x : List Dt} {lo hi : Option Int} : Wk (dSl (.lst x) lo hi R) (R (.lst (cutD x lo hi))) := ⟨l_slL⟩
instance {x : List Dt} {lo hi : Option Int} : Wk (dSl (.tup x) lo hi R) (R (.tup (cutD x lo hi))) := ⟨l_slT⟩
instance {x : Str} {lo hi : Option Int} : Wk (dSl (.str x) lo hi R) (Side (x.length ≤ sizeLine) (R (.str (cutS x lo hi)))) := ⟨fun h => h⟩
instance {x : Dt} {a c : String} {r : Bool} [t : TyC x a] [k : KitC a c r] : Wk (dIsi K [x, .ty c] R) (R (.bl r)) := ⟨x_isi⟩
end
/-! ### the way back -/
class BackC (args : List Sl) (Γ : Gm) (args' : outParam (List Sl)) (c : outParam Prop) : Prop where
  h : c → Back args Γ args'
section
variable {Γ : Gm} {as as' : List Sl} {x : Option Sl} {c : Prop}
instance : BackC [] Γ [] True := ⟨fun _ => .nil⟩
instance {d : Dt} [b : BackC as Γ as' c] : BackC (.fr d :: as) (x :: Γ) (.fr d :: as') c := ⟨fun h => .fr (b.h h)⟩
instance {a : Addr} {ds : List Dt} {φ : List Dt → Prop} [b : BackC as Γ as' c] : BackC (.os a φ :: as) (some (.ol a ds) :: Γ) (.os a φ :: as') (φ ds ∧ c) := ⟨fun h => .pack h.1 (b.h h.2)⟩
instance {a : Addr} {φ : List Dt → Prop} [b : BackC as Γ as' c] : BackC (.os a φ :: as) (some (.os a φ) :: Γ) (.os a φ :: as') c := ⟨fun h => .own rfl rfl (b.h h)⟩
instance {a : Addr} {ds es : List Dt} [b : BackC as Γ as' c] : BackC (.ol a ds :: as) (some (.ol a es) :: Γ) (.ol a es :: as') c := ⟨fun h => .own rfl rfl (b.h h)⟩
instance {a C : Addr} {fs gs : List (Str × Sl)} [b : BackC as Γ as' c] : BackC (.oo a C fs :: as) (some (.oo a C gs) :: Γ) (.oo a C gs :: as') c := ⟨fun h => .own rfl rfl (b.h h)⟩
instance {Q : List Sl → Prop} [b : BackC as Γ as' True] : Wk (Bk as Γ Q) (Q as') := ⟨fun h => ⟨_, b.h trivial, h⟩⟩
instance (priority := low) {Q : List Sl → Prop} [b : BackC as Γ as' c] : Wk (Bk as Γ Q) (Side c (Q as')) := ⟨fun h => ⟨_, b.h h.1, h.2⟩⟩
end
theorem w_start {K : PySem.W.Frag} {W : WX} {Γ : Gm} {t : TS} {args : List Sl} {R : Sl → List Sl → Prop} {Y : Addr → List (Str × Dt) → List Sl → Prop} (h : Go K W t Γ ⟨fun Γ2 => Bk args Γ2 (R (.fr .non)), fun s Γ2 => Bk args Γ2 (R s), fun C fs Γ2 => Bk args Γ2 (Y C fs), fun _ => False, fun _ => False⟩) : Go K W t Γ (poOf args R Y) := h
theorem isSide {A B : Prop} (h : Side A B) : Side A B := h
theorem isBrP {p A B : Prop} (h : BrP p A B) : BrP p A B := h
theorem isBr {p : Bool} {A B : Prop} (h : Br p A B) : Br p A B := h
theorem isFld {K : PySem.W.Frag} {f : Str} {d : Dt} {Q : Dt → Prop} (h : Fld K f d Q) : Fld K f d Q := h
theorem isCallS {S : DSp} {ds : List Dt} {R : Sl → Prop} {Y : Addr → List (Str × Dt) → Prop} (h : CallS S ds R Y) : CallS S ds R Y := h
theorem isCallM {S : DSp} {C : Addr} {ds : List Dt} {R : List (Str × Dt) → Prop} {Y : Addr → List (Str × Dt) → Prop} (h : CallM S C ds R Y) : CallM S C ds R Y := h
theorem br_t {b : Bool} {A B : Prop} (h : b = true) (a : A) : Br b A B := ⟨fun _ => a, fun z => absurd (h.symm.trans z) (by decide)⟩
theorem br_f {b : Bool} {A B : Prop} (h : b = false) (a : B) : Br b A B := ⟨fun z => absurd (h.symm.trans z) (by decide), fun _ => a⟩
theorem f_obj {K : PySem.W.Frag} {C : Addr} {fs : List (Str × Dt)} {f : Str} {y : Dt} {Q : Dt → Prop} (hc : Cls K C) (hn : NoAttr K C f) (hl : fs.lookup f = some y) (p : Q y) : Fld K f (.obj C fs) Q := x_fldO hc hn hl p
theorem f_exc {K : PySem.W.Frag} {C : Addr} {fs : List (Str × Dt)} {f : Str} {y : Dt} {Q : Dt → Prop} (hc : XfC K C) (hn : PySem.W.findIn K (.ref C) f = some none) (hl : fs.lookup f = some y) (p : Q y) : Fld K f (.exc C fs) Q := x_fldE hc hn hl p
end DL

/-! DL, part n: loops by what they carry. -/
namespace L2
open PySem PySem.Spec
/-- loops that name the slots which nobody reads behind a turn -/
def tForJ (_ : List Nat) (wi : TI) (g : TG) (tb : TS) : TS := tFor wi g tb
def tWhileJ (_ : List Nat) (tc : TT) (tb : TS) : TS := tWhile tc tb
end L2
namespace DL
open PySem PySem.Spec L2
theorem mkF {X : Cx} {s : Stmt} (junk : List Nat) {wi : TI} {g : TG} {tb : TS} (h : PS X s (tFor wi g tb)) : PS X s (tForJ junk wi g tb) := h
theorem mkW {X : Cx} {s : Stmt} (junk : List Nat) {tc : TT} {tb : TS} (h : PS X s (tWhile tc tb)) : PS X s (tWhileJ junk tc tb) := h
/-! ### slots forgotten, slots set -/
def setA (Γ : Gm) : List (Nat × Option Sl) → Gm
  | [] => Γ
  | (i, s) :: r => setA (Γ.set i s) r
class WipeC (Γ : Gm) (l : List Nat) (Γ' : outParam Gm) : Prop where
  h : wipeG Γ l = Γ'
class SetAC (Γ : Gm) (l : List (Nat × Option Sl)) (Γ' : outParam Gm) : Prop where
  h : setA Γ l = Γ'
section
variable {Γ Γ1 Γ2 : Gm} {i : Nat} {s : Option Sl} {l : List Nat} {r : List (Nat × Option Sl)}
instance : WipeC Γ [] Γ := ⟨rfl⟩
instance [a : WipeC Γ l Γ1] [b : SetG Γ1 i none Γ2] : WipeC Γ (i :: l) Γ2 := ⟨by unfold wipeG; rw [a.h, b.h]⟩
instance (priority := high) {j : Nat} {v : Option Sl} [a : SetG Γ j v Γ1] [b : WipeC Γ1 l Γ2] : WipeC (Γ.set j v) l Γ2 := ⟨by rw [a.h, b.h]⟩
instance : SetAC Γ [] Γ := ⟨rfl⟩
instance [a : SetG Γ i s Γ1] [b : SetAC Γ1 r Γ2] : SetAC Γ ((i, s) :: r) Γ2 := ⟨by unfold setA; rw [a.h, b.h]⟩
end
section
variable {K : PySem.W.Frag} {W : WX} {Γ Γ' : Gm} {X : XP} {l : List Nat} {r : List (Nat × Option Sl)}
instance (priority := 2000) {t : TS} {PP : Po} [h : WipeC Γ l Γ'] : Wk (Go K W t (wipeG Γ l) PP) (Go K W t Γ' PP) := ⟨fun q => by rw [h.h]; exact q⟩
instance (priority := 2000) {t : TS} {PP : Po} [h : SetAC Γ r Γ'] : Wk (Go K W t (setA Γ r) PP) (Go K W t Γ' PP) := ⟨fun q => by rw [h.h]; exact q⟩
instance (priority := 2000) {t : TG} {d : Dt} {P : Gm → Prop} [h : SetAC Γ r Γ'] : Wk (GoG K W t d (setA Γ r) P X) (GoG K W t d Γ' P X) := ⟨fun q => by rw [h.h]; exact q⟩
instance (priority := 2000) {t : TT} {P : Bool → Gm → Prop} [h : SetAC Γ r Γ'] : Wk (EvT K W t (setA Γ r) P X) (EvT K W t Γ' P X) := ⟨fun q => by rw [h.h]; exact q⟩
instance (priority := 2000) {args : List Sl} {Q : List Sl → Prop} [h : WipeC Γ l Γ'] : Wk (Bk args (wipeG Γ l) Q) (Bk args Γ' Q) := ⟨fun q => by rw [h.h]; exact q⟩
instance (priority := 2000) {args : List Sl} {Q : List Sl → Prop} [h : SetAC Γ r Γ'] : Wk (Bk args (setA Γ r) Q) (Bk args Γ' Q) := ⟨fun q => by rw [h.h]; exact q⟩
end
theorem sta_wipe0 {K : PySem.W.Frag} {O G H : Hp} {σ : St} {Γ : Gm} (S : Sta K O G H σ Γ) : ∀ l : List Nat, Sta K O G H σ (wipeG Γ l) := fun l => by
  have T := sta_wipe S l
  exact sta_unwipe T
/-! ### for -/
/-- the loop from xs on, at the slots Γ -/
def Loop (K : PySem.W.Frag) (W : WX) (junk : List Nat) (g : TG) (tbd : TS) (PP : Po) (xs : List Dt) (Γ : Gm) : Prop :=
  ∃ I : Nat → Gm → Prop, I 0 Γ ∧ (∀ k x Γ2, xs[k]? = some x → I k Γ2 → GoG K W g x Γ2 (fun Γ3 => Go K W tbd Γ3 ⟨fun Γ4 => I (k + 1) (wipeG Γ4 junk), PP.rt, PP.xc, fun Γ4 => PP.nx (wipeG Γ4 junk), fun Γ4 => I (k + 1) (wipeG Γ4 junk)⟩) PP.xc) ∧ ∀ Γ2, I xs.length Γ2 → PP.nx Γ2
section
variable {K : PySem.W.Frag} {W : WX} {Γ Γ' : Gm} {X : XP} {nx : Gm → Prop} {rt : Sl → Gm → Prop} {xc : XP} {bk ct : Gm → Prop} {g : TG} {tbd : TS} {wi : TI} {junk : List Nat} {PP : Po} {xs : List Dt}
theorem Go.wipe {t : TS} (h : Go K W t Γ PP) {l : List Nat} (e : wipeG Γ' l = Γ) : Go K W t Γ' PP := fun O G H σ D S a b c d f => h O G H σ D (by rw [← e]; exact sta_wipe0 S l) a b c d f
theorem go_endW {t : TS} {N B C : Gm → Prop} {l : List Nat} (h : Go K W t Γ ⟨fun Γ4 => N (wipeG Γ4 l), rt, xc, fun Γ4 => B (wipeG Γ4 l), fun Γ4 => C (wipeG Γ4 l)⟩) : Go K W t Γ ⟨N, rt, xc, B, C⟩ := fun O G H σ D S a b c d e =>
  h O G H σ D S (fun G2 H2 σ2 Γ2 s S2 p => a G2 H2 σ2 _ s (sta_wipe0 S2 l) p) b (fun G2 H2 σ2 Γ2 s S2 p => c G2 H2 σ2 _ s (sta_wipe0 S2 l) p) (fun G2 H2 σ2 Γ2 s S2 p => d G2 H2 σ2 _ s (sta_wipe0 S2 l) p) e
theorem go_forJ (h : EvI K W wi Γ (fun xs Γ1 => Loop K W junk g tbd ⟨nx, rt, xc, bk, ct⟩ xs (wipeG Γ1 junk)) xc) : Go K W (tForJ junk wi g tbd) Γ ⟨nx, rt, xc, bk, ct⟩ := by
  refine g_forI fun O G H σ R S q x => h O G H σ R S (fun J G2 H2 Γ2 xs n GG Y s S2 w hn hG hY hL => ?_) x
  obtain ⟨I, h0, hs, hd⟩ := hL
  refine q J G2 H2 (wipeG Γ2 junk) xs n GG Y s (sta_wipe0 S2 junk) w hn hG hY ⟨I, h0, fun k x Γ3 hx hI => ?_, hd⟩
  have z := hs k x Γ3 hx hI
  exact fun O G H σ v Q S r q e => z O G H σ v Q S r (fun G2 H2 σ2 Γ2 s S2 p => q G2 H2 σ2 Γ2 s S2 (go_endW p)) e
instance : Wk (Go K W (tForJ junk wi g tbd) Γ ⟨nx, rt, xc, bk, ct⟩) (EvI K W wi Γ (fun xs Γ1 => Loop K W junk g tbd ⟨nx, rt, xc, bk, ct⟩ xs (wipeG Γ1 junk)) xc) := ⟨go_forJ⟩
instance (priority := 2000) {l : List Nat} [h : WipeC Γ l Γ'] : Wk (Loop K W junk g tbd PP xs (wipeG Γ l)) (Loop K W junk g tbd PP xs Γ') := ⟨fun q => by rw [h.h]; exact q⟩
/-- turn by turn -/
theorem loop_nil (h : nx Γ) : Loop K W junk g tbd ⟨nx, rt, xc, bk, ct⟩ [] Γ := ⟨fun _ Γ2 => nx Γ2, h, fun k x Γ2 hx => by simp at hx, fun _ p => p⟩
theorem loop_cons {x : Dt} (h : GoG K W g x Γ (fun Γ3 => Go K W tbd Γ3 ⟨fun Γ4 => Loop K W junk g tbd ⟨nx, rt, xc, bk, ct⟩ xs (wipeG Γ4 junk), rt, xc, fun Γ4 => nx (wipeG Γ4 junk), fun Γ4 => Loop K W junk g tbd ⟨nx, rt, xc, bk, ct⟩ xs (wipeG Γ4 junk)⟩) xc) :
    Loop K W junk g tbd ⟨nx, rt, xc, bk, ct⟩ (x :: xs) Γ := by
  refine ⟨fun k Γ2 => match k with
    | 0 => Γ2 = Γ
    | k + 1 => ∃ I : Nat → Gm → Prop, I k Γ2 ∧ (∀ k x Γ2, xs[k]? = some x → I k Γ2 → GoG K W g x Γ2 (fun Γ3 => Go K W tbd Γ3 ⟨fun Γ4 => I (k + 1) (wipeG Γ4 junk), rt, xc, fun Γ4 => nx (wipeG Γ4 junk), fun Γ4 => I (k + 1) (wipeG Γ4 junk)⟩) xc) ∧ ∀ Γ2, I xs.length Γ2 → nx Γ2, rfl, ?_, ?_⟩
  · intro k y Γ2 hx hI
    cases k with
    | zero =>
      simp at hx; subst hx
      have e : Γ2 = Γ := hI
      subst e
      exact h
    | succ k =>
      obtain ⟨I, h0, hs, hd⟩ := hI
      have z := hs k y Γ2 (by simpa using hx) h0
      exact fun O G H σ v Q S r q e => z O G H σ v Q S r (fun G2 H2 σ2 Γ2 s S2 p => q G2 H2 σ2 Γ2 s S2 (p.imp (fun _ p => ⟨I, p, hs, hd⟩) (fun _ _ p => p) (fun _ _ _ p => p) (fun _ p => p) (fun _ p => ⟨I, p, hs, hd⟩))) e
  · intro Γ2 hI
    have hI' : ∃ I : Nat → Gm → Prop, I xs.length Γ2 ∧ (∀ k x Γ2, xs[k]? = some x → I k Γ2 → GoG K W g x Γ2 (fun Γ3 => Go K W tbd Γ3 ⟨fun Γ4 => I (k + 1) (wipeG Γ4 junk), rt, xc, fun Γ4 => nx (wipeG Γ4 junk), fun Γ4 => I (k + 1) (wipeG Γ4 junk)⟩) xc) ∧ ∀ Γ2, I xs.length Γ2 → nx Γ2 := hI
    obtain ⟨I, h0, hs, hd⟩ := hI'
    exact hd Γ2 h0
/-- what the slots are at turn k -/
def LpN {α : Type} (J : Nat → α → Prop) (emb : α → List (Nat × Option Sl)) (Γ : Gm) (k : Nat) (Γ4 : Gm) : Prop := ∃ s, J k s ∧ Γ4 = setA Γ (emb s)
theorem loop_inv {α : Type} (J : Nat → α → Prop) (emb : α → List (Nat × Option Sl)) (s0 : α) (h0 : J 0 s0) (e0 : Γ = setA Γ (emb s0))
    (hs : ∀ k x s, xs[k]? = some x → J k s → GoG K W g x (setA Γ (emb s)) (fun Γ3 => Go K W tbd Γ3 ⟨fun Γ4 => LpN J emb Γ (k + 1) (wipeG Γ4 junk), rt, xc, fun Γ4 => nx (wipeG Γ4 junk), fun Γ4 => LpN J emb Γ (k + 1) (wipeG Γ4 junk)⟩) xc)
    (hd : ∀ s, J xs.length s → nx (setA Γ (emb s))) : Loop K W junk g tbd ⟨nx, rt, xc, bk, ct⟩ xs Γ :=
  ⟨LpN J emb Γ, ⟨s0, h0, e0⟩, fun k x Γ2 hx ⟨s, hJ, e⟩ => by rw [e]; exact hs k x s hx hJ, fun Γ2 ⟨s, hJ, e⟩ => by rw [e]; exact hd s hJ⟩
/-- items that are pictures of a list -/
theorem loop_map {α β : Type} {ys : List β} {pic : β → Dt} (J : Nat → α → Prop) (emb : α → List (Nat × Option Sl)) (s0 : α) (h0 : J 0 s0) (e0 : Γ = setA Γ (emb s0))
    (hs : ∀ k y s, ys[k]? = some y → J k s → GoG K W g (pic y) (setA Γ (emb s)) (fun Γ3 => Go K W tbd Γ3 ⟨fun Γ4 => LpN J emb Γ (k + 1) (wipeG Γ4 junk), rt, xc, fun Γ4 => nx (wipeG Γ4 junk), fun Γ4 => LpN J emb Γ (k + 1) (wipeG Γ4 junk)⟩) xc)
    (hd : ∀ s, J ys.length s → nx (setA Γ (emb s))) : Loop K W junk g tbd ⟨nx, rt, xc, bk, ct⟩ (ys.map pic) Γ :=
  loop_inv J emb s0 h0 e0 (fun k x s hx hJ => by
    rw [List.getElem?_map] at hx
    cases q : ys[k]? with
    | none => rw [q] at hx; cases hx
    | some y => rw [q] at hx; cases hx; exact hs k y s q hJ) (fun s hJ => hd s (by simpa using hJ))
theorem loop_rng {α : Type} {m n : Int} (J : Nat → α → Prop) (emb : α → List (Nat × Option Sl)) (s0 : α) (h0 : J 0 s0) (e0 : Γ = setA Γ (emb s0))
    (hs : ∀ (k : Nat) s, m + k < n → J k s → GoG K W g (.int (m + k)) (setA Γ (emb s)) (fun Γ3 => Go K W tbd Γ3 ⟨fun Γ4 => LpN J emb Γ (k + 1) (wipeG Γ4 junk), rt, xc, fun Γ4 => nx (wipeG Γ4 junk), fun Γ4 => LpN J emb Γ (k + 1) (wipeG Γ4 junk)⟩) xc)
    (hd : ∀ s, J (n - m).toNat s → nx (setA Γ (emb s))) : Loop K W junk g tbd ⟨nx, rt, xc, bk, ct⟩ (rngD m n) Γ :=
  loop_inv J emb s0 h0 e0 (fun k x s hx hJ => by
    obtain ⟨rfl, hk⟩ := rngD_get hx
    exact hs k s hk hJ) (fun s hJ => hd s (by rw [rngD_len] at hJ; exact hJ))
/-- the items are folded -/
theorem loop_fold {α β : Type} {ys : List β} {pic : β → Dt} (step : α → β → α) (emb : α → List (Nat × Option Sl)) (s0 : α) (e0 : Γ = setA Γ (emb s0))
    (hs : ∀ pre y suf, ys = pre ++ y :: suf → GoG K W g (pic y) (setA Γ (emb (pre.foldl step s0))) (fun Γ3 => Go K W tbd Γ3 ⟨fun Γ4 => wipeG Γ4 junk = setA Γ (emb (step (pre.foldl step s0) y)), rt, xc, fun Γ4 => nx (wipeG Γ4 junk), fun Γ4 => wipeG Γ4 junk = setA Γ (emb (step (pre.foldl step s0) y))⟩) xc)
    (hd : nx (setA Γ (emb (ys.foldl step s0)))) : Loop K W junk g tbd ⟨nx, rt, xc, bk, ct⟩ (ys.map pic) Γ :=
  loop_map (fun k s => s = (ys.take k).foldl step s0) emb s0 (by simp) e0 (fun k y s hy hJ => by
    subst hJ
    obtain ⟨hk, hy'⟩ := List.getElem?_eq_some_iff.mp hy
    have e : ys = ys.take k ++ y :: ys.drop (k + 1) := by rw [← hy', List.getElem_cons_drop, List.take_append_drop]
    have z := hs (ys.take k) y (ys.drop (k + 1)) e
    have e2 : (ys.take (k + 1)).foldl step s0 = step ((ys.take k).foldl step s0) y := by rw [List.take_add_one, hy]; simp
    exact fun O G H σ v Q S r q e => z O G H σ v Q S r (fun G2 H2 σ2 Γ2 s S2 p => q G2 H2 σ2 Γ2 s S2 (p.imp (fun _ p => ⟨_, e2.symm, p⟩) (fun _ _ p => p) (fun _ _ _ p => p) (fun _ p => p) (fun _ p => ⟨_, e2.symm, p⟩))) e)
    (fun s hJ => by subst hJ; rw [List.take_length]; exact hd)
end
/-! ### while -/
/-- the loop by what it carries and a number that falls -/
def LpW {α : Type} (J : Nat → α → Prop) (emb : α → List (Nat × Option Sl)) (Γ : Gm) (m : Nat) (Γ4 : Gm) : Prop := ∃ m', m' < m ∧ ∃ s, J m' s ∧ Γ4 = setA Γ (emb s)
def LoopW (K : PySem.W.Frag) (W : WX) (junk : List Nat) (tc : TT) (tbd : TS) (PP : Po) (Γ : Gm) : Prop := Go K W (tWhileJ junk tc tbd) Γ PP
section
variable {K : PySem.W.Frag} {W : WX} {Γ Γ' : Gm} {nx : Gm → Prop} {rt : Sl → Gm → Prop} {xc : XP} {bk ct : Gm → Prop} {tc : TT} {tbd : TS} {junk : List Nat} {PP : Po}
instance [h : WipeC Γ junk Γ'] : Wk (Go K W (tWhileJ junk tc tbd) Γ PP) (LoopW K W junk tc tbd PP Γ') := ⟨fun q => Go.wipe q h.h⟩
theorem while_inv {α : Type} (J : Nat → α → Prop) (emb : α → List (Nat × Option Sl)) (m0 : Nat) (s0 : α) (h0 : J m0 s0) (e0 : Γ = setA Γ (emb s0))
    (hs : ∀ m s, J m s → EvT K W tc (setA Γ (emb s)) (fun b Γ3 => Br b (Go K W tbd Γ3 ⟨fun Γ4 => LpW J emb Γ m (wipeG Γ4 junk), rt, xc, fun Γ4 => nx (wipeG Γ4 junk), fun Γ4 => LpW J emb Γ m (wipeG Γ4 junk)⟩) (nx (wipeG Γ3 junk))) xc) :
    LoopW K W junk tc tbd ⟨nx, rt, xc, bk, ct⟩ Γ := by
  refine g_while (fun m Γ2 => ∃ s, J m s ∧ Γ2 = setA Γ (emb s)) m0 ⟨s0, h0, e0⟩ ?_
  intro m Γ2 ⟨s, hJ, e⟩
  subst e
  intro O G H σ Q S q x
  refine hs m s hJ O G H σ Q S (fun b G2 H2 Γ3 s2 S2 p => ?_) x
  cases b with
  | true => exact q true G2 H2 Γ3 s2 S2 ⟨fun _ => go_endW (p.1 rfl), fun z => nomatch z⟩
  | false => exact q false G2 H2 (wipeG Γ3 junk) s2 (sta_wipe0 S2 junk) ⟨fun z => (nomatch z), fun _ => p.2 rfl⟩
end
end DL

/-! DL, part p: enumerate and zip over lists and tuples. -/
namespace PySem
open Sem (wp)
open Builtin Builtin.Str
theorem meets_enum_new1 {v : Value} {o : Obj} {H : Heap → Prop} (B : Begins v o H) :
    Meets (Builtin.«enumerate.__new__» ⟨[.type "enumerate", v], []⟩) (fun _ R s => H s.heap ∧
      R (.ok (.ret (.ref (s.heap.push o).objs.size))) { s with heap := (s.heap.push o).push { cls := .type "enumerate", data := .fields #[.none, .bool false, .ref s.heap.objs.size, rawInt 0, .none, .none] } }) :=
  .of_wp fun prog w A R s h => by
    obtain ⟨hp, g, d, tk, os⟩ := s; obtain ⟨h1, h⟩ := h
    have hsub := sub_enumerate
    have q1 : ∀ {A' : Around} {E : Value → Shared → Prop} {Q : Value → Shared → Prop}, Q (.ref hp.objs.size) ⟨hp.push o, g, d, tk, os⟩ → wpAny (model prog w) A' (pyIter v) Q E ⟨hp, g, d, tk, os⟩ :=
      fun q => B.iter prog w _ _ ⟨hp, g, d, tk, os⟩ _ h1 q
    wp_walk using q1
    refine wpAny_stack_any fun st => wpAny_pure ?_
    split
    · rename_i c _ _ _ _ _
      cases (c == Value.type "enumerate")
      · wp_walk using q1
        exact ⟨_, rfl, h⟩
      · wp_walk using q1
        exact ⟨_, rfl, h⟩
    · wp_walk using q1
      exact ⟨_, rfl, h⟩
section
variable {prog : Program} {w : World} {A : Around} {E : Value → Shared → Prop} {s : Shared}
theorem enum_begins1 {v : Value} {o : Obj} {H : Heap → Prop} {Q : Value → Shared → Prop} (B : Begins v o H) (h1 : H s.heap)
    (h : ∀ h', IsEnum h' (s.heap.objs.size + 1) s.heap.objs.size 0 .none → h'.get? s.heap.objs.size = some o → h'.objs.size = s.heap.objs.size + 2 →
      (∀ b o, s.heap.get? b = some o → h'.get? b = some o) → Q (.ref (s.heap.objs.size + 1)) { s with heap := h' }) :
    wpAny (model prog w) A (call (.type "enumerate") [v]) Q E s := by
  refine callType_new F.called_enumerate (by decide) (F.typeCall_enumerate_1 _) (F.newCall_enumerate_1 _) (fun obj => F.args_object_init_2 obj _) F.entry_enumerate_new
    (meets_enum_new1 B) ⟨h1, ?_⟩
  have hz : (s.heap.push o).objs.size = s.heap.objs.size + 1 := Heap.size_push ..
  show _ ∧ _
  rw [hz]
  have he : IsEnum ((s.heap.push o).push { cls := .type "enumerate", data := .fields #[.none, .bool false, .ref s.heap.objs.size, rawInt 0, .none, .none] }) (s.heap.objs.size + 1) s.heap.objs.size 0 .none := by
    have := Heap.get?_push_size (s.heap.push o) (o := { cls := .type "enumerate", data := .fields #[.none, .bool false, .ref s.heap.objs.size, rawInt 0, .none, .none] }) rfl
    rw [hz] at this; exact this
  refine ⟨⟨_, he, rfl⟩, h _ he (Heap.get?_push_of_some _ (Heap.get?_push_size _ B.free)) (by rw [Heap.size_push, hz]) fun b o x => Heap.get?_push_of_some _ (Heap.get?_push_of_some _ x)⟩
end
end PySem
namespace L2
open PySem PySem.Spec PyProof.Rows
/-- the tuple at a, each item in a new pair with its place -/
def IteT (K : PySem.W.Frag) (a : Addr) : It :=
  ⟨fun i H => ∃ (xs : List V) (x : V), SqT K H a xs ∧ xs[i]? = some x, fun i H v H' => ∃ T x, v = .ref T ∧ H T = none ∧ H' = upd H T (.tup [.int (i : Nat), x]) ∧ ∀ xs, SqT K H a xs → xs[i]? = some x, fun i H => ∃ xs : List V, SqT K H a xs ∧ xs.length = i⟩
theorem turn_enumT {P : Program} {w : World} {K : PySem.W.Frag} {elts : List Expr} {kk : Nat} {tpos : Pos} (a e it : Addr) (hai : a ≠ it) (hea : e ≠ a) :
    Turn P w K (.Tuple elts kk tpos) (IteT K a) [e, it] e (fun i h => (∃ old, IsEnum h e it ((i : Nat) : Int) old) ∧ h.IsTupleIter it a i ∧ e ≠ it) where
  mem := by simp
  obj := fun i h st b hb => by
    obtain ⟨⟨old, he⟩, ⟨o, ho, hc, hd⟩, _⟩ := st
    have e' : b = e ∨ b = it := by simpa using hb
    rcases e' with z | z
    · rw [z]; exact ⟨_, he, fun v q => nomatch q⟩
    · rw [z]; exact ⟨o, ho, fun v q => by rw [hd] at q; cases q⟩
  keep := fun i h h' st k => let ⟨⟨old, he⟩, hi, hne⟩ := st; ⟨⟨old, k e (by simp) _ he⟩, hi.at fun o q => k it (by simp) o q, hne⟩
  item := by
    intro X hP hw hK hc i pins s σ H E I hf st hg
    subst hP hw hK
    obtain ⟨⟨old, he⟩, hit, hne⟩ := st
    obtain ⟨xs, x, hq, hx⟩ := hg
    obtain ⟨its, rv, p, hz⟩ := I.tuple hq
    obtain ⟨u, hu, ru⟩ := rv.get hx
    have hel : e < s.heap.objs.size := Heap.lt_size he
    have hil : it < s.heap.objs.size := by obtain ⟨_, q, _⟩ := hit; exact Heap.lt_size q
    have hil2 : i < its.toArray.size := by
      rcases Nat.lt_or_ge i its.length with z | z
      · simpa using z
      · rw [List.getElem?_eq_none z] at hu; cases hu
    have p' : s.heap.IsTuple a its.toArray := p
    refine wpAny_pyNext_enum_itemD (Draws.tuple (prog := X.prog) (w := X.w) (A := X.A.in1) (I.ok.hd hc) it a hai its.toArray) he ⟨hit, p'⟩ hil2 hne (by simp; exact ⟨hne, hea⟩) fun u' h' tk hP' ho hit' hT hsz hk => ?_
    have eu : u' = u := by
      have hP2 : its.toArray[i]? = some u' := hP'
      rw [List.getElem?_toArray, hu] at hP2
      exact (Option.some.inj hP2).symm
    subst eu
    refine ⟨_, rfl, wpAny_letOwnedTupleGo_enum (s := { s with heap := h', toks := tk + 1 }) ho fun h'' he' sb => ?_⟩
    have hT2 : h''.get? s.heap.objs.size = some { cls := .type "tuple", data := .seq #[.int i tk, u'] } := (sb.2 _ (Nat.ne_of_gt hel)).trans hT
    have new : ObjOk X.prog X.w (upd H s.heap.objs.size (.tup [.int (i : Nat), x])) h'' s.heap.objs.size (.tup [.int (i : Nat), x]) :=
      ⟨by show 2 ≤ sizeLine; decide, [.int i tk, u'], .cons ⟨_, rfl⟩ (.cons ru .nil), ⟨_, hT2, rfl, _, rfl⟩⟩
    have I1 : Inv X pins σ (upd H s.heap.objs.size (.tup [.int (i : Nat), x])) { s with heap := h'', toks := tk + 1 } :=
      I.turnedNew (ch := [e, it]) (fun b ob hb q => (sb.2 b (fun z => hb (by simp [z]))).trans (hk b ob (fun z => hb (by simp [z])) (fun z => hb (by simp [z])) q)) hf (Nat.le_refl _) new
    refine ⟨.ref s.heap.objs.size, _, I1, rfl, ⟨_, x, rfl, I.hok.fresh (Nat.le_refl _), rfl, fun ys hy => by rw [I.tuple_inj hy hq]; exact hx⟩, ⟨⟨u', ?_⟩, hit'.1.at fun o q => (sb.2 it (Ne.symm hne)).trans q, hne⟩, fun b hb => ?_⟩
    · have e1 : ((i + 1 : Nat) : Int) = (i : Int) + 1 := by omega
      rw [e1]; exact he'
    · have hb' : b < s.heap.objs.size := by
        have e' : b = e ∨ b = it := by simpa using hb
        rcases e' with z | z
        · rw [z]; exact hel
        · rw [z]; exact hil
      rw [upd_ne (Nat.ne_of_lt hb')]
      exact (hf b hb).1
  done := by
    intro X hP hw hK hc i pins s σ H E I hf st hg
    subst hP hw hK
    obtain ⟨⟨old, he⟩, hit, hne⟩ := st
    obtain ⟨xs, hq, hx⟩ := hg
    obtain ⟨its, rv, p, hz⟩ := I.tuple hq
    obtain ⟨f0, f1, f2, f3, f4, f5⟩ := hf it (by simp)
    have hl := rv.length
    have p' : s.heap.IsTuple a its.toArray := p
    have hi : its.toArray.size = i := by simp; omega
    exact wpAny_pyNext_enum_endD (Draws.tuple (prog := X.prog) (w := X.w) (A := X.A.in1) (I.ok.hd hc) it a hai its.toArray) he (by rw [hi]; exact ⟨hit, p'⟩) fun h' eb => ⟨rfl, I.turned (t' := s.toks) (fun b o hb q => eb b o hb q) f0 f1 f3 f4 f5⟩
  self := fun A i s Q E st h => let ⟨⟨_, he⟩, _⟩ := st; wpAny_pyIter_enum he h
theorem walk_enumT {K : PySem.W.Frag} {a : Addr} {xs : List V} : Walk (IteT K a) xs.length (fun H => SqT K H a xs) (YPair (fun i => some (.int (i : Nat))) (fun i => xs[i]?)) := by
  refine ⟨fun i _ hi q => ⟨xs, xs[i], q, by simp [hi]⟩, fun _ q => ⟨xs, q, rfl⟩, fun i H v H' _ q y => ?_⟩
  obtain ⟨T, x, h1, h2, h3, h4⟩ := y
  exact ⟨T, .int (i : Nat), x, h1, h2, h3, rfl, h4 xs q⟩
def iEnumA (K : PySem.W.Frag) (ta : TA) : TI := fun σ H R => ta σ H fun vs H1 => ∃ a, vs = [.ref a] ∧ ((∃ xs, SqL K H1 a xs ∧ R (Ite K a) H1) ∨ ∃ xs, SqT K H1 a xs ∧ R (IteT K a) H1)
theorem pi_enumK {X : Cx} {e : Expr} {ta : TA} {p pos tpos : Pos} {elts : List Expr} {kk : Nat} (K : PySem.W.Frag) (hK : X.K = K) (hg : Gl X "enumerate") (hm : X.mg "enumerate" = none) (ha : PA X [e] ta) (hs : starEach [e] X.env = [(false, eval e X.env)] := by rfl) :
    PI X (.Tuple elts kk tpos) (.Call (.Name "enumerate" p) [e] [] pos) (iEnumA K ta) := by
  subst hK
  refine ⟨fun pins s σ H R I h => ?_⟩
  refine Call_ (ld_blt I hg hm boot_enumerate (PyProof.Rows.callWith_type1 (thn (ha.run pos pins s σ H _ I h) fun us s1 ⟨vs, H1, I1, r1, q1⟩ => ?_) hs rfl))
  obtain ⟨a, ex, q1⟩ := q1
  subst ex
  cases r1 with
  | cons r rr =>
    cases rr
    cases r
    have fresh2 : ∀ b ∈ [s1.heap.objs.size + 1, s1.heap.objs.size], FpOk X pins H1 b := fun b hb => by
      have e' : b = s1.heap.objs.size + 1 ∨ b = s1.heap.objs.size := by simpa using hb
      have hle : s1.heap.objs.size ≤ b := by
        rcases e' with z | z
        · rw [z]; exact Nat.le_add_right _ _
        · rw [z]; exact Nat.le_refl _
      exact I1.fpOk hle (I1.hok.fresh hle)
    rcases q1 with ⟨xs, hq, q⟩ | ⟨xs, hq, q⟩
    · obtain ⟨its, rv, p', hz⟩ := I1.list hq
      refine call_enumerate_list p'.isList fun h' he hit hsz hk => wpAny_pyIter_enum he ?_
      have I2 : Inv X pins σ H1 { s1 with heap := h' } := I1.kept (t' := s1.toks) hk
      exact ⟨s1.heap.objs.size + 1, [s1.heap.objs.size + 1, s1.heap.objs.size], _, _, H1, rfl, I2, turn_enum a (s1.heap.objs.size + 1) s1.heap.objs.size, ⟨⟨.none, he⟩, hit, Nat.succ_ne_self _⟩, fresh2, q⟩
    · obtain ⟨its, rv, p', hz⟩ := I1.tuple hq
      have p2 : s1.heap.IsTuple a its.toArray := p'
      obtain ⟨oa, hoa, _⟩ := id p2
      have hal : a < s1.heap.objs.size := Heap.lt_size hoa
      refine enum_begins1 (begins_tuple a its.toArray) p2 fun h' he hit hsz hk => wpAny_pyIter_enum he ?_
      have I2 : Inv X pins σ H1 { s1 with heap := h' } := I1.kept (t' := s1.toks) hk
      exact ⟨s1.heap.objs.size + 1, [s1.heap.objs.size + 1, s1.heap.objs.size], _, _, H1, rfl, I2, turn_enumT a (s1.heap.objs.size + 1) s1.heap.objs.size (Nat.ne_of_lt hal) (Ne.symm (Nat.ne_of_lt (Nat.lt_succ_of_lt hal))), ⟨⟨.none, he⟩, ⟨_, hit, rfl, rfl⟩, Nat.succ_ne_self _⟩, fresh2, q⟩
end L2
namespace L2
open PySem PySem.Spec PyProof.Rows
/-- the tuple at a and the list at b, the items in new pairs -/
def ItzM (K : PySem.W.Frag) (a b : Addr) : It :=
  ⟨fun i H => ∃ (xs ys : List V) (x y : V), SqT K H a xs ∧ SqL K H b ys ∧ xs[i]? = some x ∧ ys[i]? = some y,
    fun i H v H' => ∃ T x y, v = .ref T ∧ H T = none ∧ H' = upd H T (.tup [x, y]) ∧ (∀ xs, SqT K H a xs → xs[i]? = some x) ∧ ∀ ys, SqL K H b ys → ys[i]? = some y,
    fun i H => ∃ xs ys : List V, SqT K H a xs ∧ SqL K H b ys ∧ i ≤ xs.length ∧ i ≤ ys.length ∧ (i = xs.length ∨ i = ys.length)⟩
theorem turn_zipM {P : Program} {w : World} {K : PySem.W.Frag} {elts : List Expr} {kk : Nat} {tpos : Pos} {a b z TI TO i1 i2 : Addr} (D : ZipSep2 z TI TO i1 i2 [i1, a] [i2, b]) (hai : a ≠ i1) (hbi : b ≠ i2) :
    Turn P w K (.Tuple elts kk tpos) (ItzM K a b) [z, TI, TO, i1, i2] z (fun i h => IsZip h z TI TO .none ∧ IsTupOf2 h TI (.ref i1) (.ref i2) ∧ (∃ x y, IsTupOf2 h TO x y) ∧ h.IsTupleIter i1 a i ∧ h.IsListIter i2 b i) where
  mem := by simp
  obj := fun i h st c hc => by
    obtain ⟨hz, hTI, ⟨x, y, hTO⟩, ⟨o1, e1, _, d1⟩, ⟨o2, e2, _, d2⟩⟩ := st
    have e' : c = z ∨ c = TI ∨ c = TO ∨ c = i1 ∨ c = i2 := by simpa using hc
    rcases e' with q | q | q | q | q
    · rw [q]; exact ⟨_, hz, fun v q => nomatch q⟩
    · rw [q]; exact ⟨_, hTI, fun v q => nomatch q⟩
    · rw [q]; exact ⟨_, hTO, fun v q => nomatch q⟩
    · rw [q]; exact ⟨o1, e1, fun v q => by rw [d1] at q; cases q⟩
    · rw [q]; exact ⟨o2, e2, fun v q => by rw [d2] at q; cases q⟩
  keep := fun i h h' st k => by
    obtain ⟨hz, hTI, ⟨x, y, hTO⟩, h1, h2⟩ := st
    exact ⟨k z (by simp) _ hz, k TI (by simp) _ hTI, ⟨x, y, k TO (by simp) _ hTO⟩, h1.at fun o q => k i1 (by simp) o q, h2.at fun o q => k i2 (by simp) o q⟩
  item := by
    intro X hP hw hK hc i pins s σ H E I hf st hg
    subst hP hw hK
    obtain ⟨hz, hTI, ⟨x0, y0, hTO⟩, h1, h2⟩ := st
    obtain ⟨xs, ys, x, y, hqx, hqy, hx, hy⟩ := hg
    obtain ⟨its, rv, p, _⟩ := I.tuple hqx
    obtain ⟨its2, rv2, p2, _⟩ := I.list hqy
    obtain ⟨u, hu, ru⟩ := rv.get hx
    obtain ⟨u2, hu2, ru2⟩ := rv2.get hy
    have p' : s.heap.IsTuple a its.toArray := p
    have hzl : z < s.heap.objs.size := Heap.lt_size hz
    have l1 : i < its.toArray.size := by
      rcases Nat.lt_or_ge i its.length with q | q
      · simpa using q
      · rw [List.getElem?_eq_none q] at hu; cases hu
    have l2 : i < its2.toArray.size := by
      rcases Nat.lt_or_ge i its2.length with q | q
      · simpa using q
      · rw [List.getElem?_eq_none q] at hu2; cases hu2
    refine wpAny_pyNext_zipD2_item D (Draws.tuple (prog := X.prog) (w := X.w) (A := X.A.in1) (I.ok.hd hc) i1 a hai its.toArray) (Draws.list (prog := X.prog) (w := X.w) (A := X.A.in1) (I.ok.hd hc) i2 b hbi its2.toArray)
      hz hTI hTO ⟨h1, p'⟩ ⟨h2, p2.isList⟩ l1 l2 fun w1 w2 h' tk y1 y2 z' TO' h1' h2' hT hsz hk => ?_
    have e1 : w1 = u := by
      have q : its.toArray[i]? = some w1 := y1
      rw [List.getElem?_toArray, hu] at q
      exact (Option.some.inj q).symm
    have e2 : w2 = u2 := by
      have q : its2.toArray[i]? = some w2 := y2
      rw [List.getElem?_toArray, hu2] at q
      exact (Option.some.inj q).symm
    subst e1 e2
    refine ⟨_, rfl, wpAny_letOwnedTupleGo_zip (s := { s with heap := h', toks := tk }) z' fun h'' z'' sb => ?_⟩
    have hT2 : h''.get? s.heap.objs.size = some { cls := .type "tuple", data := .seq #[w1, w2] } := (sb.2 _ (Nat.ne_of_gt hzl)).trans hT
    have new : ObjOk X.prog X.w (upd H s.heap.objs.size (.tup [x, y])) h'' s.heap.objs.size (.tup [x, y]) :=
      ⟨by show 2 ≤ sizeLine; decide, [w1, w2], .cons ru (.cons ru2 .nil), ⟨_, hT2, rfl, _, rfl⟩⟩
    have I1 : Inv X pins σ (upd H s.heap.objs.size (.tup [x, y])) { s with heap := h'', toks := tk } :=
      I.turnedNew (t' := tk) (ch := [z, TI, TO, i1, i2]) (fun c o hb q => (sb.2 c (fun q' => hb (by simp [q']))).trans (hk c o (fun q' => hb (by simp [q'])) (fun q' => hb (by simp [q'])) (fun q' => hb (by simp [q'])) (fun q' => hb (by simp [q'])) q)) hf (Nat.le_refl _) new
    refine ⟨.ref s.heap.objs.size, _, I1, rfl, ⟨_, x, y, rfl, I.hok.fresh (Nat.le_refl _), rfl, fun l hl => by rw [I.tuple_inj hl hqx]; exact hx, fun l hl => by rw [I.list_inj hl hqy]; exact hy⟩, ⟨z'', ?_, ⟨w1, w2, ?_⟩, ?_, ?_⟩, fun c hcm => ?_⟩
    · exact (sb.2 _ D.TIz).trans (hk _ _ D.TIz D.TITO D.TIi1 D.TIi2 hTI)
    · exact (sb.2 _ D.TOz).trans TO'
    · exact h1'.1.at fun o q => (sb.2 _ (Ne.symm D.zi1)).trans q
    · exact h2'.1.at fun o q => (sb.2 _ (Ne.symm D.zi2)).trans q
    · have hlt : c < s.heap.objs.size := by
        have e' : c = z ∨ c = TI ∨ c = TO ∨ c = i1 ∨ c = i2 := by simpa using hcm
        rcases e' with q | q | q | q | q
        · rw [q]; exact hzl
        · rw [q]; exact Heap.lt_size hTI
        · rw [q]; exact Heap.lt_size hTO
        · rw [q]; obtain ⟨_, e1, _⟩ := h1; exact Heap.lt_size e1
        · rw [q]; obtain ⟨_, e2, _⟩ := h2; exact Heap.lt_size e2
      rw [upd_ne (Nat.ne_of_lt hlt)]
      exact (hf c hcm).1
  done := by
    intro X hP hw hK hc i pins s σ H E I hf st hg
    subst hP hw hK
    obtain ⟨hz, hTI, ⟨x0, y0, hTO⟩, h1, h2⟩ := st
    obtain ⟨xs, ys, hqx, hqy, hle1, hle2, hend⟩ := hg
    obtain ⟨its, rv, p, _⟩ := I.tuple hqx
    obtain ⟨its2, rv2, p2, _⟩ := I.list hqy
    have p' : s.heap.IsTuple a its.toArray := p
    have l1 := rv.length
    have l2 := rv2.length
    exact wpAny_pyNext_zipD2_end D (Draws.tuple (prog := X.prog) (w := X.w) (A := X.A.in1) (I.ok.hd hc) i1 a hai its.toArray) (Draws.list (prog := X.prog) (w := X.w) (A := X.A.in1) (I.ok.hd hc) i2 b hbi its2.toArray)
      hz hTI hTO ⟨h1, p'⟩ ⟨h2, p2.isList⟩ (by simp; omega) (by simp; omega) (by simp; omega) fun h' tk hk => ⟨rfl, I.turnedL (t' := tk) (ch := [z, TI, TO, i1, i2]) (fun c o hb q =>
      hk c o (fun q' => hb (by simp [q'])) (fun q' => hb (by simp [q'])) (fun q' => hb (by simp [q'])) (fun q' => hb (by simp [q'])) q) hf⟩
  self := fun A i s Q E st h => wpAny_pyIter_zip st.1 h
theorem walk_zipM {K : PySem.W.Frag} {a b : Addr} {xs ys : List V} {n : Nat} (hn : n = min xs.length ys.length) : Walk (ItzM K a b) n (fun H => SqT K H a xs ∧ SqL K H b ys) (YPair (fun i => xs[i]?) (fun i => ys[i]?)) := by
  subst hn
  refine ⟨fun i _ hi q => ?_, fun _ q => ⟨xs, ys, q.1, q.2, by omega, by omega, by omega⟩, fun i H v H' _ q y => ?_⟩
  · have h1 : i < xs.length := by omega
    have h2 : i < ys.length := by omega
    exact ⟨xs, ys, xs[i], ys[i], q.1, q.2, by simp [h1], by simp [h2]⟩
  · obtain ⟨T, x, z, h1, h2, h3, h4, h5⟩ := y
    exact ⟨T, x, z, h1, h2, h3, h4 xs q.1, h5 ys q.2⟩
def iZipM (K : PySem.W.Frag) (ta : TA) : TI := fun σ H R => ta σ H fun vs H1 => ∃ a b, vs = [.ref a, .ref b] ∧ ((∃ xs ys, SqL K H1 a xs ∧ SqL K H1 b ys ∧ R (Itz K a b) H1) ∨ ∃ xs ys, SqT K H1 a xs ∧ SqL K H1 b ys ∧ R (ItzM K a b) H1)
theorem pi_zipK {X : Cx} {e e2 : Expr} {ta : TA} {p pos tpos : Pos} {elts : List Expr} {kk : Nat} (K : PySem.W.Frag) (hK : X.K = K) (hg : Gl X "zip") (hm : X.mg "zip" = none) (ha : PA X [e, e2] ta)
    (hs : starEach [e, e2] X.env = (false, eval e X.env) :: starEach [e2] X.env := by rfl) (hpl : (backTo pos (starEach [e2] X.env)).any (·.1) = false := by rfl) :
    PI X (.Tuple elts kk tpos) (.Call (.Name "zip" p) [e, e2] [] pos) (iZipM K ta) := by
  subst hK
  refine ⟨fun pins s σ H R I h => ?_⟩
  refine Call_ (ld_blt I hg hm PyProof.Rows.boot_zip (PyProof.Rows.callWith_type1 (thn (ha.run pos pins s σ H _ I h) fun us s1 ⟨vs, H1, I1, r1, q1⟩ => ?_) hs hpl))
  obtain ⟨a, b, ex, q1⟩ := q1
  subst ex
  cases r1 with
  | cons r rr =>
    cases rr with
    | cons r' rr =>
      cases rr
      cases r
      cases r'
      have fresh5 : ∀ c, c ∈ [s1.heap.objs.size + 4, s1.heap.objs.size + 2, s1.heap.objs.size + 3, s1.heap.objs.size, s1.heap.objs.size + 1] → FpOk X pins H1 c := fun c hcm => by
        have e' : c = s1.heap.objs.size + 4 ∨ c = s1.heap.objs.size + 2 ∨ c = s1.heap.objs.size + 3 ∨ c = s1.heap.objs.size ∨ c = s1.heap.objs.size + 1 := by simpa using hcm
        have hle : s1.heap.objs.size ≤ c := by
          rcases e' with z | z | z | z | z <;> rw [z] <;> omega
        exact I1.fpOk hle (I1.hok.fresh hle)
      rcases q1 with ⟨xs, ys, hqx, hqy, q⟩ | ⟨xs, ys, hqx, hqy, q⟩
      · obtain ⟨its, rv, p1, _⟩ := I1.list hqx
        obtain ⟨its2, rv2, p2, _⟩ := I1.list hqy
        refine call_zip_2 p1.isList p2.isList fun h' hz hTI hTO h1 h2 hsz hk => wpAny_pyIter_zip hz ?_
        have I2 : Inv X pins σ H1 { s1 with heap := h' } := I1.kept (t' := s1.toks) hk
        exact ⟨s1.heap.objs.size + 4, [s1.heap.objs.size + 4, s1.heap.objs.size + 2, s1.heap.objs.size + 3, s1.heap.objs.size, s1.heap.objs.size + 1], _, _, H1, rfl, I2, turn_zip (PySem.W.ktu_apart s1.heap.objs.size a b p1.lt p2.lt), ⟨hz, hTI, ⟨_, _, hTO⟩, h1, h2⟩, fresh5, q⟩
      · obtain ⟨its, rv, p1, _⟩ := I1.tuple hqx
        obtain ⟨its2, rv2, p2, _⟩ := I1.list hqy
        have p' : s1.heap.IsTuple a its.toArray := p1
        obtain ⟨oa, hoa, _⟩ := id p'
        have hal : a < s1.heap.objs.size := Heap.lt_size hoa
        have hbl : b < s1.heap.objs.size := p2.lt
        refine zip_begins2 (begins_tuple a its.toArray) (begins_list b its2.toArray) p' p2.isList fun h' hz hTI hTO h1 h2 hsz hk => wpAny_pyIter_zip hz ?_
        have I2 : Inv X pins σ H1 { s1 with heap := h' } := I1.kept (t' := s1.toks) hk
        have sep : ZipSep2 (s1.heap.objs.size + 4) (s1.heap.objs.size + 2) (s1.heap.objs.size + 3) s1.heap.objs.size (s1.heap.objs.size + 1) [s1.heap.objs.size, a] [s1.heap.objs.size + 1, b] :=
          zip_sep2 (fp1 := [a]) (fp2 := [b]) (by simpa using hal) (by simpa using hbl)
        exact ⟨s1.heap.objs.size + 4, [s1.heap.objs.size + 4, s1.heap.objs.size + 2, s1.heap.objs.size + 3, s1.heap.objs.size, s1.heap.objs.size + 1], _, _, H1, rfl, I2, turn_zipM sep (Nat.ne_of_lt hal) (Nat.ne_of_lt (Nat.lt_succ_of_lt hbl)), ⟨hz, hTI, ⟨_, _, hTO⟩, ⟨_, h1, rfl, rfl⟩, ⟨_, h2, rfl, rfl⟩⟩, fresh5, q⟩
end L2
namespace DL
open PySem PySem.Spec L2
section
variable {K : PySem.W.Frag} {W : WX} {Γ : Gm} {X : XP} {PI : List Dt → Gm → Prop}
def enumD (xs : List Dt) : List Dt := xs.mapIdx fun i x => .tup [.int (i : Nat), x]
def zipD (xs ys : List Dt) : List Dt := List.zipWith (fun x y => .tup [x, y]) xs ys
theorem enumD_get {xs : List Dt} {k : Nat} {x : Dt} (h : (enumD xs)[k]? = some x) : ∃ y, xs[k]? = some y ∧ x = .tup [.int (k : Nat), y] := by
  unfold enumD at h
  rw [List.getElem?_mapIdx] at h
  cases q : xs[k]? with
  | none => rw [q] at h; cases h
  | some y => rw [q] at h; cases h; exact ⟨y, rfl, rfl⟩
theorem enumD_len (xs : List Dt) : (enumD xs).length = xs.length := by simp [enumD]
theorem zipD_get {xs ys : List Dt} {k : Nat} {x : Dt} (h : (zipD xs ys)[k]? = some x) : ∃ a b, xs[k]? = some a ∧ ys[k]? = some b ∧ x = .tup [a, b] := by
  unfold zipD at h
  rw [List.getElem?_zipWith] at h
  cases q : xs[k]? with
  | none => rw [q] at h; simp at h
  | some a =>
    cases r : ys[k]? with
    | none => rw [q, r] at h; simp at h
    | some b => rw [q, r] at h; simp at h; exact ⟨a, b, rfl, rfl, h.symm⟩
theorem zipD_len (xs ys : List Dt) : (zipD xs ys).length = min xs.length ys.length := by simp [zipD]
def SeqA (ds : List Dt) (Q : List Dt → Prop) : Prop := ∃ xs, (ds = [.lst xs] ∨ ds = [.tup xs]) ∧ Q xs
def SeqZ (ds : List Dt) (Q : List Dt → List Dt → Prop) : Prop := ∃ xs ys, (ds = [.lst xs, .lst ys] ∨ ds = [.tup xs, .lst ys]) ∧ Q xs ys
instance {xs : List Dt} {Q : List Dt → Prop} : Wk (SeqA [.lst xs] Q) (Q xs) := ⟨fun h => ⟨xs, .inl rfl, h⟩⟩
instance {xs : List Dt} {Q : List Dt → Prop} : Wk (SeqA [.tup xs] Q) (Q xs) := ⟨fun h => ⟨xs, .inr rfl, h⟩⟩
instance {xs ys : List Dt} {Q : List Dt → List Dt → Prop} : Wk (SeqZ [.lst xs, .lst ys] Q) (Q xs ys) := ⟨fun h => ⟨xs, ys, .inl rfl, h⟩⟩
instance {xs ys : List Dt} {Q : List Dt → List Dt → Prop} : Wk (SeqZ [.tup xs, .lst ys] Q) (Q xs ys) := ⟨fun h => ⟨xs, ys, .inr rfl, h⟩⟩
theorem pair_new {G3 H3 : Hp} {T : Addr} {x y : V} {a b : Dt} (g : Same G3 H3) (n : H3 T = none) (rx : Rep K G3 x a) (ry : Rep K G3 y b) : ∃ G4, DL.Ext G3 H3 G4 (upd H3 T (.tup [x, y])) ∧ Rep K G4 (.ref T) (.tup [a, b]) :=
  ⟨_, Ext.new g n, Rep.newT g n (.cons rx (.cons ry .nil))⟩
theorem ei_enum {t : TA} (h : EvA K W t Γ (fun ds Γ1 => SeqA ds fun xs => PI (enumD xs) Γ1) X) : EvI K W (iEnumA K t) Γ PI X := fun O G H σ R S q x =>
  h O G H σ _ S (fun vs G1 H1 Γ1 ds s1 S1 r ⟨xs, ed, p⟩ => by
    have fin : ∀ {xv : List V}, Reps K G1 xv xs → ∀ k x v G2 H2 H3, (enumD xs)[k]? = some x → Same G1 G2 → Same G2 H2 → YPair (fun i => some (.int (i : Nat))) (fun i => xv[i]?) k H2 v H3 → ∃ G4, DL.Ext G2 H2 G4 H3 ∧ Rep K G4 v x := fun {xv} rr k x v G2 H2 H3 hx s2 g2 y => by
      obtain ⟨y', hy, rfl⟩ := enumD_get hx
      obtain ⟨T, a, b, rfl, nT, rfl, ea, eb⟩ := y
      cases ea
      obtain ⟨d', hd', r'⟩ := rr.get' eb
      rw [hy] at hd'; cases hd'
      exact pair_new g2 nT (.int _) (r'.mono s2)
    rcases ed with rfl | rfl
    · cases r with
      | cons r1 r2 =>
        cases r2
        cases r1 with
        | @lst ad xv _ ha rr =>
          exact ⟨ad, rfl, .inl ⟨xv, SqL.of (S1.g _ _ ha), q _ G1 H1 Γ1 _ _ _ _ s1 S1 (walk_enum (K := K) (a := ad) (xs := xv)) (by rw [enumD_len]; exact rr.length) (fun H' s' => SqL.of (s' _ _ ha)) (fin rr) p⟩⟩
    · cases r with
      | cons r1 r2 =>
        cases r2
        cases r1 with
        | @tup ad xv _ ha rr =>
          exact ⟨ad, rfl, .inr ⟨xv, SqT.of (S1.g _ _ ha), q _ G1 H1 Γ1 _ _ _ _ s1 S1 (walk_enumT (K := K) (a := ad) (xs := xv)) (by rw [enumD_len]; exact rr.length) (fun H' s' => SqT.of (s' _ _ ha)) (fin rr) p⟩⟩) x
theorem ei_zip {t : TA} (h : EvA K W t Γ (fun ds Γ1 => SeqZ ds fun xs ys => PI (zipD xs ys) Γ1) X) : EvI K W (iZipM K t) Γ PI X := fun O G H σ R S q x =>
  h O G H σ _ S (fun vs G1 H1 Γ1 ds s1 S1 r ⟨xs, ys, ed, p⟩ => by
    have fin : ∀ {xv yv : List V}, Reps K G1 xv xs → Reps K G1 yv ys → ∀ k x v G2 H2 H3, (zipD xs ys)[k]? = some x → Same G1 G2 → Same G2 H2 → YPair (fun i => xv[i]?) (fun i => yv[i]?) k H2 v H3 → ∃ G4, DL.Ext G2 H2 G4 H3 ∧ Rep K G4 v x := fun {xv yv} rr rr2 k x v G2 H2 H3 hx s2 g2 y => by
      obtain ⟨a', b', ha, hb, rfl⟩ := zipD_get hx
      obtain ⟨T, a, b, rfl, nT, rfl, ea, eb⟩ := y
      obtain ⟨d', hd', r'⟩ := rr.get' ea
      rw [ha] at hd'; cases hd'
      obtain ⟨d2, hd2, r2⟩ := rr2.get' eb
      rw [hb] at hd2; cases hd2
      exact pair_new g2 nT (r'.mono s2) (r2.mono s2)
    rcases ed with rfl | rfl
    · cases r with
      | cons r1 r2 =>
        cases r2 with
        | cons r2 r3 =>
        cases r3
        cases r1 with
        | @lst ad xv _ ha rr =>
        cases r2 with
        | @lst bd yv _ hb rr2 =>
          exact ⟨ad, bd, rfl, .inl ⟨xv, yv, SqL.of (S1.g _ _ ha), SqL.of (S1.g _ _ hb), q _ G1 H1 Γ1 _ _ _ _ s1 S1 (walk_zip (K := K) (a := ad) (b := bd) (xs := xv) (ys := yv) rfl) (by rw [zipD_len, rr.length, rr2.length]) (fun H' s' => ⟨SqL.of (s' _ _ ha), SqL.of (s' _ _ hb)⟩) (fin rr rr2) p⟩⟩
    · cases r with
      | cons r1 r2 =>
        cases r2 with
        | cons r2 r3 =>
        cases r3
        cases r1 with
        | @tup ad xv _ ha rr =>
        cases r2 with
        | @lst bd yv _ hb rr2 =>
          exact ⟨ad, bd, rfl, .inr ⟨xv, yv, SqT.of (S1.g _ _ ha), SqL.of (S1.g _ _ hb), q _ G1 H1 Γ1 _ _ _ _ s1 S1 (walk_zipM (K := K) (a := ad) (b := bd) (xs := xv) (ys := yv) rfl) (by rw [zipD_len, rr.length, rr2.length]) (fun H' s' => ⟨SqT.of (s' _ _ ha), SqL.of (s' _ _ hb)⟩) (fin rr rr2) p⟩⟩) x
instance {t : TA} : Wk (EvI K W (iEnumA K t) Γ PI X) (EvA K W t Γ (fun ds Γ1 => SeqA ds fun xs => PI (enumD xs) Γ1) X) := ⟨ei_enum⟩
instance {t : TA} : Wk (EvI K W (iZipM K t) Γ PI X) (EvA K W t Γ (fun ds Γ1 => SeqZ ds fun xs ys => PI (zipD xs ys) Γ1) X) := ⟨ei_zip⟩
end
end DL

/-! DL, part q: calls by positions and keywords, star parameters. -/
namespace L2
open PySem PySem.Spec PyProof.Rows
/-- a promise by positional values and keywords ks, however they are bound -/
def FnK (P : Program) (w : World) (K : PySem.W.Frag) (mg : Str → Option Value) (base : Heap) (k : Nat) (f : Addr) (ks : List Str) (sp : Sp) : Prop :=
  ∀ (A : Around) (outer : List Env) (s : Shared) (H : Hp) (us ws : List Value) (vs zs : List V) (Q : VK) (E : XK), Room k A → Env0 P w K mg base A outer s H → Vals vs us → Vals zs ws → ws.length = ks.length → sp (vs ++ zs) H Q E →
    codeAny (model P w) A (.call (.ref f) ⟨us, ks.zip ws⟩) (CR (L2.CX P w) outer P w H s Q E) s
section
variable {P : Program} {w : World} {K : PySem.W.Frag} {mg : Str → Option Value} {base : Heap} {j k : Nat} {f : Addr} {sp sp' : Sp} {ks : List Str}
theorem FnK.mono (F : FnK P w K mg base j f ks sp) (h : j ≤ k) : FnK P w K mg base k f ks sp := fun A outer s H us ws vs zs Q E hr => F A outer s H us ws vs zs Q E (hr.mono h)
theorem FnK.imp (F : FnK P w K mg base k f ks sp) (h : ∀ vs H Q E, sp' vs H Q E → sp vs H Q E) : FnK P w K mg base k f ks sp' := fun A outer s H us ws vs zs Q E hr e0 r rz l hs => F A outer s H us ws vs zs Q E hr e0 r rz l (h _ _ _ _ hs)
theorem FnR.toK (F : FnR P w K mg base (L2.CX P w) k f sp) : FnK P w K mg base k f [] sp := fun A outer s H us ws vs zs Q E hr e0 r rz l hs => by
  obtain rfl : ws = [] := List.length_eq_zero_iff.mp l
  cases rz
  rw [List.append_nil] at hs
  exact F A outer s H us vs Q E hr e0 r hs
theorem FnOk.toK {fd : FuncData} {ps : List Str} (F : FnOk P w K mg base (L2.CX P w) k f fd ps sp) (b : Binds K fd ps []) : FnK P w K mg base k f [] sp :=
  FnR.toK ((F.raw b .nil).imp fun vs H Q E h => by rw [List.append_nil]; exact h)
/-- keywords ks bound as KBn says -/
theorem FnOk.toKN {fd : FuncData} {ps : List Str} {n : Nat} {g : List Value → List Value → List Value} {gV : List V → List V → List V} (F : FnOk P w K mg base (L2.CX P w) k f fd ps sp) (b : KBn K fd ps n ks g gV) :
    FnK P w K mg base k f ks (fun vs H Q E => ∃ ws zs, vs = ws ++ zs ∧ ws.length = n ∧ zs.length = ks.length ∧ sp (gV ws zs) H Q E) := fun A outer s H us ws vs zs Q E hr e0 r rz l hs => by
  obtain ⟨vs', zs', e, l1, l2, hs⟩ := hs
  have lz : zs.length = ks.length := by rw [rz.length]; exact l
  have e1 : vs = vs' := (List.append_inj' e (by omega)).1
  have e2 : zs = zs' := (List.append_inj' e (by omega)).2
  subst e1 e2
  exact F.run A outer s H ⟨us, ks.zip ws⟩ (g us ws) (gV vs zs) Q E hr e0 (b.to s us ws (e0.mod.kin.keeps fun b o e => (e0.bs b o e).1) (by rw [← r.length]; exact l1) l) (b.rel r rz) hs
end
section
variable {X : Cx} {pins : List (Addr × Obj)} {σ : St} {H : Hp} {s : Shared} {k : Nat} {f C : Addr} {sp : Sp} {E : XK} {Q : VK} {us ws : List Value} {vs zs : List V} {ks : List Str}
theorem run_fnK (F : FnK X.prog X.w X.K X.mg X.base k f ks sp) (hr : Room k X.A) (hx : PassesAt (L2.CX X.prog X.w) X σ E) (I : Inv X pins σ H s) (r : Vals vs us) (rz : Vals zs ws) (l : ws.length = ks.length) (h : sp (vs ++ zs) H Q E) :
    codeAny (model X.prog X.w) X.A (.call (.ref f) ⟨us, ks.zip ws⟩) (fun r s' => match r with | .ok (.ret v) => EP X pins σ Q v s' | .ok _ => False | .error e => X.xe e s') s := by
  refine codeAny_mono (F X.A X.stack s H us ws vs zs Q E hr I.env0 r rz l h) fun r s' hq => ?_
  cases r with
  | error e => exact hx pins H s e s' I hq
  | ok fl =>
    cases fl with
    | ret u => exact I.after hq
    | next => exact False.elim hq
    | brk => exact False.elim hq
    | cont => exact False.elim hq
theorem run_fnK0 (F : FnK X.prog X.w X.K X.mg X.base k f [] sp) (hr : Room k X.A) (hx : PassesAt (L2.CX X.prog X.w) X σ E) (I : Inv X pins σ H s) (r : Vals vs us) (h : sp vs H Q E) :
    codeAny (model X.prog X.w) X.A (.call (.ref f) ⟨us, []⟩) (fun r s' => match r with | .ok (.ret v) => EP X pins σ Q v s' | .ok _ => False | .error e => X.xe e s') s :=
  run_fnK (ws := []) (zs := []) (ks := []) F hr hx I r .nil rfl (by rw [List.append_nil]; exact h)
theorem run_makeK (M : Mk X.K C f) (F : FnK X.prog X.w X.K X.mg X.base k f ks sp) (hr : Room (k + 1) X.A) (hx : PassesAt (L2.CX X.prog X.w) X σ E) (I : Inv X pins σ H s) (r : Vals vs us) (rz : Vals zs ws) (l : ws.length = ks.length)
    (h : ∀ y dy, H y = none → H dy = none → dy ≠ y → sp (.ref y :: (vs ++ zs)) (upd (upd H dy (.own y)) y (.ins C dy [])) (fun v H2 => v = .non ∧ Q (.ref y) H2) E) :
    wpAny (model X.prog X.w) X.A (call (.ref C) us (ks.zip ws)) (EP X pins σ Q) X.xe s := by
  have hn := h (s.heap.objs.size + 1) s.heap.objs.size (I.hok.fresh (Nat.le_succ _)) (I.hok.fresh (Nat.le_refl _)) (Nat.ne_of_lt (Nat.lt_succ_self _))
  have J := Inv.made (C := C) I
  have rr : Vals (V.ref (s.heap.objs.size + 1) :: vs) (Value.ref (s.heap.objs.size + 1) :: us) := .cons rfl r
  have body := F _ X.stack _ _ (Value.ref (s.heap.objs.size + 1) :: us) ws _ zs _ E (hr.make C us (ks.zip ws)) (J.env0.make C us (ks.zip ws)) rr rz l hn
  refine wpAny_call (make_map (f := f) I.kIn M.makes M.init (beq_iff_eq.mp M.fn) (codeAny_mono body fun q s' hq => ?_))
  cases q with
  | error e => exact hx pins _ _ e s' J hq
  | ok fl =>
    cases fl with
    | ret u =>
      obtain ⟨v, H', I3, rv, ev, q3⟩ := J.after hq
      subst ev
      exact ⟨rv, ⟨V.ref (s.heap.objs.size + 1), H', I3, rfl, q3⟩⟩
    | next => exact hq.elim
    | brk => exact hq.elim
    | cont => exact hq.elim
end
end L2
namespace L2
open PySem PySem.Spec PyProof.Rows
def tApp (t tk : TA) : TA := fun σ H Q => t σ H fun vs H1 => tk σ H1 fun zs H2 => Q (vs ++ zs) H2
def tLen (n : Nat) (t : TA) : TA := fun σ H Q => t σ H fun zs H1 => zs.length = n ∧ Q zs H1
end L2
namespace DL
open PySem PySem.Spec L2 PyProof.Rows
/-- the def x of the module keeps the promise S, called with the keywords ks -/
structure DN (P : Program) (w : World) (K : PySem.W.Frag) (mg : Str → Option Value) (base : Heap) (x : Str) (ks : List Str) (k : Nat) (S : DSp) : Prop where
  ex : ∃ f, FnK P w K mg base k f ks (spD K S) ∧ mg x = some (.ref f) ∧ PySem.W.keepIn K (.ref f) = true
/-- the function at f does -/
structure DA (P : Program) (w : World) (K : PySem.W.Frag) (mg : Str → Option Value) (base : Heap) (f : Addr) (ks : List Str) (k : Nat) (S : DSp) : Prop where
  fn : FnK P w K mg base k f ks (spD K S)
section
variable {X : Cx} {x m : Str} {k j : Nat} {S : DSp} {W : WX} {e o : Expr} {es : List Expr} {kws : List Keyword} {t tk' : TA} {ta te : TE} {p p2 pos apos : Pos} {C f : Addr} {ks : List Str}
theorem pe_nK (K : PySem.W.Frag) (h : X.K = K) (D : DN X.prog X.w K X.mg X.base x [] k S) (hr : Room j X.A) (hj : k ≤ j) (tk : Takes X W) (ha : PA X (e :: es) t) (hg : Gl X x := by rfl) (hdb : (x == ("__debug__" : Str)) = false := by decide)
    (he : starEach (e :: es) X.env = (false, eval e X.env) :: starEach es X.env := by rfl) (hpl : (backTo pos (starEach es X.env)).any (·.1) = false := by rfl) : PE X (.Call (.Name x p) (e :: es) [] pos) (tCallS (spD K S) (WE W) t) := by
  subst h
  obtain ⟨f, F, hm, hk⟩ := D.ex
  refine ⟨fun pins s σ H Q I h => wpAny_Call_Name_kw (ld_glob I hg hm ?_ hdb)⟩
  refine PySem.W.callWith_K (h₀ := X.base) I.ok.mod.kin hk (thn (ha.run pos pins s σ H _ I h) fun us s1 ⟨vs, H1, I1, r, q⟩ => ⟨I1.kIn, ?_⟩) he hpl
  exact wpAny_call (run_fnK0 F (hr.mono hj) (passAt tk σ) I1 r q)
theorem pe_n0K (K : PySem.W.Frag) (h : X.K = K) (D : DN X.prog X.w K X.mg X.base x [] k S) (hr : Room j X.A) (hj : k ≤ j) (tk : Takes X W) (hg : Gl X x := by rfl) (hdb : (x == ("__debug__" : Str)) = false := by decide) : PE X (.Call (.Name x p) [] [] pos) (tCallS (spD K S) (WE W) tNil) := by
  subst h
  obtain ⟨f, F, hm, hk⟩ := D.ex
  refine ⟨fun pins s σ H Q I h => wpAny_Call_Name_kw (ld_glob I hg hm ?_ hdb)⟩
  exact PySem.W.callWith_K0 I.kIn hk (wpAny_call (run_fnK0 F (hr.mono hj) (passAt tk σ) I .nil h))
/-- x(e, .., *y) -/
theorem pe_nsK (K : PySem.W.Frag) (h : X.K = K) (D : DN X.prog X.w K X.mg X.base x [] k S) (hr : Room j X.A) (hj : k ≤ j) (tk : Takes X W) (ha : PA X (e :: es) t) (hg : Gl X x := by rfl) (hdb : (x == ("__debug__" : Str)) = false := by decide)
    (he : starEach (e :: es) X.env = (false, eval e X.env) :: starEach es X.env := by rfl) (hst : (backTo pos (starEach es X.env)).any (·.1) = true := by rfl) : PE X (.Call (.Name x p) (e :: es) [] pos) (tCallS (spD K S) (WE W) t) := by
  subst h
  obtain ⟨f, F, hm, hk⟩ := D.ex
  refine ⟨fun pins s σ H Q I h => wpAny_Call_Name_kw (ld_glob I hg hm ?_ hdb)⟩
  refine PySem.W.callWith_S2 (h₀ := X.base) I.ok.mod.kin hk (thn (ha.run pos pins s σ H _ I h) fun us s1 ⟨vs, H1, I1, r, q⟩ => ⟨I1.kIn, ?_⟩) he hst
  exact wpAny_call (run_fnK0 F (hr.mono hj) (passAt tk σ) I1 r q)
/-! ### instances -/
theorem pe_cK (K : PySem.W.Frag) (h : X.K = K) (M : Mk K C f) (D : DA X.prog X.w K X.mg X.base f [] k S) (hr : Room j X.A) (hj : k + 1 ≤ j) (tk : Takes X W) (hm : X.mg x = some (.ref C)) (ha : PA X (e :: es) t) (hg : Gl X x := by rfl) (hdb : (x == ("__debug__" : Str)) = false := by decide)
    (he : starEach (e :: es) X.env = (false, eval e X.env) :: starEach es X.env := by rfl) (hpl : (backTo pos (starEach es X.env)).any (·.1) = false := by rfl) : PE X (.Call (.Name x p) (e :: es) [] pos) (tMakeS C (spD K S) (WE W) t) := by
  subst h
  refine ⟨fun pins s σ H Q I h => wpAny_Call_Name_kw (ld_glob I hg hm ?_ hdb)⟩
  refine PySem.W.callWith_K (h₀ := X.base) I.ok.mod.kin M.kp (thn (ha.run pos pins s σ H _ I h) fun us s1 hh => ?_) he hpl
  obtain ⟨vs, H1, I1, r, q⟩ := hh
  exact ⟨I1.kIn, run_makeK (ks := []) (ws := []) (zs := []) M D.fn (hr.mono hj) (passAt tk σ) I1 r .nil rfl (fun y dy n1 n2 n3 => by rw [List.append_nil]; exact q y dy n1 n2 n3)⟩
/-- x(e, .., *y) -/
theorem pe_csK (K : PySem.W.Frag) (h : X.K = K) (M : Mk K C f) (D : DA X.prog X.w K X.mg X.base f [] k S) (hr : Room j X.A) (hj : k + 1 ≤ j) (tk : Takes X W) (hm : X.mg x = some (.ref C)) (ha : PA X (e :: es) t) (hg : Gl X x := by rfl) (hdb : (x == ("__debug__" : Str)) = false := by decide)
    (he : starEach (e :: es) X.env = (false, eval e X.env) :: starEach es X.env := by rfl) (hst : (backTo pos (starEach es X.env)).any (·.1) = true := by rfl) : PE X (.Call (.Name x p) (e :: es) [] pos) (tMakeS C (spD K S) (WE W) t) := by
  subst h
  refine ⟨fun pins s σ H Q I h => wpAny_Call_Name_kw (ld_glob I hg hm ?_ hdb)⟩
  refine PySem.W.callWith_S2 (h₀ := X.base) I.ok.mod.kin M.kp (thn (ha.run pos pins s σ H _ I h) fun us s1 hh => ?_) he hst
  obtain ⟨vs, H1, I1, r, q⟩ := hh
  exact ⟨I1.kIn, run_makeK (ks := []) (ws := []) (zs := []) M D.fn (hr.mono hj) (passAt tk σ) I1 r .nil rfl (fun y dy n1 n2 n3 => by rw [List.append_nil]; exact q y dy n1 n2 n3)⟩
/-- x(*y) -/
theorem pe_cs1K (K : PySem.W.Frag) (h : X.K = K) (M : Mk K C f) (D : DA X.prog X.w K X.mg X.base f [] k S) (hr : Room j X.A) (hj : k + 1 ≤ j) (tk : Takes X W) (hm : X.mg x = some (.ref C)) (he' : PE X e te) (hg : Gl X x := by rfl) (hdb : (x == ("__debug__" : Str)) = false := by decide)
    (hst : starEach [.Starred e p2] X.env = [(true, eval e X.env)] := by rfl) : PE X (.Call (.Name x p) [.Starred e p2] [] pos) (tMakeS C (spD K S) (WE W) (StX.tStar K te tNil)) := by
  subst h
  refine ⟨fun pins s σ H Q I h => wpAny_Call_Name_kw (ld_glob I hg hm ?_ hdb)⟩
  refine PySem.W.callWith_S (h₀ := X.base) I.ok.mod.kin M.kp (thn (he'.run pins s σ H _ I h) fun v s1 ⟨y, H1, I1, ry, a, xs, ey, hxs, q⟩ => ?_) hst
  subst ey
  obtain rfl : v = Value.ref a := ry
  refine StX.star_any I1 hxs fun us s2 I2 rv => ⟨I2.kIn, ?_⟩
  exact run_makeK (ks := []) (ws := []) (zs := []) M D.fn (hr.mono hj) (passAt tk σ) I2 rv .nil rfl (fun y dy n1 n2 n3 => q y dy n1 n2 n3)
/-- x(e, .., k = v, ..) -/
theorem pe_ckK (K : PySem.W.Frag) (h : X.K = K) (M : Mk K C f) (D : DA X.prog X.w K X.mg X.base f ks k S) (hr : Room j X.A) (hj : k + 1 ≤ j) (tk : Takes X W) (hm : X.mg x = some (.ref C)) (ha : PA X (e :: es) t) (hkw : PK X kws tk') (hg : Gl X x := by rfl) (hdb : (x == ("__debug__" : Str)) = false := by decide)
    (hall : (backToKw pos (keywordEach kws X.env)).all (·.1.isSome) = true := by rfl) (hks : (backToKw pos (keywordEach kws X.env)).filterMap (·.1) = ks := by rfl) (he : starEach (e :: es) X.env = (false, eval e X.env) :: starEach es X.env := by rfl)
    (hlen : (backToKw pos (keywordEach kws X.env)).length = ks.length := by rfl)
    (hpl : ((backTo pos (starEach (e :: es) X.env)).any (·.1) || (backToKw pos (keywordEach kws X.env)).any (·.1.isNone)) = false := by rfl) : PE X (.Call (.Name x p) (e :: es) kws pos) (tMakeS C (spD K S) (WE W) (tApp t (tLen ks.length tk'))) := by
  subst h
  refine ⟨fun pins s σ H Q I h => wpAny_Call_Name_kw (ld_glob I hg hm ?_ hdb)⟩
  refine PySem.W.callWith_KW (h₀ := X.base) I.ok.mod.kin M.kp hall (thn (ha.run pos pins s σ H _ I h) fun us s1 ⟨vs, H1, I1, r, q⟩ => ?_) hpl he
  refine thn (hkw.run pos pins s1 σ H1 _ I1 q) fun ws s2 ⟨zs, H2, I2, rz, l, q2⟩ => ⟨I2.kIn, ?_⟩
  rw [hks]
  exact run_makeK M D.fn (hr.mono hj) (passAt tk σ) I2 r rz (by rw [← rz.length]; exact l) q2
/-! ### methods -/
theorem pe_mK {pl : Sem Bool} (K : PySem.W.Frag) (h : X.K = K) (c : Cls K C) (hm : Meth K C m f) (D : DA X.prog X.w K X.mg X.base f [] k S) (hr : Room j X.A) (hj : k ≤ j) (tk : Takes X W) (ho : PE X o ta) (ha : PA X (e :: es) t)
    (hst : starEach (e :: es) X.env = (false, eval e X.env) :: starEach es X.env := by rfl) (hpl : (backTo pos (starEach es X.env)).any (·.1) = false := by rfl)
    (ht : eval (.Call (.Attribute o m apos) (e :: es) [] pos) X.env = (do
      let ov ← eval o X.env
      standAt apos.atName
      let (g, first) ← holding [ov] (getMethod ov m pl)
      callWith pos g first (backTo pos (starEach (e :: es) X.env)) (backToKw pos (keywordEach [] X.env))) := by rfl) : PE X (.Call (.Attribute o m apos) (e :: es) [] pos) (tMethE C m (spD K S) (WE W) ta t) := by
  subst h
  refine ⟨fun pins s σ H Q I h => PySem.W.methodCall_KW (pl := pl) (thn (ho.run pins s σ H _ I h) fun u s1 hh => ?_) ht⟩
  obtain ⟨y, H1, I1, ry, a, dx, fs, ey, ea, l, q⟩ := hh
  subst ey
  obtain rfl : u = Value.ref a := ry
  refine getmeth_ok I1 ea c hm l ?_
  refine PySem.W.callWith_K (first := [.ref a]) (h₀ := X.base) I.ok.mod.kin hm.kp (thn (ha.run pos pins s1 σ H1 _ I1 q) fun us s2 hh => ?_) hst hpl
  obtain ⟨vs, H2, I2, r, q2⟩ := hh
  exact ⟨I2.kIn, wpAny_call (run_fnK0 (us := .ref a :: us) (vs := .ref a :: vs) D.fn (hr.mono hj) (passAt tk σ) I2 (.cons rfl r) q2)⟩
theorem pe_m0K {pl : Sem Bool} (K : PySem.W.Frag) (h : X.K = K) (c : Cls K C) (hm : Meth K C m f) (D : DA X.prog X.w K X.mg X.base f [] k S) (hr : Room j X.A) (hj : k ≤ j) (tk : Takes X W) (ho : PE X o ta)
    (ht : eval (.Call (.Attribute o m apos) [] [] pos) X.env = (do
      let ov ← eval o X.env
      standAt apos.atName
      let (g, first) ← holding [ov] (getMethod ov m pl)
      callWith pos g first (backTo pos (starEach [] X.env)) (backToKw pos (keywordEach [] X.env))) := by rfl) : PE X (.Call (.Attribute o m apos) [] [] pos) (tMethE C m (spD K S) (WE W) ta tNil) := by
  subst h
  refine ⟨fun pins s σ H Q I h => PySem.W.methodCall_KW (pl := pl) (thn (ho.run pins s σ H _ I h) fun u s1 hh => ?_) ht⟩
  obtain ⟨y, H1, I1, ry, a, dx, fs, ey, ea, l, q⟩ := hh
  subst ey
  obtain rfl : u = Value.ref a := ry
  refine getmeth_ok I1 ea c hm l ?_
  exact PySem.W.callWith_K0 (first := [.ref a]) I1.kIn hm.kp (wpAny_call (run_fnK0 (us := [.ref a]) (vs := [.ref a]) D.fn (hr.mono hj) (passAt tk σ) I1 (.cons rfl .nil) q))
/-- o.m(k = v, ..) -/
theorem pe_mkwK {pl : Sem Bool} (K : PySem.W.Frag) (h : X.K = K) (c : Cls K C) (hm : Meth K C m f) (D : DA X.prog X.w K X.mg X.base f ks k S) (hr : Room j X.A) (hj : k ≤ j) (tk : Takes X W) (ho : PE X o ta) (hkw : PK X kws tk')
    (hall : (backToKw pos (keywordEach kws X.env)).all (·.1.isSome) = true := by rfl) (hks : (backToKw pos (keywordEach kws X.env)).filterMap (·.1) = ks := by rfl)
    (hpl : ((backTo pos (starEach [] X.env)).any (·.1) || (backToKw pos (keywordEach kws X.env)).any (·.1.isNone)) = false := by rfl)
    (ht : eval (.Call (.Attribute o m apos) [] kws pos) X.env = (do
      let ov ← eval o X.env
      standAt apos.atName
      let (g, first) ← holding [ov] (getMethod ov m pl)
      callWith pos g first (backTo pos (starEach [] X.env)) (backToKw pos (keywordEach kws X.env))) := by rfl) : PE X (.Call (.Attribute o m apos) [] kws pos) (tMethE C m (spD K S) (WE W) ta (tLen ks.length tk')) := by
  subst h
  refine ⟨fun pins s σ H Q I h => PySem.W.methodCall_KW (pl := pl) (thn (ho.run pins s σ H _ I h) fun u s1 hh => ?_) ht⟩
  obtain ⟨y, H1, I1, ry, a, dx, fs, ey, ea, l, q⟩ := hh
  subst ey
  obtain rfl : u = Value.ref a := ry
  refine getmeth_ok I1 ea c hm l ?_
  refine PySem.W.callWith_KW0 (first := [.ref a]) (h₀ := X.base) I.ok.mod.kin hm.kp hall (thn (hkw.run pos pins s1 σ H1 _ I1 q) fun ws s2 ⟨zs, H2, I2, rz, l, q2⟩ => ⟨I2.kIn, ?_⟩) hpl
  rw [hks]
  exact wpAny_call (run_fnK (us := [.ref a]) (vs := [.ref a]) D.fn (hr.mono hj) (passAt tk σ) I2 (.cons rfl .nil) rz (by rw [← rz.length]; exact l) q2)
end
section
variable {K : PySem.W.Frag} {W : WX} {Γ : Gm} {X : XP} {te : TE} {t tr : TA} {n : Nat} {PA : List Dt → Gm → Prop}
theorem ea_len (h : EvA K W t Γ (fun ds Γ1 => ds.length = n ∧ PA ds Γ1) X) : EvA K W (tLen n t) Γ PA X := fun O G H σ Q S q x =>
  h O G H σ _ S (fun vs G1 H1 Γ1 ds s1 S1 r ⟨l, p⟩ => ⟨by rw [r.length]; exact l, q vs G1 H1 Γ1 ds s1 S1 r p⟩) x
instance : Wk (EvA K W (tLen n t) Γ PA X) (EvA K W t Γ (fun ds Γ1 => Side (ds.length = n) (PA ds Γ1)) X) := ⟨ea_len⟩
theorem ea_app {tk : TA} (h : EvA K W t Γ (fun ds Γ1 => EvA K W tk Γ1 (fun es Γ2 => PA (ds ++ es) Γ2) X) X) : EvA K W (tApp t tk) Γ PA X := fun O G H σ Q S q x =>
  h O G H σ _ S (fun vs G1 H1 Γ1 ds s1 S1 r h1 => h1 O G1 H1 σ _ S1 (fun us G2 H2 Γ2 es s2 S2 r2 p => q _ G2 H2 Γ2 _ (s1.trans s2) S2 ((r.mono s2).append r2) p) (x.mono s1)) x
instance {tk : TA} : Wk (EvA K W (tApp tNil tk) Γ PA X) (EvA K W tk Γ PA X) := ⟨fun h => h⟩
instance {tk : TA} : Wk (EvA K W (tApp (tCons te tr) tk) Γ PA X) (EvA K W (tCons te (tApp tr tk)) Γ PA X) := ⟨fun h => h⟩
/-- *e among the arguments -/
theorem ea_star (h : Ev K W te Γ (fun d Γ1 => SeqA [d] fun xs => EvA K W t Γ1 (fun es Γ2 => PA (xs ++ es) Γ2) X) X) : EvA K W (StX.tStar K te t) Γ PA X := fun O G H σ Q S q x =>
  h O G H σ _ S (fun v G1 H1 Γ1 d s1 S1 r ⟨xs, ed, h1⟩ => by
    have go : ∀ {ad : Addr} {xv : List V}, v = .ref ad → (SqT K H1 ad xv ∨ SqL K H1 ad xv) → Reps K G1 xv xs → StX.tStar K te t σ H Q ∨ (∃ p xs, v = V.ref p ∧ (SqT K H1 p xs ∨ SqL K H1 p xs) ∧ t σ H1 fun ys H2 => Q (xs ++ ys) H2) := fun {ad xv} e hq rr =>
      .inr ⟨ad, xv, e, hq, h1 O G1 H1 σ _ S1 (fun us G2 H2 Γ2 es s2 S2 r2 p => q _ G2 H2 Γ2 _ (s1.trans s2) S2 ((rr.mono s2).append r2) p) (x.mono s1)⟩
    rcases ed with e | e
    · obtain rfl : d = .lst xs := by simpa using e
      cases r with
      | @lst ad xv _ ha rr => exact ⟨ad, xv, rfl, .inr (SqL.of (S1.g _ _ ha)), h1 O G1 H1 σ _ S1 (fun us G2 H2 Γ2 es s2 S2 r2 p => q _ G2 H2 Γ2 _ (s1.trans s2) S2 ((rr.mono s2).append r2) p) (x.mono s1)⟩
    · obtain rfl : d = .tup xs := by simpa using e
      cases r with
      | @tup ad xv _ ha rr => exact ⟨ad, xv, rfl, .inl (SqT.of (S1.g _ _ ha)), h1 O G1 H1 σ _ S1 (fun us G2 H2 Γ2 es s2 S2 r2 p => q _ G2 H2 Γ2 _ (s1.trans s2) S2 ((rr.mono s2).append r2) p) (x.mono s1)⟩) x
instance : Wk (EvA K W (StX.tStar K te t) Γ PA X) (Ev K W te Γ (fun d Γ1 => SeqA [d] fun xs => EvA K W t Γ1 (fun es Γ2 => PA (xs ++ es) Γ2) X) X) := ⟨ea_star⟩
end
end DL
namespace DL
open PySem PySem.Spec L2 PyProof.Rows
section
variable {K : PySem.W.Frag} {O G G2 H H2 : Hp}
theorem slots_app : ∀ {σ1 σ2 : L2.St} {Γ1 Γ2 : Gm}, Slots K G H σ1 Γ1 → Slots K G H σ2 Γ2 → Slots K G H (σ1 ++ σ2) (Γ1 ++ Γ2)
  | _, _, _, _, .nil, b => b
  | _, _, _, _, .no r, b => .no (slots_app r b)
  | _, _, _, _, .yes o r, b => .yes o (slots_app r b)
theorem slots_un : ∀ {σ1 σ2 : L2.St} {Γ1 Γ2 : Gm}, σ1.length = Γ1.length → Slots K G H (σ1 ++ σ2) (Γ1 ++ Γ2) → Slots K G H σ1 Γ1 ∧ Slots K G H σ2 Γ2
  | [], _, [], _, _, b => ⟨.nil, b⟩
  | [], _, _ :: _, _, l, _ => by simp at l
  | _ :: _, _, [], _, l, _ => by simp at l
  | x :: σ1, _, y :: Γ1, _, l, b => by
    cases b with
    | no r => exact ⟨.no (slots_un (by simpa using l) r).1, (slots_un (by simpa using l) r).2⟩
    | yes o r => exact ⟨.yes o (slots_un (by simpa using l) r).1, (slots_un (by simpa using l) r).2⟩
theorem fps_app : ∀ {Γ1 Γ2 : Gm}, fps (Γ1 ++ Γ2) = fps Γ1 ++ fps Γ2
  | [], _ => rfl
  | x :: Γ1, Γ2 => by simp only [List.cons_append, fps]; rw [fps_app, List.append_assoc]
theorem fr_slots : ∀ {vs : List V} {ds : List Dt}, Slots K G H (sms vs) (sls (ds.map .fr)) → Reps K G vs ds
  | [], [], _ => .nil
  | [], _ :: _, h => by cases h
  | _ :: _, [], h => by cases h
  | v :: vs, d :: ds, h => by
    cases h with
    | yes o r => cases o with | fr q => exact .cons q (fr_slots r)
/-- a promise with a star parameter, by the positions of a call -/
def starS (n : Nat) (S : DSp) : DSp := fun args R Y => ∃ (ws : List Sl) (rest : List Dt), args = ws ++ rest.map .fr ∧ ws.length = n ∧ rest.length ≤ 1000000 ∧
  S (ws ++ [.fr (.tup rest)]) (fun res args' => ∀ ws' s, args' = ws' ++ [s] → R res (ws' ++ rest.map .fr)) (fun C fs args' => ∀ ws' s, args' = ws' ++ [s] → Y C fs (ws' ++ rest.map .fr))
theorem star_sp {n : Nat} {S : DSp} {vs : List V} {Q : VK} {E : XK} (h : spD K (starS n S) vs H Q E) : ∃ ws rest, vs = ws ++ rest ∧ ws.length = n ∧ rest.length ≤ sizeLine ∧ ∀ p, H p = none → spD K S (ws ++ [V.ref p]) (upd H p (.tup rest)) Q E := by
  obtain ⟨O, G, args, R, Y, St, ⟨wsS, restD, rfl, l1, l2, hS⟩, hQ, hE⟩ := h
  have ln : vs.length = wsS.length + restD.length := by have := St.sl.len; simpa using this
  obtain ⟨wv, rv, rfl, lw⟩ : ∃ wv rv, vs = wv ++ rv ∧ wv.length = wsS.length := ⟨vs.take wsS.length, vs.drop wsS.length, (List.take_append_drop _ _).symm, by rw [List.length_take]; omega⟩
  have lr : rv.length = restD.length := by rw [List.length_append] at ln; omega
  have sl := St.sl
  rw [sms, sls, List.map_append, List.map_append] at sl
  obtain ⟨sa, sb⟩ := slots_un (by simpa using lw) sl
  have rr : Reps K G rv restD := fr_slots sb
  have fpsE : ∀ (us : List Sl), fps (sls (us ++ [.fr (.tup restD)])) = fps (sls us) := fun us => by rw [sls, List.map_append, fps_app]; simp [fps, fpO, Sl.fp]
  have fpsR : ∀ (us : List Sl), fps (sls (us ++ restD.map .fr)) = fps (sls us) := fun us => by
    rw [sls, List.map_append, fps_app]
    have : fps (List.map some (restD.map .fr)) = [] := fps_fr restD
    rw [this, List.append_nil]
  refine ⟨wv, rv, rfl, by omega, by rw [lr]; exact Nat.le_trans l2 (by decide), fun p np => ?_⟩
  have ex : Ext G H (upd G p (.tup rv)) (upd H p (.tup rv)) := Ext.new St.g np
  have S1 := St.ext ex
  refine ⟨O, upd G p (.tup rv), wsS ++ [.fr (.tup restD)], _, _, ⟨S1.g, S1.o, S1.d, ?_, ?_, ?_, ?_, S1.om⟩, hS, ?_, ?_⟩
  · rw [sms, sls, List.map_append, List.map_append]
    refine slots_app (sa.mono ex.g fun a _ o e => ex.h a o e) (.yes (.fr (Rep.newT St.g np rr)) .nil)
  · have := S1.nd; rw [fpsR] at this; rw [fpsE]; exact this
  · have := S1.ng; rw [fpsR] at this; rw [fpsE]; exact this
  · have := S1.no; rw [fpsR] at this; rw [fpsE]; exact this
  · intro v G2 H2 res args' s2 S2 hR
    have lt := S2.sl.len
    obtain ⟨ws', sL, rfl⟩ : ∃ ws' sL, args' = ws' ++ [sL] := by
      have ne : args' ≠ [] := fun z => by subst z; simp at lt
      exact ⟨args'.dropLast, args'.getLast ne, (List.dropLast_concat_getLast ne).symm⟩
    have lw' : ws'.length = wv.length := by simp at lt; omega
    have slt := S2.tail.sl
    rw [sms, sls, List.map_append, List.map_append] at slt
    obtain ⟨sa2, _⟩ := slots_un (by simp; omega) slt
    have s02 := ex.g.trans s2
    have sub : (fps (some res :: sls (ws' ++ restD.map .fr))).Sublist (fps (some res :: sls (ws' ++ [sL]))) := by
      simp only [fps]
      rw [fpsR]
      refine (List.Sublist.refl _).append ?_
      rw [sls, sls, List.map_append, fps_app]
      exact List.sublist_append_left _ _
    refine hQ v G2 H2 res (ws' ++ restD.map .fr) s02 ⟨S2.g, S2.o, S2.d, .yes S2.head ?_, sub.nodup S2.nd, fun a ha => S2.ng a (sub.subset ha), fun a ha => S2.no a (sub.subset ha), S2.om⟩ (hR ws' sL rfl)
    rw [sms, sls, List.map_append, List.map_append]
    exact slots_app sa2 (slots_fr (rr.mono s02))
  · intro C d fs G2 H2 args' s2 S2 rx hY
    have lt := S2.sl.len
    obtain ⟨ws', sL, rfl⟩ : ∃ ws' sL, args' = ws' ++ [sL] := by
      have ne : args' ≠ [] := fun z => by subst z; simp at lt
      exact ⟨args'.dropLast, args'.getLast ne, (List.dropLast_concat_getLast ne).symm⟩
    have slt := S2.sl
    rw [sms, sls, List.map_append, List.map_append] at slt
    obtain ⟨sa2, _⟩ := slots_un (by simp at lt; simp; omega) slt
    have s02 := ex.g.trans s2
    have sub : (fps (sls (ws' ++ restD.map .fr))).Sublist (fps (sls (ws' ++ [sL]))) := by
      rw [fpsR, sls, sls, List.map_append, fps_app]
      exact List.sublist_append_left _ _
    refine hE C d fs G2 H2 (ws' ++ restD.map .fr) s02 ⟨S2.g, S2.o, S2.d, ?_, sub.nodup S2.nd, fun a ha => S2.ng a (sub.subset ha), fun a ha => S2.no a (sub.subset ha), S2.om⟩ rx (hY ws' sL rfl)
    rw [sms, sls, List.map_append, List.map_append]
    exact slots_app sa2 (slots_fr (rr.mono s02))
end
section
variable {P : Program} {w : World} {K : PySem.W.Frag} {mg : Str → Option Value} {base : Heap}
/-- what a body must do, at its entry -/
theorem go_entry {t : TS} {N : List Str} {S : DSp} {E : XK} {vs : List V} {H : Hp} {Q : VK} (go : ∀ args R Y, S args R Y → Go K (fun c d _ H => E c d H) t (gm0 N.length args) (poOf args R Y)) (h : spD K S vs H Q E) : t { nx := fun _ H' => Q .non H', rt := Q } (L2.start N vs) H := by
  obtain ⟨O, G, args, R, Y, St, hS, hQ, hE⟩ := h
  have l2 : vs.length = args.length := by have := St.sl.len; simpa using this
  have St' := St.more (N.length - args.length)
  have e : L2.start N vs = sms vs ++ List.replicate (N.length - args.length) none := by unfold L2.start; rw [l2]
  rw [e]
  refine go args R Y hS O G H _ _ St' ?_ ?_ ?_ ?_ ?_
  · intro G2 H2 σ2 Γ2 s2 S2 ⟨args', b, p⟩
    exact hQ .non G2 H2 (.fr .non) args' s2 ((b.sta St s2 S2).pushF .non) p
  · intro v G2 H2 σ2 Γ2 z s2 S2 ⟨args', b, p⟩
    exact hQ v G2 H2 z args' s2 (b.sta1 St s2 S2) p
  · intro G2 H2 σ2 Γ2 s2 S2 p; exact p.elim
  · intro G2 H2 σ2 Γ2 s2 S2 p; exact p.elim
  · intro σ2 C d fs G2 H2 Γ2 s2 S2 r ⟨args', b, p⟩
    exact hE C d fs G2 H2 args' s2 (b.sta St s2 S2) r p
/-- THE RULE for a def with a star parameter -/
theorem fn_ds {x qual : Str} {params : Arguments} {body : List Stmt} {scope : Scope} {f : Addr} {fd : FuncData} {N ps : List Str} {pv : Str} {k n : Nat} {S : DSp} (F : FunD K x qual params body scope [] [] f fd) (Sc : FnScope N (ps ++ [pv]) scope) (hn : ps.length = n)
    (hb : ∀ (kV doc pm : Value) (an : Option Addr) (cdv ct : Value) (us rest : List Value), us.length = ps.length → bindArgs (PySem.W.fnOf x qual params body scope .none kV doc pm an cdv ct) ⟨us ++ rest, []⟩ = (newTuple rest >>= fun t => pure (ps.zip us ++ [(pv, t)])))
    (hbody : ∀ (cdv : Value) (A : Around) (outer : List Env) (s : Shared) (H : Hp) (E : XK), Room k (A.deeper (PyProof.Rows.envOfC qual scope s.heap.objs.size f cdv)) →
      ∃ t, PSs (cxOf (L2.CX P w) P w K mg base N qual scope f cdv A outer s H E) body t ∧ ∀ args R Y, S args R Y → Go K (fun c d _ H => E c d H) t (gm0 N.length args) (poOf args R Y)) :
    FnK P w K mg base (k + 1) f [] (spD K (starS n S)) := by
  obtain ⟨oc, od, dV, kV, doc, pm, an, cdv, ct, osl, rfl, lk, hcd, hD, hK⟩ := F.ex
  rcases hD with ⟨_, rfl⟩ | ⟨e, _⟩
  · refine FnR.toK (FnR.imp (StX.fn_star (sp := spD K S) lk hcd Sc StX.cxUp (hb kV doc pm an cdv ct) fun A outer s H vs Q E hr hsp => ?_) fun vs H Q E h => by subst hn; exact star_sp h)
    obtain ⟨t, ht, go⟩ := hbody cdv A outer s H E hr
    exact ⟨t, ht, go_entry go hsp⟩
  · exact absurd rfl e
end
theorem snoc_inj {l l' : List Sl} {x s : Sl} (h : l ++ [x] = l' ++ [s]) : l' = l := (List.append_inj' h rfl).1.symm
end DL

/-! DL, part r: loops by what is left, defaults, places of lists. -/
namespace DL
open PySem PySem.Spec L2
section
variable {K : PySem.W.Frag} {W : WX} {Γ Γ' : Gm} {X : XP} {nx : Gm → Prop} {rt : Sl → Gm → Prop} {xc : XP} {bk ct : Gm → Prop} {g : TG} {tbd : TS} {junk : List Nat} {xs : List Dt} {α β : Type}
def LpR (J : List β → α → Prop) (emb : α → List (Nat × Option Sl)) (Γ : Gm) (zs : List β) (Γ4 : Gm) : Prop := ∃ s, J zs s ∧ Γ4 = setA Γ (emb s)
theorem drop_at {ys : List β} {k : Nat} {y : β} (h : ys[k]? = some y) : ys.drop k = y :: ys.drop (k + 1) := by
  obtain ⟨hk, hy⟩ := List.getElem?_eq_some_iff.mp h
  rw [List.drop_eq_getElem_cons hk, hy]
theorem loop_rest {ys : List β} {pic : β → Dt} (J : List β → α → Prop) (emb : α → List (Nat × Option Sl)) (s0 : α) (h0 : J ys s0) (e0 : Γ = setA Γ (emb s0))
    (hs : ∀ y zs s, J (y :: zs) s → GoG K W g (pic y) (setA Γ (emb s)) (fun Γ3 => Go K W tbd Γ3 ⟨fun Γ4 => LpR J emb Γ zs (wipeG Γ4 junk), rt, xc, fun Γ4 => nx (wipeG Γ4 junk), fun Γ4 => LpR J emb Γ zs (wipeG Γ4 junk)⟩) xc)
    (hd : ∀ s, J [] s → nx (setA Γ (emb s))) : Loop K W junk g tbd ⟨nx, rt, xc, bk, ct⟩ (ys.map pic) Γ :=
  loop_map (fun k s => J (ys.drop k) s) emb s0 (by simpa using h0) e0 (fun k y s hy hJ => hs y (ys.drop (k + 1)) s (by rw [← drop_at hy]; exact hJ)) (fun s hJ => hd s (by rw [List.drop_length] at hJ; exact hJ))
/-- the items themselves -/
theorem loop_restD (J : List Dt → α → Prop) (emb : α → List (Nat × Option Sl)) (s0 : α) (h0 : J xs s0) (e0 : Γ = setA Γ (emb s0))
    (hs : ∀ y zs s, J (y :: zs) s → GoG K W g y (setA Γ (emb s)) (fun Γ3 => Go K W tbd Γ3 ⟨fun Γ4 => LpR J emb Γ zs (wipeG Γ4 junk), rt, xc, fun Γ4 => nx (wipeG Γ4 junk), fun Γ4 => LpR J emb Γ zs (wipeG Γ4 junk)⟩) xc)
    (hd : ∀ s, J [] s → nx (setA Γ (emb s))) : Loop K W junk g tbd ⟨nx, rt, xc, bk, ct⟩ xs Γ := by
  have e : xs = xs.map id := by simp
  rw [e]
  exact loop_rest J emb s0 h0 e0 hs hd
def LpE (J : Nat → List β → α → Prop) (emb : α → List (Nat × Option Sl)) (Γ : Gm) (k : Nat) (zs : List β) (Γ4 : Gm) : Prop := ∃ s, J k zs s ∧ Γ4 = setA Γ (emb s)
/-- enumerate -/
theorem loop_enum {ys : List β} {pic : β → Dt} (J : Nat → List β → α → Prop) (emb : α → List (Nat × Option Sl)) (s0 : α) (h0 : J 0 ys s0) (e0 : Γ = setA Γ (emb s0))
    (hs : ∀ k y zs s, ys.drop k = y :: zs → J k (y :: zs) s → GoG K W g (.tup [.int (k : Nat), pic y]) (setA Γ (emb s)) (fun Γ3 => Go K W tbd Γ3 ⟨fun Γ4 => LpE J emb Γ (k + 1) zs (wipeG Γ4 junk), rt, xc, fun Γ4 => nx (wipeG Γ4 junk), fun Γ4 => LpE J emb Γ (k + 1) zs (wipeG Γ4 junk)⟩) xc)
    (hd : ∀ s, J ys.length [] s → nx (setA Γ (emb s))) : Loop K W junk g tbd ⟨nx, rt, xc, bk, ct⟩ (enumD (ys.map pic)) Γ := by
  refine loop_inv (fun k s => J k (ys.drop k) s) emb s0 (by simpa using h0) e0 (fun k x s hx hJ => ?_) (fun s hJ => hd s ?_)
  · obtain ⟨y', hy, rfl⟩ := enumD_get hx
    rw [List.getElem?_map] at hy
    cases q : ys[k]? with
    | none => rw [q] at hy; cases hy
    | some y =>
      rw [q] at hy; cases hy
      have e := drop_at q
      rw [e] at hJ
      exact hs k y (ys.drop (k + 1)) s e hJ
  · have hJ' : J (enumD (ys.map pic)).length (ys.drop (enumD (ys.map pic)).length) s := hJ
    rw [enumD_len, List.length_map, List.drop_length] at hJ'
    exact hJ'
end
/-! ### places -/
section
variable {R : Dt → Prop} {x : Dt} {xs : List Dt}
instance : Wk (dIx (.lst (x :: xs)) (.int 0) R) (R x) := ⟨fun h => by obtain ⟨v, e, f⟩ := atI_in (xs := x :: xs) (j := 0) (by omega) (by simp); simp at f; subst f; exact l_ixL e h⟩
instance : Wk (dIx (.tup (x :: xs)) (.int 0) R) (R x) := ⟨fun h => by obtain ⟨v, e, f⟩ := atI_in (xs := x :: xs) (j := 0) (by omega) (by simp); simp at f; subst f; exact l_ixT e h⟩
theorem atI_last {β : Type} {ys : List β} {y : β} : atI (ys ++ [y]) (-1) = some y := by
  unfold atI ixN
  have e : ((-1 : Int) + ((ys.length : Int) + 1)).toNat = ys.length := by omega
  simp
  rw [if_pos (by omega), Option.bind_some, e]
  simp
instance : Wk (dIx (.lst (xs ++ [x])) (.int (-1)) R) (R x) := ⟨fun h => l_ixL atI_last h⟩
instance : Wk (dIx (.tup (xs ++ [x])) (.int (-1)) R) (R x) := ⟨fun h => l_ixT atI_last h⟩
theorem ix_of {β : Type} {ys : List β} {pic : β → Dt} {j : Int} {y : β} (h0 : 0 ≤ j) (h : ys[j.toNat]? = some y) (r : R (pic y)) : dIx (.lst (ys.map pic)) (.int j) R ∧ dIx (.tup (ys.map pic)) (.int j) R := by
  obtain ⟨hk, hy⟩ := List.getElem?_eq_some_iff.mp h
  obtain ⟨v, e, f⟩ := atI_in (xs := ys.map pic) (j := j) h0 (by simp; omega)
  rw [List.getElem?_map, h] at f
  cases f
  exact ⟨l_ixL e r, l_ixT e r⟩
end
/-! ### defaults -/
section
variable {K : PySem.W.Frag} {O G H : Hp}
def dflS (ds : List Dt) (S : DSp) : DSp := fun args R Y => S (args ++ ds.map .fr) (fun res args' => ∀ ws t, args' = ws ++ t → t.length = ds.length → R res ws) (fun C fs args' => ∀ ws t, args' = ws ++ t → t.length = ds.length → Y C fs ws)
theorem dfl_sp {S : DSp} {vs dvs : List V} {ds : List Dt} {Q : VK} {E : XK} (hr : ∀ G, Reps K G dvs ds) (h : spD K (dflS ds S) vs H Q E) : spD K S (vs ++ dvs) H Q E := by
  obtain ⟨O, G, args, R, Y, St, hS, hQ, hE⟩ := h
  have ln : vs.length = args.length := by have := St.sl.len; simpa using this
  have ld := (hr G).length
  have fpsR : ∀ (us : List Sl), fps (sls (us ++ ds.map .fr)) = fps (sls us) := fun us => by
    rw [sls, List.map_append, fps_app]
    have : fps (List.map some (ds.map .fr)) = [] := fps_fr ds
    rw [this, List.append_nil]
  unfold dflS at hS
  refine ⟨O, G, args ++ ds.map .fr, _, _, ⟨St.g, St.o, St.d, ?_, by rw [fpsR]; exact St.nd, by rw [fpsR]; exact St.ng, by rw [fpsR]; exact St.no, St.om⟩, hS, ?_, ?_⟩
  · rw [sms, sls, List.map_append, List.map_append]
    exact slots_app St.sl (slots_fr (hr G))
  · intro v G2 H2 res args' s2 S2 hR
    have lt := S2.sl.len
    obtain ⟨ws, t, rfl, lw⟩ : ∃ ws t, args' = ws ++ t ∧ ws.length = vs.length := ⟨args'.take vs.length, args'.drop vs.length, (List.take_append_drop _ _).symm, by rw [List.length_take]; simp at lt; omega⟩
    have lt' : t.length = ds.length := by simp at lt; omega
    have slt := S2.tail.sl
    rw [sms, sls, List.map_append, List.map_append] at slt
    obtain ⟨sa, _⟩ := slots_un (by simp; omega) slt
    have sub : (fps (some res :: sls ws)).Sublist (fps (some res :: sls (ws ++ t))) := by
      simp only [fps]
      refine (List.Sublist.refl _).append ?_
      rw [sls, sls, List.map_append, fps_app]
      exact List.sublist_append_left _ _
    exact hQ v G2 H2 res ws s2 ⟨S2.g, S2.o, S2.d, .yes S2.head sa, sub.nodup S2.nd, fun a ha => S2.ng a (sub.subset ha), fun a ha => S2.no a (sub.subset ha), S2.om⟩ (hR ws t rfl lt')
  · intro C d fs G2 H2 args' s2 S2 rx hY
    have lt := S2.sl.len
    obtain ⟨ws, t, rfl, lw⟩ : ∃ ws t, args' = ws ++ t ∧ ws.length = vs.length := ⟨args'.take vs.length, args'.drop vs.length, (List.take_append_drop _ _).symm, by rw [List.length_take]; simp at lt; omega⟩
    have lt' : t.length = ds.length := by simp at lt; omega
    have slt := S2.sl
    rw [sms, sls, List.map_append, List.map_append] at slt
    obtain ⟨sa, _⟩ := slots_un (by simp; omega) slt
    have sub : (fps (sls ws)).Sublist (fps (sls (ws ++ t))) := by
      rw [sls, sls, List.map_append, fps_app]
      exact List.sublist_append_left _ _
    exact hE C d fs G2 H2 ws s2 ⟨S2.g, S2.o, S2.d, sa, sub.nodup S2.nd, fun a ha => S2.ng a (sub.subset ha), fun a ha => S2.no a (sub.subset ha), S2.om⟩ rx (hY ws t rfl lt')
/-- called without the values that have defaults -/
theorem fn_dfl {P : Program} {w : World} {mg : Str → Option Value} {base : Heap} {k : Nat} {f : Addr} {fd : FuncData} {ps : List Str} {S : DSp} {vds : List Value} {dvs : List V} {ds : List Dt} (F : FnOk P w K mg base (L2.CX P w) k f fd ps (spD K S)) (hb : Binds K fd ps vds) (hd : Vals dvs vds) (hr : ∀ G, Reps K G dvs ds) :
    FnK P w K mg base k f [] (spD K (dflS ds S)) := FnR.toK ((F.raw hb hd).imp fun vs H Q E h => dfl_sp hr h)
/-- called with all of them by keywords, in their order -/
theorem fn_kw {P : Program} {w : World} {mg : Str → Option Value} {base : Heap} {k n : Nat} {f : Addr} {fd : FuncData} {ps ks : List Str} {S : DSp} (F : FnOk P w K mg base (L2.CX P w) k f fd ps (spD K S)) (hl : ps.length = n + ks.length)
    (hb : ∀ (s : Shared) (us ws : List Value), us.length = n → ws.length = ks.length → BindsTo s fd ⟨us, ks.zip ws⟩ (ps.zip (us ++ ws))) : FnK P w K mg base k f ks (spD K S) :=
  FnK.imp (F.toKN (n := n) (g := fun us ws => us ++ ws) (gV := fun vs zs => vs ++ zs) ⟨fun s us ws _ l1 l2 => hb s us ws l1 l2, fun r1 r2 => r1.append r2⟩) fun vs H Q E h => by
    have l := F.len _ _ _ _ h
    exact ⟨vs.take n, vs.drop n, (List.take_append_drop _ _).symm, by rw [List.length_take]; omega, by rw [List.length_drop]; omega, by rw [List.take_append_drop]; exact h⟩
end
/-! ### name op= e -/
section
variable {K : PySem.W.Frag} {W : WX} {Γ : Gm} {te : TE} {i : Nat} {nx : Gm → Prop} {rt : Sl → Gm → Prop} {xc : XP} {bk ct : Gm → Prop}
theorem go_aug {f : Int → Int → Int} {x : Int} (hi : Γ[i]? = some (some (.fr (.int x)))) (h : Ev K W te Γ (fun d Γ1 => IsI d fun j => nx (Γ1.set i (some (.fr (.int (f x j)))))) xc) : Go K W (tAug i te (ipI f)) Γ ⟨nx, rt, xc, bk, ct⟩ := fun O G H σ D S a b c d e => by
  obtain ⟨v, ev, rv⟩ := S.getF hi
  cases rv
  refine ⟨_, ev, h O G H σ _ S (fun v2 G2 H2 Γ2 d2 s2 S2 r2 ⟨j, ed, p⟩ => ?_) (e σ)⟩
  subst ed
  cases r2
  exact ⟨x, j, rfl, rfl, a G2 H2 _ _ s2 (S2.putF (.int (f x j)) i) p⟩
instance {f : Int → Int → Int} {x : Int} [q : At Γ i (.fr (.int x))] : Wk (Go K W (tAug i te (ipI f)) Γ ⟨nx, rt, xc, bk, ct⟩) (Ev K W te Γ (fun d Γ1 => IsI d fun j => nx (Γ1.set i (some (.fr (.int (f x j)))))) xc) := ⟨fun h => go_aug q.h h⟩
end
def fun_ofK {K : PySem.W.Frag} {x qual : Str} {st : Stmt} {f : Addr} {fd : FuncData} {kws : List (Str × V)} (F : FunD K x qual (defArgs st) (defBody st) (defScope st) [] kws f fd) : Fun K x qual st f fd := by
  obtain ⟨oc, od, dV, kV, doc, pm, an, cdv, ct, osl, e, l, c, d, _⟩ := F.ex
  rcases d with ⟨_, rfl⟩ | ⟨z, _⟩
  · exact ⟨⟨oc, od, kV, doc, pm, an, cdv, ct, osl, e, l, c⟩, F.kp⟩
  · exact absurd rfl z
end DL

/-! DL, part s: a list of one's own, looked at. -/
namespace DL
open PySem PySem.Spec L2
section
variable {K : PySem.W.Frag} {W : WX} {Γ : Gm} {X : XP} {P : Dt → Gm → Prop} {te : TE} {t : TA} {i : Nat}
/-- the own list, as if it were frozen -/
theorem own_view {O G H : Hp} {σ : St} {a : Addr} {ds : List Dt} (S : Sta K O G H σ Γ) (hi : Γ[i]? = some (some (.ol a ds))) : σ[i]? = some (some (.ref a)) ∧ ∃ G', Same G G' ∧ Same G' H ∧ Rep K G' (.ref a) (.lst ds) := by
  obtain ⟨v, e, o⟩ := S.get hi
  cases o with
  | @ol _ xs _ hh rr =>
    have na : G a = none := S.ng a (mem_fps hi a (by simp [Sl.fp]))
    obtain ⟨s1, s2⟩ := same_frz S.g hh na
    exact ⟨e, _, s1, s2, .lst upd_same (rr.mono s1)⟩
theorem Sta.look {O G G' G2 H H2 : Hp} {σ : St} (S : Sta K O G H σ Γ) (e : Ext G' H G2 H2) : Sta K O G H2 σ Γ ∧ Same G G :=
  ⟨S.ext ⟨Same.refl _, e.h, S.g.trans e.h, fun _ _ q => .inl q⟩, Same.refl _⟩
theorem ev_opO {r : R2} {ρ : Dt → Dt → (Dt → Prop) → Prop} (hr : RD K r ρ) {a : Addr} {ds : List Dt} (hi : Γ[i]? = some (some (.ol a ds))) (h : Ev K W te Γ (fun y Γ1 => OwnL Γ1 i fun _ ds => ρ (.lst ds) y fun z => IsB z fun b => P (.bl b) Γ1) X) : Ev K W (tOp r (tVar i) te) Γ P X := fun O G H σ Q S q x => by
  obtain ⟨v0, e0, o0⟩ := S.get hi
  refine ⟨v0, e0, h O G H σ _ S (fun v G1 H1 Γ1 d s1 S1 rd hh => ?_) x⟩
  obtain ⟨a1, ds1, hg, hp⟩ := hh
  obtain ⟨e1, G', s2, s3, rv⟩ := own_view S1 hg
  rw [e0] at e1
  obtain rfl := Option.some.inj (Option.some.inj e1)
  refine hr G' H1 _ v _ _ _ Q s3 rv (rd.mono s2) hp fun v2 G2 H2 d2 ex r2 ⟨b, eb, pb⟩ => ?_
  subst eb
  cases r2
  exact q _ G1 H2 Γ1 _ s1 (S1.look ex).1 (.bl b) pb
theorem ev_opR {r : R2} {ρ : Dt → Dt → (Dt → Prop) → Prop} (hr : RD K r ρ) {a : Addr} (h : Ev K W te Γ (fun y Γ1 => OwnL Γ1 i fun _ ds => ρ y (.lst ds) fun z => IsB z fun b => P (.bl b) Γ1) X) : Ev K W (tOp r te (tVar i)) Γ P X := fun O G H σ Q S q x => by
  refine h O G H σ _ S (fun v G1 H1 Γ1 d s1 S1 rd hh => ?_) x
  obtain ⟨a1, ds1, hg, hp⟩ := hh
  obtain ⟨e1, G', s2, s3, rv⟩ := own_view S1 hg
  refine ⟨_, e1, hr G' H1 v _ _ _ _ Q s3 (rd.mono s2) rv hp fun v2 G2 H2 d2 ex r2 ⟨b, eb, pb⟩ => ?_⟩
  subst eb
  cases r2
  exact q _ G1 H2 Γ1 _ s1 (S1.look ex).1 (.bl b) pb
theorem ev_cbO {r : List V → Hp → VK → Prop} {ρ : List Dt → (Dt → Prop) → Prop} (hr : RDC K r ρ) {a : Addr} {ds : List Dt} (hi : Γ[i]? = some (some (.ol a ds))) (h : EvA K W t Γ (fun es Γ1 => OwnL Γ1 i fun _ ds => ρ (.lst ds :: es) fun z => IsB z fun b => P (.bl b) Γ1) X) : Ev K W (tCB r (tCons (tVar i) t)) Γ P X := fun O G H σ Q S q x => by
  obtain ⟨v0, e0, o0⟩ := S.get hi
  refine ⟨v0, e0, h O G H σ _ S (fun vs G1 H1 Γ1 es s1 S1 rd hh => ?_) x⟩
  obtain ⟨a1, ds1, hg, hp⟩ := hh
  obtain ⟨e1, G', s2, s3, rv⟩ := own_view S1 hg
  rw [e0] at e1
  obtain rfl := Option.some.inj (Option.some.inj e1)
  refine hr G' H1 _ _ _ Q s3 (.cons rv (rd.mono s2)) hp fun v2 G2 H2 d2 ex r2 ⟨b, eb, pb⟩ => ?_
  subst eb
  cases r2
  exact q _ G1 H2 Γ1 _ s1 (S1.look ex).1 (.bl b) pb
instance {a : Addr} {ds : List Dt} [q : At Γ i (.ol a ds)] : Wk (Ev K W (tOp (rEqP K) (tVar i) te) Γ P X) (Ev K W te Γ (fun y Γ1 => OwnL Γ1 i fun _ ds => dEq (.lst ds) y fun z => IsB z fun b => P (.bl b) Γ1) X) := ⟨fun h => ev_opO rd_eq q.h h⟩
instance {a : Addr} {ds : List Dt} [q : At Γ i (.ol a ds)] : Wk (Ev K W (tOp (rNeP K) (tVar i) te) Γ P X) (Ev K W te Γ (fun y Γ1 => OwnL Γ1 i fun _ ds => dNe (.lst ds) y fun z => IsB z fun b => P (.bl b) Γ1) X) := ⟨fun h => ev_opO rd_ne q.h h⟩
instance {a : Addr} {ds : List Dt} [q : At Γ i (.ol a ds)] : Wk (Ev K W (tOp (rInP K) te (tVar i)) Γ P X) (Ev K W te Γ (fun y Γ1 => OwnL Γ1 i fun _ ds => dIn false y (.lst ds) fun z => IsB z fun b => P (.bl b) Γ1) X) := ⟨fun h => ev_opR (a := a) rd_in h⟩
instance {a : Addr} {ds : List Dt} [q : At Γ i (.ol a ds)] : Wk (Ev K W (tOp (rNotInP K) te (tVar i)) Γ P X) (Ev K W te Γ (fun y Γ1 => OwnL Γ1 i fun _ ds => dIn true y (.lst ds) fun z => IsB z fun b => P (.bl b) Γ1) X) := ⟨fun h => ev_opR (a := a) rd_notIn h⟩
instance {a : Addr} {ds : List Dt} [q : At Γ i (.ol a ds)] : Wk (Ev K W (tCB (rIsiP K) (tCons (tVar i) t)) Γ P X) (EvA K W t Γ (fun es Γ1 => OwnL Γ1 i fun _ ds => dIsi K (.lst ds :: es) fun z => IsB z fun b => P (.bl b) Γ1) X) := ⟨fun h => ev_cbO rdc_isi q.h h⟩
end
/-! ### plain data, told by a test -/
mutual
def plB : Nat → Dt → Bool
  | _, .non => true
  | _, .bl _ => true
  | _, .int _ => true
  | _, .str x => PyData.strOk x
  | n + 1, .lst xs => plBs n xs
  | n + 1, .tup xs => plBs n xs
  | _, _ => false
def plBs : Nat → List Dt → Bool
  | _, [] => true
  | n, x :: xs => plB n x && plBs n xs
end
mutual
theorem pl_of : ∀ {n : Nat} {d : Dt}, plB n d = true → Pl n d
  | _, .non, _ => .non
  | _, .bl b, _ => .bl b
  | _, .int i, _ => .int i
  | _, .str x, h => .str (by cases ‹Nat› <;> exact h)
  | n + 1, .lst xs, h => .lst (pls_of (n := n) h)
  | n + 1, .tup xs, h => .tup (pls_of (n := n) h)
  | 0, .lst xs, h => by cases h
  | 0, .tup xs, h => by cases h
  | _, .ty _, h => by cases ‹Nat› <;> cases h
  | _, .ref _, h => by cases ‹Nat› <;> cases h
  | _, .scr _, h => by cases ‹Nat› <;> cases h
  | _, .obj _ _, h => by cases ‹Nat› <;> cases h
  | _, .dK _, h => by cases ‹Nat› <;> cases h
  | _, .dT _, h => by cases ‹Nat› <;> cases h
  | _, .exc _ _, h => by cases ‹Nat› <;> cases h
  | _, .at_ _ _, h => by cases ‹Nat› <;> cases h
theorem pls_of : ∀ {n : Nat} {xs : List Dt}, plBs n xs = true → ∀ d ∈ xs, Pl n d
  | _, [], _, d, hd => by cases hd
  | n, x :: xs, h, d, hd => by
    have h' : plB n x = true ∧ plBs n xs = true := by simpa only [plBs, Bool.and_eq_true] using h
    rcases List.mem_cons.mp hd with e | hd
    · rw [e]; exact pl_of h'.1
    · exact pls_of h'.2 d hd
end
theorem pls_map {α : Type} {n : Nat} {f : α → Dt} {l : List α} (h : ∀ x ∈ l, plB n (f x) = true) : plBs n (l.map f) = true := by
  induction l with
  | nil => rfl
  | cons x l ih => simp only [List.map_cons, plBs, Bool.and_eq_true]; exact ⟨h x (by simp), ih fun y hy => h y (by simp [hy])⟩
theorem eqDs_map {α : Type} {f : α → Dt} (hf : ∀ x y, eqD (f x) (f y) = true ↔ x = y) : ∀ {l l' : List α}, eqDs (l.map f) (l'.map f) = true ↔ l = l'
  | [], [] => by simp [eqDs]
  | [], _ :: _ => by simp [eqDs]
  | _ :: _, [] => by simp [eqDs]
  | x :: l, y :: l' => by simp only [List.map_cons, eqDs, Bool.and_eq_true, hf, eqDs_map hf, List.cons.injEq]
section
variable {R : Dt → Prop} {x y : Dt}
theorem q_eq (n : Nat) (hx : plB n x = true) (hy : plB n y = true) (h : R (.bl (eqD x y))) (hn : n ≤ 64 := by decide) : dEq x y R := p_eq (pl_of hx) (pl_of hy) hn hn h
theorem q_ne (n : Nat) (hx : plB n x = true) (hy : plB n y = true) (h : R (.bl (!eqD x y))) (hn : n ≤ 64 := by decide) : dNe x y R := p_ne (pl_of hx) (pl_of hy) hn hn h
end
/-- e.f of the error that the suite holds -/
instance {K : PySem.W.Frag} {W : WX} {Γ : Gm} {X : XP} {P : Dt → Gm → Prop} {i : Nat} {a C : Addr} {d : Option Addr} {fs : List (Str × Dt)} {f : Str} [h : At Γ i (.ex a C d fs)] : Wk (Ev K W (tXf a (.ref C) d C f (tVar i)) Γ P X) (∃ y, fs.lookup f = some y ∧ P y Γ) := ⟨fun ⟨y, e, p⟩ => ev_xf h.h e p⟩
end DL
namespace L2
open PySem PySem.Spec PyProof.Rows
/-- isinstance of the error that the suite holds -/
def rIsX (K : PySem.W.Frag) (a : Addr) (cls : Value) (d : Option Addr) : List V → Hp → VK → Prop := fun xs H Q => ∃ (C : Addr) (c : V) (u : Value) (b : Bool), cls = .ref C ∧ xs = [.ref a, c] ∧ (d = none ∨ ∃ dd fs, d = some dd ∧ H dd = some (.xd fs)) ∧ ClsV c u ∧ ExcC K C ∧ PySem.W.kitOne K (.ref C) u = some b ∧ Q (.bl b) H
theorem call_isX {X : Cx} {a : Addr} {oe : Obj} {cls : Value} {d : Option Addr} {pn : List (Addr × Obj)} (K : PySem.W.Frag) (hK : X.K = K) (hz : Zc cls d oe) (hf : ∃ vs, oe.data = .fields vs) : CallR (X.suite a ((a, oe) :: pn)) (.builtin "isinstance") (rIsX K a cls d) := by
  subst hK
  intro pins s σ H xs us Q I r h
  obtain ⟨C, c, u, b, rfl, rfl, hd, k, f, e, q⟩ := h
  obtain ⟨u1, u2, rfl, r1, r2⟩ := vals2 r
  have e2 := k.eq r2
  subst e2
  cases (show u1 = Value.ref a from r1)
  obtain ⟨vs, h3⟩ := hf
  obtain ⟨h1, _⟩ := I.pin (a, oe) (List.mem_append_left _ List.mem_cons_self)
  have J : ∃ od, PySem.W.InstAt s.heap a oe C od := by
    rcases hd with rfl | ⟨dd, fs, rfl, hx⟩
    · refine ⟨none, h1, hz.1, by unfold PySem.W.notCls; rw [h3] <;> rfl, ?_⟩
      rw [hz.2]; trivial
    · obtain ⟨mA, hns, hr⟩ := I.hok dd _ hx
      obtain ⟨od, ho, hl⟩ := lookIn_ns hns
      exact ⟨some od, h1, hz.1, by unfold PySem.W.notCls; rw [h3] <;> rfl, by rw [hz.2]; exact ho⟩
  obtain ⟨od, J⟩ := J
  refine PySem.W.kia_one (PySem.W.kitx_exc ?_ f.hg f.hk f.hs f.ha f.hn f.ht f.hm) I.kIn J e (fun z => nomatch z) fun tk => ⟨.bl b, H, I.tok tk, rfl, q⟩
  obtain ⟨cd, hc, _⟩ := PySem.W.any_some f.hd
  exact (by rw [show (X.suite a ((a, oe) :: pn)).K = X.K from rfl, hc]; rfl)
end L2
namespace DL
open PySem PySem.Spec L2
section
variable {K : PySem.W.Frag} {W : WX} {Γ : Gm} {X : XP} {P : Dt → Gm → Prop} {te : TE} {i : Nat}
def IsiX (K : PySem.W.Frag) (C : Addr) (c : Dt) (Q : Bool → Prop) : Prop := ∃ u b, ClsD c u ∧ ExcC K C ∧ PySem.W.kitOne K (.ref C) u = some b ∧ Q b
theorem ev_isX {a C : Addr} {d : Option Addr} {fs : List (Str × Dt)} (hi : Γ[i]? = some (some (.ex a C d fs))) (h : Ev K W te Γ (fun c Γ1 => IsiX K C c fun b => P (.bl b) Γ1) X) : Ev K W (tCB (rIsX K a (.ref C) d) (tCons (tVar i) (tCons te tNil))) Γ P X := fun O G H σ Q S q x => by
  obtain ⟨v, e, o⟩ := S.get hi
  have ho : v = .ref a ∧ RepX K G d fs := by cases o with | ex r => exact ⟨rfl, r⟩
  obtain ⟨rfl, rx⟩ := ho
  refine ⟨_, e, h O G H σ _ S (fun v2 G2 H2 Γ2 c s2 S2 r2 hh => ?_) x⟩
  obtain ⟨u, b, hc, hE, hk, p⟩ := hh
  have hc' : ClsV v2 u := by
    cases hc with
    | ty n => cases r2; exact .ty n
    | own D => cases r2; exact .own D
  refine ⟨C, v2, u, b, rfl, rfl, ?_, hc', hE, hk, q _ G2 H2 Γ2 _ s2 S2 (.bl b) p⟩
  cases rx with
  | none => exact .inl rfl
  | some hd _ => exact .inr ⟨_, _, rfl, S2.g _ _ (s2 _ _ hd)⟩
instance {a C : Addr} {d : Option Addr} {fs : List (Str × Dt)} [h : At Γ i (.ex a C d fs)] : Wk (Ev K W (tCB (rIsX K a (.ref C) d) (tCons (tVar i) (tCons te tNil))) Γ P X) (Ev K W te Γ (fun c Γ1 => IsiX K C c fun b => P (.bl b) Γ1) X) := ⟨fun q => ev_isX h.h q⟩
theorem isix_own {C D : Addr} {b : Bool} {Q : Bool → Prop} (f : ExcC K C) (hk : PySem.W.kitOne K (.ref C) (.ref D) = some b) (h : Q b) : IsiX K C (.ref D) Q := ⟨_, b, .own D, f, hk, h⟩
theorem isix_ty {C : Addr} {n : String} {b : Bool} {Q : Bool → Prop} (f : ExcC K C) (hk : PySem.W.kitOne K (.ref C) (.type n) = some b) (h : Q b) : IsiX K C (.ty n) Q := ⟨_, b, .ty n, f, hk, h⟩
end
end DL

/-! DL, part t: comprehensions for the driver. -/
namespace DL
open PySem PySem.Spec L2
theorem mkLc {X : Cx} {e : Expr} (vs : List Nat) {wi : TI} {g : TG} {tt : TT} {te : TE} {l : List Nat} (h : PE X e (tLc wi g tt te l)) (q : l = vs := by rfl) : PE X e (tLc wi g tt te vs) := by subst q; exact h
theorem mkSLc {X : Cx} {s : Stmt} (vs : List Nat) {wi : TI} {g gn : TG} {tt : TT} {te : TE} {l : List Nat} (h : PS X s (tAsg (tLc wi g tt te l) gn)) (q : l = vs := by rfl) : PS X s (tAsg (tLc wi g tt te vs) gn) := by subst q; exact h
class MemC (i : Nat) (vs : List Nat) : Prop where
  h : i ∈ vs
instance (priority := high) {i : Nat} {vs : List Nat} : MemC i (i :: vs) := ⟨by simp⟩
instance {i j : Nat} {vs : List Nat} [h : MemC i vs] : MemC i (j :: vs) := ⟨List.mem_cons_of_mem _ h.h⟩
class WrC (g : TG) (vs : List Nat) : Prop where
  h : Wr g vs
  m : MoG g
class WrsC (g : TGs) (vs : List Nat) : Prop where
  h : Wrs g vs
  m : MoGs g
instance {i : Nat} {vs : List Nat} [m : MemC i vs] : WrC (gName i) vs := ⟨wr_name m.h, mo_name⟩
instance {vs : List Nat} : WrsC gNil vs := ⟨wrs_nil, mos_nil⟩
instance {g : TG} {r : TGs} {vs : List Nat} [a : WrC g vs] [b : WrsC r vs] : WrsC (gCons g r) vs := ⟨wrs_cons a.m b.m a.h b.h, mos_cons a.m b.m⟩
instance {K : PySem.W.Frag} {n : Nat} {r : TGs} {vs : List Nat} [b : WrsC r vs] : WrC (gTup K n r) vs := ⟨wr_tup b.h, mo_tup b.m⟩
/-- the comprehension over xs, at the slots Γ -/
def LC (K : PySem.W.Frag) (g : TG) (tt : TT) (te : TE) (vs : List Nat) (P : Sl → Gm → Prop) (xs : List Dt) (Γ : Gm) : Prop :=
  ∃ I : Nat → List Dt → Gm → Prop, I 0 [] Γ ∧
      (∀ k x acc Γ2, xs[k]? = some x → I k acc Γ2 → GoG K WF g x Γ2 (fun Γ3 => EvT K WF tt Γ3 (fun b Γ4 => (b = true → Ev K WF te Γ4 (fun y Γ5 => acc.length < 1000000 ∧ I (k + 1) (acc ++ [y]) (wipeG Γ5 vs)) XF) ∧ (b = false → I (k + 1) acc (wipeG Γ4 vs))) XF) XF) ∧
      (∀ a acc Γ2, I xs.length acc Γ2 → P (.ol a acc) Γ2)
section
variable {K : PySem.W.Frag} {W : WX} {Γ Γ' : Gm} {X : XP} {te : TE} {tt : TT} {g : TG} {wi : TI} {vs : List Nat} {P : Sl → Gm → Prop} {xs : List Dt}
instance [h : WrC g vs] : Wk (EvO K W (tLc wi g tt te vs) Γ P X) (EvI K W wi Γ (fun xs Γ1 => LC K g tt te vs P xs (wipeG Γ1 vs)) X) := ⟨fun q => evo_lc h.h h.m q⟩
instance {P : Dt → Gm → Prop} : Wk (Ev K W (tLc wi g tt te vs) Γ P X) (EvO K W (tLc wi g tt te vs) Γ (fun s Γ2 => Fz s fun d => P d Γ2) X) := ⟨ev_frz⟩
instance {nx : Gm → Prop} {rt : Sl → Gm → Prop} {xc : XP} {bk ct : Gm → Prop} {i : Nat} : Wk (Go K W (tAsg (tLc wi g tt te vs) (gName i)) Γ ⟨nx, rt, xc, bk, ct⟩) (EvO K W (tLc wi g tt te vs) Γ (fun s Γ1 => nx (Γ1.set i (some s))) xc) := ⟨g_setO⟩
instance (priority := 2000) {l : List Nat} [h : WipeC Γ l Γ'] : Wk (LC K g tt te vs P xs (wipeG Γ l)) (LC K g tt te vs P xs Γ') := ⟨fun q => by rw [h.h]; exact q⟩
instance {P : Bool → Gm → Prop} : Wk (EvT K W tYes Γ P X) (P true Γ) := ⟨fun p O G H σ Q S q x => q true G H Γ (Same.refl _) S p⟩
def LcN {α : Type} (J : Nat → List Dt → α → Prop) (emb : α → List (Nat × Option Sl)) (Γ : Gm) (k : Nat) (acc : List Dt) (Γ4 : Gm) : Prop := ∃ s, J k acc s ∧ Γ4 = setA Γ (emb s)
theorem lc_inv {α : Type} (J : Nat → List Dt → α → Prop) (emb : α → List (Nat × Option Sl)) (s0 : α) (h0 : J 0 [] s0) (e0 : Γ = setA Γ (emb s0))
    (hs : ∀ k x acc s, xs[k]? = some x → J k acc s → GoG K WF g x (setA Γ (emb s)) (fun Γ3 => EvT K WF tt Γ3 (fun b Γ4 => Br b (Ev K WF te Γ4 (fun y Γ5 => Side (acc.length < 1000000) (LcN J emb Γ (k + 1) (acc ++ [y]) (wipeG Γ5 vs))) XF) (LcN J emb Γ (k + 1) acc (wipeG Γ4 vs))) XF) XF)
    (hd : ∀ a acc s, J xs.length acc s → P (.ol a acc) (setA Γ (emb s))) : LC K g tt te vs P xs Γ :=
  ⟨LcN J emb Γ, ⟨s0, h0, e0⟩, fun k x acc Γ2 hx ⟨s, hJ, e⟩ => by rw [e]; exact hs k x acc s hx hJ, fun a acc Γ2 ⟨s, hJ, e⟩ => by rw [e]; exact hd a acc s hJ⟩
/-- a picture of each item, the slots left alone -/
theorem lc_map {β : Type} {ys : List β} {pic : β → Dt} (f : β → Dt) (hl : ys.length ≤ 1000000)
    (hs : ∀ (k : Nat) y, ys[k]? = some y → GoG K WF g (pic y) Γ (fun Γ3 => EvT K WF tt Γ3 (fun b Γ4 => Br b (Ev K WF te Γ4 (fun z Γ5 => z = f y ∧ wipeG Γ5 vs = Γ) XF) False) XF) XF)
    (hd : ∀ a, P (.ol a (ys.map f)) Γ) : LC K g tt te vs P (ys.map pic) Γ := by
  refine lc_inv (α := Unit) (fun k acc _ => acc = (ys.take k).map f) (fun _ => []) () (by simp) rfl (fun k x acc _ hx hJ => ?_) (fun a acc _ hJ => ?_)
  · rw [List.getElem?_map] at hx
    cases q : ys[k]? with
    | none => rw [q] at hx; cases hx
    | some y =>
      rw [q] at hx; cases hx
      have hk : k < ys.length := (List.getElem?_eq_some_iff.mp q).1
      intro O G H σ v Q S r q' e
      refine hs k y q O G H σ v Q S r (fun G2 H2 σ2 Γ2 s S2 p => q' G2 H2 σ2 Γ2 s S2 ?_) e
      intro O G H σ Q S q3 x3
      refine p O G H σ Q S (fun b G2 H2 Γ2 s S2 p2 => q3 b G2 H2 Γ2 s S2 ?_) x3
      refine ⟨fun hb => ?_, fun hb => (p2.2 hb).elim⟩
      have p3 := p2.1 hb
      intro O G H σ Q S q4 x4
      refine p3 O G H σ Q S (fun v G2 H2 Γ2 d s S2 R p5 => q4 v G2 H2 Γ2 d s S2 R ?_) x4
      refine ⟨by rw [hJ]; simp; omega, (), ?_, ?_⟩
      · show acc ++ [_] = (ys.take (k + 1)).map f
        rw [hJ, p5.1, List.take_add_one, q]; simp
      · exact p5.2
  · have : acc = ys.map f := by rw [hJ]; simp
    rw [this]
    exact hd a
end
end DL

/-! DL, part u: a list times a number, a range from its end. -/
namespace DL
open PySem PySem.Spec L2
def dRep : Dt → Dt → (Dt → Prop) → Prop
  | .lst a, .int k, R => (-(2 ^ 63) ≤ k ∧ k < 2 ^ 63 ∧ a.length * k.toNat ≤ 1000000) ∧ R (.lst (List.replicate k.toNat a).flatten)
  | _, _, _ => False
theorem reps_flat {K : PySem.W.Frag} {G : Hp} {xs : List V} {ds : List Dt} (r : Reps K G xs ds) : ∀ n : Nat, Reps K G (List.replicate n xs).flatten (List.replicate n ds).flatten
  | 0 => by simp; exact .nil
  | n + 1 => by
    rw [List.replicate_succ, List.replicate_succ, List.flatten_cons, List.flatten_cons]
    exact r.append (reps_flat r n)
section
variable {K : PySem.W.Frag}
theorem rd_rep : RD K rRep dRep := fun G H x y dx dy R Q s rx ry h q => by
  unfold dRep at h
  split at h
  · obtain ⟨⟨l1, l2, l3⟩, p⟩ := h
    cases ry
    cases rx with
    | lst h1 r1 =>
    refine ⟨_, _, _, rfl, rfl, s _ _ h1, l1, l2, by rw [r1.length]; exact big_ok l3, fun a na => ?_⟩
    exact q _ _ _ _ (Ext.new s na) (Rep.newL s na (reps_flat r1 _)) p
  · exact h.elim
instance : OpC K rRep dRep := ⟨rd_rep⟩
instance {a : List Dt} {k : Int} {R : Dt → Prop} : Wk (dRep (.lst a) (.int k) R) (Side (-(2 ^ 63) ≤ k ∧ k < 2 ^ 63 ∧ a.length * k.toNat ≤ 1000000) (R (.lst (List.replicate k.toNat a).flatten))) := ⟨fun h => h⟩
end
/-! ### reversed(range(n)) -/
theorem rngD_rget {m n : Int} {k : Nat} {x : Dt} (h : (rngD m n).reverse[k]? = some x) : x = .int (n - 1 - k) ∧ m ≤ n - 1 - k := by
  have hk : k < (rngD m n).reverse.length := (List.getElem?_eq_some_iff.mp h).1
  rw [List.length_reverse, rngD_len] at hk
  rw [List.getElem?_reverse (by rw [rngD_len]; exact hk), rngD_len] at h
  obtain ⟨rfl, _⟩ := rngD_get h
  refine ⟨?_, by omega⟩
  congr 1
  omega
section
variable {K : PySem.W.Frag} {W : WX} {Γ : Gm} {X : XP} {PI : List Dt → Gm → Prop}
theorem ei_rev1 {te : TE} (h : Ev K W te Γ (fun d Γ1 => ∃ n : Int, d = .int n ∧ (-(2 ^ 62) ≤ n ∧ n < 2 ^ 62) ∧ PI (rngD 0 n).reverse Γ1) X) : EvI K W (iRevR (tRg1 te)) Γ PI X := fun O G H σ R S q x =>
  h O G H σ _ S (fun v G1 H1 Γ1 d s1 S1 r ⟨n, en, ⟨l1, l2⟩, p⟩ => by
    subst en
    cases r
    refine ⟨n, rfl, by decide, by decide, l1, l2, q _ G1 H1 Γ1 _ _ _ _ s1 S1 walk_rangeC (by rw [List.length_reverse, rngD_len]) (fun _ _ => trivial) (fun k x v G2 H2 H3 hx s2 g2 y => ?_) p⟩
    obtain ⟨rfl, rfl⟩ := y
    obtain ⟨rfl, hk⟩ := rngD_rget hx
    have : (0 : Int) + (((n - 0).toNat : Nat) : Int) - 1 + (k : Nat) * (-1) = n - 1 - k := by omega
    refine ⟨G2, Ext.refl g2, ?_⟩
    show Rep K G2 (.int (0 + (((n - 0).toNat : Nat) : Int) - 1 + (k : Nat) * (-1))) _
    rw [this]
    exact .int _) x
instance {te : TE} : Wk (EvI K W (iRevR (tRg1 te)) Γ PI X) (Ev K W te Γ (fun d Γ1 => ∃ n : Int, d = .int n ∧ Side (-(2 ^ 62) ≤ n ∧ n < 2 ^ 62) (PI (rngD 0 n).reverse Γ1)) X) := ⟨fun h => ei_rev1 h⟩
end
section
variable {K : PySem.W.Frag} {W : WX} {Γ : Gm} {nx : Gm → Prop} {rt : Sl → Gm → Prop} {xc : XP} {bk ct : Gm → Prop} {g : TG} {tbd : TS} {junk : List Nat}
/-- from the end: k turns are left behind the one at hand -/
theorem loop_rev {α : Type} {n : Int} (J : Nat → α → Prop) (emb : α → List (Nat × Option Sl)) (s0 : α) (h0 : J n.toNat s0) (e0 : Γ = setA Γ (emb s0))
    (hs : ∀ (k : Nat) s, (k : Int) < n → J (k + 1) s → GoG K W g (.int k) (setA Γ (emb s)) (fun Γ3 => Go K W tbd Γ3 ⟨fun Γ4 => LpN (fun _ => J k) emb Γ 0 (wipeG Γ4 junk), rt, xc, fun Γ4 => nx (wipeG Γ4 junk), fun Γ4 => LpN (fun _ => J k) emb Γ 0 (wipeG Γ4 junk)⟩) xc)
    (hd : ∀ s, J 0 s → nx (setA Γ (emb s))) : Loop K W junk g tbd ⟨nx, rt, xc, bk, ct⟩ (rngD 0 n).reverse Γ :=
  loop_inv (fun j s => J (n.toNat - j) s) emb s0 h0 e0 (fun j x s hx hJ => by
    obtain ⟨rfl, hk⟩ := rngD_rget hx
    have e1 : n.toNat - j = (n.toNat - (j + 1)) + 1 := by omega
    have e2 : n - 1 - (j : Int) = ((n.toNat - (j + 1) : Nat) : Int) := by omega
    rw [e2]
    rw [e1] at hJ
    have z := hs (n.toNat - (j + 1)) s (by omega) hJ
    exact fun O G H σ v Q S r q e => z O G H σ v Q S r (fun G2 H2 σ2 Γ2 s S2 p => q G2 H2 σ2 Γ2 s S2 (p.imp (fun _ p => p) (fun _ _ p => p) (fun _ _ _ p => p) (fun _ p => p) (fun _ p => p))) e)
    (fun s hJ => hd s (by rw [List.length_reverse, rngD_len] at hJ; have : n.toNat - (n - 0).toNat = 0 := by omega
                          rw [this] at hJ; exact hJ))
end
end DL

/-! DL, part v: own operators, by the class's special methods. -/
namespace L2
open PySem PySem.Spec PyProof.Rows
section
variable {X : Cx} {k : Nat} {f g C : Addr} {sp : Sp} {pos : Pos} {a b : Expr} {ta tb : TE} {pins : List (Addr × Obj)} {σ : St} {H : Hp} {s : Shared} {Q : VK} {us : List Value} {vs : List V}
theorem call_fnK {E : XK} (F : FnK X.prog X.w X.K X.mg X.base k f [] sp) (hr : Room k X.A) (hx : PassesAt (L2.CX X.prog X.w) X σ E) (I : Inv X pins σ H s) (r : Vals vs us) (h : sp vs H Q E) :
    wpAny (model X.prog X.w) X.A (call (.ref f) us) (EP X pins σ Q) X.xe s := wpAny_call (run_fnK0 F hr hx I r h)
theorem call_fnK1 {E : XK} (F : FnK X.prog X.w X.K X.mg X.base k f [] sp) (hr : Room (k + 1) X.A) (hx : PassesAt (L2.CX X.prog X.w) X σ E) (I : Inv X pins σ H s) (r : Vals vs us) (h : sp vs H Q E) :
    wpAny (model X.prog X.w) X.A.in1 (call (.ref f) us) (EP X pins σ Q) X.xe s := by
  have e0 : Env0 X.prog X.w X.K X.mg X.base X.A.in1 X.stack s H := by
    have e := I.env0
    exact ⟨e.frames, e.mod, e.bs, e.bsz, e.funs, e.frf, e.hok, e.bare⟩
  refine wpAny_call (codeAny_mono (F X.A.in1 X.stack s H us [] vs [] Q E hr.in1 e0 r .nil rfl (by rw [List.append_nil]; exact h)) fun r s' hq => ?_)
  cases r with
  | error e => exact hx pins H s e s' I hq
  | ok fl =>
    cases fl with
    | ret u => exact I.after hq
    | next => exact False.elim hq
    | brk => exact False.elim hq
    | cont => exact False.elim hq
theorem cmpBack_of {u : Value} (h : EP X pins σ Q u s) : PySem.W.CmpBack (EP X pins σ Q) u s := by
  have h' := h
  obtain ⟨v, H', I, r, q⟩ := h
  cases v with
  | non => obtain rfl : u = Value.none := r; exact h'
  | bl b => obtain rfl : u = Value.bool b := r; exact h'
  | int i => obtain ⟨t, rfl⟩ := r; exact h'
  | str i => obtain ⟨t, rfl⟩ := r; exact h'
  | byt i => obtain ⟨t, rfl⟩ := r; exact h'
  | flt i => obtain ⟨t, rfl⟩ := r; exact h'
  | ref i => obtain rfl : u = Value.ref i := r; exact h'
  | ty i => obtain rfl : u = Value.type i := r; exact h'
/-- what a class must have for an own method nm -/
structure OpO (K : PySem.W.Frag) (C f : Addr) (nm : Str) : Prop where
  me : PySem.W.findIn K (.ref C) nm = some (some (.ref f))
  fn : PySem.W.isFn K (.ref f) = true
  fi : PySem.W.fnIn K f = true
  sf : PySem.W.selfFirst K C = true
  sq : PySem.W.noSeq K C = true
def opOB (K : PySem.W.Frag) (C f : Addr) (nm : Str) : Bool := He.eqO (PySem.W.findIn K (.ref C) nm) (some (some (.ref f))) && (PySem.W.isFn K (.ref f) && (PySem.W.fnIn K f && (PySem.W.selfFirst K C && PySem.W.noSeq K C)))
theorem opOB_ok {K : PySem.W.Frag} {C f : Addr} {nm : Str} (q : opOB K C f nm = true) : OpO K C f nm := by
  unfold opOB at q
  simp only [Bool.and_eq_true] at q
  obtain ⟨q1, q2, q3, q4, q5⟩ := q
  exact ⟨He.eqO_ok q1, q2, q3, q4, q5⟩
/-- two instances: a op b, a <= b -/
def tBinO (C : Addr) (sp : Sp) (E : St → XK) (ta tb : TE) : TE := fun σ H Q => ta σ H fun x H1 => tb σ H1 fun y H2 => ∃ p q dx dy fs gs, x = .ref p ∧ y = .ref q ∧ H2 p = some (.ins C dx fs) ∧ H2 q = some (.ins C dy gs) ∧ sp [.ref p, .ref q] H2 Q (E σ)
/-- an instance and an int -/
def tBinI (C : Addr) (sp : Sp) (E : St → XK) (ta tb : TE) : TE := fun σ H Q => ta σ H fun x H1 => tb σ H1 fun y H2 => ∃ p dx fs i, x = .ref p ∧ y = .int i ∧ H2 p = some (.ins C dx fs) ∧ sp [.ref p, .int i] H2 Q (E σ)
theorem pe_binO {op : Operator} {nm : Str} {E : St → XK} (c : OpO X.K C f nm) (F : FnK X.prog X.w X.K X.mg X.base k f [] sp) (hr : Room k X.A) (hx : ∀ σ, PassesAt (L2.CX X.prog X.w) X σ (E σ)) (pa : PE X a ta) (pb : PE X b tb) (hn : PySem.dunder op.info.2 = nm) : PE X (.BinOp a op b pos) (tBinO C sp E ta tb) := by
  refine ⟨fun pins s σ H Q I h => wpAny_BinOp (binT pa pb I h fun v u s2 x y H2 I2 rx ry z => ?_)⟩
  obtain ⟨p, q, dx, dy, fs, gs, rfl, rfl, hp, hq, z⟩ := z
  obtain rfl : v = Value.ref p := rx
  obtain rfl : u = Value.ref q := ry
  obtain ⟨mA, J, _⟩ := ins_get I2.hok hp
  obtain ⟨mB, J', _⟩ := ins_get I2.hok hq
  obtain ⟨od, J, _⟩ := J.look
  obtain ⟨od', J', _⟩ := J'.look
  obtain ⟨m, hF⟩ := I2.fr
  refine PySem.W.binop_K hF I2.ok.mod.kin J J'.type c.sf (by rw [hn]; exact c.me) c.fn ?_
  exact thn (call_fnK (us := [.ref p, .ref q]) (vs := [.ref p, .ref q]) F hr (hx σ) I2 (.cons rfl (.cons rfl .nil)) z) fun r s3 hh => cmpBack_of hh
theorem pe_leO {nm : Str} {E : St → XK} (c : OpO X.K C f nm) (F : FnK X.prog X.w X.K X.mg X.base k f [] sp) (hr : Room k X.A) (hx : ∀ σ, PassesAt (L2.CX X.prog X.w) X σ (E σ)) (pa : PE X a ta) (pb : PE X b tb) (hn : ("__le__" : Str) = nm) : PE X (.Compare a [.LtE] [b] pos) (tBinO C sp E ta tb) := by
  refine ⟨fun pins s σ H Q I h => wpAny_Compare1 (binT pa pb I h fun v u s2 x y H2 I2 rx ry z => ?_) (nobehind _ (by decide) (by decide))⟩
  obtain ⟨p, q, dx, dy, fs, gs, rfl, rfl, hp, hq, z⟩ := z
  obtain rfl : v = Value.ref p := rx
  obtain rfl : u = Value.ref q := ry
  show wpAny _ _ (richCompare .LtE (.ref p) (.ref q)) _ _ _
  obtain ⟨mA, J, _⟩ := ins_get I2.hok hp
  obtain ⟨mB, J', _⟩ := ins_get I2.hok hq
  obtain ⟨od, J, _⟩ := J.look
  obtain ⟨od', J', _⟩ := J'.look
  obtain ⟨m, hF⟩ := I2.fr
  refine PySem.W.cmp_K (op := .LtE) (tb := .ref C) hr.units0 hF I2.ok.mod.kin J J'.type (by simp [PySem.W.notFirst]) (by rw [← hn] at c; exact c.me) c.fn ?_
  exact thn (call_fnK (us := [.ref p, .ref q]) (vs := [.ref p, .ref q]) F hr (hx σ) I2 (.cons rfl (.cons rfl .nil)) z) fun r s3 hh => cmpBack_of hh
theorem pe_eqD {E : St → XK} (c : EqC X.K C f) (F : FnK X.prog X.w X.K X.mg X.base k f [] sp) (hr : Room k X.A) (hx : ∀ σ, PassesAt (L2.CX X.prog X.w) X σ (E σ)) (pa : PE X a ta) (pb : PE X b tb) : PE X (.Compare a [.Eq] [b] pos) (tCmpO C false sp E ta tb) := by
  refine ⟨fun pins s σ H Q I h => wpAny_Compare1 (binT pa pb I h fun v u s2 x y H2 I2 rx ry z => ?_) (nobehind _ (by decide) (by decide))⟩
  obtain ⟨p, q, dx, dy, fs, gs, rfl, rfl, hp, hq, z⟩ := z
  obtain rfl : v = Value.ref p := rx
  obtain rfl : u = Value.ref q := ry
  show wpAny _ _ (richCompare .Eq (.ref p) (.ref q)) _ _ _
  obtain ⟨mA, J, _⟩ := ins_get I2.hok hp
  obtain ⟨mB, J', _⟩ := ins_get I2.hok hq
  obtain ⟨od, J, _⟩ := J.look
  obtain ⟨od', J', _⟩ := J'.look
  obtain ⟨m, hF⟩ := I2.fr
  refine PySem.W.cmp_K (op := .Eq) (tb := .ref C) hr.units0 hF I2.ok.mod.kin J J'.type (by simp [PySem.W.notFirst]) c.eq c.fn ?_
  refine thn (call_fnK (us := [.ref p, .ref q]) (vs := [.ref p, .ref q]) F hr (hx σ) I2 (.cons rfl (.cons rfl .nil)) z) fun r s3 hh => ?_
  obtain ⟨r', H3, I3, rr, j, ej, q3⟩ := hh
  subst ej
  cases rr
  exact ⟨.bl j, H3, I3, rfl, by simpa using q3⟩
theorem pe_neD {E : St → XK} (c : EqC X.K C f) (F : FnK X.prog X.w X.K X.mg X.base k f [] sp) (hr : Room (k + 1) X.A) (hx : ∀ σ, PassesAt (L2.CX X.prog X.w) X σ (E σ)) (pa : PE X a ta) (pb : PE X b tb) : PE X (.Compare a [.NotEq] [b] pos) (tCmpO C true sp E ta tb) := by
  refine ⟨fun pins s σ H Q I h => wpAny_Compare1 (binT pa pb I h fun v u s2 x y H2 I2 rx ry z => ?_) (nobehind _ (by decide) (by decide))⟩
  obtain ⟨p, q, dx, dy, fs, gs, rfl, rfl, hp, hq, z⟩ := z
  obtain rfl : v = Value.ref p := rx
  obtain rfl : u = Value.ref q := ry
  show wpAny _ _ (richCompare .NotEq (.ref p) (.ref q)) _ _ _
  obtain ⟨mA, J, _⟩ := ins_get I2.hok hp
  obtain ⟨mB, J', _⟩ := ins_get I2.hok hq
  obtain ⟨od, J, _⟩ := J.look
  obtain ⟨od', J', _⟩ := J'.look
  refine OX.ne_own I2.kIn J J' c.mro c.ne c.eq c.fn (by have := hr.units; omega) ?_
  refine thn (call_fnK1 (us := [.ref p, .ref q]) (vs := [.ref p, .ref q]) F hr (hx σ) I2 (.cons rfl (.cons rfl .nil)) z) fun r s3 hh => ?_
  obtain ⟨r', H3, I3, rr, j, ej, q3⟩ := hh
  subst ej
  cases rr
  exact ⟨j, rfl, .bl (!j), H3, I3, rfl, by simpa using q3⟩
/-- len of an instance -/
def tLenO (C : Addr) (sp : Sp) (E : St → XK) (t : TA) : TE := fun σ H Q => t σ H fun vs H1 => ∃ p dx fs, vs = [.ref p] ∧ H1 p = some (.ins C dx fs) ∧ sp [.ref p] H1 (fun v H2 => ∃ n : Int, v = .int n ∧ 0 ≤ n ∧ n < 2 ^ 63 ∧ Q (.int n) H2) (E σ)
/-- the instance at b holds a -/
def tInO (C : Addr) (neg : Bool) (sp : Sp) (E : St → XK) (ta tb : TE) : TE := fun σ H Q => ta σ H fun x H1 => tb σ H1 fun y H2 => ∃ p dx fs, y = .ref p ∧ H2 p = some (.ins C dx fs) ∧ sp [.ref p, x] H2 (fun v H3 => ∃ j, v = .bl j ∧ Q (.bl (j ^^ neg)) H3) (E σ)
theorem pe_inO {E : St → XK} (c : OpO X.K C f "__contains__") (F : FnK X.prog X.w X.K X.mg X.base k f [] sp) (hr : Room k X.A) (hx : ∀ σ, PassesAt (L2.CX X.prog X.w) X σ (E σ)) (pa : PE X a ta) (pb : PE X b tb) (hm : behindInMarks .In b = false) : PE X (.Compare a [.In] [b] pos) (tInO C false sp E ta tb) := by
  refine ⟨fun pins s σ H Q I h => wpAny_Compare1 (binT pa pb I h fun v u s2 x y H2 I2 rx ry z => ?_) hm⟩
  obtain ⟨p, dx, fs, rfl, hp, z⟩ := z
  obtain rfl : u = Value.ref p := ry
  obtain ⟨mA, J, _⟩ := ins_get I2.hok hp
  obtain ⟨od, J, _⟩ := J.look
  obtain ⟨m, hF⟩ := I2.fr
  refine PySem.W.in_K hF I2.ok.mod.kin J c.me c.fn (thn (call_fnK (us := [.ref p, v]) (vs := [.ref p, x]) F hr (hx σ) I2 (.cons rfl (.cons rx .nil)) z) fun r s3 hh => ?_)
  obtain ⟨r', H3, I3, rr, j, ej, q3⟩ := hh
  subst ej
  cases rr
  exact wpAny_truthy_bool ⟨.bl j, H3, I3, rfl, by simpa using q3⟩
theorem pe_notInO {E : St → XK} (c : OpO X.K C f "__contains__") (F : FnK X.prog X.w X.K X.mg X.base k f [] sp) (hr : Room k X.A) (hx : ∀ σ, PassesAt (L2.CX X.prog X.w) X σ (E σ)) (pa : PE X a ta) (pb : PE X b tb) (hm : behindInMarks .NotIn b = false) : PE X (.Compare a [.NotIn] [b] pos) (tInO C true sp E ta tb) := by
  refine ⟨fun pins s σ H Q I h => wpAny_Compare1 (binT pa pb I h fun v u s2 x y H2 I2 rx ry z => ?_) hm⟩
  obtain ⟨p, dx, fs, rfl, hp, z⟩ := z
  obtain rfl : u = Value.ref p := ry
  obtain ⟨mA, J, _⟩ := ins_get I2.hok hp
  obtain ⟨od, J, _⟩ := J.look
  obtain ⟨m, hF⟩ := I2.fr
  refine PySem.W.notIn_K hF I2.ok.mod.kin J c.me c.fn (thn (call_fnK (us := [.ref p, v]) (vs := [.ref p, x]) F hr (hx σ) I2 (.cons rfl (.cons rx .nil)) z) fun r s3 hh => ?_)
  obtain ⟨r', H3, I3, rr, j, ej, q3⟩ := hh
  subst ej
  cases rr
  exact wpAny_truthy_bool ⟨.bl (!j), H3, I3, rfl, by simpa using q3⟩
/-- a[b] by the class's __getitem__ -/
def tGetO (C : Addr) (sp : Sp) (E : St → XK) (ta tb : TE) : TE := fun σ H Q => ta σ H fun x H1 => tb σ H1 fun y H2 => ∃ p dx fs, x = .ref p ∧ H2 p = some (.ins C dx fs) ∧ sp [.ref p, y] H2 Q (E σ)
theorem pe_getO {E : St → XK} (c : OpO X.K C f "__getitem__") (F : FnK X.prog X.w X.K X.mg X.base k f [] sp) (hr : Room (k + 1) X.A) (hx : ∀ σ, PassesAt (L2.CX X.prog X.w) X σ (E σ)) (pa : PE X a ta) (pb : PE X b tb) (hs : ∀ p i, subscripted b true (.ref p) i = runValue (.builtin "lifetime.subscript" ⟨[.ref p, i], []⟩)) : PE X (.Subscript a b pos) (tGetO C sp E ta tb) := by
  refine ⟨fun pins s σ H Q I h => Subscript_ (binT pa pb I h fun v u s2 x y H2 I2 rx ry z => ?_)⟩
  obtain ⟨p, dx, fs, rfl, hp, z⟩ := z
  obtain rfl : v = Value.ref p := rx
  obtain ⟨mA, J, _⟩ := ins_get I2.hok hp
  obtain ⟨od, J, _⟩ := J.look
  obtain ⟨m, hF⟩ := I2.fr
  exact PySem.W.sub_K hF I2.ok.mod.kin J c.me c.fi c.fn (call_fnK1 (us := [.ref p, u]) (vs := [.ref p, y]) F hr (hx σ) I2 (.cons rfl (.cons ry .nil)) z) (hs p u)
/-- f(e, ..) by the class's __call__ -/
def tCallC (C : Addr) (sp : Sp) (E : St → XK) (tf : TE) (t : TA) : TE := fun σ H Q => tf σ H fun y H1 => ∃ a, y = V.ref a ∧ t σ H1 fun vs H2 => (∃ dx fs, H2 a = some (.ins C dx fs)) ∧ sp (V.ref a :: vs) H2 Q (E σ)
theorem pe_callC {E : St → XK} {fe e : Expr} {es : List Expr} {tf : TE} {t : TA} (c : OpO X.K C f "__call__") (F : FnK X.prog X.w X.K X.mg X.base k f [] sp) (hr : Room k X.A) (hx : ∀ σ, PassesAt (L2.CX X.prog X.w) X σ (E σ)) (hf : PE X fe tf) (ha : PA X (e :: es) t)
    (ht : eval (.Call fe (e :: es) [] pos) X.env = (do callWith pos (← eval fe X.env) [] (backTo pos (starEach (e :: es) X.env)) (backToKw pos (keywordEach [] X.env))))
    (he : starEach (e :: es) X.env = (false, eval e X.env) :: starEach es X.env) (hpl : (backTo pos (starEach es X.env)).any (·.1) = false) : PE X (.Call fe (e :: es) [] pos) (tCallC C sp E tf t) := by
  refine ⟨fun pins s σ H Q I h => ?_⟩
  refine Call_ (thn (hf.run pins s σ H _ I h) fun u s1 ⟨y, H1, I1, ry, a, ey, q⟩ => ?_) ht
  subst ey
  obtain rfl : u = Value.ref a := ry
  refine StX.callO_with (thn (ha.run pos pins s1 σ H1 _ I1 q) fun us s2 ⟨vs, H2, I2, r, hi, q2⟩ => ?_) he hpl
  obtain ⟨ox, od, J, hd⟩ := StX.insC_at (X := X) (C := C) I2 (.inr hi)
  exact ⟨⟨C, ox, od, J, hd⟩, wpAny_call (PySem.W.kco_code I2.kIn J hd c.me c.fn c.fi (run_fnK0 (us := .ref a :: us) (vs := .ref a :: vs) F hr (hx σ) I2 (.cons rfl r) q2))⟩
end
end L2
namespace DL
open PySem PySem.Spec L2 PyProof.Rows
section
variable {X : Cx} {k j : Nat} {S : DSp} {W : WX} {a b e fe : Expr} {es : List Expr} {ta tb tf : TE} {t : TA} {pos : Pos} {C f : Addr} {nm : Str}
theorem pe_binOK {op : Operator} (K : PySem.W.Frag) (h : X.K = K) (c : OpO K C f nm) (D : DA X.prog X.w K X.mg X.base f [] k S) (hr : Room j X.A) (hj : k + 1 ≤ j) (tk : Takes X W) (pa : PE X a ta) (pb : PE X b tb) (hn : PySem.dunder op.info.2 = nm := by first | rfl | decide +kernel) : PE X (.BinOp a op b pos) (tBinO C (spD K S) (WE W) ta tb) := by
  subst h
  exact pe_binO c D.fn (hr.mono (Nat.le_of_succ_le hj)) (fun σ => passAt tk σ) pa pb hn
theorem pe_leOK (K : PySem.W.Frag) (h : X.K = K) (c : OpO K C f nm) (D : DA X.prog X.w K X.mg X.base f [] k S) (hr : Room j X.A) (hj : k + 1 ≤ j) (tk : Takes X W) (pa : PE X a ta) (pb : PE X b tb) (hn : ("__le__" : Str) = nm := by rfl) : PE X (.Compare a [.LtE] [b] pos) (tBinO C (spD K S) (WE W) ta tb) := by
  subst h
  exact pe_leO c D.fn (hr.mono (Nat.le_of_succ_le hj)) (fun σ => passAt tk σ) pa pb hn
theorem pe_eqDK (K : PySem.W.Frag) (h : X.K = K) (c : EqC K C f) (D : DA X.prog X.w K X.mg X.base f [] k S) (hr : Room j X.A) (hj : k + 1 ≤ j) (tk : Takes X W) (pa : PE X a ta) (pb : PE X b tb) : PE X (.Compare a [.Eq] [b] pos) (tCmpO C false (spD K S) (WE W) ta tb) := by
  subst h
  exact pe_eqD c D.fn (hr.mono (Nat.le_of_succ_le hj)) (fun σ => passAt tk σ) pa pb
theorem pe_neDK (K : PySem.W.Frag) (h : X.K = K) (c : EqC K C f) (D : DA X.prog X.w K X.mg X.base f [] k S) (hr : Room j X.A) (hj : k + 1 ≤ j) (tk : Takes X W) (pa : PE X a ta) (pb : PE X b tb) : PE X (.Compare a [.NotEq] [b] pos) (tCmpO C true (spD K S) (WE W) ta tb) := by
  subst h
  exact pe_neD c D.fn (hr.mono hj) (fun σ => passAt tk σ) pa pb
theorem pe_inOK (K : PySem.W.Frag) (h : X.K = K) (c : OpO K C f "__contains__") (D : DA X.prog X.w K X.mg X.base f [] k S) (hr : Room j X.A) (hj : k + 1 ≤ j) (tk : Takes X W) (pa : PE X a ta) (pb : PE X b tb) (hm : behindInMarks .In b = false := by rfl) : PE X (.Compare a [.In] [b] pos) (tInO C false (spD K S) (WE W) ta tb) := by
  subst h
  exact pe_inO c D.fn (hr.mono (Nat.le_of_succ_le hj)) (fun σ => passAt tk σ) pa pb hm
theorem pe_notInOK (K : PySem.W.Frag) (h : X.K = K) (c : OpO K C f "__contains__") (D : DA X.prog X.w K X.mg X.base f [] k S) (hr : Room j X.A) (hj : k + 1 ≤ j) (tk : Takes X W) (pa : PE X a ta) (pb : PE X b tb) (hm : behindInMarks .NotIn b = false := by rfl) : PE X (.Compare a [.NotIn] [b] pos) (tInO C true (spD K S) (WE W) ta tb) := by
  subst h
  exact pe_notInO c D.fn (hr.mono (Nat.le_of_succ_le hj)) (fun σ => passAt tk σ) pa pb hm
theorem pe_getOK (K : PySem.W.Frag) (h : X.K = K) (c : OpO K C f "__getitem__") (D : DA X.prog X.w K X.mg X.base f [] k S) (hr : Room j X.A) (hj : k + 1 ≤ j) (tk : Takes X W) (pa : PE X a ta) (pb : PE X b tb) (hs : ∀ p i, subscripted b true (.ref p) i = runValue (.builtin "lifetime.subscript" ⟨[.ref p, i], []⟩) := by intro p i; with_unfolding_all rfl) : PE X (.Subscript a b pos) (tGetO C (spD K S) (WE W) ta tb) := by
  subst h
  exact pe_getO c D.fn (hr.mono hj) (fun σ => passAt tk σ) pa pb hs
theorem pe_callOK (K : PySem.W.Frag) (h : X.K = K) (c : OpO K C f "__call__") (D : DA X.prog X.w K X.mg X.base f [] k S) (hr : Room j X.A) (hj : k + 1 ≤ j) (tk : Takes X W) (hf : PE X fe tf) (ha : PA X (e :: es) t)
    (ht : eval (.Call fe (e :: es) [] pos) X.env = (do callWith pos (← eval fe X.env) [] (backTo pos (starEach (e :: es) X.env)) (backToKw pos (keywordEach [] X.env))) := by rfl)
    (he : starEach (e :: es) X.env = (false, eval e X.env) :: starEach es X.env := by rfl) (hpl : (backTo pos (starEach es X.env)).any (·.1) = false := by rfl) : PE X (.Call fe (e :: es) [] pos) (tCallC C (spD K S) (WE W) tf t) := by
  subst h
  exact pe_callC c D.fn (hr.mono (Nat.le_of_succ_le hj)) (fun σ => passAt tk σ) hf ha ht he hpl
end
section
variable {K : PySem.W.Frag} {W : WX} {Γ : Gm} {X : XP} {P : Dt → Gm → Prop} {PO : Sl → Gm → Prop} {ta tb tf : TE} {t : TA} {S : DSp} {C : Addr} {neg : Bool}
theorem evo_binO (h : Ev K W ta Γ (fun d Γ1 => Ev K W tb Γ1 (fun e Γ2 => IsO C d fun _ => IsO C e fun _ => CallS S [d, e] (fun res => PO res Γ2) (fun D fs => X D fs Γ2)) X) X) : EvO K W (tBinO C (spD K S) (WE W) ta tb) Γ PO X := fun O G H σ Q S0 q x =>
  h O G H σ _ S0 (fun v1 G1 H1 Γ1 d1 s1 S1 r1 h1 => h1 O G1 H1 σ _ S1 (fun v2 G2 H2 Γ2 d2 s2 S2 r2 hh => by
    obtain ⟨fs, e1, gs, e2, hS⟩ := hh
    subst e1 e2
    have r1' := r1.mono s2
    have k1 := r1'
    have k2 := r2
    cases r1' with
    | @obj p _ dx fsv _ hp rf =>
    cases r2 with
    | @obj q' _ dy gsv _ hq rg =>
    refine ⟨p, q', dx, dy, fsv, gsv, rfl, rfl, S2.g _ _ hp, S2.g _ _ hq, ?_⟩
    exact call_at (R := fun res => PO res Γ2) S2 (.cons k1 (.cons k2 .nil)) hS ((x.mono s1).mono s2) fun v G3 H3 res s3 S3 hr => q v G3 H3 Γ2 res (s1.trans (s2.trans s3)) S3 hr) (x.mono s1)) x
theorem evo_getO (h : Ev K W ta Γ (fun d Γ1 => Ev K W tb Γ1 (fun e Γ2 => IsO C d fun _ => CallS S [d, e] (fun res => PO res Γ2) (fun D fs => X D fs Γ2)) X) X) : EvO K W (tGetO C (spD K S) (WE W) ta tb) Γ PO X := fun O G H σ Q S0 q x =>
  h O G H σ _ S0 (fun v1 G1 H1 Γ1 d1 s1 S1 r1 h1 => h1 O G1 H1 σ _ S1 (fun v2 G2 H2 Γ2 d2 s2 S2 r2 hh => by
    obtain ⟨fs, e1, hS⟩ := hh
    subst e1
    have r1' := r1.mono s2
    have k1 := r1'
    cases r1' with
    | @obj p _ dx fsv _ hp rf =>
    refine ⟨p, dx, fsv, rfl, S2.g _ _ hp, ?_⟩
    exact call_at (R := fun res => PO res Γ2) S2 (.cons k1 (.cons r2 .nil)) hS ((x.mono s1).mono s2) fun v G3 H3 res s3 S3 hr => q v G3 H3 Γ2 res (s1.trans (s2.trans s3)) S3 hr) (x.mono s1)) x
theorem ev_inO (h : Ev K W ta Γ (fun d Γ1 => Ev K W tb Γ1 (fun e Γ2 => IsO C e fun _ => CallS S [e, d] (fun res => ∃ k, res = .fr (.bl k) ∧ P (.bl (k ^^ neg)) Γ2) (fun D fs => X D fs Γ2)) X) X) : Ev K W (tInO C neg (spD K S) (WE W) ta tb) Γ P X := fun O G H σ Q S0 q x =>
  h O G H σ _ S0 (fun v1 G1 H1 Γ1 d1 s1 S1 r1 h1 => h1 O G1 H1 σ _ S1 (fun v2 G2 H2 Γ2 d2 s2 S2 r2 hh => by
    obtain ⟨fs, e1, hS⟩ := hh
    subst e1
    have k2 := r2
    cases r2 with
    | @obj p _ dx fsv _ hp rf =>
    refine ⟨p, dx, fsv, rfl, S2.g _ _ hp, ?_⟩
    refine call_at (R := fun res => ∃ k, res = .fr (.bl k) ∧ P (.bl (k ^^ neg)) Γ2) S2 (.cons k2 (.cons (r1.mono s2) .nil)) hS ((x.mono s1).mono s2) fun v G3 H3 res s3 S3 hr => ?_
    obtain ⟨k, er, hP⟩ := hr
    subst er
    have hd := S3.head
    cases hd with
    | fr rv =>
    cases rv
    exact ⟨k, rfl, q (.bl (k ^^ neg)) G3 H3 Γ2 _ (s1.trans (s2.trans s3)) S3.tail (.bl _) hP⟩) (x.mono s1)) x
theorem evo_callC (h : Ev K W tf Γ (fun d Γ1 => IsO C d fun _ => EvA K W t Γ1 (fun ds Γ2 => CallS S (d :: ds) (fun res => PO res Γ2) (fun D fs => X D fs Γ2)) X) X) : EvO K W (tCallC C (spD K S) (WE W) tf t) Γ PO X := fun O G H σ Q S0 q x =>
  h O G H σ _ S0 (fun v1 G1 H1 Γ1 d1 s1 S1 r1 hh => by
    obtain ⟨fs, e1, hA⟩ := hh
    subst e1
    have k1 := r1
    cases r1 with
    | @obj p _ dx fsv _ hp rf =>
    refine ⟨p, rfl, hA O G1 H1 σ _ S1 (fun vs G2 H2 Γ2 ds s2 S2 r2 hS => ⟨⟨dx, fsv, S2.g _ _ (s2 _ _ hp)⟩, ?_⟩) (x.mono s1)⟩
    exact call_at (R := fun res => PO res Γ2) S2 (.cons (k1.mono s2) r2) hS ((x.mono s1).mono s2) fun v G3 H3 res s3 S3 hr => q v G3 H3 Γ2 res (s1.trans (s2.trans s3)) S3 hr) x
instance : Wk (EvO K W (tBinO C (spD K S) (WE W) ta tb) Γ PO X) (Ev K W ta Γ (fun d Γ1 => Ev K W tb Γ1 (fun e Γ2 => IsO C d fun _ => IsO C e fun _ => CallS S [d, e] (fun res => PO res Γ2) (fun D fs => X D fs Γ2)) X) X) := ⟨evo_binO⟩
instance : Wk (Ev K W (tBinO C (spD K S) (WE W) ta tb) Γ P X) (EvO K W (tBinO C (spD K S) (WE W) ta tb) Γ (fun s Γ2 => Fz s fun d => P d Γ2) X) := ⟨ev_frz⟩
instance : Wk (EvO K W (tGetO C (spD K S) (WE W) ta tb) Γ PO X) (Ev K W ta Γ (fun d Γ1 => Ev K W tb Γ1 (fun e Γ2 => IsO C d fun _ => CallS S [d, e] (fun res => PO res Γ2) (fun D fs => X D fs Γ2)) X) X) := ⟨evo_getO⟩
instance : Wk (Ev K W (tGetO C (spD K S) (WE W) ta tb) Γ P X) (EvO K W (tGetO C (spD K S) (WE W) ta tb) Γ (fun s Γ2 => Fz s fun d => P d Γ2) X) := ⟨ev_frz⟩
instance : Wk (Ev K W (tInO C neg (spD K S) (WE W) ta tb) Γ P X) (Ev K W ta Γ (fun d Γ1 => Ev K W tb Γ1 (fun e Γ2 => IsO C e fun _ => CallS S [e, d] (fun res => ∃ k, res = .fr (.bl k) ∧ P (.bl (k ^^ neg)) Γ2) (fun D fs => X D fs Γ2)) X) X) := ⟨ev_inO⟩
instance : Wk (EvO K W (tCallC C (spD K S) (WE W) tf t) Γ PO X) (Ev K W tf Γ (fun d Γ1 => IsO C d fun _ => EvA K W t Γ1 (fun ds Γ2 => CallS S (d :: ds) (fun res => PO res Γ2) (fun D fs => X D fs Γ2)) X) X) := ⟨evo_callC⟩
instance : Wk (Ev K W (tCallC C (spD K S) (WE W) tf t) Γ P X) (EvO K W (tCallC C (spD K S) (WE W) tf t) Γ (fun s Γ2 => Fz s fun d => P d Γ2) X) := ⟨ev_frz⟩
end
end DL

/-! DL, part w: comprehensions of sets of ints, sorted at once. -/
namespace IX
open PySem PySem.Spec PyProof.Rows L2
variable {Z : Cx}
theorem addI {pn : List (Addr × Obj)} {ρ : L2.St} {G : Hp} {u : Shared} {E : Value → Shared → Prop} {d : Addr} {M : Int → Bool} {c : Nat} {y : Int} {ty : Tok} {Q : Value → Shared → Prop} (J : Inv Z pn ρ G u) (hd : G d = some (SetO Z.w d M c)) (rm : c + 1 < scanBound)
    (k : ∀ u', Inv Z pn ρ (upd G d (SetO Z.w d (fun j => M j || decide (j = y)) (if M y = true then c else c + 1))) u' → Q .none u') : wpAny (model Z.prog Z.w) Z.A (call (.builtin "set.add") [.ref d, .int y ty]) Q E u := by
  refine setR_add (setO_get J hd) rm fun hp' only made => ?_
  have there : ∃ ob, hp'.get? d = some ob := by
    obtain ⟨ob, _, _, _, hob, _⟩ := made
    exact ⟨ob, hob⟩
  exact k _ (J.write (e := d) (t' := u.toks + 1) (by rw [hd]; trivial) (.inl rfl) (fun b o nb ho => (only.2 b nb).trans ho) there (setO_new made))
/-- the new set as an object -/
abbrev newS (w : World) : Obj := { cls := .type "set", dict := none, data := .set #[] 0 (.fresh 0 0 (!w.params.followText "set-order")) }
/-- {elt for target in iter if ..}, elt an int; d the new set -/
def tSi (w : World) (wi : TI) (g : TG) (tt : TT) (te : TE) (vs : List Nat) : TE := fun ρ G Q => wi ρ G fun J G1 => ∀ d, G1 d = none → ∃ V : Nat → Nat → Hp → Prop, (∃ m, V 0 m (upd G1 d (SetO w d (fun _ => false) 0))) ∧ ∀ i m G, V i m G →
  (J.stop i G ∧ Q (.ref d) G) ∨ (J.go i G ∧ ∃ N : Hp → Prop, (∀ G', N G' → ∃ m', m' < m ∧ V (i + 1) m' G') ∧ ∀ x G', J.yld i G x G' → g x (wipe ρ vs) G' fun ρ2 G2 => wipe ρ2 vs = wipe ρ vs ∧ tt ρ2 G2 fun b G3 =>
    if b = true then te ρ2 G3 fun y G4 => ∃ (c : Int) (M : Int → Bool) (n : Nat), y = .int c ∧ G4 d = some (SetO w d M n) ∧ n + 1 < scanBound ∧ N (upd G4 d (SetO w d (fun j => M j || decide (j = c)) (if M c = true then n else n + 1))) else N G3)
theorem si_any {pn : List (Addr × Obj)} {u : Shared} {ρ : L2.St} {G : Hp} {Q : VK} {elt tg iter : Expr} {ifs : List Expr} {sc : Scope} {own : List (PySem.Str × Nat)} {pos pos' : Pos} {wi : TI} {g : TG} {tt : TT} {te : TE} {use : Option (Value → Sem Unit)} {Qf : Value → Shared → Prop}
    (calm : Z.calm = true) (nd : Z.N.Nodup) (J : Inv Z pn ρ G u) (pi : PI Z tg iter wi) (bl : BlkOk Z.N Z.env.scope sc own)
    (pg : ∀ (u : Shared) (G : Hp) (C : Addr) (cl : List (PySem.Str × Addr)) (fp : List Addr), PG (Z.blk u G sc (compEnvC sc cl C Z.env) fp) tg g) (pt : ∀ (u : Shared) (G : Hp) (C : Addr) (cl : List (PySem.Str × Addr)) (fp : List Addr), PTs (Z.blk u G sc (compEnvC sc cl C Z.env) fp) ifs tt)
    (pe : ∀ (u : Shared) (G : Hp) (C : Addr) (cl : List (PySem.Str × Addr)) (fp : List Addr), PE (Z.blk u G sc (compEnvC sc cl C Z.env) fp) elt te) (fold : ∀ x, foldedSetIterable iter Z.env x = pure x)
    (h : tSi Z.w wi g tt te (own.map (·.2)) ρ G Q)
    (back : ∀ d C u' m G', Inv Z pn ρ G' u' → Q (.ref d) G' → u'.heap.Ns C m → FpOk Z pn G' C → compPost (model Z.prog Z.w) Z.A Z.xe use Qf (.ref d) C (.ok .next) u') :
    wpAny (model Z.prog Z.w) Z.A (comprehension (.SetComp elt [⟨tg, iter, ifs, 0⟩] sc pos) sc Z.env pos' (newSet (.type "set")) false (eval iter Z.env) use) Qf Z.xe u := by
  have clo : ∀ y ∈ sc.names, y.2 = .free → ∃ c, Z.env.cells.lookup y.1 = some c := fun y hy e => (bl.free y hy e).elim (fun k => J.ok.has _ (.inl k)) fun k => J.ok.has _ (.inr k)
  refine wpAny_comprehension_free (use := use) rfl fold (closure_ok clo) bl.kind (fun y hy e => by rw [bl.uniq y hy, e]) (thn (pi.run pn u ρ G _ J h) fun xv u1 hx => thn hx fun itv u2 h2 => ?_)
  obtain ⟨it, fp, tn, Jt, G2, ei, J2, T, t2, f2, q⟩ := h2
  subst ei
  refine PpSet.newSet_ok (newEnv_comp ?_)
  generalize ed : u2.heap.objs.size = d
  obtain ⟨V, ⟨m0, v0⟩, turn⟩ := q d (J2.hok.fresh (Nat.le_of_eq ed))
  generalize eu3 : ({ u2 with heap := u2.heap.push (newS Z.w) } : Shared) = u3
  have hh3 : u3.heap = u2.heap.push (newS Z.w) := by rw [← eu3]
  have J3 : Inv Z pn ρ (upd G2 d (SetO Z.w d (fun _ => false) 0)) u3 := by
    rw [← eu3]
    refine J2.laid (t' := u2.toks) (fun b o e => Heap.get?_push_of_some _ e) (Nat.le_of_eq ed) ?_
    rw [← ed]
    exact setO_new (setR_fresh Z.w)
  have lt2 : ∀ b ∈ fp, b < u2.heap.objs.size := fun b hb => let ⟨_, e, _⟩ := T.obj _ _ t2 b hb; Heap.lt_size e
  have f3 : ∀ b ∈ fp, FpOk Z pn (upd G2 d (SetO Z.w d (fun _ => false) 0)) b ∧ b < u3.heap.objs.size := fun b hb => by
    have l := lt2 b hb
    refine ⟨⟨?_, (f2 b hb).2⟩, by rw [hh3, Heap.size_push]; exact Nat.lt_succ_of_lt l⟩
    rw [upd_ne (by rw [← ed]; exact Nat.ne_of_lt l)]
    exact (f2 b hb).1
  have t3 : tn 0 u3.heap := T.keep _ _ _ t2 fun b _ o e => by rw [hh3]; exact Heap.get?_push_of_some _ e
  have J4 := block_start J3 bl nd f3
  generalize eG3 : upd G2 d (SetO Z.w d (fun _ => false) 0) = G3 at J3 J4 f3 v0
  generalize ecl : cellsFrom (u3.heap.objs.size + 1) sc.names (cloFrom Z.env.cells sc.names []) = cl at J4
  have qg := pg u3 G3 u3.heap.objs.size cl fp
  have qt := pt u3 G3 u3.heap.objs.size cl fp
  have qe := pe u3 G3 u3.heap.objs.size cl fp
  have goal : codeAny (model Z.prog Z.w) Z.A (.compStart (.SetComp elt [⟨tg, iter, ifs, 0⟩] sc pos) 0 (.ref it) (.ref d) (compEnvC sc cl u3.heap.objs.size Z.env)) (compPost (model Z.prog Z.w) Z.A Z.xe use Qf (.ref d) u3.heap.objs.size) { u3 with heap := pushCells (u3.heap.push { cls := .type "dict", data := .dict #[] }) sc.names } := by
    generalize ee : compEnvC sc cl u3.heap.objs.size Z.env = ce at J4 qg qt qe ⊢
    have lc : ce.locals = u3.heap.objs.size := by subst ee; rfl
    generalize eu4 : ({ u3 with heap := pushCells (u3.heap.push { cls := .type "dict", data := .dict #[] }) sc.names } : Shared) = u4 at J4 ⊢
    have t4 : tn 0 u4.heap := T.keep _ _ _ t3 fun b _ o e => by rw [← eu4]; exact pushCells_keeps _ _ _ _ (Heap.get?_push_of_some _ e)
    have out : ∀ {ρ' : L2.St} {G' : Hp} {u' : Shared}, Inv (Z.blk u3 G3 sc ce fp) [] ρ' G' u' → (∀ b ∈ fp, G' b = none) → ∀ b ∈ fp, FpOk (Z.blk u3 G3 sc ce fp) [] G' b := fun {_ _ _} K' hn b hb =>
      ⟨hn b hb, (K'.ok.exf b hb).1, K'.ok.exfs b hb, .inl hb, fun x c e => (K'.ok.exf b hb).2 x c e, fun p hp => absurd (show p ∈ ([] : List (Addr × Obj)) ++ [] from hp) (by simp)⟩
    have loop : codeAny (model Z.prog Z.w) Z.A (.compLoop (.SetComp elt [⟨tg, iter, ifs, 0⟩] sc pos) 0 (.ref it) (.ref d) ce) (compPost (model Z.prog Z.w) Z.A Z.xe use Qf (.ref d) u3.heap.objs.size) u4 := by
      refine PpSet.compLoopS_any (fun n u' => ∃ i G', Inv (Z.blk u3 G3 sc ce fp) [] (wipe ρ (own.map (·.2))) G' u' ∧ tn i u'.heap ∧ (∀ b ∈ fp, G' b = none) ∧ V i n G') ?_ m0 ⟨0, G3, J4, t4, fun b hb => (f3 b hb).1.1, v0⟩
      rintro n u5 ⟨i, G5, J5, t5, n5, v5⟩
      rcases turn i n G5 v5 with ⟨stop, qq⟩ | ⟨go, N, hN, step⟩
      · refine thnF (T.done (Z.blk u3 G3 sc ce fp) rfl rfl rfl calm i [] u5 _ G5 (fun _ _ => False) J5 (out J5 n5) t5 stop) fun r u6 ⟨er, J6⟩ => ?_
        subst er
        have free : G5 u3.heap.objs.size = none := by rw [← lc]; exact J6.free
        obtain ⟨m, ns, _⟩ := J6.loc
        have ns : u6.heap.Ns ce.locals m := ns
        rw [lc] at ns
        refine back d u3.heap.objs.size u6 m G5 (J3.call' (ch := fp) J6.os J6.base J6.hok J6.bare fun b hb => ?_) qq ns (J3.fpOk (Nat.le_refl _) free)
        have z := (f3 b hb).1.2
        exact ⟨z.2.2.1, z.1, z.2.2.2.1, z.2.2.2.2⟩
      · refine thnF (T.item (Z.blk u3 G3 sc ce fp) rfl rfl rfl calm i [] u5 _ G5 (fun _ _ => False) J5 (out J5 n5) t5 go) fun r u6 ⟨x, er, h6⟩ => ?_
        subst er
        refine thnF h6 fun _ u7 ⟨xv, G7, J7, r7, y7, t7, n7⟩ => ?_
        refine thnF (qg.run _ u7 _ G7 xv x _ (J7.pinned (out J7 n7) (T.obj _ _ t7)) r7 (step xv G7 y7)) fun _ u8 ⟨ρ8, G8, J8, w8, q8⟩ => ?_
        refine thnF (qt.run _ u8 ρ8 G8 _ J8 q8) fun b u9 ⟨G9, J9, q9⟩ => ?_
        have fin : ∀ {u' : Shared} {G' : Hp}, Inv (Z.blk u3 G3 sc ce fp) ([] ++ pinsAt fp u7.heap) ρ8 G' u' → N G' → ∃ m, m < n ∧ ∃ i G', Inv (Z.blk u3 G3 sc ce fp) [] (wipe ρ (own.map (·.2))) G' u' ∧ tn i u'.heap ∧ (∀ b ∈ fp, G' b = none) ∧ V i m G' := fun {u' G'} K' nx => by
          obtain ⟨m', lm, v'⟩ := hN G' nx
          have pin : ∀ b ∈ fp, ∀ o, u7.heap.get? b = some o → u'.heap.get? b = some o ∧ G' b = none := fun b hb o e => by
            have z := K'.pin (b, o) (List.mem_append_right _ (List.mem_append_right _ (mem_pinsAt hb e)))
            exact ⟨z.1, z.2.1⟩
          refine ⟨m', lm, i + 1, G', (K'.unpinned (pins := [])).weak (by rw [← w8, wipe_length]) (fun j v e => ?_), T.keep _ _ _ t7 fun b hb o e => (pin b hb o e).1, fun b hb => ?_, v'⟩
          · rw [← w8] at e; exact (wipe_some e).1
          · obtain ⟨o, e, _⟩ := T.obj _ _ t7 b hb; exact (pin b hb o e).2
        cases b with
        | false => simp only [Bool.false_eq_true, if_false] at q9 ⊢; exact fin J9 q9
        | true =>
          simp only [if_true] at q9 ⊢
          refine thnF (qe.run _ u9 ρ8 G9 _ J9 q9) fun z u10 ⟨yv, G10, J10, r10, c, M, n0, ey, hd10, hz10, nx⟩ => ?_
          subst ey
          obtain ⟨tz, rfl⟩ := (show ∃ t, z = Value.int c t from r10)
          exact addI (Z := Z.blk u3 G3 sc ce fp) J10 hd10 hz10 fun u11 J11 => fin J11 nx
    exact PpSet.codeAny_compStart_set loop (T.self Z.A 0 _ _ _ t4 loop)
  subst ecl
  exact goal
theorem pe_si {elt tg iter : Expr} {ifs : List Expr} {sc : Scope} {own : List (PySem.Str × Nat)} {pos : Pos} {wi : TI} {g : TG} {tt : TT} {te : TE} (calm : Z.calm = true) (nd : Z.N.Nodup) (pi : PI Z tg iter wi) (bl : BlkOk Z.N Z.env.scope sc own)
    (pg : ∀ (u : Shared) (G : Hp) (C : Addr) (cl : List (PySem.Str × Addr)) (fp : List Addr), PG (Z.blk u G sc (compEnvC sc cl C Z.env) fp) tg g) (pt : ∀ (u : Shared) (G : Hp) (C : Addr) (cl : List (PySem.Str × Addr)) (fp : List Addr), PTs (Z.blk u G sc (compEnvC sc cl C Z.env) fp) ifs tt)
    (pe : ∀ (u : Shared) (G : Hp) (C : Addr) (cl : List (PySem.Str × Addr)) (fp : List Addr), PE (Z.blk u G sc (compEnvC sc cl C Z.env) fp) elt te) (fold : ∀ x, foldedSetIterable iter Z.env x = pure x := by intro _; rfl) :
    PE Z (.SetComp elt [⟨tg, iter, ifs, 0⟩] sc pos) (tSi Z.w wi g tt te (own.map (·.2))) := by
  refine ⟨fun pn u ρ G Q J h => ?_⟩
  rw [PpSet.eval_SetComp]
  refine si_any calm nd J pi bl pg pt pe fold h fun d C u' m G' K' q ns f => ⟨m, ns, fun hp only => ?_⟩
  obtain ⟨a0, a1, a2, a3, a4, a5⟩ := f
  exact ⟨.ref d, G', K'.turned (t' := u'.toks) (fun b o hb e => (only.2 b hb).trans e) a0 a1 a3 a4 a5, rfl, q⟩
end IX
namespace IX
open PySem PySem.Spec PyProof.Rows L2
section
variable {P : Program} {w : World} {A : Around} {E : Value → Shared → Prop} {u : Shared} {a : Addr}
/-- sorted of a set of ints, however many -/
theorem sort_set {M : Int → Bool} {n : Nat} {Q : Value → Shared → Prop} (R : SetR w u.heap a M n) (hh : A.handled = none)
    (fin : ∀ u' p (out : List Value) (c : Nat) (ns : List Int), (∀ b o, u.heap.get? b = some o → u'.heap.get? b = some o) → u'.gens = u.gens → u'.os = u.os → u.heap.objs.size ≤ p → u'.heap.get? p = some (seqObj "list" out.toArray c) → IntsAre out ns → ns.Pairwise (· < ·) → (∀ k, k ∈ ns ↔ M k = true) → ns.length = n → n < 4096 → Q (.ref p) u') :
    wpAny (model P w) A (call (.builtin "sorted") [.ref a]) Q E u := by
  obtain ⟨ob, es, ep, tb, hob, hex, hdat, good, nodup, mem, bound, fits, cnt, ris, led⟩ := R
  refine Calls.call_function_entry kind_sorted plain_sorted entry_sorted (args_sorted1 _) ?_
  unfold Builtin.«sorted»
  refine wpAny_bind (m := checkCount "sorted" 1 1 _) (wpAny_pure ?_)
  refine wpAny_bind (collect_set (A := A.in1) hh ⟨ob, hob, hex.1, hdat⟩ fits bound ris led fun u1 vs kp sz gn osn pm => ?_)
  have len : vs.length = n := by rw [pm.length_eq, List.length_map, Array.length_toList]; exact cnt
  have inl : IntsAre vs (vs.map Builtin.Re.reRawOf) := ints_of vs fun v hv => by
    obtain ⟨e, he, q⟩ := List.mem_map.mp (pm.mem_iff.mp hv)
    obtain ⟨k, tk, h1, _⟩ := good e he
    exact ⟨k, tk, q.symm.trans h1⟩
  have perm : (vs.map Builtin.Re.reRawOf).Perm (es.toList.map keyOf) := by
    have q := pm.map Builtin.Re.reRawOf
    rw [List.map_map] at q
    exact q
  have n4 : n < 4096 := by rw [← cnt]; exact bound
  have small : vs.length ≤ sizeLine := by rw [len, sizeLine_eq]; omega
  refine wpAny_bind (wpAny_newList ?_ small)
  have atL : (u1.heap.push (seqObj "list" vs.toArray 0)).get? u1.heap.objs.size = some (seqObj "list" vs.toArray 0) := Heap.get?_push_size _ rfl
  refine wpAny_bind (wpAny_holding (wpAny_call_entry slot_list_sort ⟨_, atL, rfl⟩ entry_list_sort (SrtO.list_sort_ord SrtO.swo_int atL small (fun h2 => SrtO.ints_sortable inl h2) fun out h1 h2 => ⟨_, rfl, ?_⟩) (args_list_sort _)))
  obtain ⟨k1, k2, k3⟩ := SrtO.ints_out inl h1 h2
  obtain ⟨c, hc⟩ := sortedHeap_at (vs := vs) (out := out.toArray) atL
  have pn := k2.trans perm
  refine wpAny_pure ⟨_, rfl, fin _ u1.heap.objs.size out c (out.map SrtO.iv) (fun b o e => ?_) gn osn sz hc k1 (lt_of_le_nodup _ k3 (pn.nodup_iff.mpr nodup)) (fun k => by rw [pn.mem_iff, ← mem k]) ?_ n4⟩
  · have q := kp b o e
    have lt := Heap.lt_size q
    show (sortedHeap (u1.heap.push (seqObj "list" vs.toArray 0)) u1.heap.objs.size vs out.toArray).get? b = some o
    rw [sortedHeap_old (Nat.ne_of_lt lt) (by rw [size_push']; exact Nat.lt_succ_of_lt lt)]
    exact Heap.get?_push_of_some _ q
  · rw [pn.length_eq, List.length_map, Array.length_toList]; exact cnt
end
def rSortS (w : World) : List V → Hp → VK → Prop := fun vs G Q => ∃ (a : Addr) (M : Int → Bool) (n : Nat), vs = [V.ref a] ∧ G a = some (SetO w a M n) ∧
  ∀ (ns : List Int) (p : Addr), ns.Pairwise (· < ·) → (∀ k : Int, k ∈ ns ↔ M k = true) → G p = none → Q (.ref p) (upd G p (.lst (ns.map V.int)))
theorem cr_sortS {Z : Cx} (calm : Z.calm = true) : CallR Z (.builtin "sorted") (rSortS Z.w) := by
  intro pn u ρ G vs us Q J r h
  obtain ⟨a, M, n, rfl, ha, q⟩ := h
  have R := setO_get J ha
  rw [Vals.ref1 r]
  refine sort_set R (J.ok.hd calm) fun u' p out c ns kp gn osn hp hg hi hs hm hl n4 => ?_
  have hn : G p = none := J.hok.fresh hp
  have K' : Inv Z pn ρ (upd G p (.lst (ns.map V.int))) { u with heap := u'.heap, gens := u'.gens, drawn := u'.drawn, toks := u'.toks } :=
    J.call (ch := []) (Un.laid kp hp hn) (J.hok.laid kp hp ⟨by rw [List.length_map, hl, sizeLine_eq]; omega, out, c, vals_of_ints hi, hg⟩) (by rw [gn]; exact J.bare) (fun _ z => nomatch z)
  have e : u' = { u with heap := u'.heap, gens := u'.gens, drawn := u'.drawn, toks := u'.toks } := by
    cases u'; cases u; cases osn; rfl
  rw [e]
  exact ⟨.ref p, _, K', rfl, q ns p hs hm hn⟩
/-- over a walk of n items, Pv before each -/
theorem si_it {w : World} {J : It} {n : Nat} {GG : Hp → Prop} {Y : Nat → Hp → V → Hp → Prop} {g : TG} {tt : TT} {te : TE} {vs : List Nat} {ρ : L2.St} {G1 : Hp} {d : Addr} {Qd : Hp → Prop} (wk : Walk J n GG Y) (Pv : Nat → Hp → Prop) (h0 : Pv 0 (upd G1 d (SetO w d (fun _ => false) 0))) (hG : ∀ i G, i ≤ n → Pv i G → GG G)
    (hs : ∀ i x G G', i < n → Pv i G → Y i G x G' → g x (wipe ρ vs) G' fun ρ2 G2 => wipe ρ2 vs = wipe ρ vs ∧ tt ρ2 G2 fun b G3 =>
      if b = true then te ρ2 G3 fun y G4 => ∃ (c : Int) (M : Int → Bool) (k : Nat), y = .int c ∧ G4 d = some (SetO w d M k) ∧ k + 1 < scanBound ∧ Pv (i + 1) (upd G4 d (SetO w d (fun j => M j || decide (j = c)) (if M c = true then k else k + 1))) else Pv (i + 1) G3) (hd : ∀ G, Pv n G → Qd G) :
    ∃ V : Nat → Nat → Hp → Prop, (∃ m, V 0 m (upd G1 d (SetO w d (fun _ => false) 0))) ∧ ∀ i m G, V i m G →
      (J.stop i G ∧ Qd G) ∨ (J.go i G ∧ ∃ N : Hp → Prop, (∀ G', N G' → ∃ m', m' < m ∧ V (i + 1) m' G') ∧ ∀ x G', J.yld i G x G' → g x (wipe ρ vs) G' fun ρ2 G2 => wipe ρ2 vs = wipe ρ vs ∧ tt ρ2 G2 fun b G3 =>
        if b = true then te ρ2 G3 fun y G4 => ∃ (c : Int) (M : Int → Bool) (k : Nat), y = .int c ∧ G4 d = some (SetO w d M k) ∧ k + 1 < scanBound ∧ N (upd G4 d (SetO w d (fun j => M j || decide (j = c)) (if M c = true then k else k + 1))) else N G3) := by
  refine ⟨fun i m G => m + i = n ∧ Pv i G, ⟨n, rfl, h0⟩, ?_⟩
  rintro i m G ⟨hm, p⟩
  by_cases hlt : i < n
  · refine .inr ⟨wk.goes i G hlt (hG i G (Nat.le_of_lt hlt) p), Pv (i + 1), fun G' p' => ⟨m - 1, by omega, by omega, p'⟩, fun x G' y => hs i x G G' hlt p (wk.yields i G x G' hlt (hG i G (Nat.le_of_lt hlt) p) y)⟩
  · obtain rfl : i = n := by omega
    exact .inl ⟨wk.stops G (hG _ G (Nat.le_refl _) p), hd G p⟩
end IX
namespace DL
open PySem PySem.Spec L2 PyProof.Rows
/-- sorted({..}) -/
abbrev tSS (w : World) (wi : TI) (g : TG) (tt : TT) (te : TE) (vs : List Nat) : TE := tCB (IX.rSortS w) (tCons (IX.tSi w wi g tt te vs) tNil)
def Cn (M : Int → Bool) (k : Nat) (acc : List Int) : Prop := (∀ j, M j = true ↔ j ∈ acc) ∧ (∀ j ∈ acc, 0 ≤ j ∧ j ≤ 4001) ∧ ∃ ms : List Int, ms.Nodup ∧ ms.length = k ∧ ∀ j, j ∈ ms ↔ M j = true
theorem sub_len : ∀ {l m : List Int}, l.Nodup → (∀ k ∈ l, k ∈ m) → l.length ≤ m.length
  | [], m, _, _ => by simp
  | a :: l, m, nd, h => by
    have ha : a ∈ m := h a (by simp)
    obtain ⟨h1, h2⟩ := List.nodup_cons.mp nd
    have := sub_len (l := l) (m := m.erase a) h2 fun k hk => (List.mem_erase_of_ne (fun e : k = a => h1 (by rw [← e]; exact hk))).mpr (h k (List.mem_cons_of_mem _ hk))
    rw [List.length_erase_of_mem ha] at this
    have := List.length_pos_of_mem ha
    simp
    omega
theorem cn_le {l : List Int} (nd : l.Nodup) (h : ∀ j ∈ l, 0 ≤ j ∧ j ≤ 4001) : l.length ≤ 4002 := by
  have := sub_len (m := (List.range 4002).map Int.ofNat) nd fun k hk => by
    have := h k hk
    exact List.mem_map.mpr ⟨k.toNat, List.mem_range.mpr (by omega), by show ((k.toNat : Nat) : Int) = k; omega⟩
  simpa using this
section
variable {K : PySem.W.Frag} {W : WX} {Γ : Gm} {X : XP} {te : TE} {tt : TT} {g : TG} {wi : TI} {vs : List Nat} {w : World}
theorem evo_ss {P : Sl → Gm → Prop} (hw : Wr g vs) (hm : MoG g) (h : EvI K W wi Γ (fun xs Γ1 => ∃ I : Nat → List Int → Gm → Prop, I 0 [] (wipeG Γ1 vs) ∧
      (∀ k x acc Γ2, xs[k]? = some x → I k acc Γ2 → GoG K WF g x Γ2 (fun Γ3 => EvT K WF tt Γ3 (fun b Γ4 => (b = true → Ev K WF te Γ4 (fun y Γ5 => ∃ c, y = .int c ∧ (0 ≤ c ∧ c ≤ 4001) ∧ I (k + 1) (acc ++ [c]) (wipeG Γ5 vs)) XF) ∧ (b = false → I (k + 1) acc (wipeG Γ4 vs))) XF) XF) ∧
      (∀ acc Γ2, I xs.length acc Γ2 → ∀ a (ns : List Int), ns.Pairwise (· < ·) → (∀ k, k ∈ ns ↔ k ∈ acc) → P (.ol a (ns.map .int)) Γ2)) X) : EvO K W (tSS w wi g tt te vs) Γ P X := fun O G H σ Q S q x =>
  h O G H σ _ S (fun J G1 H1 Γ1 xs n GG Y s1 S1 wk hn hG hY ⟨I, h0, hs, hd⟩ => by
    intro D nD
    have oD : O D = none := S1.o.free nD
    have gD : G1 D = none := S1.g.free nD
    have fD : D ∉ fps Γ1 := fun z => S1.there D z nD
    have xf : ∀ {O' G' : Hp} {σ' : L2.St}, XOk K WF O' G' σ' XF := fun {O' G' σ'} C d fs G2 H2 Γ2 _ _ _ z => z
    refine IX.si_it wk (fun k H' => ∃ (G2 : Hp) (Γ2 : Gm) (acc : List Int) (M : Int → Bool) (c : Nat), Same G1 G2 ∧ Sta K (upd O D (SetO w D M c)) G2 H' (wipe σ vs) Γ2 ∧ Cn M c acc ∧ I k acc Γ2) ?_ (fun k H' _ ⟨G2, Γ2, acc, M, c, s2, S2, _⟩ => hG H' (s2.trans S2.g)) ?_ ?_
    · have T := (S1.ext (Ext.raw (ob := SetO w D (fun _ => false) 0) S1.g nD)).toO upd_same oD gD fD trivial
      exact ⟨G1, _, [], (fun _ => false), 0, Same.refl _, sta_wipe T vs, ⟨by simp, by simp, [], by simp, rfl, by simp⟩, h0⟩
    · rintro k v H2 H3 hk ⟨G2, Γ2, acc, M, c, s2, S2, cn, p⟩ y
      have hx : xs[k]? = some (xs[k]'(by omega)) := by simp
      obtain ⟨G3, ex, r⟩ := hY k _ v G2 H2 H3 hx s2 S2.g y
      refine hm _ _ _ _ _ (fun σ2 H2 z => (fun (e : wipe σ2 vs = wipe σ vs) => ⟨e, z.2 e⟩) (z.1.trans (wipe_in fun v hv => hv))) (hw v (wipe σ vs) H3 (fun σ2 H2 => wipe σ2 vs = wipe σ vs → tt σ2 H2 fun b H3 => if b = true then te σ2 H3 fun y H4 => ∃ (e : Int) (M : Int → Bool) (c : Nat), y = .int e ∧ H4 D = some (SetO w D M c) ∧ c + 1 < scanBound ∧
        ∃ (G2 : Hp) (Γ2 : Gm) (acc : List Int) (M' : Int → Bool) (c' : Nat), Same G1 G2 ∧ Sta K (upd O D (SetO w D M' c')) G2 (upd H4 D (SetO w D (fun j => M j || decide (j = e)) (if M e = true then c else c + 1))) (wipe σ vs) Γ2 ∧ Cn M' c' acc ∧ I (k + 1) acc Γ2
        else ∃ (G2 : Hp) (Γ2 : Gm) (acc : List Int) (M : Int → Bool) (c : Nat), Same G1 G2 ∧ Sta K (upd O D (SetO w D M c)) G2 H3 (wipe σ vs) Γ2 ∧ Cn M c acc ∧ I (k + 1) acc Γ2) ?_)
      refine hs k _ acc Γ2 hx p _ G3 H3 _ v _ (S2.ext ex) r (fun G4 H4 σ4 Γ4 s4 S4 p4 e4 => ?_) fun σ5 => xf
      have s14 : Same G1 G4 := s2.trans (ex.g.trans s4)
      refine p4 _ G4 H4 σ4 _ S4 (fun b G5 H5 Γ5 s5 S5 p5 => ?_) xf
      cases b with
      | false =>
        refine iteF ⟨G5, _, acc, M, c, s14.trans s5, ?_, cn, p5.2 rfl⟩
        have T := sta_wipe S5 vs
        rw [e4] at T
        exact T
      | true =>
        refine iteT (p5.1 rfl _ G5 H5 σ4 _ S5 (fun y G6 H6 Γ6 dy s6 S6 r6 p6 => ?_) xf)
        obtain ⟨e, ey, hl, p6⟩ := p6
        subst ey
        cases r6
        obtain ⟨c1, c2, ms, c3, c4, c5⟩ := cn
        refine ⟨e, M, c, rfl, S6.o D _ upd_same, by have := cn_le c3 (fun j hj => c2 j ((c1 j).mp ((c5 j).mp hj))); show c + 1 < 4096; omega, G6, _, acc ++ [e], (fun j => M j || decide (j = e)), (if M e = true then c else c + 1), s14.trans (s5.trans s6), ?_, ⟨fun j => ?_, ?_, ?_⟩, p6⟩
        · have T := sta_wipe (S6.updO (o' := SetO w D (fun j => M j || decide (j = e)) (if M e = true then c else c + 1)) trivial) vs
          rw [e4] at T
          exact T
        · simp only [Bool.or_eq_true, decide_eq_true_eq, c1 j, List.mem_append, List.mem_singleton]
        · intro j hj
          rcases List.mem_append.mp hj with hj | hj
          · exact c2 j hj
          · obtain rfl := List.mem_singleton.mp hj
            exact hl
        · by_cases he : M e = true
          · rw [if_pos he]
            refine ⟨ms, c3, c4, fun j => ?_⟩
            rw [c5 j, Bool.or_eq_true, decide_eq_true_eq]
            exact ⟨.inl, fun z => z.elim id fun z => by rw [z]; exact he⟩
          · rw [if_neg he]
            refine ⟨e :: ms, List.nodup_cons.mpr ⟨fun z => he ((c5 e).mp z), c3⟩, by simp [c4], fun j => ?_⟩
            rw [List.mem_cons, c5 j, Bool.or_eq_true, decide_eq_true_eq]
            exact ⟨fun z => z.elim .inr .inl, fun z => z.elim .inr .inl⟩
    · rintro H2 ⟨G2, Γ2, acc, M, c, s2, S2, ⟨c1, c2, ms, c3, c4, c5⟩, p⟩
      have T := sta_unwipe S2
      have hD : H2 D = some (SetO w D M c) := T.o D _ upd_same
      have hd := hd acc Γ2 (by rw [← hn]; exact p)
      refine ⟨D, M, c, rfl, hD, fun ns a hp hk na => ?_⟩
      · have rn : Reps K G2 (ns.map V.int) (ns.map Dt.int) := by
          clear hp hk
          induction ns with
          | nil => exact .nil
          | cons n ns ih => exact .cons (.int n) ih
        exact q (.ref a) G2 _ Γ2 (.ol a (ns.map .int)) (s1.trans s2) ((T.offO oD).own1 na rfl (.ol upd_same rn)) (hd a ns hp fun k => by rw [hk k, c1 k])) x
/-- the comprehension over xs, at the slots Γ -/
def SC (K : PySem.W.Frag) (g : TG) (tt : TT) (te : TE) (vs : List Nat) (P : Sl → Gm → Prop) (xs : List Dt) (Γ : Gm) : Prop :=
  ∃ I : Nat → List Int → Gm → Prop, I 0 [] Γ ∧
      (∀ k x acc Γ2, xs[k]? = some x → I k acc Γ2 → GoG K WF g x Γ2 (fun Γ3 => EvT K WF tt Γ3 (fun b Γ4 => (b = true → Ev K WF te Γ4 (fun y Γ5 => ∃ c, y = .int c ∧ (0 ≤ c ∧ c ≤ 4001) ∧ I (k + 1) (acc ++ [c]) (wipeG Γ5 vs)) XF) ∧ (b = false → I (k + 1) acc (wipeG Γ4 vs))) XF) XF) ∧
      (∀ acc Γ2, I xs.length acc Γ2 → ∀ a (ns : List Int), ns.Pairwise (· < ·) → (∀ k, k ∈ ns ↔ k ∈ acc) → P (.ol a (ns.map .int)) Γ2)
instance {P : Sl → Gm → Prop} [h : WrC g vs] : Wk (EvO K W (tSS w wi g tt te vs) Γ P X) (EvI K W wi Γ (fun xs Γ1 => SC K g tt te vs P xs (wipeG Γ1 vs)) X) := ⟨fun q => evo_ss h.h h.m q⟩
instance {P : Dt → Gm → Prop} : Wk (Ev K W (tSS w wi g tt te vs) Γ P X) (EvO K W (tSS w wi g tt te vs) Γ (fun s Γ2 => Fz s fun d => P d Γ2) X) := ⟨ev_frz⟩
instance (priority := 2000) {P : Sl → Gm → Prop} {Γ' : Gm} {xs : List Dt} {l : List Nat} [h : WipeC Γ l Γ'] : Wk (SC K g tt te vs P xs (wipeG Γ l)) (SC K g tt te vs P xs Γ') := ⟨fun q => by rw [h.h]; exact q⟩
/-- an int of each item, the slots left alone -/
theorem sc_map {β : Type} {ys : List β} {pic : β → Dt} {P : Sl → Gm → Prop} (f : β → Int) (hl : ∀ y ∈ ys, 0 ≤ f y ∧ f y ≤ 4001)
    (hs : ∀ (k : Nat) y, ys[k]? = some y → GoG K WF g (pic y) Γ (fun Γ3 => EvT K WF tt Γ3 (fun b Γ4 => Br b (Ev K WF te Γ4 (fun z Γ5 => z = .int (f y) ∧ wipeG Γ5 vs = Γ) XF) False) XF) XF)
    (hd : ∀ a (ns : List Int), ns.Pairwise (· < ·) → (∀ k, k ∈ ns ↔ ∃ y ∈ ys, f y = k) → P (.ol a (ns.map .int)) Γ) : SC K g tt te vs P (ys.map pic) Γ := by
  refine ⟨fun k acc Γ2 => acc = (ys.take k).map f ∧ Γ2 = Γ, ⟨by simp, rfl⟩, fun k x acc Γ2 hx hJ => ?_, fun acc Γ2 hJ => ?_⟩
  · obtain ⟨rfl, rfl⟩ := hJ
    rw [List.getElem?_map] at hx
    cases q : ys[k]? with
    | none => rw [q] at hx; cases hx
    | some y =>
      rw [q] at hx; cases hx
      have hk : k < ys.length := (List.getElem?_eq_some_iff.mp q).1
      intro O G H σ v Q S r q' e
      refine hs k y q O G H σ v Q S r (fun G2 H2 σ2 Γ2 s S2 p => q' G2 H2 σ2 Γ2 s S2 ?_) e
      intro O G H σ Q S q3 x3
      refine p O G H σ Q S (fun b G2 H2 Γ2 s S2 p2 => q3 b G2 H2 Γ2 s S2 ?_) x3
      refine ⟨fun hb => ?_, fun hb => (p2.2 hb).elim⟩
      have p3 := p2.1 hb
      intro O G H σ Q S q4 x4
      refine p3 O G H σ Q S (fun v G2 H2 Γ2 d s S2 R p5 => q4 v G2 H2 Γ2 d s S2 R ?_) x4
      exact ⟨f y, p5.1, hl y (List.mem_of_getElem? q), by rw [List.take_add_one, q]; simp, p5.2⟩
  · obtain ⟨rfl, rfl⟩ := hJ
    have e : (ys.take (ys.map pic).length).map f = ys.map f := by simp
    rw [e]
    exact fun a ns h1 h2 => hd a ns h1 fun k => by rw [h2 k, List.mem_map]
end
theorem mkSi {X : Cx} {e : Expr} {r : List V → Hp → VK → Prop} (vs : List Nat) {w : World} {wi : TI} {g : TG} {tt : TT} {te : TE} {l : List Nat} (h : PE X e (tCB r (tCons (IX.tSi w wi g tt te l) tNil))) (q : l = vs := by rfl) : PE X e (tCB r (tCons (IX.tSi w wi g tt te vs) tNil)) := by subst q; exact h
section
variable {R : Dt → Prop}
instance (priority := high) : Wk (dEq (.bl true) (.bl true) R) (R (.bl true)) := ⟨fun h => l_eqB (by simpa using h)⟩
instance (priority := high) : Wk (dEq (.bl false) (.bl false) R) (R (.bl true)) := ⟨fun h => l_eqB (by simpa using h)⟩
instance (priority := high) : Wk (dEq (.bl true) (.bl false) R) (R (.bl false)) := ⟨fun h => l_eqB (by simpa using h)⟩
instance (priority := high) : Wk (dEq (.bl false) (.bl true) R) (R (.bl false)) := ⟨fun h => l_eqB (by simpa using h)⟩
instance (priority := high) : Wk (dNe (.bl true) (.bl true) R) (R (.bl false)) := ⟨fun h => l_neB (by simpa using h)⟩
instance (priority := high) : Wk (dNe (.bl false) (.bl false) R) (R (.bl false)) := ⟨fun h => l_neB (by simpa using h)⟩
instance (priority := high) : Wk (dNe (.bl true) (.bl false) R) (R (.bl true)) := ⟨fun h => l_neB (by simpa using h)⟩
instance (priority := high) : Wk (dNe (.bl false) (.bl true) R) (R (.bl true)) := ⟨fun h => l_neB (by simpa using h)⟩
end
end DL

/-! DL, part x: an instance and an int; len; static methods. -/
namespace OX
open PySem PySem.Spec PySem.W PySem.Calls PyProof.Rows Builtin
section
variable {prog : Program} {w : World} {A : Around} {E : Value → Shared → Prop} {s : Shared} {K : Frag} {x C L f g : Addr} {h₀ : Heap} {m : Str → Option Value} {ox : Obj} {od : Option Obj}
theorem int_fills : fillsNumberSlot (.type "int") "add" = pure true := by
  unfold fillsNumberSlot
  simp only [typeLookup_type, builtinLookup_eq_fast]
  kernel_rfl
theorem int_radd : typeLookup (.type "int") (dunderR "add") = pure (some (.builtin "int.__radd__")) := by
  rw [typeLookup_type, builtinLookup_eq_fast]; kernel_rfl
theorem int_add : typeLookup (.type "int") (dunder "add") = pure (some (.builtin "int.__add__")) := by
  rw [typeLookup_type, builtinLookup_eq_fast]; kernel_rfl
/-- the class first in its own row of bases -/
theorem self_mro (hc : selfFirst K C = true) : ∃ cd rest, clsIn K C = some cd ∧ cd.mro = .ref C :: rest := by
  unfold selfFirst at hc
  obtain ⟨cd, hcd, hm⟩ := any_some hc
  cases q : cd.mro with
  | nil => rw [q] at hm; cases hm
  | cons a r =>
    rw [q, List.head?_cons] at hm
    cases (beq_iff_eq.mp hm)
    exact ⟨cd, r, hcd, q⟩
theorem in_python {M : Model} (X : K.In s.heap) (hs : findIn K (.ref C) (dunder "add") = some (some (.ref f))) {r : Option Value} (hg : findIn K (.ref C) (dunderR "add") = some r) (hr : r = none ∨ ∃ g, r = some (.ref g)) : Looks M s.heap (numberSlotInPython (.ref C) "add") true := by
  intro A Q E s' k q
  unfold numberSlotInPython
  dsimp only
  refine wpAny_bind (looks_findIn X hs A _ E s' k ?_)
  refine wpAny_bind (wpAny_pure ?_)
  refine wpAny_bind (looks_findIn X hg A _ E s' k ?_)
  rcases hr with rfl | ⟨g, rfl⟩
  · refine wpAny_bind (wpAny_pure ?_)
    rw [if_pos (show (true || false) = true from rfl)]
    exact wpAny_pure q
  · refine wpAny_bind (wpAny_pure ?_)
    rw [if_pos (show (true || true) = true from rfl)]
    exact wpAny_pure q
/-- x + i, x an instance -/
theorem add_KI {i : Int} {t : Tok} {Q : Value → Shared → Prop} (F : Fr h₀ L s.heap m) (X₀ : K.In h₀) (I : InstAt s.heap x ox C od) (hc : selfFirst K C = true)
    (hs : findIn K (.ref C) "__add__" = some (some (.ref f))) {r : Option Value} (hg : findIn K (.ref C) "__radd__" = some r) (hr : r = none ∨ ∃ g, r = some (.ref g)) (hf : isFn K (.ref f) = true)
    (h : wpAny (model prog w) A (call (.ref f) [.ref x, .int i t]) (PySem.W.CmpBack Q) E s) : wpAny (model prog w) A (binaryOp .Add (.ref x) (.int i t)) Q E s := by
  have X := X₀.keeps F.keep
  obtain ⟨cd, rest, hcd, hm⟩ := self_mro hc
  have hs' : findIn K (.ref C) (dunder "add") = some (some (.ref f)) := hs
  have hg' : findIn K (.ref C) (dunderR "add") = some r := hg
  unfold binaryOp
  refine wpAny_holding (wpAny_bind ?_)
  unfold binaryOp1
  refine wpAny_bind (I.type.here (wpAny_bind (m := typeOf (.int i t)) (wpAny_pure (wpAny_bind ((fills_K X hcd hm hs').here ?_)))))
  rw [show (Value.ref C == Value.type "int") = false from rfl]
  simp only [Bool.false_eq_true, if_false]
  show wpAny _ _ (fillsNumberSlot (.type "int") "add" >>= _) _ _ _
  rw [int_fills]
  refine wpAny_bind (wpAny_pure ?_)
  simp only [Bool.and_true, if_true]
  refine wpAny_bind (wpAny_bind (m := isSubtype (.type "int") (.ref C)) ((Looks.of_pure (M := model prog w) (h := s.heap) (r := false) (by rw [isSubtype_type]; kernel_rfl)).here ?_))
  refine wpAny_pure ?_
  simp only [Bool.false_eq_true, if_false, Bool.not_false, Bool.and_true, Bool.true_and, if_true]
  refine wpAny_bind ((in_python X hs' hg' hr).here ?_)
  rw [if_pos rfl]
  refine wpAny_bind (m := numberSlotInPython (.type "int") "add") (wpAny_pure ?_)
  rw [if_pos (show (!false) = true from rfl)]
  refine wpAny_bind ((Looks.of_pure int_radd).here ?_)
  refine wpAny_bind (m := tryMethod (.ref x) _ (.int i t)) ?_
  unfold tryMethod
  refine wpAny_bind (special_fn X I hs' (beq_iff_eq.mp hf) (wpAny_mono h (fun v s' hv => ?_) fun _ _ e => e))
  cases v <;> first | exact hv.elim | exact wpAny_pure (wpAny_pure (wpAny_pure hv))
end
end OX

namespace L2
open PySem PySem.Spec PyProof.Rows
/-- what a class must have for x + i -/
structure AddI (K : PySem.W.Frag) (C f : Addr) : Prop where
  op : OpO K C f "__add__"
  ra : ∃ r, PySem.W.findIn K (.ref C) "__radd__" = some r ∧ (r = none ∨ ∃ g, r = some (.ref g))
def addIB (K : PySem.W.Frag) (C f : Addr) : Bool := opOB K C f "__add__" && (match PySem.W.findIn K (.ref C) "__radd__" with | some none => true | some (some (.ref _)) => true | _ => false)
theorem addIB_ok {K : PySem.W.Frag} {C f : Addr} (q : addIB K C f = true) : AddI K C f := by
  unfold addIB at q
  rw [Bool.and_eq_true] at q
  obtain ⟨q1, q2⟩ := q
  refine ⟨opOB_ok q1, ?_⟩
  cases e : PySem.W.findIn K (.ref C) "__radd__" with
  | none => rw [e] at q2; cases q2
  | some r =>
    rw [e] at q2
    cases r with
    | none => exact ⟨none, rfl, .inl rfl⟩
    | some v =>
      cases v with
      | ref g => exact ⟨_, rfl, .inr ⟨g, rfl⟩⟩
      | _ => cases q2
section
variable {X : Cx} {k : Nat} {f g C : Addr} {sp : Sp} {pos p : Pos} {a b e : Expr} {es : List Expr} {ta tb : TE} {t : TA}
theorem pe_binI {E : St → XK} (c : AddI X.K C f) (F : FnK X.prog X.w X.K X.mg X.base k f [] sp) (hr : Room k X.A) (hx : ∀ σ, PassesAt (L2.CX X.prog X.w) X σ (E σ)) (pa : PE X a ta) (pb : PE X b tb) : PE X (.BinOp a .Add b pos) (tBinI C sp E ta tb) := by
  refine ⟨fun pins s σ H Q I h => wpAny_BinOp (binT pa pb I h fun v u s2 x y H2 I2 rx ry z => ?_)⟩
  obtain ⟨p, dx, fs, i, rfl, rfl, hp, z⟩ := z
  obtain rfl : v = Value.ref p := rx
  obtain ⟨tk, rfl⟩ := (show ∃ t, u = Value.int i t from ry)
  obtain ⟨mA, J, _⟩ := ins_get I2.hok hp
  obtain ⟨od, J, _⟩ := J.look
  obtain ⟨m, hF⟩ := I2.fr
  obtain ⟨r, h1, h2⟩ := c.ra
  refine OX.add_KI hF I2.ok.mod.kin J c.op.sf c.op.me h1 h2 c.op.fn ?_
  exact thn (call_fnK (us := [.ref p, .int i tk]) (vs := [.ref p, .int i]) F hr (hx σ) I2 (.cons rfl (.cons ⟨tk, rfl⟩ .nil)) z) fun r s3 hh => cmpBack_of hh
theorem pe_lenO {x : Str} {E : St → XK} (c : OpO X.K C f "__len__") (F : FnK X.prog X.w X.K X.mg X.base k f [] sp) (hr : Room (k + 1) X.A) (hx : ∀ σ, PassesAt (L2.CX X.prog X.w) X σ (E σ)) (hg : Gl X x) (hm : X.mg x = none) (hv : bootBuiltins x = some (.builtin "len")) (ha : PA X (e :: es) t) (hn : x ≠ "__name__") (hdb : (x == ("__debug__" : Str)) = false)
    (he : starEach (e :: es) X.env = (false, eval e X.env) :: starEach es X.env) (hpl : (backTo pos (starEach es X.env)).any (·.1) = false) : PE X (.Call (.Name x p) (e :: es) [] pos) (tLenO C sp E t) := by
  refine ⟨fun pins s σ H Q I h => wpAny_Call_Name_kw (ld_blt I hg hm hv ?_ hn hdb)⟩
  refine PyProof.Rows.callWith_builtin1 (thn (ha.run pos pins s σ H _ I h) fun us s1 ⟨vs, H1, I1, r1, q1⟩ => ?_) he hpl
  obtain ⟨p, dx, fs, rfl, hp, z⟩ := q1
  rw [Vals.ref1 r1]
  obtain ⟨mA, J, _⟩ := ins_get I1.hok hp
  obtain ⟨od, J, _⟩ := J.look
  obtain ⟨m, hF⟩ := I1.fr
  refine PySem.W.len_K hF I1.ok.mod.kin J c.me c.fn (thn (call_fnK1 (us := [.ref p]) (vs := [.ref p]) F hr (hx σ) I1 (.cons rfl .nil) z) fun r s3 hh => ?_)
  obtain ⟨r', H3, I3, rr, n, en, l0, l1, q3⟩ := hh
  subst en
  obtain ⟨tk, rfl⟩ := (show ∃ t, r = Value.int n t from rr)
  exact ⟨⟨l0, l1⟩, .int n, H3, I3.tok _, ⟨_, rfl⟩, q3⟩
end
end L2
namespace DL
open PySem PySem.Spec L2 PyProof.Rows
section
variable {X : Cx} {k j : Nat} {S : DSp} {W : WX} {a b e : Expr} {es : List Expr} {ta tb : TE} {t : TA} {pos p : Pos} {C f : Addr} {x : Str}
theorem pe_binIK (K : PySem.W.Frag) (h : X.K = K) (c : AddI K C f) (D : DA X.prog X.w K X.mg X.base f [] k S) (hr : Room j X.A) (hj : k + 1 ≤ j) (tk : Takes X W) (pa : PE X a ta) (pb : PE X b tb) : PE X (.BinOp a .Add b pos) (tBinI C (spD K S) (WE W) ta tb) := by
  subst h
  exact pe_binI c D.fn (hr.mono (Nat.le_of_succ_le hj)) (fun σ => passAt tk σ) pa pb
theorem pe_lenOK (K : PySem.W.Frag) (h : X.K = K) (c : OpO K C f "__len__") (D : DA X.prog X.w K X.mg X.base f [] k S) (hr : Room j X.A) (hj : k + 1 ≤ j) (tk : Takes X W) (hm : X.mg x = none) (ha : PA X (e :: es) t) (hg : Gl X x := by rfl) (hv : bootBuiltins x = some (.builtin "len") := by decide +kernel) (hn : x ≠ "__name__" := by decide) (hdb : (x == ("__debug__" : Str)) = false := by decide)
    (he : starEach (e :: es) X.env = (false, eval e X.env) :: starEach es X.env := by rfl) (hpl : (backTo pos (starEach es X.env)).any (·.1) = false := by rfl) : PE X (.Call (.Name x p) (e :: es) [] pos) (tLenO C (spD K S) (WE W) t) := by
  subst h
  exact pe_lenO c D.fn (hr.mono hj) (fun σ => passAt tk σ) hg hm hv ha hn hdb he hpl
end
section
variable {K : PySem.W.Frag} {W : WX} {Γ : Gm} {X : XP} {P : Dt → Gm → Prop} {PO : Sl → Gm → Prop} {ta tb : TE} {t : TA} {S : DSp} {C : Addr}
theorem evo_binI (h : Ev K W ta Γ (fun d Γ1 => Ev K W tb Γ1 (fun e Γ2 => IsO C d fun _ => IsI e fun _ => CallS S [d, e] (fun res => PO res Γ2) (fun D fs => X D fs Γ2)) X) X) : EvO K W (tBinI C (spD K S) (WE W) ta tb) Γ PO X := fun O G H σ Q S0 q x =>
  h O G H σ _ S0 (fun v1 G1 H1 Γ1 d1 s1 S1 r1 h1 => h1 O G1 H1 σ _ S1 (fun v2 G2 H2 Γ2 d2 s2 S2 r2 hh => by
    obtain ⟨fs, e1, i, e2, hS⟩ := hh
    subst e1 e2
    have r1' := r1.mono s2
    have k1 := r1'
    cases r1' with
    | @obj p _ dx fsv _ hp rf =>
    cases r2
    refine ⟨p, dx, fsv, i, rfl, rfl, S2.g _ _ hp, ?_⟩
    exact call_at (R := fun res => PO res Γ2) S2 (.cons k1 (.cons (.int i) .nil)) hS ((x.mono s1).mono s2) fun v G3 H3 res s3 S3 hr => q v G3 H3 Γ2 res (s1.trans (s2.trans s3)) S3 hr) (x.mono s1)) x
theorem ev_lenO' (h : EvA K W t Γ (fun ds Γ1 => ∃ d, ds = [d] ∧ IsO C d fun _ => CallS S [d] (fun res => ∃ n : Int, res = .fr (.int n) ∧ (0 ≤ n ∧ n < 2 ^ 63) ∧ P (.int n) Γ1) (fun D fs => X D fs Γ1)) X) : Ev K W (tLenO C (spD K S) (WE W) t) Γ P X := fun O G H σ Q S0 q x =>
  h O G H σ _ S0 (fun vs G1 H1 Γ1 ds s1 S1 r1 hh => by
    obtain ⟨d, e0, fs, e1, hS⟩ := hh
    subst e0 e1
    cases r1 with
    | @cons v vs _ _ k1 kt =>
    cases kt
    have k1' := k1
    cases k1 with
    | @obj p _ dx fsv _ hp rf =>
    refine ⟨p, dx, fsv, rfl, S1.g _ _ hp, ?_⟩
    refine call_at (R := fun res => ∃ n : Int, res = .fr (.int n) ∧ (0 ≤ n ∧ n < 2 ^ 63) ∧ P (.int n) Γ1) S1 (.cons k1' .nil) hS (x.mono s1) fun v G3 H3 res s3 S3 hr => ?_
    obtain ⟨n, er, ⟨l0, l1⟩, hP⟩ := hr
    subst er
    have hd := S3.head
    cases hd with
    | fr rv =>
    cases rv
    exact ⟨n, rfl, l0, l1, q (.int n) G3 H3 Γ1 _ (s1.trans s3) S3.tail (.int n) hP⟩) x
instance : Wk (EvO K W (tBinI C (spD K S) (WE W) ta tb) Γ PO X) (Ev K W ta Γ (fun d Γ1 => Ev K W tb Γ1 (fun e Γ2 => IsO C d fun _ => IsI e fun _ => CallS S [d, e] (fun res => PO res Γ2) (fun D fs => X D fs Γ2)) X) X) := ⟨evo_binI⟩
instance : Wk (Ev K W (tBinI C (spD K S) (WE W) ta tb) Γ P X) (EvO K W (tBinI C (spD K S) (WE W) ta tb) Γ (fun s Γ2 => Fz s fun d => P d Γ2) X) := ⟨ev_frz⟩
instance : Wk (Ev K W (tLenO C (spD K S) (WE W) t) Γ P X) (EvA K W t Γ (fun ds Γ1 => ∃ d, ds = [d] ∧ IsO C d fun _ => CallS S [d] (fun res => ∃ n : Int, res = .fr (.int n) ∧ Side (0 ≤ n ∧ n < 2 ^ 63) (P (.int n) Γ1)) (fun D fs => X D fs Γ1)) X) := ⟨ev_lenO'⟩
end
/-! ### any, all -/
theorem call_anyK {X : Cx} (K : PySem.W.Frag) (h : X.K = K) (c : X.calm = true) : CallR X (.builtin "any") (rAny K) := by subst h; exact cr_any c
theorem call_allK {X : Cx} (K : PySem.W.Frag) (h : X.K = K) (c : X.calm = true) : CallR X (.builtin "all") (rAll K) := by subst h; exact cr_all c
def dAny (ds : List Dt) (R : Dt → Prop) : Prop := ∃ bs : List Bool, ds = [.lst (bs.map .bl)] ∧ R (.bl (bs.any id))
def dAll (ds : List Dt) (R : Dt → Prop) : Prop := ∃ bs : List Bool, ds = [.lst (bs.map .bl)] ∧ R (.bl (bs.all id))
theorem reps_bl {K : PySem.W.Frag} {G : Hp} : ∀ {bs : List Bool} {vs : List V}, Reps K G vs (bs.map .bl) → vs = bs.map V.bl
  | [], _, .nil => rfl
  | b :: bs, _, .cons h t => by cases h; rw [reps_bl t]; rfl
section
variable {K : PySem.W.Frag} {R : Dt → Prop}
theorem rdc_any : RDC K (rAny K) dAny := fun G H xs ds R Q s r h q => by
  obtain ⟨bs, rfl, p⟩ := h
  cases r with
  | cons r1 r2 =>
  cases r2
  cases r1 with
  | lst ha rr =>
  obtain rfl := reps_bl rr
  exact ⟨_, bs, rfl, SqL.of (s _ _ ha), q _ G H _ (DL.Ext.refl s) (.bl _) p⟩
theorem rdc_all : RDC K (rAll K) dAll := fun G H xs ds R Q s r h q => by
  obtain ⟨bs, rfl, p⟩ := h
  cases r with
  | cons r1 r2 =>
  cases r2
  cases r1 with
  | lst ha rr =>
  obtain rfl := reps_bl rr
  exact ⟨_, bs, rfl, SqL.of (s _ _ ha), q _ G H _ (DL.Ext.refl s) (.bl _) p⟩
instance : CbC K (rAny K) dAny := ⟨rdc_any⟩
instance : CbC K (rAll K) dAll := ⟨rdc_all⟩
theorem d_any {β : Type} {ys : List β} {f : β → Bool} (r : R (.bl (ys.any f))) : dAny [.lst (ys.map fun y => .bl (f y))] R := ⟨ys.map f, by simp, by simpa [List.any_map] using r⟩
theorem d_all {β : Type} {ys : List β} {f : β → Bool} (r : R (.bl (ys.all f))) : dAll [.lst (ys.map fun y => .bl (f y))] R := ⟨ys.map f, by simp, by simpa [List.all_map] using r⟩
end
theorem brp_t {p A B : Prop} (h : p) (a : A) : BrP p A B := ⟨fun _ => a, fun n => absurd h n⟩
theorem brp_f {p A B : Prop} (h : ¬ p) (b : B) : BrP p A B := ⟨fun z => absurd z h, fun _ => b⟩
theorem rngD_map (n : Nat) : rngD 0 (n : Int) = (List.range n).map fun i : Nat => .int (i : Int) := by
  apply List.ext_getElem?
  intro k
  rw [List.getElem?_map]
  by_cases h : k < n
  · rw [List.getElem?_range h]
    have hk : k < (rngD 0 (n : Int)).length := by rw [rngD_len]; omega
    have e : (rngD 0 (n : Int))[k]? = some ((rngD 0 (n : Int))[k]) := by simp
    have := (rngD_get e).1
    rw [e, this]
    simp
  · rw [List.getElem?_eq_none (by rw [rngD_len]; omega), List.getElem?_eq_none (by simp; omega)]
    rfl
section
variable {K : PySem.W.Frag} {W : WX} {Γ : Gm} {X : XP} {P : Dt → Gm → Prop} {ta tb : TE} {S : DSp} {C : Addr}
instance (priority := high) : Wk (Ev K W (tCmpO C false (spD K S) (WE W) ta tb) Γ P X) (Ev K W ta Γ (fun d Γ1 => Ev K W tb Γ1 (fun e Γ2 => IsO C d fun _ => IsO C e fun _ => CallS S [d, e] (fun res => ∃ k, res = .fr (.bl k) ∧ P (.bl k) Γ2) (fun D fs => X D fs Γ2)) X) X) :=
  ⟨fun h => ev_cmpO (h.imp fun d Γ1 h1 => h1.imp fun e Γ2 ⟨fs, e1, gs, e2, h2⟩ => ⟨fs, gs, e1, e2, by simp only [Bool.xor_false]; exact h2⟩)⟩
instance (priority := high) : Wk (Ev K W (tCmpO C true (spD K S) (WE W) ta tb) Γ P X) (Ev K W ta Γ (fun d Γ1 => Ev K W tb Γ1 (fun e Γ2 => IsO C d fun _ => IsO C e fun _ => CallS S [d, e] (fun res => ∃ k, res = .fr (.bl k) ∧ P (.bl (!k)) Γ2) (fun D fs => X D fs Γ2)) X) X) :=
  ⟨fun h => ev_cmpO (h.imp fun d Γ1 h1 => h1.imp fun e Γ2 ⟨fs, e1, gs, e2, h2⟩ => ⟨fs, gs, e1, e2, by simp only [Bool.xor_true]; exact h2⟩)⟩
instance (priority := high) : Wk (Ev K W (tInO C false (spD K S) (WE W) ta tb) Γ P X) (Ev K W ta Γ (fun d Γ1 => Ev K W tb Γ1 (fun e Γ2 => IsO C e fun _ => CallS S [e, d] (fun res => ∃ k, res = .fr (.bl k) ∧ P (.bl k) Γ2) (fun D fs => X D fs Γ2)) X) X) :=
  ⟨fun h => ev_inO (h.imp fun d Γ1 h1 => h1.imp fun e Γ2 ⟨fs, e1, h2⟩ => ⟨fs, e1, by simp only [Bool.xor_false]; exact h2⟩)⟩
instance (priority := high) : Wk (Ev K W (tInO C true (spD K S) (WE W) ta tb) Γ P X) (Ev K W ta Γ (fun d Γ1 => Ev K W tb Γ1 (fun e Γ2 => IsO C e fun _ => CallS S [e, d] (fun res => ∃ k, res = .fr (.bl k) ∧ P (.bl (!k)) Γ2) (fun D fs => X D fs Γ2)) X) X) :=
  ⟨fun h => ev_inO (h.imp fun d Γ1 h1 => h1.imp fun e Γ2 ⟨fs, e1, h2⟩ => ⟨fs, e1, by simp only [Bool.xor_true]; exact h2⟩)⟩
end
end DL

/-! DL, part y: own comparisons as tests. -/
/-! ### the same as tests -/
namespace L2
open PySem PySem.Spec PyProof.Rows
section
variable {X : Cx} {k : Nat} {f g C : Addr} {sp : Sp} {pos : Pos} {a b : Expr} {ta tb : TE}
theorem pt_core {op : CmpOp} {r : V → V → St → Hp → VK → Prop} (ho : ∀ (pins : List (Addr × Obj)) (s : Shared) (σ : St) (H : Hp) (x y : V) (v u : Value) (Q : VK), Inv X pins σ H s → RelV x v → RelV y u → r x y σ H Q → wpAny (model X.prog X.w) X.A (compareOp op v u) (EP X pins σ Q) X.xe s)
    (ha : PE X a ta) (hb : PE X b tb) (hm : behindInMarks op b = false) : PT X (.Compare a [op] [b] pos) (tTest fun σ H Q => ta σ H fun x H1 => tb σ H1 fun y H2 => r x y σ H2 Q) := by
  refine ⟨fun pins s σ H Q I h => ?_⟩
  refine wpAny_isTrue_Compare1 (thn (ha.run pins s σ H _ I h) fun v s1 ⟨x, H1, I1, r1, q1⟩ => thn (hb.run pins s1 σ H1 _ I1 q1) fun u s2 ⟨y, H2, I2, r2, q2⟩ => thn (ho pins s2 σ H2 x y v u _ I2 r1 r2 q2) fun c s3 ⟨z, H3, I3, r3, j, e, q3⟩ => ?_) hm
  subst e
  cases r3
  exact wpAny_truthy_bool ⟨H3, I3, q3⟩
theorem pt_leO {nm : Str} {E : St → XK} (c : OpO X.K C f nm) (F : FnK X.prog X.w X.K X.mg X.base k f [] sp) (hr : Room k X.A) (hx : ∀ σ, PassesAt (L2.CX X.prog X.w) X σ (E σ)) (pa : PE X a ta) (pb : PE X b tb) (hn : ("__le__" : Str) = nm) : PT X (.Compare a [.LtE] [b] pos) (tTest (tBinO C sp E ta tb)) := by
  refine pt_core (fun pins s2 σ H2 x y v u Q I2 rx ry z => ?_) pa pb (nobehind _ (by decide) (by decide))
  obtain ⟨p, q, dx, dy, fs, gs, rfl, rfl, hp, hq, z⟩ := z
  obtain rfl : v = Value.ref p := rx
  obtain rfl : u = Value.ref q := ry
  show wpAny _ _ (richCompare .LtE (.ref p) (.ref q)) _ _ _
  obtain ⟨mA, J, _⟩ := ins_get I2.hok hp
  obtain ⟨mB, J', _⟩ := ins_get I2.hok hq
  obtain ⟨od, J, _⟩ := J.look
  obtain ⟨od', J', _⟩ := J'.look
  obtain ⟨m, hF⟩ := I2.fr
  refine PySem.W.cmp_K (op := .LtE) (tb := .ref C) hr.units0 hF I2.ok.mod.kin J J'.type (by simp [PySem.W.notFirst]) (by rw [← hn] at c; exact c.me) c.fn ?_
  exact thn (call_fnK (us := [.ref p, .ref q]) (vs := [.ref p, .ref q]) F hr (hx σ) I2 (.cons rfl (.cons rfl .nil)) z) fun r s3 hh => cmpBack_of hh
theorem pt_eqD {E : St → XK} (c : EqC X.K C f) (F : FnK X.prog X.w X.K X.mg X.base k f [] sp) (hr : Room k X.A) (hx : ∀ σ, PassesAt (L2.CX X.prog X.w) X σ (E σ)) (pa : PE X a ta) (pb : PE X b tb) : PT X (.Compare a [.Eq] [b] pos) (tTest (tCmpO C false sp E ta tb)) := by
  refine pt_core (fun pins s2 σ H2 x y v u Q I2 rx ry z => ?_) pa pb (nobehind _ (by decide) (by decide))
  obtain ⟨p, q, dx, dy, fs, gs, rfl, rfl, hp, hq, z⟩ := z
  obtain rfl : v = Value.ref p := rx
  obtain rfl : u = Value.ref q := ry
  show wpAny _ _ (richCompare .Eq (.ref p) (.ref q)) _ _ _
  obtain ⟨mA, J, _⟩ := ins_get I2.hok hp
  obtain ⟨mB, J', _⟩ := ins_get I2.hok hq
  obtain ⟨od, J, _⟩ := J.look
  obtain ⟨od', J', _⟩ := J'.look
  obtain ⟨m, hF⟩ := I2.fr
  refine PySem.W.cmp_K (op := .Eq) (tb := .ref C) hr.units0 hF I2.ok.mod.kin J J'.type (by simp [PySem.W.notFirst]) c.eq c.fn ?_
  refine thn (call_fnK (us := [.ref p, .ref q]) (vs := [.ref p, .ref q]) F hr (hx σ) I2 (.cons rfl (.cons rfl .nil)) z) fun r s3 hh => ?_
  obtain ⟨r', H3, I3, rr, j, ej, q3⟩ := hh
  subst ej
  cases rr
  exact ⟨.bl j, H3, I3, rfl, by simpa using q3⟩
theorem pt_neD {E : St → XK} (c : EqC X.K C f) (F : FnK X.prog X.w X.K X.mg X.base k f [] sp) (hr : Room (k + 1) X.A) (hx : ∀ σ, PassesAt (L2.CX X.prog X.w) X σ (E σ)) (pa : PE X a ta) (pb : PE X b tb) : PT X (.Compare a [.NotEq] [b] pos) (tTest (tCmpO C true sp E ta tb)) := by
  refine pt_core (fun pins s2 σ H2 x y v u Q I2 rx ry z => ?_) pa pb (nobehind _ (by decide) (by decide))
  obtain ⟨p, q, dx, dy, fs, gs, rfl, rfl, hp, hq, z⟩ := z
  obtain rfl : v = Value.ref p := rx
  obtain rfl : u = Value.ref q := ry
  show wpAny _ _ (richCompare .NotEq (.ref p) (.ref q)) _ _ _
  obtain ⟨mA, J, _⟩ := ins_get I2.hok hp
  obtain ⟨mB, J', _⟩ := ins_get I2.hok hq
  obtain ⟨od, J, _⟩ := J.look
  obtain ⟨od', J', _⟩ := J'.look
  refine OX.ne_own I2.kIn J J' c.mro c.ne c.eq c.fn (by have := hr.units; omega) ?_
  refine thn (call_fnK1 (us := [.ref p, .ref q]) (vs := [.ref p, .ref q]) F hr (hx σ) I2 (.cons rfl (.cons rfl .nil)) z) fun r s3 hh => ?_
  obtain ⟨r', H3, I3, rr, j, ej, q3⟩ := hh
  subst ej
  cases rr
  exact ⟨j, rfl, .bl (!j), H3, I3, rfl, by simpa using q3⟩
theorem pt_inO {E : St → XK} (c : OpO X.K C f "__contains__") (F : FnK X.prog X.w X.K X.mg X.base k f [] sp) (hr : Room k X.A) (hx : ∀ σ, PassesAt (L2.CX X.prog X.w) X σ (E σ)) (pa : PE X a ta) (pb : PE X b tb) (hm : behindInMarks .In b = false) : PT X (.Compare a [.In] [b] pos) (tTest (tInO C false sp E ta tb)) := by
  refine pt_core (fun pins s2 σ H2 x y v u Q I2 rx ry z => ?_) pa pb hm
  obtain ⟨p, dx, fs, rfl, hp, z⟩ := z
  obtain rfl : u = Value.ref p := ry
  obtain ⟨mA, J, _⟩ := ins_get I2.hok hp
  obtain ⟨od, J, _⟩ := J.look
  obtain ⟨m, hF⟩ := I2.fr
  refine PySem.W.in_K hF I2.ok.mod.kin J c.me c.fn (thn (call_fnK (us := [.ref p, v]) (vs := [.ref p, x]) F hr (hx σ) I2 (.cons rfl (.cons rx .nil)) z) fun r s3 hh => ?_)
  obtain ⟨r', H3, I3, rr, j, ej, q3⟩ := hh
  subst ej
  cases rr
  exact wpAny_truthy_bool ⟨.bl j, H3, I3, rfl, by simpa using q3⟩
theorem pt_notInO {E : St → XK} (c : OpO X.K C f "__contains__") (F : FnK X.prog X.w X.K X.mg X.base k f [] sp) (hr : Room k X.A) (hx : ∀ σ, PassesAt (L2.CX X.prog X.w) X σ (E σ)) (pa : PE X a ta) (pb : PE X b tb) (hm : behindInMarks .NotIn b = false) : PT X (.Compare a [.NotIn] [b] pos) (tTest (tInO C true sp E ta tb)) := by
  refine pt_core (fun pins s2 σ H2 x y v u Q I2 rx ry z => ?_) pa pb hm
  obtain ⟨p, dx, fs, rfl, hp, z⟩ := z
  obtain rfl : u = Value.ref p := ry
  obtain ⟨mA, J, _⟩ := ins_get I2.hok hp
  obtain ⟨od, J, _⟩ := J.look
  obtain ⟨m, hF⟩ := I2.fr
  refine PySem.W.notIn_K hF I2.ok.mod.kin J c.me c.fn (thn (call_fnK (us := [.ref p, v]) (vs := [.ref p, x]) F hr (hx σ) I2 (.cons rfl (.cons rx .nil)) z) fun r s3 hh => ?_)
  obtain ⟨r', H3, I3, rr, j, ej, q3⟩ := hh
  subst ej
  cases rr
  exact wpAny_truthy_bool ⟨.bl (!j), H3, I3, rfl, by simpa using q3⟩
end
end L2
namespace DL
open PySem PySem.Spec L2 PyProof.Rows
section
variable {X : Cx} {k j : Nat} {S : DSp} {W : WX} {a b e fe : Expr} {es : List Expr} {ta tb tf : TE} {t : TA} {pos : Pos} {C f : Addr} {nm : Str}
theorem pt_leOK (K : PySem.W.Frag) (h : X.K = K) (c : OpO K C f nm) (D : DA X.prog X.w K X.mg X.base f [] k S) (hr : Room j X.A) (hj : k + 1 ≤ j) (tk : Takes X W) (pa : PE X a ta) (pb : PE X b tb) (hn : ("__le__" : Str) = nm := by rfl) : PT X (.Compare a [.LtE] [b] pos) (tTest (tBinO C (spD K S) (WE W) ta tb)) := by
  subst h
  exact pt_leO c D.fn (hr.mono (Nat.le_of_succ_le hj)) (fun σ => passAt tk σ) pa pb hn
theorem pt_eqDK (K : PySem.W.Frag) (h : X.K = K) (c : EqC K C f) (D : DA X.prog X.w K X.mg X.base f [] k S) (hr : Room j X.A) (hj : k + 1 ≤ j) (tk : Takes X W) (pa : PE X a ta) (pb : PE X b tb) : PT X (.Compare a [.Eq] [b] pos) (tTest (tCmpO C false (spD K S) (WE W) ta tb)) := by
  subst h
  exact pt_eqD c D.fn (hr.mono (Nat.le_of_succ_le hj)) (fun σ => passAt tk σ) pa pb
theorem pt_neDK (K : PySem.W.Frag) (h : X.K = K) (c : EqC K C f) (D : DA X.prog X.w K X.mg X.base f [] k S) (hr : Room j X.A) (hj : k + 1 ≤ j) (tk : Takes X W) (pa : PE X a ta) (pb : PE X b tb) : PT X (.Compare a [.NotEq] [b] pos) (tTest (tCmpO C true (spD K S) (WE W) ta tb)) := by
  subst h
  exact pt_neD c D.fn (hr.mono hj) (fun σ => passAt tk σ) pa pb
theorem pt_inOK (K : PySem.W.Frag) (h : X.K = K) (c : OpO K C f "__contains__") (D : DA X.prog X.w K X.mg X.base f [] k S) (hr : Room j X.A) (hj : k + 1 ≤ j) (tk : Takes X W) (pa : PE X a ta) (pb : PE X b tb) (hm : behindInMarks .In b = false := by rfl) : PT X (.Compare a [.In] [b] pos) (tTest (tInO C false (spD K S) (WE W) ta tb)) := by
  subst h
  exact pt_inO c D.fn (hr.mono (Nat.le_of_succ_le hj)) (fun σ => passAt tk σ) pa pb hm
theorem pt_notInOK (K : PySem.W.Frag) (h : X.K = K) (c : OpO K C f "__contains__") (D : DA X.prog X.w K X.mg X.base f [] k S) (hr : Room j X.A) (hj : k + 1 ≤ j) (tk : Takes X W) (pa : PE X a ta) (pb : PE X b tb) (hm : behindInMarks .NotIn b = false := by rfl) : PT X (.Compare a [.NotIn] [b] pos) (tTest (tInO C true (spD K S) (WE W) ta tb)) := by
  subst h
  exact pt_notInO c D.fn (hr.mono (Nat.le_of_succ_le hj)) (fun σ => passAt tk σ) pa pb hm
end
end DL

/-! DL, part z: static methods. -/
namespace L2
open PySem PySem.Spec PyProof.Rows
/-- what a class must have for a static method m: its record at p, its def at g -/
structure StM (K : PySem.W.Frag) (C : Addr) (m : Str) (p g : Addr) : Prop where
  rd : PySem.W.readsIn K C (.type "type") = true
  ga : PySem.W.specialIn K (.ref C) "__getattribute__" = some (some (.builtin "type.__getattribute__"))
  at_ : PySem.W.findCls K (.ref C) (.type "type") m = some (.get (.builtin "staticmethod.__get__") (.ref p) .none (.ref C))
  rc : ∃ rest, PySem.W.recIn K p "staticmethod" = some (.ref g :: rest)
  kp : PySem.W.keepIn K (.ref g) = true
/-- the record and the def -/
def smR (K : PySem.W.Frag) (C : Addr) (m : Str) : Addr := match PySem.W.findCls K (.ref C) (.type "type") m with
  | some (.get _ (.ref p) _ _) => p
  | _ => 0
def smF (K : PySem.W.Frag) (C : Addr) (m : Str) : Addr := match PySem.W.recIn K (smR K C m) "staticmethod" with
  | some (.ref f :: _) => f
  | _ => 0
def stMB (K : PySem.W.Frag) (C : Addr) (m : Str) : Bool := PySem.W.readsIn K C (.type "type") && (He.eqO (PySem.W.specialIn K (.ref C) "__getattribute__") (some (some (.builtin "type.__getattribute__"))) && ((match PySem.W.findCls K (.ref C) (.type "type") m with
    | some (.get (.builtin g) (.ref _) .none (.ref D)) => decide (g = "staticmethod.__get__") && decide (D = C)
    | _ => false) && ((match PySem.W.recIn K (smR K C m) "staticmethod" with
    | some (.ref _ :: _) => true
    | _ => false) && PySem.W.keepIn K (.ref (smF K C m)))))
theorem stMB_ok {K : PySem.W.Frag} {C : Addr} {m : Str} (q : stMB K C m = true) : StM K C m (smR K C m) (smF K C m) := by
  unfold stMB at q
  rw [Bool.and_eq_true, Bool.and_eq_true, Bool.and_eq_true, Bool.and_eq_true] at q
  obtain ⟨q1, q2, q3, q4, q5⟩ := q
  refine ⟨q1, He.eqO_ok q2, ?_, ?_, q5⟩
  · clear q4 q5
    unfold smR
    split at q3
    · rename_i g p D e
      rw [Bool.and_eq_true, decide_eq_true_eq, decide_eq_true_eq] at q3
      rw [e, q3.1, q3.2]
    · cases q3
  · clear q3 q5
    unfold smF
    split at q4
    · rename_i f r e
      exact ⟨r, by rw [e]⟩
    · cases q4
section
variable {X : Cx} {C p g : Addr} {m x : Str} {pos apos np : Pos} {e : Expr} {es : List Expr} {t : TA} {k : Nat} {sp : Sp} {E : St → XK} {pl : Sem Bool}
theorem getst {pins : List (Addr × Obj)} {σ : St} {H : Hp} {s : Shared} {A : Around} {E : Value → Shared → Prop} {Q : Value × List Value → Shared → Prop} (I : Inv X pins σ H s) (c : StM X.K C m p g) (h : ∀ s', Inv X pins σ H s' → Q (.ref g, []) s') : wpAny (model X.prog X.w) A (getMethod (.ref C) m pl) Q E s := by
  obtain ⟨rest, hp⟩ := c.rc
  refine PySem.W.method_cls I.kIn c.ga (PySem.W.cls_bind I.kIn c.rd c.at_ ?_)
  exact wpAny_call (PySem.W.sm_get (s := { s with toks := s.toks + 1 }) I.kIn hp (PySem.W.handed_on rfl (h _ (I.tok _))))
theorem pe_sm (c : StM X.K C m p g) (F : FnK X.prog X.w X.K X.mg X.base k g [] sp) (hr : Room k X.A) (hx : ∀ σ, PassesAt (L2.CX X.prog X.w) X σ (E σ)) (hc : PE X (.Name x np) (tC (.ref C))) (ha : PA X (e :: es) t)
    (hst : starEach (e :: es) X.env = (false, eval e X.env) :: starEach es X.env) (hpl : (backTo pos (starEach es X.env)).any (·.1) = false)
    (ht : eval (.Call (.Attribute (.Name x np) m apos) (e :: es) [] pos) X.env = (do
      let ov ← eval (.Name x np) X.env
      standAt apos.atName
      let (f, first) ← holding [ov] (getMethod ov m pl)
      callWith pos f first (backTo pos (starEach (e :: es) X.env)) (backToKw pos (keywordEach [] X.env)))) :
    PE X (.Call (.Attribute (.Name x np) m apos) (e :: es) [] pos) (tCallS sp E t) := by
  refine ⟨fun pins s σ H Q I h => PySem.W.methodCall_KW (pl := pl) (thn (hc.run pins s σ H (fun v H1 => v = .ref C ∧ H1 = H) I ⟨rfl, rfl⟩) fun u s1 ⟨y, H1, I1, ry, ey, eH⟩ => ?_) ht⟩
  subst ey eH
  obtain rfl : u = Value.ref C := ry
  refine getst I1 c fun s2 I2 => ?_
  refine PySem.W.callWith_K (first := []) (h₀ := X.base) I2.ok.mod.kin c.kp (thn (ha.run pos pins s2 σ H1 _ I2 h) fun us s3 ⟨vs, H2, I3, rv, q2⟩ => ⟨I3.kIn, ?_⟩) hst hpl
  exact wpAny_call (run_fnK0 F hr (hx σ) I3 rv q2)
theorem pe_sm0 (c : StM X.K C m p g) (F : FnK X.prog X.w X.K X.mg X.base k g [] sp) (hr : Room k X.A) (hx : ∀ σ, PassesAt (L2.CX X.prog X.w) X σ (E σ)) (hc : PE X (.Name x np) (tC (.ref C)))
    (ht : eval (.Call (.Attribute (.Name x np) m apos) [] [] pos) X.env = (do
      let ov ← eval (.Name x np) X.env
      standAt apos.atName
      let (f, first) ← holding [ov] (getMethod ov m pl)
      callWith pos f first (backTo pos (starEach [] X.env)) (backToKw pos (keywordEach [] X.env)))) :
    PE X (.Call (.Attribute (.Name x np) m apos) [] [] pos) (tCallS sp E tNil) := by
  refine ⟨fun pins s σ H Q I h => PySem.W.methodCall_KW (pl := pl) (thn (hc.run pins s σ H (fun v H1 => v = .ref C ∧ H1 = H) I ⟨rfl, rfl⟩) fun u s1 ⟨y, H1, I1, ry, ey, eH⟩ => ?_) ht⟩
  subst ey eH
  obtain rfl : u = Value.ref C := ry
  refine getst I1 c fun s2 I2 => ?_
  exact PySem.W.callWith_K0 (first := []) I2.kIn c.kp (wpAny_call (run_fnK0 F hr (hx σ) I2 .nil h))
end
end L2
namespace DL
open PySem PySem.Spec L2 PyProof.Rows
section
variable {X : Cx} {C p g : Addr} {m x : Str} {pos apos np : Pos} {e : Expr} {es : List Expr} {t : TA} {k j : Nat} {S : DSp} {W : WX} {pl : Sem Bool}
theorem pe_smK (K : PySem.W.Frag) (h : X.K = K) (c : StM K C m p g) (D : DA X.prog X.w K X.mg X.base g [] k S) (hr : Room j X.A) (hj : k + 1 ≤ j) (tk : Takes X W) (hc : PE X (.Name x np) (tC (.ref C))) (ha : PA X (e :: es) t)
    (hst : starEach (e :: es) X.env = (false, eval e X.env) :: starEach es X.env := by rfl) (hpl : (backTo pos (starEach es X.env)).any (·.1) = false := by rfl)
    (ht : eval (.Call (.Attribute (.Name x np) m apos) (e :: es) [] pos) X.env = (do
      let ov ← eval (.Name x np) X.env
      standAt apos.atName
      let (f, first) ← holding [ov] (getMethod ov m pl)
      callWith pos f first (backTo pos (starEach (e :: es) X.env)) (backToKw pos (keywordEach [] X.env))) := by rfl) :
    PE X (.Call (.Attribute (.Name x np) m apos) (e :: es) [] pos) (tCallS (spD K S) (WE W) t) := by
  subst h
  exact pe_sm c D.fn (hr.mono (Nat.le_of_succ_le hj)) (fun σ => passAt tk σ) hc ha hst hpl ht
theorem pe_sm0K (K : PySem.W.Frag) (h : X.K = K) (c : StM K C m p g) (D : DA X.prog X.w K X.mg X.base g [] k S) (hr : Room j X.A) (hj : k + 1 ≤ j) (tk : Takes X W) (hc : PE X (.Name x np) (tC (.ref C)))
    (ht : eval (.Call (.Attribute (.Name x np) m apos) [] [] pos) X.env = (do
      let ov ← eval (.Name x np) X.env
      standAt apos.atName
      let (f, first) ← holding [ov] (getMethod ov m pl)
      callWith pos f first (backTo pos (starEach [] X.env)) (backToKw pos (keywordEach [] X.env))) := by rfl) :
    PE X (.Call (.Attribute (.Name x np) m apos) [] [] pos) (tCallS (spD K S) (WE W) tNil) := by
  subst h
  exact pe_sm0 c D.fn (hr.mono (Nat.le_of_succ_le hj)) (fun σ => passAt tk σ) hc ht
end
/-! ### the Hook with static methods -/
def sAd (K : PySem.W.Frag) (p : Str × Option Str) : Addr := match p.2 with
  | none => 0
  | some m => smF K (He.ga K p.1) m
def fnS (K : PySem.W.Frag) (p : Str × Option Str) : He.FnW := match K.lookup (sAd K p) with
  | some ⟨_, _, .func fd, _⟩ => some (fd.name, fd.qualname, fd.params, fd.body, fd.scope, fd.globals, fd.closure, fd.builtins)
  | _ => none
def okS (K : PySem.W.Frag) (d : He.DefD) : Bool := PySem.W.keepIn K (.ref (sAd K d.at_)) && (match K.lookup (sAd K d.at_) with
  | some ⟨_, _, .func fd, _⟩ => PySem.W.codeIn K fd.code d.qual && (He.dflB K fd.defaults (d.dvs K) && He.kwdB K fd.kwdefaults (d.kws K))
  | _ => false)
theorem funS {K : PySem.W.Frag} {d : He.DefD} (e : fnS K d.at_ = d.val) (c : okS K d = true) : ∃ fd, FunD K d.name d.qual d.params d.body d.scope (d.dvs K) (d.kws K) (sAd K d.at_) fd := by
  unfold okS at c
  rw [Bool.and_eq_true] at c
  obtain ⟨kp, c2⟩ := c
  unfold fnS at e
  cases q : K.lookup (sAd K d.at_) with
  | none => rw [q] at c2; cases c2
  | some o =>
    obtain ⟨oc, od, dt, osl⟩ := o
    rw [q] at c2 e
    cases dt with
    | func fd =>
      obtain ⟨a1, a2, a3, a4, a5, a6, a7, a8, a9, a10, a11, a12, a13, a14, a15⟩ := fd
      have e2 : (some (a1, a2, a3, a4, a5, a6, a7, a15) : He.FnW) = some (d.name, d.qual, d.params, .stmts d.body, d.scope, mainGlobals, [], builtinsNs) := e
      simp only [Option.some.injEq, Prod.mk.injEq] at e2
      obtain ⟨g1, g2, g3, g4, g5, g6, g7, g8⟩ := e2
      subst g1 g2 g3 g4 g5 g6 g7 g8
      have c3 : (PySem.W.codeIn K a13 d.qual && (He.dflB K a8 (d.dvs K) && He.kwdB K a9 (d.kws K))) = true := c2
      rw [Bool.and_eq_true, Bool.and_eq_true] at c3
      obtain ⟨k1, k3, k4⟩ := c3
      exact ⟨_, ⟨oc, od, a8, a9, a10, a11, a12, a13, a14, osl, rfl, q, k1, He.dflB_ok k3, He.kwdB_ok k4⟩, kp⟩
    | _ => cases c2
abbrev AlY : Type := AlX × List He.FnW
def obsY (prog : Program) (fx : PySem.W.Frag → Bool) (fa : List He.Fa) (fn : List He.DefD) (en : List EDef) (ss : List He.DefD) (K : PySem.W.Frag) : AlY := (obsX prog (fun K => fx K && ss.all fun d => okS K d) fa fn en K, ss.map fun d => fnS K d.at_)
def valY (fn : List He.DefD) (en : List EDef) (ss : List He.DefD) : AlY := (valX fn en, valsD ss)
def SaysY (prog : Program) (fx : PySem.W.Frag → Bool) (fa : List He.Fa) (fn : List He.DefD) (en : List EDef) (ss : List He.DefD) (K : PySem.W.Frag) : Prop := obsY prog fx fa fn en ss K = valY fn en ss
def obsYG (n : Nat) (prog : Program) (fx : PySem.W.Frag → Bool) (fa : List He.Fa) (fn : List He.DefD) (en : List EDef) (ss : List He.DefD) (g : Addr → Option Obj) : AlY := obsY prog fx fa fn en ss (He.frG g (asX g n))
def hookY (n : Nat) (prog : Program) (fx : PySem.W.Frag → Bool) (fa : List He.Fa) (fn : List He.DefD) (en : List EDef) (ss : List He.DefD) : PySem.W.Hook where
  α := AlY
  obs := fun s => obsYG n prog fx fa fn en ss s.heap.get?
  val := fun _ => valY fn en ss
  says := fun _ h => ∃ K : PySem.W.Frag, K.In h ∧ SaysY prog fx fa fn en ss K
  of := fun _ _ e => ⟨_, He.frG_in, e⟩
  keeps := fun _ _ _ ⟨K, hK, c⟩ k => ⟨K, PySem.W.Frag.In.keeps hK k, c⟩
theorem obsYG_eq {n : Nat} {prog : Program} {fx : PySem.W.Frag → Bool} {fa : List He.Fa} {fn : List He.DefD} {en : List EDef} {ss : List He.DefD} {g : Addr → Option Obj} {s : Shared} (h : ∀ a, g a = s.heap.get? a) : obsYG n prog fx fa fn en ss g = (hookY n prog fx fa fn en ss).obs s := by
  have e : g = s.heap.get? := funext h
  rw [e] <;> rfl
section
variable {prog : Program} {fx : PySem.W.Frag → Bool} {fa : List He.Fa} {fn : List He.DefD} {en : List EDef} {ss : List He.DefD} {K : PySem.W.Frag}
theorem SaysY.x (c : SaysY prog fx fa fn en ss K) : SaysX prog (fun K => fx K && ss.all fun d => okS K d) fa fn en K := congrArg Prod.fst c
theorem SaysY.own (c : SaysY prog fx fa fn en ss K) : fx K = true := by
  have := c.x.own
  rw [Bool.and_eq_true] at this
  exact this.1
theorem SaysY.fact (c : SaysY prog fx fa fn en ss K) (i : Nat) {f : He.Fa} (h : fa[i]? = some f := by rfl) : f.ok K = true := c.x.fact i h
theorem SaysY.def_ (c : SaysY prog fx fa fn en ss K) (i : Nat) {d : He.DefD} (h : fn[i]? = some d := by rfl) : ∃ fd, FunD K d.name d.qual d.params d.body d.scope (d.dvs K) (d.kws K) (He.fAd K d.at_) fd := c.x.def_ i h
theorem SaysY.err (c : SaysY prog fx fa fn en ss K) (i : Nat) {d : EDef} (h : en[i]? = some d := by rfl) : fnE K d.x = d.val ∧ errB prog K d.x d.qual d.fs = true := c.x.err i h
theorem SaysY.st (c : SaysY prog fx fa fn en ss K) (i : Nat) {d : He.DefD} (h : ss[i]? = some d := by rfl) : ∃ fd, FunD K d.name d.qual d.params d.body d.scope (d.dvs K) (d.kws K) (sAd K d.at_) fd := by
  have e : ss.map (fun d => fnS K d.at_) = ss.map He.DefD.val := (congrArg (fun z : AlY => z.2) c).trans (valsD_eq ss)
  have e2 : (ss.map fun d => fnS K d.at_)[i]? = (ss.map He.DefD.val)[i]? := by rw [e]
  rw [List.getElem?_map, List.getElem?_map, h] at e2
  have o := c.x.own
  rw [Bool.and_eq_true] at o
  exact funS (Option.some.inj e2) (List.all_eq_true.mp o.2 d (List.mem_of_getElem? h))
end
end DL

/-! DL, part zb: an int and an instance. -/
namespace OX
open PySem PySem.Spec PySem.W PySem.Calls PyProof.Rows Builtin
section
variable {prog : Program} {w : World} {A : Around} {E : Value → Shared → Prop} {s : Shared} {K : Frag} {x C L f g : Addr} {h₀ : Heap} {m : Str → Option Value} {ox : Obj} {od : Option Obj}
/-- i + x, x an instance -/
theorem radd_KI {i : Int} {t : Tok} {Q : Value → Shared → Prop} (F : Fr h₀ L s.heap m) (X₀ : K.In h₀) (I : InstAt s.heap x ox C od) (hd : ox.data = .plain) (hc : selfFirst K C = true) (hi : subIn K (.ref C) (.type "int") = some false)
    (hs : findIn K (.ref C) "__add__" = some (some (.ref f))) (hg : findIn K (.ref C) "__radd__" = some (some (.ref g))) (hf : isFn K (.ref g) = true)
    (h : wpAny (model prog w) A (call (.ref g) [.ref x, .int i t]) (PySem.W.CmpBack Q) E s) : wpAny (model prog w) A (binaryOp .Add (.int i t) (.ref x)) Q E s := by
  have X := X₀.keeps F.keep
  obtain ⟨cd, rest, hcd, hm⟩ := self_mro hc
  have hs' : findIn K (.ref C) (dunder "add") = some (some (.ref f)) := hs
  have hg' : findIn K (.ref C) (dunderR "add") = some (some (.ref g)) := hg
  unfold binaryOp
  refine wpAny_holding (wpAny_bind ?_)
  unfold binaryOp1
  refine wpAny_bind (m := typeOf (.int i t)) (wpAny_pure (wpAny_bind (I.type.here ?_)))
  show wpAny _ _ (fillsNumberSlot (.type "int") "add" >>= _) _ _ _
  rw [int_fills]
  refine wpAny_bind (wpAny_pure ?_)
  rw [show (Value.type "int" == Value.ref C) = false from rfl]
  simp only [Bool.false_eq_true, if_false]
  refine wpAny_bind ((fills_K X hcd hm hs').here ?_)
  simp only [Bool.and_true, if_true]
  refine wpAny_bind ((looks_subIn X hi).here ?_)
  simp only [Bool.false_eq_true, if_false, Bool.not_false, Bool.and_true, Bool.true_and, if_true]
  refine wpAny_bind (m := numberSlotInPython (.type "int") "add") (wpAny_pure ?_)
  rw [if_neg (by simp)]
  have dec : ∀ Q' : Option Value → Shared → Prop, Q' none s → wpAny (model prog w) A (tryMethod (.int i t) (PySem.dunder "add") (.ref x)) Q' E s := fun Q' q => by
    unfold tryMethod
    refine wpAny_bind (wpAny_callSpecial?_slot (typeIs_int s i t) PySem.F.slot_int_add (wpAny_call_entry PySem.F.slot_int_add (typeIs_int s i t) PySem.F.entry_int_add ?_ (PySem.F.args_int_add_2 _ _)))
    unfold Builtin.«int.__add__» Builtin.Int.intBinary
    refine wpAny_bind (wpAny_pure ?_)
    refine wpAny_bind (wpAny_pure ?_)
    refine wpAny_bind ?_
    show wpAny _ _ (asInt? (.ref x)) _ _ _
    unfold asInt?
    dsimp only
    refine wpAny_bind (wpAny_load I.at_ ?_)
    rw [hd]
    refine wpAny_pure ?_
    dsimp only
    refine wpAny_bind (wpAny_rule ?_)
    exact wpAny_pure ⟨_, rfl, wpAny_pure q⟩
  refine wpAny_bind (dec _ ?_)
  dsimp only
  rw [if_neg (by simp)]
  refine wpAny_bind (m := tryMethod (.ref x) _ (.int i t)) ?_
  unfold tryMethod
  refine wpAny_bind (special_fn X I hg' (beq_iff_eq.mp hf) (wpAny_mono h (fun v s' hv => ?_) fun _ _ e => e))
  cases v <;> first | exact hv.elim | exact wpAny_pure (wpAny_bind (wpAny_rule (wpAny_pure (wpAny_pure hv))))
end
end OX
namespace L2
open PySem PySem.Spec PyProof.Rows
structure RAddI (K : PySem.W.Frag) (C f : Addr) : Prop where
  op : OpO K C f "__radd__"
  ad : ∃ g, PySem.W.findIn K (.ref C) "__add__" = some (some (.ref g))
  no : PySem.W.subIn K (.ref C) (.type "int") = some false
def raddIB (K : PySem.W.Frag) (C f : Addr) : Bool := opOB K C f "__radd__" && ((match PySem.W.findIn K (.ref C) "__add__" with | some (some (.ref _)) => true | _ => false) && decide (PySem.W.subIn K (.ref C) (.type "int") = some false))
theorem raddIB_ok {K : PySem.W.Frag} {C f : Addr} (q : raddIB K C f = true) : RAddI K C f := by
  unfold raddIB at q
  rw [Bool.and_eq_true, Bool.and_eq_true, decide_eq_true_eq] at q
  obtain ⟨q1, q2, q3⟩ := q
  refine ⟨opOB_ok q1, ?_, q3⟩
  cases e : PySem.W.findIn K (.ref C) "__add__" with
  | none => rw [e] at q2; cases q2
  | some r =>
    rw [e] at q2
    cases r with
    | none => cases q2
    | some v =>
      cases v with
      | ref g => exact ⟨g, rfl⟩
      | _ => cases q2
/-- an int and an instance -/
def tRBinI (C : Addr) (sp : Sp) (E : St → XK) (ta tb : TE) : TE := fun σ H Q => ta σ H fun x H1 => tb σ H1 fun y H2 => ∃ p dx fs i, x = .int i ∧ y = .ref p ∧ H2 p = some (.ins C dx fs) ∧ sp [.ref p, .int i] H2 Q (E σ)
theorem pe_rbinI {X : Cx} {k : Nat} {f C : Addr} {sp : Sp} {pos : Pos} {a b : Expr} {ta tb : TE} {E : St → XK} (c : RAddI X.K C f) (F : FnK X.prog X.w X.K X.mg X.base k f [] sp) (hr : Room k X.A) (hx : ∀ σ, PassesAt (L2.CX X.prog X.w) X σ (E σ)) (pa : PE X a ta) (pb : PE X b tb) : PE X (.BinOp a .Add b pos) (tRBinI C sp E ta tb) := by
  refine ⟨fun pins s σ H Q I h => wpAny_BinOp (binT pa pb I h fun v u s2 x y H2 I2 rx ry z => ?_)⟩
  obtain ⟨p, dx, fs, i, rfl, rfl, hp, z⟩ := z
  obtain rfl : u = Value.ref p := ry
  obtain ⟨tk, rfl⟩ := (show ∃ t, v = Value.int i t from rx)
  obtain ⟨ox, od, J, hd⟩ := StX.insC_at (X := X) (C := C) I2 (.inr ⟨dx, fs, hp⟩)
  obtain ⟨m, hF⟩ := I2.fr
  obtain ⟨g, hg⟩ := c.ad
  refine OX.radd_KI hF I2.ok.mod.kin J hd c.op.sf c.no hg c.op.me c.op.fn ?_
  exact thn (call_fnK (us := [.ref p, .int i tk]) (vs := [.ref p, .int i]) F hr (hx σ) I2 (.cons rfl (.cons ⟨tk, rfl⟩ .nil)) z) fun r s3 hh => cmpBack_of hh
end L2
namespace DL
open PySem PySem.Spec L2 PyProof.Rows
theorem pe_rbinIK {X : Cx} {k j : Nat} {S : DSp} {W : WX} {a b : Expr} {ta tb : TE} {pos : Pos} {C f : Addr} (K : PySem.W.Frag) (h : X.K = K) (c : RAddI K C f) (D : DA X.prog X.w K X.mg X.base f [] k S) (hr : Room j X.A) (hj : k + 1 ≤ j) (tk : Takes X W) (pa : PE X a ta) (pb : PE X b tb) : PE X (.BinOp a .Add b pos) (tRBinI C (spD K S) (WE W) ta tb) := by
  subst h
  exact pe_rbinI c D.fn (hr.mono (Nat.le_of_succ_le hj)) (fun σ => passAt tk σ) pa pb
section
variable {K : PySem.W.Frag} {W : WX} {Γ : Gm} {X : XP} {P : Dt → Gm → Prop} {PO : Sl → Gm → Prop} {ta tb : TE} {S : DSp} {C : Addr}
theorem evo_rbinI (h : Ev K W ta Γ (fun d Γ1 => Ev K W tb Γ1 (fun e Γ2 => IsI d fun _ => IsO C e fun _ => CallS S [e, d] (fun res => PO res Γ2) (fun D fs => X D fs Γ2)) X) X) : EvO K W (tRBinI C (spD K S) (WE W) ta tb) Γ PO X := fun O G H σ Q S0 q x =>
  h O G H σ _ S0 (fun v1 G1 H1 Γ1 d1 s1 S1 r1 h1 => h1 O G1 H1 σ _ S1 (fun v2 G2 H2 Γ2 d2 s2 S2 r2 hh => by
    obtain ⟨i, e1, fs, e2, hS⟩ := hh
    subst e1 e2
    cases r1
    have k2 := r2
    cases r2 with
    | @obj p _ dx fsv _ hp rf =>
    refine ⟨p, dx, fsv, i, rfl, rfl, S2.g _ _ hp, ?_⟩
    exact call_at (R := fun res => PO res Γ2) S2 (.cons k2 (.cons (.int i) .nil)) hS ((x.mono s1).mono s2) fun v G3 H3 res s3 S3 hr => q v G3 H3 Γ2 res (s1.trans (s2.trans s3)) S3 hr) (x.mono s1)) x
instance : Wk (EvO K W (tRBinI C (spD K S) (WE W) ta tb) Γ PO X) (Ev K W ta Γ (fun d Γ1 => Ev K W tb Γ1 (fun e Γ2 => IsI d fun _ => IsO C e fun _ => CallS S [e, d] (fun res => PO res Γ2) (fun D fs => X D fs Γ2)) X) X) := ⟨evo_rbinI⟩
instance : Wk (Ev K W (tRBinI C (spD K S) (WE W) ta tb) Γ P X) (EvO K W (tRBinI C (spD K S) (WE W) ta tb) Γ (fun s Γ2 => Fz s fun d => P d Γ2) X) := ⟨ev_frz⟩
end
end DL

/-! DL, part zc: a list turned about; a value in a list of texts. -/
namespace DL
open PySem PySem.Spec L2 PyProof.Rows
theorem pe_revLK {X : Cx} {e : Expr} {te : TE} {k : Nat} {p1 p2 p3 pos : Pos} (K : PySem.W.Frag) (h : X.K = K) (he : PE X e te) : PE X (.Subscript e (.Slice none none (some (.UnaryOp .USub (.Constant (.int 1) k p1) p2)) p3) pos) (tRevL K te) := by
  subst h
  exact pe_revL he
section
variable {K : PySem.W.Frag} {W : WX} {Γ : Gm} {X : XP} {P : Dt → Gm → Prop} {PO : Sl → Gm → Prop} {te : TE}
theorem evo_revL (h : Ev K W te Γ (fun d Γ1 => IsL d fun ds => ∀ a, PO (.ol a ds.reverse) Γ1) X) : EvO K W (tRevL K te) Γ PO X := fun O G H σ Q S0 q x =>
  h O G H σ _ S0 (fun v G1 H1 Γ1 d s1 S1 r1 hh => by
    obtain ⟨ds, e, hP⟩ := hh
    subst e
    cases r1 with
    | @lst a xs _ ha rr =>
    refine ⟨a, xs, rfl, SqL.of (S1.g _ _ ha), fun p np => ?_⟩
    exact q (.ref p) G1 _ Γ1 (.ol p ds.reverse) s1 (S1.own1 np rfl (.ol upd_same rr.reverse)) (hP p)) x
instance : Wk (EvO K W (tRevL K te) Γ PO X) (Ev K W te Γ (fun d Γ1 => IsL d fun ds => ∀ a, PO (.ol a ds.reverse) Γ1) X) := ⟨evo_revL⟩
instance : Wk (Ev K W (tRevL K te) Γ P X) (EvO K W (tRevL K te) Γ (fun s Γ2 => Fz s fun d => P d Γ2) X) := ⟨ev_frz⟩
end
theorem inV_strs (z : Str) (ss : List Str) : inV (.str z) ((ss.map Dt.str).map toV) = decide (z ∈ ss) := by
  rw [Bool.eq_iff_iff, decide_eq_true_eq]
  unfold inV
  rw [List.any_eq_true]
  constructor
  · rintro ⟨v, hv, e⟩
    rw [List.map_map] at hv
    obtain ⟨s, hs, rfl⟩ := List.mem_map.mp hv
    have : s = z := by simpa [toV, eqV] using e
    rw [← this]; exact hs
  · intro h
    exact ⟨.str z, by rw [List.map_map]; exact List.mem_map.mpr ⟨z, h, rfl⟩, by simp [eqV]⟩
theorem flat_strs (ss : List Str) : (ss.map Dt.str).all flatD = true := by
  rw [List.all_eq_true]
  intro d hd
  obtain ⟨s, _, rfl⟩ := List.mem_map.mp hd
  rfl
section
variable {R : Dt → Prop} {z : Str} {ss : List Str}
instance : Wk (dIn false (.str z) (.tup (ss.map .str)) R) (R (.bl (decide (z ∈ ss)))) := ⟨fun h => ⟨rfl, flat_strs ss, by rw [show toV (.str z) = .str z from rfl, inV_strs, Bool.false_xor]; exact h⟩⟩
instance : Wk (dIn false (.str z) (.lst (ss.map .str)) R) (R (.bl (decide (z ∈ ss)))) := ⟨fun h => ⟨rfl, flat_strs ss, by rw [show toV (.str z) = .str z from rfl, inV_strs, Bool.false_xor]; exact h⟩⟩
instance : Wk (dIn true (.str z) (.tup (ss.map .str)) R) (R (.bl (!decide (z ∈ ss)))) := ⟨fun h => ⟨rfl, flat_strs ss, by rw [show toV (.str z) = .str z from rfl, inV_strs, Bool.true_xor]; exact h⟩⟩
instance : Wk (dIn true (.str z) (.lst (ss.map .str)) R) (R (.bl (!decide (z ∈ ss)))) := ⟨fun h => ⟨rfl, flat_strs ss, by rw [show toV (.str z) = .str z from rfl, inV_strs, Bool.true_xor]; exact h⟩⟩
end
section
variable {K : PySem.W.Frag} {W : WX} {Γ : Gm} {X : XP} {PO : Sl → Gm → Prop} {ta tb : TE}
/-- a new list of two -/
theorem evo_addL (h : Ev K W ta Γ (fun x Γ1 => Ev K W tb Γ1 (fun y Γ2 => IsL x fun xs => IsL y fun ys => Side (xs.length + ys.length ≤ 1000000) (∀ a, PO (.ol a (xs ++ ys)) Γ2)) X) X) : EvO K W (tOp (rAddP K) ta tb) Γ PO X := fun O G H σ Q S0 q x =>
  h O G H σ _ S0 (fun v1 G1 H1 Γ1 d1 s1 S1 r1 h1 => h1 O G1 H1 σ _ S1 (fun v2 G2 H2 Γ2 d2 s2 S2 r2 hh => by
    obtain ⟨xs, e1, ys, e2, l, hP⟩ := hh
    subst e1 e2
    have r1' := r1.mono s2
    cases r1' with
    | lst h1 k1 =>
    cases r2 with
    | lst h2 k2 =>
    refine .inr (.inr (.inl ⟨_, _, _, _, rfl, rfl, S2.g _ _ h1, S2.g _ _ h2, by rw [k1.length, k2.length]; exact big_ok l, fun a na => ?_⟩))
    exact q (.ref a) G2 _ Γ2 (.ol a (xs ++ ys)) (s1.trans s2) (S2.own1 na rfl (.ol upd_same (k1.append k2))) (hP a)) (x.mono s1)) x
instance : Wk (EvO K W (tOp (rAddP K) ta tb) Γ PO X) (Ev K W ta Γ (fun x Γ1 => Ev K W tb Γ1 (fun y Γ2 => IsL x fun xs => IsL y fun ys => Side (xs.length + ys.length ≤ 1000000) (∀ a, PO (.ol a (xs ++ ys)) Γ2)) X) X) := ⟨evo_addL⟩
end
end DL

/-! DL, part zd: a list of one's own is lent for one expression and is one's own again behind it. -/
namespace L2
def tLend (_ : Nat) (t : TE) : TE := t
end L2
namespace DL
open PySem PySem.Spec L2
mutual
/-- data without lists -/
def noL : Dt → Bool
  | .lst _ => false
  | .scr _ => false
  | .tup xs => noLs xs
  | .obj _ fs => noLf fs
  | .dK kvs => noLk kvs
  | .dT kvs => noLt kvs
  | .exc _ fs => noLf fs
  | .at_ _ d => noL d
  | .non => true
  | .bl _ => true
  | .int _ => true
  | .str _ => true
  | .ty _ => true
  | .ref _ => true
def noLs : List Dt → Bool
  | [] => true
  | d :: r => noL d && noLs r
def noLf : List (Str × Dt) → Bool
  | [] => true
  | (_, d) :: r => noL d && noLf r
def noLk : List (Key × Dt) → Bool
  | [] => true
  | (_, d) :: r => noL d && noLk r
def noLt : List (List Key × Dt) → Bool
  | [] => true
  | (_, d) :: r => noL d && noLt r
end
def delH (G : Hp) (a : Addr) : Hp := fun b => if b = a then none else G b
theorem delH_ne {G : Hp} {a b : Addr} (h : b ≠ a) : delH G a b = G b := if_neg h
theorem delH_same {G : Hp} {a : Addr} : delH G a a = none := if_pos rfl
theorem delH_some {G : Hp} {a b : Addr} {o : HO} (h : delH G a b = some o) : b ≠ a ∧ G b = some o := by
  by_cases e : b = a
  · subst e; rw [delH_same] at h; cases h
  · exact ⟨e, by rw [delH_ne e] at h; exact h⟩
section
variable {K : PySem.W.Frag} {G : Hp} {a : Addr}
theorem del_ob {b : Addr} {ys : List V} {o : HO} (h : G a = some (.lst ys)) (q : G b = some o) (n : ∀ zs, o ≠ .lst zs) : delH G a b = some o := by
  rw [delH_ne]
  · exact q
  · intro e
    subst e
    rw [h] at q
    exact n ys (Option.some.inj q).symm
theorem and_l {x y : Bool} (h : (x && y) = true) : x = true := by cases x <;> simp_all
theorem and_r {x y : Bool} (h : (x && y) = true) : y = true := by cases x <;> simp_all
mutual
theorem Rep.del {ys : List V} (h : G a = some (.lst ys)) : ∀ {v : V} {d : Dt}, Rep K G v d → noL d = true → Rep K (delH G a) v d
  | _, _, .non, _ => .non
  | _, _, .bl b, _ => .bl b
  | _, _, .int i, _ => .int i
  | _, _, .str x, _ => .str x
  | _, _, .ty n, _ => .ty n
  | _, _, .ref a, _ => .ref a
  | _, _, .lst _ _, n => by simp [noL] at n
  | _, _, .scr _, n => by simp [noL] at n
  | _, _, .tup q r, n => .tup (del_ob h q nofun) (Reps.del h r (by simpa only [noL] using n))
  | _, _, .obj q r, n => .obj (del_ob h q nofun) (RepF.del h r (by simpa only [noL] using n))
  | _, _, .dK q r, n => .dK (del_ob h q nofun) (RepK.del h r (by simpa only [noL] using n))
  | _, _, .dT q r, n => .dT (del_ob h q nofun) (RepT.del h r (by simpa only [noL] using n))
  | _, _, .exc q r, n => .exc (del_ob h q (fun zs e => by unfold ExK at e; cases e)) (RepX.del h r (by simpa only [noL] using n))
  | _, _, .at_ r, n => .at_ (Rep.del h r (by simpa only [noL] using n))
theorem Reps.del {ys : List V} (h : G a = some (.lst ys)) : ∀ {v : List V} {d : List Dt}, Reps K G v d → noLs d = true → Reps K (delH G a) v d
  | _, _, .nil, _ => .nil
  | _, _, .cons q r, n => .cons (Rep.del h q (and_l (by simpa only [noLs] using n))) (Reps.del h r (and_r (by simpa only [noLs] using n)))
theorem RepF.del {ys : List V} (h : G a = some (.lst ys)) : ∀ {v : List (Str × V)} {d : List (Str × Dt)}, RepF K G v d → noLf d = true → RepF K (delH G a) v d
  | _, _, .nil, _ => .nil
  | _, _, .cons q r, n => .cons (Rep.del h q (and_l (by simpa only [noLf] using n))) (RepF.del h r (and_r (by simpa only [noLf] using n)))
theorem RepK.del {ys : List V} (h : G a = some (.lst ys)) : ∀ {v : List (Key × V)} {d : List (Key × Dt)}, RepK K G v d → noLk d = true → RepK K (delH G a) v d
  | _, _, .nil, _ => .nil
  | _, _, .cons q r, n => .cons (Rep.del h q (and_l (by simpa only [noLk] using n))) (RepK.del h r (and_r (by simpa only [noLk] using n)))
theorem RepT.del {ys : List V} (h : G a = some (.lst ys)) : ∀ {v : List (List Key × V)} {d : List (List Key × Dt)}, RepT K G v d → noLt d = true → RepT K (delH G a) v d
  | _, _, .nil, _ => .nil
  | _, _, .cons q r, n => .cons (Rep.del h q (and_l (by simpa only [noLt] using n))) (RepT.del h r (and_r (by simpa only [noLt] using n)))
theorem RepX.del {ys : List V} (h : G a = some (.lst ys)) : ∀ {v : Option Addr} {d : List (Str × Dt)}, RepX K G v d → noLf d = true → RepX K (delH G a) v d
  | _, _, .none, _ => .none
  | _, _, .some q r, n => .some (del_ob h q nofun) (RepF.del h r n)
end
end
mutual
/-- a slot without lists in what it holds -/
def noS : Sl → Prop
  | .fr d => noL d = true
  | .ol _ ds => noLs ds = true
  | .os _ φ => ∀ ds, φ ds → noLs ds = true
  | .oK _ kvs => noLk kvs = true
  | .oT _ kvs => noLt kvs = true
  | .oo _ _ fs => noSf fs
  | .ex _ _ _ fs => noLf fs = true
def noSf : List (Str × Sl) → Prop
  | [] => True
  | (_, s) :: r => noS s ∧ noSf r
end
section
variable {K : PySem.W.Frag} {G H : Hp} {a : Addr}
mutual
theorem Own.del {ys : List V} (h : G a = some (.lst ys)) : ∀ {v : V} {s : Sl}, Own K G H v s → noS s → Own K (delH G a) H v s
  | _, _, .fr r, n => .fr (r.del h (by simpa only [noS] using n))
  | _, _, .ol q r, n => .ol q (r.del h (by simpa only [noS] using n))
  | _, _, .os q r p, n => .os q (r.del h ((by simpa only [noS] using n : ∀ ds, _ → noLs ds = true) _ p)) p
  | _, _, .oK q r, n => .oK q (r.del h (by simpa only [noS] using n))
  | _, _, .oT q r, n => .oT q (r.del h (by simpa only [noS] using n))
  | _, _, .oo q r, n => .oo q (OwnF.del h r (by simpa only [noS] using n))
  | _, _, .ex r, n => .ex (r.del h (by simpa only [noS] using n))
theorem OwnF.del {ys : List V} (h : G a = some (.lst ys)) : ∀ {v : List (Str × V)} {s : List (Str × Sl)}, OwnF K G H v s → noSf s → OwnF K (delH G a) H v s
  | _, _, .nil, _ => .nil
  | _, _, .cons q r, n => .cons (Own.del h q (by simp only [noSf] at n; exact n.1)) (OwnF.del h r (by simp only [noSf] at n; exact n.2))
end
theorem Slots.of : ∀ {σ : St} {Γ : Gm}, σ.length = Γ.length → (∀ (j : Nat) (s : Sl), Γ[j]? = some (some s) → ∃ v, σ[j]? = some (some v) ∧ Own K G H v s) → Slots K G H σ Γ
  | [], [], _, _ => .nil
  | [], _ :: _, h, _ => by simp at h
  | _ :: _, [], h, _ => by simp at h
  | x :: σ, none :: Γ, h, p => .no (Slots.of (by simpa using h) fun j s e => by simpa using p (j + 1) s (by simpa using e))
  | x :: σ, some s :: Γ, h, p => by
    obtain ⟨v, e, o⟩ := p 0 s rfl
    have e' : x = some v := by simpa using e
    subst e'
    exact .yes o (Slots.of (by simpa using h) fun j s e => by simpa using p (j + 1) s (by simpa using e))
end
/-- the slots behind the lending: the same frozen things, or things without lists -/
def Keep (Γ Γ2 : Gm) : Prop := ∀ (j : Nat) (s : Sl), Γ2[j]? = some (some s) → noS s ∨ ∃ d, s = .fr d ∧ Γ[j]? = some (some (.fr d))
section
variable {K : PySem.W.Frag} {W : WX} {Γ Γ2 : Gm} {X : XP} {P : Dt → Gm → Prop} {te : TE} {i : Nat} {a : Addr} {xs : List Dt} {O G H G1 G2 H2 : Hp} {σ : St}
theorem Sta.lent (S : Sta K O G H σ Γ) (hi : Γ[i]? = some (some (.ol a xs))) (s1 : Same G G1) (S1 : Sta K O G1 H σ (Γ.set i (some (.fr (.lst xs))))) (s2 : Same G1 G2) (S2 : Sta K O G2 H2 σ Γ2) (h2 : Γ2[i]? = some (some (.fr (.lst xs)))) (k : Keep (Γ.set i (some (.fr (.lst xs)))) Γ2) :
    Same G (delH G2 a) ∧ Sta K O (delH G2 a) H2 σ (Γ2.set i (some (.ol a xs))) ∧ ∃ ys, G2 a = some (.lst ys) := by
  obtain ⟨v, ev, ov⟩ := S.get hi
  have il : i < Γ.length := (List.getElem?_eq_some_iff.mp hi).1
  obtain ⟨v1, ev1, r1⟩ := S1.getF (i := i) (d := .lst xs) (by rw [List.getElem?_set_self il])
  rw [ev] at ev1
  obtain rfl : v = v1 := Option.some.inj (Option.some.inj ev1)
  have na : G a = none := S.ng a (mem_fps hi a (by simp [Sl.fp]))
  have oa : O a = none := S.no a (mem_fps hi a (by simp [Sl.fp]))
  cases ov with
  | @ol _ ys _ ha ry =>
  cases r1 with
  | @lst _ zs _ ga rz =>
  have e1 : zs = ys := by
    have := S1.g a _ ga
    rw [ha] at this
    cases this
    rfl
  subst e1
  have g2 : G2 a = some (.lst zs) := s2 a _ ga
  have sd : Same G (delH G2 a) := fun b o q => by
    rw [delH_ne (fun e => by subst e; rw [na] at q; cases q)]
    exact s2 b o (s1 b o q)
  refine ⟨sd, ⟨fun b o q => S2.g b o (delH_some q).2, S2.o, fun b hb => ?_, ?_, ?_, fun b hb => ?_, fun b hb => ?_, S2.om⟩, zs, g2⟩
  · by_cases e : b = a
    · subst e; exact delH_same
    · rw [delH_ne e]; exact S2.d b hb
  · refine Slots.of (by rw [List.length_set]; exact S2.sl.len) fun j s e => ?_
    by_cases hj : i = j
    · subst hj
      rw [List.getElem?_set_self (List.getElem?_eq_some_iff.mp h2).1] at e
      obtain rfl : .ol a xs = s := Option.some.inj (Option.some.inj e)
      exact ⟨_, ev, .ol (S2.g a _ g2) (ry.mono sd)⟩
    · rw [List.getElem?_set_ne hj] at e
      obtain ⟨w, ew, ow⟩ := S2.get e
      refine ⟨w, ew, ?_⟩
      rcases k j s e with n | ⟨d, rfl, ed⟩
      · exact ow.del g2 n
      · rw [List.getElem?_set_ne hj] at ed
        obtain ⟨w0, ew0, r0⟩ := S.getF ed
        rw [ew] at ew0
        obtain rfl : w = w0 := Option.some.inj (Option.some.inj ew0)
        exact .fr (r0.mono sd)
  · refine fps_set_nd i ?_
    show ([a] ++ fps Γ2).Nodup
    rw [List.nodup_append]
    refine ⟨by simp, S2.nd, fun x hx y hy e => ?_⟩
    have : x = a := by simpa using hx
    subst this
    subst e
    rw [S2.ng x hy] at g2
    cases g2
  · by_cases e : b = a
    · subst e; exact delH_same
    · rw [delH_ne e]
      rcases fps_set_sub i b hb with z | z
      · simp [fpO, Sl.fp] at z; exact absurd z e
      · exact S2.ng b z
  · rcases fps_set_sub i b hb with z | z
    · simp [fpO, Sl.fp] at z; subst z; exact oa
    · exact S2.no b z
/-- what is asked behind the lending -/
def LendK (Γ Γ2 : Gm) (i : Nat) (a : Addr) (xs : List Dt) (N : Prop) (Q : Gm → Prop) : Prop := (N ∧ Γ2[i]? = some (some (.fr (.lst xs))) ∧ Keep Γ Γ2) ∧ Q (Γ2.set i (some (.ol a xs)))
theorem ev_lend (hi : Γ[i]? = some (some (.ol a xs))) (h : Ev K W te (Γ.set i (some (.fr (.lst xs)))) (fun z Γ2 => LendK (Γ.set i (some (.fr (.lst xs)))) Γ2 i a xs (noL z = true) (P z)) (fun C fs Γ2 => LendK (Γ.set i (some (.fr (.lst xs)))) Γ2 i a xs (noLf fs = true) (X C fs))) : Ev K W (tLend i te) Γ P X := fun O G H σ Q S q x => by
  obtain ⟨G1, s1, S1⟩ := S.frzAt hi (.ol a xs)
  refine h O G1 H σ Q S1 (fun v G2 H2 Γ2 d s2 S2 r hl => ?_) (fun C d fs G2 H2 Γ2 s2 S2 r hl => ?_)
  · obtain ⟨⟨n, h2, k⟩, p⟩ := hl
    obtain ⟨sd, S3, ys, g2⟩ := S.lent hi s1 S1 s2 S2 h2 k
    exact q v _ H2 _ d sd S3 (r.del g2 n) p
  · obtain ⟨⟨n, h2, k⟩, p⟩ := hl
    obtain ⟨sd, S3, ys, g2⟩ := S.lent hi s1 S1 s2 S2 h2 k
    exact x C d fs _ H2 _ sd S3 (r.del g2 n) p
theorem mkLend {X : Cx} {e : Expr} (i : Nat) (h : PE X e te) : PE X e (tLend i te) := h
/-! ### the driver -/
class YesC (p : Prop) : Prop where
  h : p
class KeepC (Γ Γ2 : Gm) : Prop where
  h : Keep Γ Γ2
class KpC (x y : Option Sl) : Prop where
  h : ∀ s, y = some s → noS s ∨ ∃ d, s = .fr d ∧ x = some (.fr d)
instance : KeepC [] [] := ⟨fun j s e => by simp at e⟩
instance {x y : Option Sl} [h : KpC x y] [t : KeepC Γ Γ2] : KeepC (x :: Γ) (y :: Γ2) := ⟨fun j s e => by
  cases j with
  | zero =>
    have e' : y = some s := by simpa using e
    rcases h.h s e' with n | ⟨d, e1, e2⟩
    · exact .inl n
    · exact .inr ⟨d, e1, by simpa using e2⟩
  | succ j =>
    rcases t.h j s (by simpa using e) with n | ⟨d, e1, e2⟩
    · exact .inl n
    · exact .inr ⟨d, e1, by simpa using e2⟩⟩
instance {x : Option Sl} : KpC x none := ⟨fun s e => by cases e⟩
instance (priority := high) {d : Dt} : KpC (some (.fr d)) (some (.fr d)) := ⟨fun s e => by cases e; exact .inr ⟨d, rfl, rfl⟩⟩
instance (priority := low) {x : Option Sl} {s : Sl} [h : YesC (noS s)] : KpC x (some s) := ⟨fun s' e => by cases e; exact .inl h.h⟩
instance {d : Dt} [h : YesC (noL d = true)] : YesC (noS (.fr d)) := ⟨by simp only [noS]; exact h.h⟩
instance {ds : List Dt} [h : YesC (noLs ds = true)] : YesC (noS (.ol a ds)) := ⟨by simp only [noS]; exact h.h⟩
instance {C : Addr} {d : Option Addr} {fs : List (Str × Dt)} [h : YesC (noLf fs = true)] : YesC (noS (.ex a C d fs)) := ⟨by simp only [noS]; exact h.h⟩
instance : YesC (noS (.os a St4)) := ⟨by
  simp only [noS]
  rintro ds ⟨i, j, k, l, rfl⟩
  simp [noLs, noL]⟩
instance {n : Int} : YesC (noL (.int n) = true) := ⟨by simp [noL]⟩
instance {n : Bool} : YesC (noL (.bl n) = true) := ⟨by simp [noL]⟩
instance {n : Str} : YesC (noL (.str n) = true) := ⟨by simp [noL]⟩
instance : YesC (noL .non = true) := ⟨by simp [noL]⟩
instance {n : String} : YesC (noL (.ty n) = true) := ⟨by simp [noL]⟩
instance {ds : List Dt} [h : YesC (noLs ds = true)] : YesC (noL (.tup ds) = true) := ⟨by simp only [noL]; exact h.h⟩
instance {C : Addr} {fs : List (Str × Dt)} [h : YesC (noLf fs = true)] : YesC (noL (.obj C fs) = true) := ⟨by simp only [noL]; exact h.h⟩
instance : YesC (noLs [] = true) := ⟨by simp [noLs]⟩
instance {d : Dt} {ds : List Dt} [h : YesC (noL d = true)] [t : YesC (noLs ds = true)] : YesC (noLs (d :: ds) = true) := ⟨by simp only [noLs, h.h, t.h]; rfl⟩
instance : YesC (noLf [] = true) := ⟨by simp [noLf]⟩
instance {f : Str} {d : Dt} {ds : List (Str × Dt)} [h : YesC (noL d = true)] [t : YesC (noLf ds = true)] : YesC (noLf ((f, d) :: ds) = true) := ⟨by simp only [noLf, h.h, t.h]; rfl⟩
theorem noLs_map {α : Type} {f : α → Dt} (h : ∀ x, noL (f x) = true) : ∀ l : List α, noLs (l.map f) = true
  | [] => by simp [noLs]
  | x :: l => by rw [List.map_cons]; simp only [noLs, h x, noLs_map h l]; rfl
instance {l : List Int} : YesC (noLs (l.map Dt.int) = true) := ⟨noLs_map (fun _ => by simp [noL]) l⟩
instance {l : List Str} : YesC (noLs (l.map Dt.str) = true) := ⟨noLs_map (fun _ => by simp [noL]) l⟩
instance {N : Prop} {Q : Gm → Prop} {Γ3 : Gm} [n : YesC N] [t : At Γ2 i (.fr (.lst xs))] [k : KeepC Γ Γ2] [s : SetG Γ2 i (some (.ol a xs)) Γ3] : Wk (LendK Γ Γ2 i a xs N Q) (Q Γ3) := ⟨fun q => ⟨⟨n.h, t.h, k.h⟩, by rw [s.h]; exact q⟩⟩
instance {Γ' : Gm} [t : At Γ i (.ol a xs)] [s : SetG Γ i (some (.fr (.lst xs))) Γ'] : Wk (Ev K W (tLend i te) Γ P X) (Ev K W te Γ' (fun z Γ2 => LendK Γ' Γ2 i a xs (noL z = true) (P z)) (fun C fs Γ2 => LendK Γ' Γ2 i a xs (noLf fs = true) (X C fs))) := ⟨fun h => ev_lend t.h (by rw [s.h]; exact h)⟩
instance {d : Dt} [t : At Γ i (.fr d)] : Wk (Ev K W (tLend i te) Γ P X) (Ev K W te Γ P X) := ⟨fun h => h⟩
end
end DL

/-! DL, part ze: new lists of one's own by list(x) and by slices; list(x) of one's own list. -/
namespace DL
open PySem PySem.Spec L2
section
variable {K : PySem.W.Frag} {W : WX} {Γ : Gm} {X : XP} {P : Dt → Gm → Prop} {PO : Sl → Gm → Prop} {te : TE} {i : Nat} {a : Addr} {ds : List Dt}
def SeqP (d : Dt) (Q : List Dt → Prop) : Prop := ∃ xs, (d = .lst xs ∨ d = .tup xs) ∧ Q xs
instance {xs : List Dt} {Q : List Dt → Prop} : Wk (SeqP (.lst xs) Q) (Q xs) := ⟨fun h => ⟨xs, .inl rfl, h⟩⟩
instance {xs : List Dt} {Q : List Dt → Prop} : Wk (SeqP (.tup xs) Q) (Q xs) := ⟨fun h => ⟨xs, .inr rfl, h⟩⟩
theorem evo_list (h : Ev K W te Γ (fun d Γ1 => SeqP d fun xs => ∀ a, PO (.ol a xs) Γ1) X) : EvO K W (tCB (rListP K) (tCons te tNil)) Γ PO X := fun O G H σ Q S0 q x =>
  h O G H σ _ S0 (fun v G1 H1 Γ1 d s1 S1 r1 hh => by
    obtain ⟨ds, e, hP⟩ := hh
    rcases e with rfl | rfl
    · cases r1 with
      | @lst p ys _ ha rr => exact ⟨p, ys, rfl, .inl (SqL.of (S1.g _ _ ha)), fun l nl => q (.ref l) G1 _ Γ1 (.ol l ds) s1 (S1.own1 nl rfl (.ol upd_same rr)) (hP l)⟩
    · cases r1 with
      | @tup p ys _ ha rr => exact ⟨p, ys, rfl, .inr (SqT.of (S1.g _ _ ha)), fun l nl => q (.ref l) G1 _ Γ1 (.ol l ds) s1 (S1.own1 nl rfl (.ol upd_same rr)) (hP l)⟩) x
instance : Wk (EvO K W (tCB (rListP K) (tCons te tNil)) Γ PO X) (Ev K W te Γ (fun d Γ1 => SeqP d fun xs => ∀ a, PO (.ol a xs) Γ1) X) := ⟨evo_list⟩
/-- list(x) of a list of one's own, which stays so -/
theorem evo_listO (hi : Γ[i]? = some (some (.ol a ds))) (h : ∀ b, PO (.ol b ds) Γ) : EvO K W (tCB (rListP K) (tCons (tVar i) tNil)) Γ PO X := fun O G H σ Q S q x => by
  obtain ⟨v, e, o⟩ := S.get hi
  cases o with
  | @ol _ ys _ ha rr => exact ⟨_, e, a, ys, rfl, .inl (SqL.of ha), fun l nl => q (.ref l) G _ Γ (.ol l ds) (Same.refl _) (S.own1 nl rfl (.ol upd_same rr)) (h l)⟩
instance (priority := high) [t : At Γ i (.ol a ds)] : Wk (EvO K W (tCB (rListP K) (tCons (tVar i) tNil)) Γ PO X) (∀ b, PO (.ol b ds) Γ) := ⟨fun h => evo_listO t.h h⟩
instance (priority := high) [t : At Γ i (.ol a ds)] : Wk (Ev K W (tCB (rListP K) (tCons (tVar i) tNil)) Γ P X) (P (.lst ds) Γ) := ⟨fun h => ev_frz (evo_listO t.h fun b => ⟨_, .ol b ds, h⟩)⟩
theorem evo_sl {lo hi : TO} (h : Ev K W te Γ (fun d Γ1 => IsL d fun xs => EvP K W lo Γ1 (fun l Γ2 => EvP K W hi Γ2 (fun u Γ3 => ∀ a, PO (.ol a (cutD xs l u)) Γ3) X) X) X) : EvO K W (tSl (rSlP K) te lo hi) Γ PO X := fun O G H σ Q S q x =>
  h O G H σ _ S (fun v G1 H1 Γ1 d s1 S1 r ⟨xs, e, h1⟩ => h1 O G1 H1 σ _ S1 (fun l G2 H2 Γ2 s2 S2 h2 => h2 O G2 H2 σ _ S2 (fun u G3 H3 Γ3 s3 S3 h3 => by
    subst e
    have r3 := (r.mono s2).mono s3
    have s13 := (s1.trans s2).trans s3
    cases r3 with
    | lst ha rr => exact .inl ⟨_, _, rfl, SqL.of (S3.g _ _ ha), fun a na => q _ _ _ Γ3 (.ol a (cutD xs l u)) s13 (S3.own1 na rfl (.ol upd_same (cut_rep rr _ _))) (h3 a)⟩) ((x.mono s1).mono s2)) (x.mono s1)) x
instance {lo hi : TO} : Wk (EvO K W (tSl (rSlP K) te lo hi) Γ PO X) (Ev K W te Γ (fun d Γ1 => IsL d fun xs => EvP K W lo Γ1 (fun l Γ2 => EvP K W hi Γ2 (fun u Γ3 => ∀ a, PO (.ol a (cutD xs l u)) Γ3) X) X) X) := ⟨evo_sl⟩
end
end DL

/-! DD, part b: dicts by data: look-ups, stores, new ones, pinned ones. -/
namespace L2
open PySem PySem.Spec
def rSetP : V → V → V → Hp → (Hp → Prop) → Prop := fun o i v H Q => rSetL o i v H Q ∨ rDS o i v H Q
theorem set_P {X : Cx} (hu : X.A.units + 64 < cLine) : PSet X rSetP := set_list.or (set_dict (by omega))
end L2
namespace DL
open PySem PySem.Spec L2
/-! ### keys -/
class KeyOf (d : Dt) (k : outParam Key) : Prop where
  h : d = kD k
class KeysOf (ds : List Dt) (ks : outParam (List Key)) : Prop where
  h : ds = ks.map kD
instance {i : Int} : KeyOf (.int i) (.inl i) := ⟨rfl⟩
instance {i : Str} : KeyOf (.str i) (.inr i) := ⟨rfl⟩
instance {k : Key} : KeyOf (kD k) k := ⟨rfl⟩
instance : KeysOf [] [] := ⟨rfl⟩
instance {d : Dt} {ds : List Dt} {k : Key} {ks : List Key} [a : KeyOf d k] [b : KeysOf ds ks] : KeysOf (d :: ds) (k :: ks) := ⟨by rw [a.h, b.h]; rfl⟩
instance {k : List Key} : KeysOf (k.map kD) k := ⟨rfl⟩
def VA {β : Type} (o : Option β) (Q : β → Prop) : Prop := ∃ v, o = some v ∧ Q v
theorem va_of {β : Type} {o : Option β} {v : β} {Q : β → Prop} (h : o = some v) (q : Q v) : VA o Q := ⟨v, h, q⟩
section
variable {R : Dt → Prop} {y : Dt} {k : Key} {ks : List Key} {ys : List Dt} {kvs : List (Key × Dt)} {tvs : List (List Key × Dt)}
instance [a : KeyOf y k] : Wk (dIx (.dK kvs) y R) (VA (vA kvs k) R) := ⟨fun ⟨v, e, q⟩ => ⟨k, v, a.h, e, q⟩⟩
instance [a : KeysOf ys ks] : Wk (dIx (.dT tvs) (.tup ys) R) (VA (vA tvs ks) R) := ⟨fun ⟨v, e, q⟩ => ⟨ks, v, by rw [a.h], e, q⟩⟩
instance [a : KeyOf y k] : Wk (dIn false y (.dK kvs) R) (R (.bl (vA kvs k).isSome)) := ⟨fun q => ⟨k, a.h, by simpa using q⟩⟩
instance [a : KeyOf y k] : Wk (dIn true y (.dK kvs) R) (R (.bl (!(vA kvs k).isSome))) := ⟨fun q => ⟨k, a.h, by simpa using q⟩⟩
instance [a : KeysOf ys ks] : Wk (dIn false (.tup ys) (.dT tvs) R) (R (.bl (vA tvs ks).isSome)) := ⟨fun q => ⟨ks, by rw [a.h], by simpa using q⟩⟩
instance [a : KeysOf ys ks] : Wk (dIn true (.tup ys) (.dT tvs) R) (R (.bl (!(vA tvs ks).isSome))) := ⟨fun q => ⟨ks, by rw [a.h], by simpa using q⟩⟩
instance : Wk (dLen [.dK kvs] R) (R (.int kvs.length)) := ⟨fun h => h⟩
instance : Wk (dLen [.dT tvs] R) (R (.int tvs.length)) := ⟨fun h => h⟩
instance {Q : List Dt → Prop} : Wk (SeqQ (.dK kvs) Q) (Q (kvs.map fun p => kD p.1)) := ⟨fun q => ⟨_, .dK kvs, q⟩⟩
instance {Q : List Dt → Prop} : Wk (SeqQ (.dT tvs) Q) (Q (tvs.map fun p => kDs p.1)) := ⟨fun q => ⟨_, .dT tvs, q⟩⟩
end
/-! ### a slot's own thing is changed -/
section
variable {K : PySem.W.Frag} {W : WX} {Γ Γ' : Gm} {X : XP} {P : Dt → Gm → Prop} {PO : Sl → Gm → Prop} {te ta tb ti tv : TE} {i j : Nat} {nx : Gm → Prop} {rt : Sl → Gm → Prop} {xc : XP} {bk ct : Gm → Prop} {a : Addr}
theorem set_here {σ : St} {v : V} (ev : σ[i]? = some (some v)) : σ.set i (some v) = σ := by
  apply List.ext_getElem?
  intro j
  rw [List.getElem?_set]
  by_cases hj : i = j
  · subst hj
    have il : i < σ.length := by
      rcases Nat.lt_or_ge i σ.length with z | z
      · exact z
      · rw [List.getElem?_eq_none z] at ev; cases ev
    rw [if_pos rfl, ev, if_pos il]
  · rw [if_neg hj]
theorem Sta.mutS2 {O G H : Hp} {σ : St} {v v2 : V} {s s2 s' : Sl} {ob : HO} (S : Sta K O G H (some v2 :: σ) (some s2 :: Γ)) (hi : Γ[i]? = some (some s)) (ev : σ[i]? = some (some v)) (ma : a ∈ s.fp) (hf : ∀ b ∈ s'.fp, b ∈ s.fp ∨ b ∈ s2.fp) (nd : s'.fp.Nodup) (ow : Own K G (upd H a ob) v s') :
    Sta K O G (upd H a ob) σ (Γ.set i (some s')) := by
  have T := S.tail
  have sub : ∀ b, b ∈ s.fp ∨ b ∈ s2.fp → G b = none ∧ O b = none ∧ b ∉ fps (Γ.set i none) := fun b hb => by
    rcases hb with hb | hb
    · exact ⟨T.ng b (mem_fps hi b hb), T.no b (mem_fps hi b hb), (fps_part hi T.nd).2 b hb⟩
    · refine ⟨S.ng b (by simp [fps, fpO, hb]), S.no b (by simp [fps, fpO, hb]), fun z => ?_⟩
      have nd := S.nd
      simp only [fps, fpO] at nd
      rcases fps_set_sub i b z with w | w
      · simp [fpO] at w
      · exact (List.nodup_append.mp nd).2.2 b hb b w rfl
  obtain ⟨ga, oa, na⟩ := sub a (.inl ma)
  have Sf := T.forget i (some v)
  rw [set_here ev] at Sf
  have T1 : Sta K O G (upd H a ob) σ (Γ.set i none) := by
    refine ⟨fun b u q => ?_, fun b u q => ?_, Sf.d, Sf.sl.mono (Same.refl _) fun b hb u q => ?_, Sf.nd, Sf.ng, Sf.no, Sf.om⟩
    · rw [upd_ne (ne_of_none q ga)]; exact S.g b u q
    · rw [upd_ne (ne_of_none q oa)]; exact S.o b u q
    · rw [upd_ne (fun z : b = a => na (by rw [← z]; exact hb))]; exact q
  have T2 := (T1.push ow nd (fun b hb => (sub b (hf b hb)).1) (fun b hb => (sub b (hf b hb)).2.1) (fun b hb => (sub b (hf b hb)).2.2)).put i
  rw [set_here ev, List.set_set] at T2
  exact T2
theorem Sta.mutS {O G H : Hp} {σ : St} {v : V} {s s' : Sl} {ob : HO} (S : Sta K O G H σ Γ) (hi : Γ[i]? = some (some s)) (ev : σ[i]? = some (some v)) (ma : a ∈ s.fp) (hf : ∀ b ∈ s'.fp, b ∈ s.fp) (nd : s'.fp.Nodup) (ow : Own K G (upd H a ob) v s') :
    Sta K O G (upd H a ob) σ (Γ.set i (some s')) := (S.pushF (v := .non) .non).mutS2 hi ev ma (fun b hb => .inl (hf b hb)) nd ow
/-! ### dicts of one's own -/
def OwnK (Γ : Gm) (i : Nat) (Q : Addr → List (Key × Dt) → Prop) : Prop := ∃ a kvs, Γ[i]? = some (some (.oK a kvs)) ∧ Q a kvs
def OwnT (Γ : Gm) (i : Nat) (Q : Addr → List (List Key × Dt) → Prop) : Prop := ∃ a kvs, Γ[i]? = some (some (.oT a kvs)) ∧ Q a kvs
instance {kvs : List (Key × Dt)} {Q : Addr → List (Key × Dt) → Prop} [h : At Γ i (.oK a kvs)] : Wk (OwnK Γ i Q) (Q a kvs) := ⟨fun q => ⟨a, kvs, h.h, q⟩⟩
instance {kvs : List (List Key × Dt)} {Q : Addr → List (List Key × Dt) → Prop} [h : At Γ i (.oT a kvs)] : Wk (OwnT Γ i Q) (Q a kvs) := ⟨fun q => ⟨a, kvs, h.h, q⟩⟩
instance (priority := high) {v : Option Sl} {Q : Addr → List (Key × Dt) → Prop} [h : SetG Γ j v Γ'] : Wk (OwnK (Γ.set j v) i Q) (OwnK Γ' i Q) := ⟨fun q => by rw [h.h]; exact q⟩
instance (priority := high) {v : Option Sl} {Q : Addr → List (List Key × Dt) → Prop} [h : SetG Γ j v Γ'] : Wk (OwnT (Γ.set j v) i Q) (OwnT Γ' i Q) := ⟨fun q => by rw [h.h]; exact q⟩
/-- looking at a dict of one's own: the operation r, at data ρ -/
theorem look_K {O G H : Hp} {σ : St} {kvs : List (Key × Dt)} (S : Sta K O G H σ Γ) (hi : Γ[i]? = some (some (.oK a kvs))) : ∃ xs, σ[i]? = some (some (.ref a)) ∧ H a = some (.dK xs) ∧ RepK K G xs kvs := by
  obtain ⟨v, e, o⟩ := S.get hi
  cases o with
  | oK h r => exact ⟨_, e, h, r⟩
theorem look_T {O G H : Hp} {σ : St} {kvs : List (List Key × Dt)} (S : Sta K O G H σ Γ) (hi : Γ[i]? = some (some (.oT a kvs))) : ∃ xs, σ[i]? = some (some (.ref a)) ∧ H a = some (.dT xs) ∧ RepT K G xs kvs := by
  obtain ⟨v, e, o⟩ := S.get hi
  cases o with
  | oT h r => exact ⟨_, e, h, r⟩
theorem ev_ixK {kv0 : List (Key × Dt)} (hi : Γ[i]? = some (some (.oK a kv0))) (h : Ev K W te Γ (fun y Γ1 => OwnK Γ1 i fun _ kvs => dIx (.dK kvs) y fun z => P z Γ1) X) : Ev K W (tOp (rIxP K) (tVar i) te) Γ P X := fun O G H σ Q S q x => by
  obtain ⟨x0, e0, _⟩ := look_K S hi
  refine ⟨_, e0, h O G H σ _ S (fun v G1 H1 Γ1 d s1 S1 r ⟨a', kvs, hg, k, u, ey, hv, p⟩ => ?_) x⟩
  obtain ⟨xs, e1, h1, r1⟩ := look_K S1 hg
  rw [e0] at e1
  cases e1
  subst ey
  rw [kD_inj r]
  obtain ⟨w, ew, rw'⟩ := (r1.get k).1 u hv
  exact .inr ⟨a, w, rfl, by rw [← ew]; exact dget_K (ds := []) (.inl h1), q w G1 H1 Γ1 u s1 S1 rw' p⟩
theorem ev_ixT {kv0 : List (List Key × Dt)} (hi : Γ[i]? = some (some (.oT a kv0))) (h : Ev K W te Γ (fun y Γ1 => OwnT Γ1 i fun _ kvs => dIx (.dT kvs) y fun z => P z Γ1) X) : Ev K W (tOp (rIxP K) (tVar i) te) Γ P X := fun O G H σ Q S q x => by
  obtain ⟨x0, e0, _⟩ := look_T S hi
  refine ⟨_, e0, h O G H σ _ S (fun v G1 H1 Γ1 d s1 S1 r ⟨a', kvs, hg, k, u, ey, hv, p⟩ => ?_) x⟩
  obtain ⟨xs, e1, h1, r1⟩ := look_T S1 hg
  rw [e0] at e1
  cases e1
  subst ey
  obtain ⟨w, ew, rw'⟩ := (r1.get k).1 u hv
  cases r with
  | @tup b ys _ hb rb =>
    rw [reps_kD rb] at hb
    exact .inr ⟨a, w, rfl, by rw [← ew]; exact dget_T (.inl h1) (S1.g _ _ hb), q w G1 H1 Γ1 u s1 S1 rw' p⟩
theorem ev_inK {neg : Bool} {kv0 : List (Key × Dt)} (hi : Γ[i]? = some (some (.oK a kv0))) (h : Ev K W te Γ (fun y Γ1 => OwnK Γ1 i fun _ kvs => dIn neg y (.dK kvs) fun z => P z Γ1) X) : Ev K W (tOp (if neg then rNotInP K else rInP K) te (tVar i)) Γ P X := fun O G H σ Q S q x => by
  refine h O G H σ _ S (fun v G1 H1 Γ1 d s1 S1 r ⟨a', kvs, hg, k, ey, p⟩ => ?_) x
  obtain ⟨xs, e1, h1, r1⟩ := look_K S1 hg
  subst ey
  rw [kD_inj r]
  obtain ⟨g1, g2⟩ := r1.get k
  have z : rDI neg (kV k) (.ref a') H1 Q := ⟨a', _, rfl, dget_K (ds := []) (.inl h1), by rw [isSome_val g1 g2]; exact q _ G1 H1 Γ1 _ s1 S1 (.bl _) p⟩
  refine ⟨_, e1, ?_⟩
  cases neg with
  | true => exact .inr (.inr z)
  | false => exact .inr (.inr z)
theorem ev_inT {neg : Bool} {kv0 : List (List Key × Dt)} (hi : Γ[i]? = some (some (.oT a kv0))) (h : Ev K W te Γ (fun y Γ1 => OwnT Γ1 i fun _ kvs => dIn neg y (.dT kvs) fun z => P z Γ1) X) : Ev K W (tOp (if neg then rNotInP K else rInP K) te (tVar i)) Γ P X := fun O G H σ Q S q x => by
  refine h O G H σ _ S (fun v G1 H1 Γ1 d s1 S1 r ⟨a', kvs, hg, k, ey, p⟩ => ?_) x
  obtain ⟨xs, e1, h1, r1⟩ := look_T S1 hg
  subst ey
  obtain ⟨g1, g2⟩ := r1.get k
  refine ⟨_, e1, ?_⟩
  cases r with
  | @tup b ys _ hb rb =>
    rw [reps_kD rb] at hb
    have z : rDI neg (.ref b) (.ref a') H1 Q := ⟨a', _, rfl, dget_T (.inl h1) (S1.g _ _ hb), by rw [isSome_val g1 g2]; exact q _ G1 H1 Γ1 _ s1 S1 (.bl _) p⟩
    cases neg with
    | true => exact .inr (.inr z)
    | false => exact .inr (.inr z)
instance {kvs : List (Key × Dt)} [q : At Γ i (.oK a kvs)] : Wk (Ev K W (tOp (rIxP K) (tVar i) te) Γ P X) (Ev K W te Γ (fun y Γ1 => OwnK Γ1 i fun _ kvs => dIx (.dK kvs) y fun z => P z Γ1) X) := ⟨fun h => ev_ixK q.h h⟩
instance {kvs : List (List Key × Dt)} [q : At Γ i (.oT a kvs)] : Wk (Ev K W (tOp (rIxP K) (tVar i) te) Γ P X) (Ev K W te Γ (fun y Γ1 => OwnT Γ1 i fun _ kvs => dIx (.dT kvs) y fun z => P z Γ1) X) := ⟨fun h => ev_ixT q.h h⟩
instance {kvs : List (Key × Dt)} [q : At Γ i (.oK a kvs)] : Wk (Ev K W (tOp (rInP K) te (tVar i)) Γ P X) (Ev K W te Γ (fun y Γ1 => OwnK Γ1 i fun _ kvs => dIn false y (.dK kvs) fun z => P z Γ1) X) := ⟨fun h => ev_inK (neg := false) q.h h⟩
instance {kvs : List (Key × Dt)} [q : At Γ i (.oK a kvs)] : Wk (Ev K W (tOp (rNotInP K) te (tVar i)) Γ P X) (Ev K W te Γ (fun y Γ1 => OwnK Γ1 i fun _ kvs => dIn true y (.dK kvs) fun z => P z Γ1) X) := ⟨fun h => ev_inK (neg := true) q.h h⟩
instance {kvs : List (List Key × Dt)} [q : At Γ i (.oT a kvs)] : Wk (Ev K W (tOp (rInP K) te (tVar i)) Γ P X) (Ev K W te Γ (fun y Γ1 => OwnT Γ1 i fun _ kvs => dIn false y (.dT kvs) fun z => P z Γ1) X) := ⟨fun h => ev_inT (neg := false) q.h h⟩
instance {kvs : List (List Key × Dt)} [q : At Γ i (.oT a kvs)] : Wk (Ev K W (tOp (rNotInP K) te (tVar i)) Γ P X) (Ev K W te Γ (fun y Γ1 => OwnT Γ1 i fun _ kvs => dIn true y (.dT kvs) fun z => P z Γ1) X) := ⟨fun h => ev_inT (neg := true) q.h h⟩
theorem ev_lenK {kvs : List (Key × Dt)} (hi : Γ[i]? = some (some (.oK a kvs))) (p : P (.int kvs.length) Γ) : Ev K W (tCB (rLenP K) (tCons (tVar i) tNil)) Γ P X := fun O G H σ Q S q x => by
  obtain ⟨xs, e1, h1, r1⟩ := look_K S hi
  exact ⟨_, e1, .inr ⟨a, rfl, .inl ⟨xs, .inl h1, q _ G H Γ _ (Same.refl _) S (.int _) (by rw [r1.length]; exact p)⟩⟩⟩
theorem ev_lenT {kvs : List (List Key × Dt)} (hi : Γ[i]? = some (some (.oT a kvs))) (p : P (.int kvs.length) Γ) : Ev K W (tCB (rLenP K) (tCons (tVar i) tNil)) Γ P X := fun O G H σ Q S q x => by
  obtain ⟨xs, e1, h1, r1⟩ := look_T S hi
  exact ⟨_, e1, .inr ⟨a, rfl, .inr ⟨xs, .inl h1, q _ G H Γ _ (Same.refl _) S (.int _) (by rw [r1.length]; exact p)⟩⟩⟩
instance {kvs : List (Key × Dt)} [q : At Γ i (.oK a kvs)] : Wk (Ev K W (tCB (rLenP K) (tCons (tVar i) tNil)) Γ P X) (P (.int kvs.length) Γ) := ⟨fun h => ev_lenK q.h h⟩
instance {kvs : List (List Key × Dt)} [q : At Γ i (.oT a kvs)] : Wk (Ev K W (tCB (rLenP K) (tCons (tVar i) tNil)) Γ P X) (P (.int kvs.length) Γ) := ⟨fun h => ev_lenT q.h h⟩
/-! ### d[k] = v -/
class HasV (Γ : Gm) (i : Nat) : Prop where
  h : ∃ s, Γ[i]? = some (some s)
theorem g_subL {a : Addr} {ds : List Dt} (h : Ev K W te Γ (fun v Γ1 => OwnL Γ1 i fun _ _ => Ev K W ti Γ1 (fun y Γ2 => IsI y fun k => OwnL Γ2 i fun a ds => ∃ j, ixN ds.length k = some j ∧ nx (Γ2.set i (some (.ol a (ds.set j v))))) xc) xc) :
    Go K W (tAsg te (gSub (tVar i) ti rSetP)) Γ ⟨nx, rt, xc, bk, ct⟩ := fun O G H σ D S a b c d e =>
  h O G H σ _ S (fun v G1 H1 Γ1 dv s1 S1 r ⟨a1, ds1, hg1, h2⟩ => by
    obtain ⟨v1, e1, _⟩ := S1.get hg1
    refine ⟨v1, e1, h2 O G1 H1 σ _ S1 (fun w G2 H2 Γ2 dw s2 S2 r2 ⟨k, ek, a2, ds2, hg2, j, hj, p⟩ => ?_) ((e σ).mono s1)⟩
    subst ek
    cases r2
    obtain ⟨v2, e2, o2⟩ := S2.get hg2
    rw [e1] at e2
    obtain rfl : v1 = v2 := Option.some.inj (Option.some.inj e2)
    cases o2 with
    | @ol _ xs _ hx rx =>
      refine .inl ⟨a2, xs, k, j, rfl, rfl, hx, by rw [rx.length]; exact hj, ?_⟩
      exact a G2 _ σ _ (s1.trans s2) (S2.mutS hg2 e1 (by simp [Sl.fp]) (fun b hb => by simpa [Sl.fp] using hb) (by simp [Sl.fp]) (.ol upd_same (rx.set j (r.mono s2)))) p) (e σ)
theorem g_subK (h : Ev K W te Γ (fun v Γ1 => OwnK Γ1 i fun _ _ => Ev K W ti Γ1 (fun y Γ2 => OwnK Γ2 i fun a kvs => ∃ k, y = kD k ∧ Side (kvs.length < 1000000) (nx (Γ2.set i (some (.oK a (pA kvs k v)))))) xc) xc) :
    Go K W (tAsg te (gSub (tVar i) ti rSetP)) Γ ⟨nx, rt, xc, bk, ct⟩ := fun O G H σ D S a b c d e =>
  h O G H σ _ S (fun v G1 H1 Γ1 dv s1 S1 r ⟨a1, ds1, hg1, h2⟩ => by
    obtain ⟨v1, e1, _⟩ := S1.get hg1
    refine ⟨v1, e1, h2 O G1 H1 σ _ S1 (fun w G2 H2 Γ2 dw s2 S2 r2 ⟨a2, kvs, hg2, k, ek, hl, p⟩ => ?_) ((e σ).mono s1)⟩
    subst ek
    obtain ⟨xs, e2, hx, rx⟩ := look_K S2 hg2
    rw [e1] at e2
    cases e2
    rw [kD_inj r2]
    refine .inr ⟨a2, _, rfl, .inl ⟨xs, k, hx, rfl, by rw [rx.length]; exact Nat.lt_of_lt_of_le hl (by decide), rfl⟩, ?_⟩
    exact a G2 _ σ _ (s1.trans s2) (S2.mutS hg2 e1 (by simp [Sl.fp]) (fun b hb => by simpa [Sl.fp] using hb) (by simp [Sl.fp]) (.oK upd_same (rx.put k (r.mono s2)))) p) (e σ)
theorem g_subT (h : Ev K W te Γ (fun v Γ1 => OwnT Γ1 i fun _ _ => Ev K W ti Γ1 (fun y Γ2 => OwnT Γ2 i fun a kvs => ∃ k, y = kDs k ∧ Side (kvs.length < 1000000) (nx (Γ2.set i (some (.oT a (pA kvs k v)))))) xc) xc) :
    Go K W (tAsg te (gSub (tVar i) ti rSetP)) Γ ⟨nx, rt, xc, bk, ct⟩ := fun O G H σ D S a b c d e =>
  h O G H σ _ S (fun v G1 H1 Γ1 dv s1 S1 r ⟨a1, ds1, hg1, h2⟩ => by
    obtain ⟨v1, e1, _⟩ := S1.get hg1
    refine ⟨v1, e1, h2 O G1 H1 σ _ S1 (fun w G2 H2 Γ2 dw s2 S2 r2 ⟨a2, kvs, hg2, k, ek, hl, p⟩ => ?_) ((e σ).mono s1)⟩
    subst ek
    obtain ⟨xs, e2, hx, rx⟩ := look_T S2 hg2
    rw [e1] at e2
    cases e2
    cases r2 with
    | @tup b ys _ hb rb =>
      rw [reps_kD rb] at hb
      refine .inr ⟨a2, _, rfl, .inr ⟨xs, k, b, hx, rfl, S2.g _ _ hb, by rw [rx.length]; exact Nat.lt_of_lt_of_le hl (by decide), rfl⟩, ?_⟩
      exact a G2 _ σ _ (s1.trans s2) (S2.mutS hg2 e1 (by simp [Sl.fp]) (fun b hb => by simpa [Sl.fp] using hb) (by simp [Sl.fp]) (.oT upd_same (rx.put k (r.mono s2)))) p) (e σ)
def KeyQ (y : Dt) (Q : Key → Prop) : Prop := ∃ k, y = kD k ∧ Q k
def KeysQ (y : Dt) (Q : List Key → Prop) : Prop := ∃ k, y = kDs k ∧ Q k
instance {y : Dt} {k : Key} {Q : Key → Prop} [h : KeyOf y k] : Wk (KeyQ y Q) (Q k) := ⟨fun q => ⟨k, h.h, q⟩⟩
instance {ys : List Dt} {k : List Key} {Q : List Key → Prop} [h : KeysOf ys k] : Wk (KeysQ (.tup ys) Q) (Q k) := ⟨fun q => ⟨k, by rw [h.h], q⟩⟩
instance {ds : List Dt} [q : At Γ i (.ol a ds)] : Wk (Go K W (tAsg te (gSub (tVar i) ti rSetP)) Γ ⟨nx, rt, xc, bk, ct⟩) (Ev K W te Γ (fun v Γ1 => OwnL Γ1 i fun _ _ => Ev K W ti Γ1 (fun y Γ2 => IsI y fun k => OwnL Γ2 i fun a ds => ∃ j, ixN ds.length k = some j ∧ nx (Γ2.set i (some (.ol a (ds.set j v))))) xc) xc) := ⟨fun h => g_subL (a := a) (ds := ds) h⟩
instance {kvs : List (Key × Dt)} [q : At Γ i (.oK a kvs)] : Wk (Go K W (tAsg te (gSub (tVar i) ti rSetP)) Γ ⟨nx, rt, xc, bk, ct⟩) (Ev K W te Γ (fun v Γ1 => OwnK Γ1 i fun _ _ => Ev K W ti Γ1 (fun y Γ2 => OwnK Γ2 i fun a kvs => KeyQ y fun k => Side (kvs.length < 1000000) (nx (Γ2.set i (some (.oK a (pA kvs k v)))))) xc) xc) := ⟨fun h => g_subK h⟩
instance {kvs : List (List Key × Dt)} [q : At Γ i (.oT a kvs)] : Wk (Go K W (tAsg te (gSub (tVar i) ti rSetP)) Γ ⟨nx, rt, xc, bk, ct⟩) (Ev K W te Γ (fun v Γ1 => OwnT Γ1 i fun _ _ => Ev K W ti Γ1 (fun y Γ2 => OwnT Γ2 i fun a kvs => KeysQ y fun k => Side (kvs.length < 1000000) (nx (Γ2.set i (some (.oT a (pA kvs k v)))))) xc) xc) := ⟨fun h => g_subT h⟩
/-! ### {} -/
theorem evo_newK (h : ∀ a, PO (.oK a []) Γ) : EvO K W tDNewK Γ PO X := fun O G H σ Q S q x => fun p np => q (.ref p) G _ Γ (.oK p []) (Same.refl _) (S.own1 np rfl (.oK upd_same .nil)) (h p)
theorem evo_newT (h : ∀ a, PO (.oT a []) Γ) : EvO K W tDNewT Γ PO X := fun O G H σ Q S q x => fun p np => q (.ref p) G _ Γ (.oT p []) (Same.refl _) (S.own1 np rfl (.oT upd_same .nil)) (h p)
instance : Wk (EvO K W tDNewK Γ PO X) (∀ a, PO (.oK a []) Γ) := ⟨evo_newK⟩
instance : Wk (EvO K W tDNewT Γ PO X) (∀ a, PO (.oT a []) Γ) := ⟨evo_newT⟩
/-! ### things of one's own are pinned and frozen -/
mutual
inductive Frz2 : Sl → Dt → Prop
  | fr (d : Dt) : Frz2 (.fr d) d
  | ol (a : Addr) (ds : List Dt) : Frz2 (.ol a ds) (.lst ds)
  | oK (a : Addr) (ds : List (Key × Dt)) : Frz2 (.oK a ds) (.dK ds)
  | oT (a : Addr) (ds : List (List Key × Dt)) : Frz2 (.oT a ds) (.dT ds)
  | oo (a C : Addr) {fs : List (Str × Sl)} {ds : List (Str × Dt)} : FrzF fs ds → Frz2 (.oo a C fs) (.obj C ds)
inductive FrzF : List (Str × Sl) → List (Str × Dt) → Prop
  | nil : FrzF [] []
  | cons {f : Str} {s : Sl} {d : Dt} {fs : List (Str × Sl)} {ds : List (Str × Dt)} : Frz2 s d → FrzF fs ds → FrzF ((f, s) :: fs) ((f, d) :: ds)
end
/-- one thing is pinned -/
theorem Sta.pin1 {O G H : Hp} {σ : St} {v : V} {s : Sl} {ob : HO} (S : Sta K O G H (some v :: σ) (some s :: Γ)) (hf : s.fp = [a]) (ob' : HO) : Same G (upd G a ob') ∧ Sta K O (upd G a ob') (upd H a ob') σ Γ := by
  have na : G a = none := S.ng a (by simp [fps, fpO, hf])
  have oa : O a = none := S.no a (by simp [fps, fpO, hf])
  have T := S.tail
  have nd := S.nd
  simp only [fps, fpO, hf] at nd
  have nf : a ∉ fps Γ := fun z => (List.nodup_append.mp nd).2.2 a (by simp) a z rfl
  have s1 : Same G (upd G a ob') := fun b o q => by rw [upd_ne (ne_of_none q na)]; exact q
  refine ⟨s1, fun b o q => ?_, fun b o q => ?_, fun b hb => ?_, T.sl.mono s1 fun b hb o q => ?_, T.nd, fun b hb => ?_, T.no, T.om⟩
  · by_cases e : b = a
    · subst e; rw [upd_same] at q ⊢; exact q
    · rw [upd_ne e] at q ⊢; exact T.g b o q
  · rw [upd_ne (ne_of_none q oa)]; exact T.o b o q
  · by_cases e : b = a
    · subst e; exact absurd oa hb
    · rw [upd_ne e]; exact T.d b hb
  · rw [upd_ne (fun z : b = a => nf (by rw [← z]; exact hb))]; exact q
  · by_cases e : b = a
    · subst e; exact absurd hb nf
    · rw [upd_ne e]; exact T.ng b hb
theorem Pins.bind {H : Hp} {Q : Hp → Prop} (h : Pins H fun H' => Pins H' Q) : Pins H Q := by
  generalize e : (fun H' => Pins H' Q) = Q1 at h
  induction h with
  | done q => rw [← e] at q; exact q
  | pin d u hd mu _ ih => exact .pin d u hd mu fun od => ih od e
mutual
theorem pin_all : ∀ {s : Sl} {d : Dt}, Frz2 s d → ∀ {O G H : Hp} {σ : St} {Γ : Gm} {v : V} {Q : Hp → Prop}, Sta K O G H (some v :: σ) (some s :: Γ) → (∀ G2 H2, Same G G2 → (∀ b, b ∉ s.fp → H2 b = H b) → Sta K O G2 H2 σ Γ → Rep K G2 v d → Q H2) → Pins H Q
  | _, _, .fr d, O, G, H, σ, Γ, v, Q, S, q => by
    have h := S.head
    cases h with | fr r => exact .done (q G H (Same.refl _) (fun _ _ => rfl) S.tail r)
  | _, _, .ol a ds, O, G, H, σ, Γ, v, Q, S, q => by
    obtain ⟨G2, s2, S2, r⟩ := S.freeze1 (.ol a ds)
    exact .done (q G2 H s2 (fun _ _ => rfl) S2 r)
  | _, _, .oK a ds, O, G, H, σ, Γ, v, Q, S, q => by
    have h := S.head
    cases h with
    | oK ha r =>
      refine .pin a _ ha trivial fun od => .done ?_
      obtain ⟨s1, S1⟩ := S.pin1 (ob := .dK []) rfl (.frz od (.dK _))
      exact q _ _ s1 (fun b hb => upd_ne (by simpa [Sl.fp] using hb)) S1 (.dK upd_same (r.mono s1))
  | _, _, .oT a ds, O, G, H, σ, Γ, v, Q, S, q => by
    have h := S.head
    cases h with
    | oT ha r =>
      refine .pin a _ ha trivial fun od => .done ?_
      obtain ⟨s1, S1⟩ := S.pin1 (ob := .dT []) rfl (.frz od (.dT _))
      exact q _ _ s1 (fun b hb => upd_ne (by simpa [Sl.fp] using hb)) S1 (.dT upd_same (r.mono s1))
  | _, _, @Frz2.oo a C fs ds hf, O, G, H, σ, Γ, v, Q, S, q => by
    have h := S.head
    cases h with
    | @oo _ _ dx vs _ ha of =>
      have T := S.tail
      have nd := S.nd
      simp only [fps, fpO, Sl.fp] at nd
      obtain ⟨n1, n2, n3⟩ := List.nodup_append.mp nd
      rw [List.nodup_cons] at n1
      have mem : ∀ b ∈ a :: fpF fs, b ∈ fps (some (.oo a C fs) :: Γ) := fun b hb => by simp only [fps, fpO, Sl.fp, List.mem_append]; exact .inl hb
      have ga := S.ng a (mem a (by simp))
      have oa := S.no a (mem a (by simp))
      have fa : a ∉ fps Γ := fun z => n3 a (by simp) a z rfl
      have To := T.toO ha oa ga fa trivial
      refine pin_fields hf To of n1.2 (fun b hb => S.ng b (mem b (by simp [hb]))) (fun b hb => ?_) (fun b hb z => n3 b (by simp [hb]) b z rfl) fun G2 H2 s2 hH S2 rf => ?_
      · rw [upd_ne (fun e : b = a => n1.1 (by rw [← e]; exact hb))]; exact S.no b (mem b (by simp [hb]))
      · have ha2 : H2 a = some (.ins C dx vs) := by rw [hH a n1.1]; exact ha
        have g2 : G2 a = none := S2.d a (by rw [upd_same]; simp)
        have Tq : Sta K O G2 H2 (some (.ref a) :: σ) (some (.oo a C (frF [])) :: Γ) → True := fun _ => trivial
        have T3 := S2.offO oa
        obtain ⟨sa, sb⟩ := same_frz S2.g ha2 g2
        refine q (upd G2 a (.ins C dx vs)) H2 (s2.trans sa) (fun b hb => hH b (fun z => hb (by simp [Sl.fp, z]))) ⟨sb, T3.o, fun b hb => ?_, T3.sl.mono sa fun _ _ _ z => z, T3.nd, fun b hb => ?_, T3.no, T3.om⟩ (.obj upd_same (rf.mono sa))
        · by_cases e : b = a
          · subst e; exact absurd oa hb
          · rw [upd_ne e]; exact T3.d b hb
        · rw [upd_ne (fun e : b = a => fa (by rw [← e]; exact hb))]; exact T3.ng b hb
theorem pin_fields : ∀ {fs : List (Str × Sl)} {ds : List (Str × Dt)}, FrzF fs ds → ∀ {O G H : Hp} {σ : St} {Γ : Gm} {vs : List (Str × V)} {Q : Hp → Prop}, Sta K O G H σ Γ → OwnF K G H vs fs → (fpF fs).Nodup → (∀ b ∈ fpF fs, G b = none) → (∀ b ∈ fpF fs, O b = none) → (∀ b ∈ fpF fs, b ∉ fps Γ) →
    (∀ G2 H2, Same G G2 → (∀ b, b ∉ fpF fs → H2 b = H b) → Sta K O G2 H2 σ Γ → RepF K G2 vs ds → Q H2) → Pins H Q
  | _, _, .nil, O, G, H, σ, Γ, vs, Q, S, of, nd, hg, ho, hn, q => by
    cases of
    exact .done (q G H (Same.refl _) (fun _ _ => rfl) S .nil)
  | _, _, @FrzF.cons f s d fs ds h t, O, G, H, σ, Γ, vs, Q, S, of, nd, hg, ho, hn, q => by
    cases of with
    | @cons _ v vs _ _ o1 o2 =>
      simp only [fpF] at nd hg ho hn
      obtain ⟨n1, n2, n3⟩ := List.nodup_append.mp nd
      -- the rest first
      have P := S.push o1 n1 (fun b hb => hg b (by simp [hb])) (fun b hb => ho b (by simp [hb])) (fun b hb => hn b (by simp [hb]))
      refine Pins.bind (pin_fields (Q := fun H2 => Pins H2 Q) t P o2 n2 (fun b hb => hg b (by simp [hb])) (fun b hb => ho b (by simp [hb])) (fun b hb z => ?_) fun G2 H2 s2 hH S2 rf => ?_)
      · simp only [fps, fpO, List.mem_append] at z
        rcases z with z | z
        · exact n3 b z b hb rfl
        · exact hn b (by simp [hb]) z
      · refine pin_all h S2 fun G3 H3 s3 hH3 S3 r3 => q G3 H3 (s2.trans s3) (fun b hb => ?_) S3 (.cons r3 (rf.mono s3))
        simp only [fpF, List.mem_append, not_or] at hb
        rw [hH3 b hb.1, hH b hb.2]
end
theorem ev_pin (h : EvO K W te Γ (fun s Γ2 => ∃ d, Frz2 s d ∧ P d Γ2) X) : Ev K W (tPin te) Γ P X := fun O G H σ Q S q x =>
  h O G H σ _ S (fun v G2 H2 Γ2 s s1 S2 ⟨d, f, p⟩ => pin_all f S2 fun G3 H3 s3 _ S3 r => q v G3 H3 Γ2 d (s1.trans s3) S3 r p) x
end
def Fz2 (s : Sl) (Q : Dt → Prop) : Prop := ∃ d, Frz2 s d ∧ Q d
class Frz2C (s : Sl) (d : outParam Dt) : Prop where
  h : Frz2 s d
class FrzFC (s : List (Str × Sl)) (d : outParam (List (Str × Dt))) : Prop where
  h : FrzF s d
instance {d : Dt} : Frz2C (.fr d) d := ⟨.fr d⟩
instance {a : Addr} {ds : List Dt} : Frz2C (.ol a ds) (.lst ds) := ⟨.ol a ds⟩
instance {a : Addr} {ds : List (Key × Dt)} : Frz2C (.oK a ds) (.dK ds) := ⟨.oK a ds⟩
instance {a : Addr} {ds : List (List Key × Dt)} : Frz2C (.oT a ds) (.dT ds) := ⟨.oT a ds⟩
instance {a C : Addr} {fs : List (Str × Sl)} {ds : List (Str × Dt)} [h : FrzFC fs ds] : Frz2C (.oo a C fs) (.obj C ds) := ⟨.oo a C h.h⟩
instance : FrzFC [] [] := ⟨.nil⟩
instance {f : Str} {s : Sl} {d : Dt} {fs : List (Str × Sl)} {ds : List (Str × Dt)} [h : Frz2C s d] [t : FrzFC fs ds] : FrzFC ((f, s) :: fs) ((f, d) :: ds) := ⟨.cons h.h t.h⟩
section
variable {K : PySem.W.Frag} {W : WX} {Γ Γ' : Gm} {X : XP} {P : Dt → Gm → Prop} {te : TE} {i : Nat}
instance {s : Sl} {d : Dt} {Q : Dt → Prop} [h : Frz2C s d] : Wk (Fz2 s Q) (Q d) := ⟨fun q => ⟨d, h.h, q⟩⟩
instance : Wk (Ev K W (tPin te) Γ P X) (EvO K W te Γ (fun s Γ2 => Fz2 s fun d => P d Γ2) X) := ⟨ev_pin⟩
end
end DL

/-! DD, part c: dict comprehensions (any keys), dict(..) of pairs. -/
namespace IX
open PySem PySem.Spec PyProof.Rows L2
variable {Z : Cx}
theorem setD {pn : List (Addr × Obj)} {ρ : L2.St} {G G' : Hp} {u : Shared} {E : Value → Shared → Prop} {d : Addr} {y z : V} {vy vz : Value} {Q : Unit → Shared → Prop} (hu : Z.A.units + 1 < cLine) (J : Inv Z pn ρ G u) (g : DPut G d y z G') (ry : RelV y vy) (rz : RelV z vz)
    (k : ∀ u', Inv Z pn ρ G' u' → Q () u') : wpAny (model Z.prog Z.w) Z.A (dictSet d vy vz) Q E u := by
  rcases g with ⟨kvs, key, hd, ey, l, eG⟩ | ⟨kvs, key, b, hd, ey, hb, l, eG⟩
  · subst ey eG
    exact d_dictSet J hd l ry rz k
  · subst ey eG
    obtain rfl : vy = Value.ref b := ry
    obtain ⟨fits, nm, ents, kt, dh⟩ := dt_of J.hok hd
    have le1 : ents.length ≤ sizeLine := by rw [← Paired.length kt]; exact fits
    have le2 : (putK kvs key z).length ≤ sizeLine := Nat.le_trans (length_putK kvs key z) l
    refine wpAny_dictSet_heap (hsz := le1) (show Z.A.units < cLine by omega) (key_of J.hok hb) dh fun hp made only => k _ ?_
    obtain ⟨ob, es, ep, hob, x1, x2, x3, _, x4⟩ := made
    refine d_write J (by rw [hd]; trivial) only ⟨ob, hob⟩ ⟨le2, nm, _, (kt.put key hb rz).keeps fun c ys hc => ?_, ob, es, ep, hob, x1, x2, x3, x4⟩
    rw [upd_ne (ne_of hc hd nofun)]
    exact hc
def nD0 (t : Bool) : HO := if t then .dT [] else .dK []
/-- {k: v for target in iter if ..}; d the new dict, of tuple keys or not -/
def tDn (t : Bool) (wi : TI) (g : TG) (tt : TT) (tk tv : TE) (vs : List Nat) : TE := fun ρ G Q => wi ρ G fun J G1 => ∀ d, G1 d = none → ∃ V : Nat → Nat → Hp → Prop, (∃ m, V 0 m (upd G1 d (nD0 t))) ∧ ∀ i m G, V i m G →
  (J.stop i G ∧ Q (.ref d) G) ∨ (J.go i G ∧ ∃ N : Hp → Prop, (∀ G', N G' → ∃ m', m' < m ∧ V (i + 1) m' G') ∧ ∀ x G', J.yld i G x G' → g x (wipe ρ vs) G' fun ρ2 G2 => wipe ρ2 vs = wipe ρ vs ∧ tt ρ2 G2 fun b G3 =>
    if b = true then tk ρ2 G3 fun y G4 => tv ρ2 G4 fun z G5 => ∃ G6, DPut G5 d y z G6 ∧ N G6 else N G3)
theorem dn_any {t : Bool} {pn : List (Addr × Obj)} {u : Shared} {ρ : L2.St} {G : Hp} {Q : VK} {kx vx tg iter : Expr} {ifs : List Expr} {sc : Scope} {own : List (PySem.Str × Nat)} {pos pos' : Pos} {wi : TI} {g : TG} {tt : TT} {tk tv : TE} {use : Option (Value → Sem Unit)} {Qf : Value → Shared → Prop}
    (hu : Z.A.units + 1 < cLine) (calm : Z.calm = true) (nd : Z.N.Nodup) (J : Inv Z pn ρ G u) (pi : PI Z tg iter wi) (bl : BlkOk Z.N Z.env.scope sc own)
    (pg : ∀ (u : Shared) (G : Hp) (C : Addr) (cl : List (PySem.Str × Addr)) (fp : List Addr), PG (Z.blk u G sc (compEnvC sc cl C Z.env) fp) tg g) (pt : ∀ (u : Shared) (G : Hp) (C : Addr) (cl : List (PySem.Str × Addr)) (fp : List Addr), PTs (Z.blk u G sc (compEnvC sc cl C Z.env) fp) ifs tt)
    (pk : ∀ (u : Shared) (G : Hp) (C : Addr) (cl : List (PySem.Str × Addr)) (fp : List Addr), PE (Z.blk u G sc (compEnvC sc cl C Z.env) fp) kx tk)
    (pe : ∀ (u : Shared) (G : Hp) (C : Addr) (cl : List (PySem.Str × Addr)) (fp : List Addr), PE (Z.blk u G sc (compEnvC sc cl C Z.env) fp) vx tv) (fold : ∀ x, foldedSetIterable iter Z.env x = pure x)
    (h : tDn t wi g tt tk tv (own.map (·.2)) ρ G Q)
    (back : ∀ d C u' m G', Inv Z pn ρ G' u' → Q (.ref d) G' → u'.heap.Ns C m → FpOk Z pn G' C → compPost (model Z.prog Z.w) Z.A Z.xe use Qf (.ref d) C (.ok .next) u') :
    wpAny (model Z.prog Z.w) Z.A (comprehension (.DictComp kx vx [⟨tg, iter, ifs, 0⟩] sc pos) sc Z.env pos' newDict false (eval iter Z.env) use) Qf Z.xe u := by
  have clo : ∀ y ∈ sc.names, y.2 = .free → ∃ c, Z.env.cells.lookup y.1 = some c := fun y hy e => (bl.free y hy e).elim (fun k => J.ok.has _ (.inl k)) fun k => J.ok.has _ (.inr k)
  refine wpAny_comprehension_free (use := use) rfl fold (closure_ok clo) bl.kind (fun y hy e => by rw [bl.uniq y hy, e]) (thn (pi.run pn u ρ G _ J h) fun xv u1 hx => thn hx fun itv u2 h2 => ?_)
  obtain ⟨it, fp, tn, Jt, G2, ei, J2, T, t2, f2, q⟩ := h2
  subst ei
  refine wpAny_newObj_type (newEnv_comp ?_)
  generalize ed : u2.heap.objs.size = d
  obtain ⟨V, ⟨m0, v0⟩, turn⟩ := q d (J2.hok.fresh (Nat.le_of_eq ed))
  generalize eu3 : ({ u2 with heap := u2.heap.push { cls := .type "dict", data := .dict #[] } } : Shared) = u3
  have hh3 : u3.heap = u2.heap.push { cls := .type "dict", data := .dict #[] } := by rw [← eu3]
  have J3 : Inv Z pn ρ (upd G2 d (nD0 t)) u3 := by
    rw [← eu3]
    refine J2.laid (t' := u2.toks) (fun b o e => Heap.get?_push_of_some _ e) (Nat.le_of_eq ed) ?_
    rw [← ed]
    cases t with
    | true => exact dt_empty u2.heap J2.big
    | false => exact dk_empty u2.heap J2.big
  have lt2 : ∀ b ∈ fp, b < u2.heap.objs.size := fun b hb => let ⟨_, e, _⟩ := T.obj _ _ t2 b hb; Heap.lt_size e
  have f3 : ∀ b ∈ fp, FpOk Z pn (upd G2 d (nD0 t)) b ∧ b < u3.heap.objs.size := fun b hb => by
    have l := lt2 b hb
    refine ⟨⟨?_, (f2 b hb).2⟩, by rw [hh3, Heap.size_push]; exact Nat.lt_succ_of_lt l⟩
    rw [upd_ne (by rw [← ed]; exact Nat.ne_of_lt l)]
    exact (f2 b hb).1
  have t3 : tn 0 u3.heap := T.keep _ _ _ t2 fun b _ o e => by rw [hh3]; exact Heap.get?_push_of_some _ e
  have J4 := block_start J3 bl nd f3
  generalize eG3 : upd G2 d (nD0 t) = G3 at J3 J4 f3 v0
  generalize ecl : cellsFrom (u3.heap.objs.size + 1) sc.names (cloFrom Z.env.cells sc.names []) = cl at J4
  have qg := pg u3 G3 u3.heap.objs.size cl fp
  have qt := pt u3 G3 u3.heap.objs.size cl fp
  have qk := pk u3 G3 u3.heap.objs.size cl fp
  have qe := pe u3 G3 u3.heap.objs.size cl fp
  have goal : codeAny (model Z.prog Z.w) Z.A (.compStart (.DictComp kx vx [⟨tg, iter, ifs, 0⟩] sc pos) 0 (.ref it) (.ref d) (compEnvC sc cl u3.heap.objs.size Z.env)) (compPost (model Z.prog Z.w) Z.A Z.xe use Qf (.ref d) u3.heap.objs.size) ({ u3 with heap := pushCells (u3.heap.push { cls := .type "dict", data := .dict #[] }) sc.names } : Shared) := by
    generalize ee : compEnvC sc cl u3.heap.objs.size Z.env = ce at J4 qg qt qk qe ⊢
    have lc : ce.locals = u3.heap.objs.size := by subst ee; rfl
    generalize eu4 : ({ u3 with heap := pushCells (u3.heap.push { cls := .type "dict", data := .dict #[] }) sc.names } : Shared) = u4 at J4 ⊢
    have t4 : tn 0 u4.heap := T.keep _ _ _ t3 fun b _ o e => by rw [← eu4]; exact pushCells_keeps _ _ _ _ (Heap.get?_push_of_some _ e)
    have out : ∀ {ρ' : L2.St} {G' : Hp} {u' : Shared}, Inv (Z.blk u3 G3 sc ce fp) [] ρ' G' u' → (∀ b ∈ fp, G' b = none) → ∀ b ∈ fp, FpOk (Z.blk u3 G3 sc ce fp) [] G' b := fun {_ _ _} K' hn b hb =>
      ⟨hn b hb, (K'.ok.exf b hb).1, K'.ok.exfs b hb, .inl hb, fun x c e => (K'.ok.exf b hb).2 x c e, fun p hp => absurd (show p ∈ ([] : List (Addr × Obj)) ++ [] from hp) (by simp)⟩
    have loop : codeAny (model Z.prog Z.w) Z.A (.compLoop (.DictComp kx vx [⟨tg, iter, ifs, 0⟩] sc pos) 0 (.ref it) (.ref d) ce) (compPost (model Z.prog Z.w) Z.A Z.xe use Qf (.ref d) u3.heap.objs.size) u4 := by
      refine compLoop_anyD (fun n u' => ∃ i G', Inv (Z.blk u3 G3 sc ce fp) [] (wipe ρ (own.map (·.2))) G' u' ∧ tn i u'.heap ∧ (∀ b ∈ fp, G' b = none) ∧ V i n G') ?_ m0 ⟨0, G3, J4, t4, fun b hb => (f3 b hb).1.1, v0⟩
      rintro n u5 ⟨i, G5, J5, t5, n5, v5⟩
      rcases turn i n G5 v5 with ⟨stop, qq⟩ | ⟨go, N, hN, step⟩
      · refine thnF (T.done (Z.blk u3 G3 sc ce fp) rfl rfl rfl calm i [] u5 _ G5 (fun _ _ => False) J5 (out J5 n5) t5 stop) fun r u6 ⟨er, J6⟩ => ?_
        subst er
        have free : G5 u3.heap.objs.size = none := by rw [← lc]; exact J6.free
        obtain ⟨m, ns, _⟩ := J6.loc
        have ns : u6.heap.Ns ce.locals m := ns
        rw [lc] at ns
        refine back d u3.heap.objs.size u6 m G5 (J3.call' (ch := fp) J6.os J6.base J6.hok J6.bare fun b hb => ?_) qq ns (J3.fpOk (Nat.le_refl _) free)
        have z := (f3 b hb).1.2
        exact ⟨z.2.2.1, z.1, z.2.2.2.1, z.2.2.2.2⟩
      · refine thnF (T.item (Z.blk u3 G3 sc ce fp) rfl rfl rfl calm i [] u5 _ G5 (fun _ _ => False) J5 (out J5 n5) t5 go) fun r u6 ⟨x, er, h6⟩ => ?_
        subst er
        refine thnF h6 fun _ u7 ⟨xv, G7, J7, r7, y7, t7, n7⟩ => ?_
        refine thnF (qg.run _ u7 _ G7 xv x _ (J7.pinned (out J7 n7) (T.obj _ _ t7)) r7 (step xv G7 y7)) fun _ u8 ⟨ρ8, G8, J8, w8, q8⟩ => ?_
        refine thnF (qt.run _ u8 ρ8 G8 _ J8 q8) fun b u9 ⟨G9, J9, q9⟩ => ?_
        have fin : ∀ {u' : Shared} {G' : Hp}, Inv (Z.blk u3 G3 sc ce fp) ([] ++ pinsAt fp u7.heap) ρ8 G' u' → N G' → ∃ m, m < n ∧ ∃ i G', Inv (Z.blk u3 G3 sc ce fp) [] (wipe ρ (own.map (·.2))) G' u' ∧ tn i u'.heap ∧ (∀ b ∈ fp, G' b = none) ∧ V i m G' := fun {u' G'} K' nx => by
          obtain ⟨m', lm, v'⟩ := hN G' nx
          have pin : ∀ b ∈ fp, ∀ o, u7.heap.get? b = some o → u'.heap.get? b = some o ∧ G' b = none := fun b hb o e => by
            have z := K'.pin (b, o) (List.mem_append_right _ (List.mem_append_right _ (mem_pinsAt hb e)))
            exact ⟨z.1, z.2.1⟩
          refine ⟨m', lm, i + 1, G', (K'.unpinned (pins := [])).weak (by rw [← w8, wipe_length]) (fun j v e => ?_), T.keep _ _ _ t7 fun b hb o e => (pin b hb o e).1, fun b hb => ?_, v'⟩
          · rw [← w8] at e; exact (wipe_some e).1
          · obtain ⟨o, e, _⟩ := T.obj _ _ t7 b hb; exact (pin b hb o e).2
        cases b with
        | false => simp only [Bool.false_eq_true, if_false] at q9 ⊢; exact fin J9 q9
        | true =>
          simp only [if_true] at q9 ⊢
          refine thnF (qk.run _ u9 ρ8 G9 _ J9 q9) fun ky u10 ⟨yk, G10, J10, r10, q10⟩ => ?_
          refine thnF (qe.run _ u10 ρ8 G10 _ J10 q10) fun vz u11 ⟨yv, G11, J11, r11, G12, put, nx⟩ => ?_
          exact setD (Z := Z.blk u3 G3 sc ce fp) hu J11 put r10 r11 fun u12 J12 => fin J12 nx
    exact codeAny_compStart_dict loop (T.self Z.A 0 _ _ _ t4 loop)
  subst ecl
  exact goal
theorem pe_dn {t : Bool} {kx vx tg iter : Expr} {ifs : List Expr} {sc : Scope} {own : List (PySem.Str × Nat)} {pos : Pos} {wi : TI} {g : TG} {tt : TT} {tk tv : TE} (hu : Z.A.units + 64 < cLine) (calm : Z.calm = true) (nd : Z.N.Nodup) (pi : PI Z tg iter wi) (bl : BlkOk Z.N Z.env.scope sc own)
    (pg : ∀ (u : Shared) (G : Hp) (C : Addr) (cl : List (PySem.Str × Addr)) (fp : List Addr), PG (Z.blk u G sc (compEnvC sc cl C Z.env) fp) tg g) (pt : ∀ (u : Shared) (G : Hp) (C : Addr) (cl : List (PySem.Str × Addr)) (fp : List Addr), PTs (Z.blk u G sc (compEnvC sc cl C Z.env) fp) ifs tt)
    (pk : ∀ (u : Shared) (G : Hp) (C : Addr) (cl : List (PySem.Str × Addr)) (fp : List Addr), PE (Z.blk u G sc (compEnvC sc cl C Z.env) fp) kx tk)
    (pe : ∀ (u : Shared) (G : Hp) (C : Addr) (cl : List (PySem.Str × Addr)) (fp : List Addr), PE (Z.blk u G sc (compEnvC sc cl C Z.env) fp) vx tv) (fold : ∀ x, foldedSetIterable iter Z.env x = pure x := by intro _; rfl) :
    PE Z (.DictComp kx vx [⟨tg, iter, ifs, 0⟩] sc pos) (tDn t wi g tt tk tv (own.map (·.2))) := by
  refine ⟨fun pn u ρ G Q J h => ?_⟩
  rw [arm_eval_DictComp]
  refine dn_any (by omega) calm nd J pi bl pg pt pk pe fold h fun d C u' m G' K' q ns f => ⟨m, ns, fun hp only => ?_⟩
  obtain ⟨a0, a1, a2, a3, a4, a5⟩ := f
  exact ⟨.ref d, G', K'.turned (t' := u'.toks) (fun b o hb e => (only.2 b hb).trans e) a0 a1 a3 a4 a5, rfl, q⟩
/-! ### dict(pairs) -/
def mrg {κ : Type} [DecidableEq κ] (kvs : List (κ × V)) : List (κ × V) := kvs.foldl (fun acc kv => putK acc kv.1 kv.2) []
/-- the pairs of a list; the first parts single, or tuples -/
def rDP (K : PySem.W.Frag) : List V → Hp → VK → Prop := fun xs H Q => ∃ (a : Addr) (ps : List Addr), xs = [.ref a] ∧ SqL K H a (ps.map V.ref) ∧
  ((∃ kvs : List (Key × V), Paired (fun p kv => SqT K H p [kV kv.1, kv.2]) ps kvs ∧ ∀ p, H p = none → Q (.ref p) (upd H p (.dK (mrg kvs)))) ∨
   ∃ kvs : List (List Key × V), Paired (fun p kv => ∃ q, SqT K H p [.ref q, kv.2] ∧ H q = some (.tup (kv.1.map kV))) ps kvs ∧ ∀ p, H p = none → Q (.ref p) (upd H p (.dT (mrg kvs))))
theorem pairsT {pn : List (Addr × Obj)} {ρ : L2.St} {G : Hp} {u : Shared} (J : Inv Z pn ρ G u) : ∀ {ps : List Addr} {kvs : List (List Key × V)}, Paired (fun p kv => ∃ q, SqT Z.K G p [.ref q, kv.2] ∧ G q = some (.tup (kv.1.map kV))) ps kvs →
    ∃ es : List (List Key × Addr × Value), KT G kvs es ∧ es.length = ps.length ∧ ∀ (j : Nat) (e : List Key × Addr × Value), es[j]? = some e → ∃ b : Addr, ps[j]? = some b ∧ IsTup u.heap b #[.ref e.2.1, e.2.2]
  | _, _, .nil => ⟨[], .nil, rfl, fun j e h => by simp at h⟩
  | _, _, .cons (a := p) (b := kv) ⟨q, ht, hq⟩ t => by
    obtain ⟨es, kt, le, hp⟩ := pairsT J t
    obtain ⟨its, rv, it, _⟩ := J.tuple ht
    obtain ⟨x, y, ei, rx, ry⟩ := vals2 rv
    subst ei
    obtain rfl : x = Value.ref q := rx
    refine ⟨(kv.1, q, y) :: es, .cons ⟨rfl, hq, ry⟩ kt, by simp [le], fun j e h => ?_⟩
    cases j with
    | zero =>
      obtain rfl : (kv.1, q, y) = e := by simpa using h
      exact ⟨p, rfl, it⟩
    | succ j =>
      obtain ⟨b, h1, h2⟩ := hp j e (by simpa using h)
      exact ⟨b, by simpa using h1, h2⟩
theorem mrgT {G : Hp} : ∀ {more : List (List Key × V)} {es : List (List Key × Addr × Value)} {kvs : List (List Key × V)} {xs : List (List Key × Addr × Value)}, KT G more es → KT G kvs xs → KT G (more.foldl (fun acc kv => putK acc kv.1 kv.2) kvs) (storedAllH xs es)
  | _, _, _, _, .nil, h => h
  | _, _, kvs, xs, @Paired.cons _ _ _ a b l₁ l₂ ⟨e1, e2, e3⟩ t, h => by
    show KT G (l₁.foldl (fun acc kv => putK acc kv.1 kv.2) (putK kvs a.1 a.2)) (storedAllH (storedH xs b.1 b.2.1 b.2.2) l₂)
    exact mrgT t (by rw [← e1]; exact h.put _ e2 e3)
theorem mrg_len {κ : Type} [DecidableEq κ] : ∀ (more kvs : List (κ × V)), (more.foldl (fun acc kv => putK acc kv.1 kv.2) kvs).length ≤ kvs.length + more.length
  | [], kvs => by simp
  | p :: more, kvs => by
    have h := mrg_len more (putK kvs p.1 p.2)
    have l := length_putK kvs p.1 p.2
    simp only [List.foldl_cons, List.length_cons]
    omega
theorem call_dictPT (hu : Z.A.units + 64 < cLine) (calm : Z.calm = true) : CallR Z (.type "dict") (rDP Z.K) := by
  intro pn u ρ G xs us Q J r h
  obtain ⟨a, ps, ex, hq, h⟩ := h
  rcases h with ⟨kvs, hp, q⟩ | ⟨kvs, hp, q⟩
  · exact call_dictP calm pn u ρ G xs us Q J r ⟨a, ps, kvs, ex, hq, hp, q⟩
  · subst ex
    obtain ⟨x, ex, rx⟩ := vals1 r
    subst ex
    cases rx
    obtain ⟨its, rv, pl, hz⟩ := J.list hq
    have ei := refs_at rv
    subst ei
    rw [List.length_map] at hz
    obtain ⟨es, kt, le, hpr⟩ := pairsT J hp
    obtain ⟨o, n, ho, hc, hd, hdat⟩ := pl
    have P := PairArg.list (prog := Z.prog) (w := Z.w) a (ps.map Value.ref).toArray (fun j => ps.getD j 0) (es.map fun e => (Value.ref e.2.1, e.2.2))
    refine call_dict_pairsH (knd := tupleKind (mixKind Z.prog Z.w)) (ps := es) P (J.ok.hd calm) (show Z.A.units + 1 + 1 < cLine by omega) ⟨⟨o, n, ho, hc, hd, hdat⟩, by simp [le], fun j k v e => ?_⟩ ⟨by simp, fun i key v e => ?_⟩ (fun hp' kp x hx => ?_) (by rw [List.length_map, le]; exact hz) fun hp' tk dh kp => ?_
    · rw [List.getElem?_map] at e
      cases q1 : es[j]? with
      | none => rw [q1] at e; cases e
      | some en =>
        rw [q1] at e
        cases e
        obtain ⟨b, h1, h2⟩ := hpr j en q1
        have g : ps.getD j 0 = b := by rw [List.getD_eq_getElem?_getD, h1]; rfl
        refine ⟨by simp [h1, g], .inl ?_⟩
        show u.heap.IsTuple (ps.getD j 0) _
        rw [g]
        exact h2
    · have e : (es.map fun e => (Value.ref e.2.1, e.2.2))[i]? = some (key, v) := e
      rw [List.getElem?_map] at e
      cases q1 : es[i]? with
      | none => rw [q1] at e; cases e
      | some en => rw [q1] at e; cases e; exact ⟨en.1, en.2.1, rfl, rfl⟩
    · obtain ⟨j, hj⟩ := List.mem_iff_getElem?.mp hx
      have hG : ∃ ks, ks = x.1 ∧ G x.2.1 = some (.tup (ks.map kV)) := by
        clear kp hpr P
        induction kt generalizing j ps with
        | nil => cases hx
        | cons hh tt ih =>
          rcases List.mem_cons.mp hx with e | e
          · subst e; exact ⟨_, hh.1, hh.2.1⟩
          · have : ∀ {l : List (List Key × V)} {m : List (List Key × Addr × Value)}, KT G l m → x ∈ m → ∃ ks, ks = x.1 ∧ G x.2.1 = some (.tup (ks.map kV)) := fun {l m} h => by
              induction h with
              | nil => intro h; cases h
              | cons h1 _ ih =>
                intro h
                rcases List.mem_cons.mp h with e | e
                · subst e; exact ⟨_, h1.1, h1.2.1⟩
                · exact ih e
            exact this tt e
      obtain ⟨ks, rfl, hG⟩ := hG
      obtain ⟨_, its, r1, ob, g1, g2, n1, g3⟩ := (show ObjOk Z.prog Z.w G u.heap x.2.1 (.tup (x.1.map kV)) from J.hok _ _ hG)
      exact ⟨ob, its.toArray, n1, kp _ _ (Nat.ne_of_lt (Heap.lt_size g1)) (by simp) g1, g2, g3, by simpa using items_are r1⟩
    · have hm : (u.heap.objs.size == sysModules) = false := beq_eq_false_iff_ne.mpr (Nat.ne_of_gt J.big)
      have hlen : (mrg kvs).length ≤ sizeLine := by
        refine Nat.le_trans (mrg_len kvs []) ?_
        rw [List.length_nil, Nat.zero_add, Paired.length kt, le]
        exact hz
      obtain ⟨ob, en, ep, hob, x1, x2, x3, _, x4⟩ := dh
      have fr : G u.heap.objs.size = none := J.hok.fresh (Nat.le_refl _)
      refine ⟨.ref u.heap.objs.size, upd G u.heap.objs.size (.dT (mrg kvs)), J.laid (t' := tk) (fun b o e => kp b o (by simp) e) (Nat.le_refl _) ?_, rfl, q _ fr⟩
      refine (show ObjOk Z.prog Z.w _ _ _ (.dT (mrg kvs)) from ⟨hlen, hm, storedAllH [] es, ?_, ob, en, ep, hob, x1, x2, x3, x4⟩)
      refine KT.keeps (mrgT kt .nil) fun c ys hcy => ?_
      rw [upd_ne (ne_of_none hcy fr)]
      exact hcy
end IX

/-! DD, part d: by data: dict comprehensions, dict(pairs), d.get(k, x). -/
namespace DL
open PySem PySem.Spec L2 IX
section
variable {κ β : Type} [DecidableEq κ]
def mrgD (kvs : List (κ × β)) : List (κ × β) := kvs.foldl (fun acc kv => pA acc kv.1 kv.2) []
theorem mrg_app (kvs : List (κ × β)) : ∀ acc : List (κ × β), (acc.map (·.1) ++ kvs.map (·.1)).Nodup → kvs.foldl (fun acc kv => pA acc kv.1 kv.2) acc = acc ++ kvs := by
  induction kvs with
  | nil => intro acc _; simp
  | cons p r ih =>
    intro acc nd
    have h0 : vA acc p.1 = none := by
      rw [vA_none]
      intro z
      rw [List.map_cons, List.nodup_append] at nd
      exact nd.2.2 p.1 z p.1 (by simp) rfl
    rw [List.foldl_cons, pA_new _ h0, ih]
    · simp
    · simpa using nd
theorem mrgD_id {kvs : List (κ × β)} (nd : (kvs.map (·.1)).Nodup) : mrgD kvs = kvs := by
  unfold mrgD
  rw [mrg_app kvs [] (by simpa using nd)]
  simp
end
section
variable {K : PySem.W.Frag} {W : WX} {Γ Γ' : Gm} {X : XP} {te tk tv td ty tx : TE} {tt : TT} {g : TG} {wi : TI} {vs : List Nat} {P : Dt → Gm → Prop} {PO : Sl → Gm → Prop} {xs : List Dt} {i : Nat} {a : Addr}
theorem dn_it {J : It} {n : Nat} {GG : Hp → Prop} {Y : Nat → Hp → V → Hp → Prop} (w : Walk J n GG Y) {t : Bool} {σ : St} {H1 : Hp} {D : Addr} {Qd : Hp → Prop} (Pv : Nat → Hp → Prop) (h0 : Pv 0 (upd H1 D (nD0 t))) (hG : ∀ i H, i ≤ n → Pv i H → GG H)
    (hs : ∀ i x H H', i < n → Pv i H → Y i H x H' → g x (wipe σ vs) H' fun σ2 H2 => wipe σ2 vs = wipe σ vs ∧ tt σ2 H2 fun b H3 => if b = true then tk σ2 H3 fun y H4 => tv σ2 H4 fun z H5 => ∃ H6, DPut H5 D y z H6 ∧ Pv (i + 1) H6 else Pv (i + 1) H3)
    (hd : ∀ H, Pv n H → Qd H) : ∃ V : Nat → Nat → Hp → Prop, (∃ m, V 0 m (upd H1 D (nD0 t))) ∧ ∀ i m G, V i m G →
      (J.stop i G ∧ Qd G) ∨ (J.go i G ∧ ∃ N : Hp → Prop, (∀ G', N G' → ∃ m', m' < m ∧ V (i + 1) m' G') ∧ ∀ x G', J.yld i G x G' → g x (wipe σ vs) G' fun ρ2 G2 => wipe ρ2 vs = wipe σ vs ∧ tt ρ2 G2 fun b G3 =>
        if b = true then tk ρ2 G3 fun y G4 => tv ρ2 G4 fun z G5 => ∃ G6, DPut G5 D y z G6 ∧ N G6 else N G3) := by
  let V : Nat → Nat → Hp → Prop := fun at_ left Hx => left + at_ = n ∧ Pv at_ Hx
  refine ⟨V, ⟨n, rfl, h0⟩, fun at_ left Hx hv => ?_⟩
  obtain ⟨el, pv⟩ := hv
  have good := hG at_ Hx (by omega) pv
  cases left with
  | zero =>
    have ea : at_ = n := by omega
    subst ea
    exact .inl ⟨w.stops Hx good, hd Hx pv⟩
  | succ left => exact .inr ⟨w.goes at_ Hx (by omega) good, Pv (at_ + 1), fun Hy py => ⟨left, by omega, by omega, py⟩, fun z Hy yz => hs at_ z Hx Hy (by omega) pv (w.yields at_ Hx z Hy (by omega) good yz)⟩
/-- what a dict comprehension does over xs -/
def DCK (K : PySem.W.Frag) (g : TG) (tt : TT) (tk tv : TE) (vs : List Nat) (PO : Sl → Gm → Prop) (xs : List Dt) (Γ : Gm) : Prop :=
  ∃ I : Nat → List (Key × Dt) → Gm → Prop, I 0 [] Γ ∧
      (∀ k x acc Γ2, xs[k]? = some x → I k acc Γ2 → GoG K WF g x Γ2 (fun Γ3 => EvT K WF tt Γ3 (fun b Γ4 => (b = true → Ev K WF tk Γ4 (fun y Γ5 => Ev K WF tv Γ5 (fun z Γ6 => KeyQ y fun ky => acc.length < 1000000 ∧ I (k + 1) (pA acc ky z) (wipeG Γ6 vs)) XF) XF) ∧ (b = false → I (k + 1) acc (wipeG Γ4 vs))) XF) XF) ∧
      (∀ a acc Γ2, I xs.length acc Γ2 → PO (.oK a acc) Γ2)
def DCT (K : PySem.W.Frag) (g : TG) (tt : TT) (tk tv : TE) (vs : List Nat) (PO : Sl → Gm → Prop) (xs : List Dt) (Γ : Gm) : Prop :=
  ∃ I : Nat → List (List Key × Dt) → Gm → Prop, I 0 [] Γ ∧
      (∀ k x acc Γ2, xs[k]? = some x → I k acc Γ2 → GoG K WF g x Γ2 (fun Γ3 => EvT K WF tt Γ3 (fun b Γ4 => (b = true → Ev K WF tk Γ4 (fun y Γ5 => Ev K WF tv Γ5 (fun z Γ6 => KeysQ y fun ky => acc.length < 1000000 ∧ I (k + 1) (pA acc ky z) (wipeG Γ6 vs)) XF) XF) ∧ (b = false → I (k + 1) acc (wipeG Γ4 vs))) XF) XF) ∧
      (∀ a acc Γ2, I xs.length acc Γ2 → PO (.oT a acc) Γ2)
theorem evo_dnK (hw : Wr g vs) (hm : MoG g) (h : EvI K W wi Γ (fun xs Γ1 => DCK K g tt tk tv vs PO xs (wipeG Γ1 vs)) X) : EvO K W (tDn false wi g tt tk tv vs) Γ PO X := fun O G H σ Q S q x =>
  h O G H σ _ S (fun J G1 H1 Γ1 xs n GG Y s1 S1 w hn hG hY ⟨I, h0, hs, hd⟩ => by
    intro D nD
    have oD : O D = none := S1.o.free nD
    have gD : G1 D = none := S1.g.free nD
    have fD : D ∉ fps Γ1 := fun z => S1.there D z nD
    have xf : ∀ {O' G' : Hp} {σ' : St}, XOk K WF O' G' σ' XF := fun {O' G' σ'} C d fs G2 H2 Γ2 _ _ _ z => z
    refine dn_it (t := false) w (fun k H' => ∃ (G2 : Hp) (Γ2 : Gm) (acc : List (Key × Dt)) (av : List (Key × V)), Same G1 G2 ∧ Sta K (upd O D (.dK av)) G2 H' (wipe σ vs) Γ2 ∧ RepK K G2 av acc ∧ I k acc Γ2) ?_ (fun k H' _ ⟨G2, Γ2, acc, av, s2, S2, _⟩ => hG H' (s2.trans S2.g)) ?_ ?_
    · have T := (S1.ext (Ext.raw (ob := .dK []) S1.g nD)).toO upd_same oD gD fD trivial
      exact ⟨G1, _, [], [], Same.refl _, sta_wipe T vs, .nil, h0⟩
    · rintro k v H2 H3 hk ⟨G2, Γ2, acc, av, s2, S2, ra, p⟩ y
      have hx : xs[k]? = some (xs[k]'(by omega)) := by simp
      obtain ⟨G3, ex, r⟩ := hY k _ v G2 H2 H3 hx s2 S2.g y
      refine hm _ _ _ _ _ (fun σ2 H2 z => (fun (e : wipe σ2 vs = wipe σ vs) => ⟨e, z.2 e⟩) (z.1.trans (wipe_in fun v hv => hv))) (hw v (wipe σ vs) H3 (fun σ2 H2 => wipe σ2 vs = wipe σ vs → tt σ2 H2 fun b H3 => if b = true then tk σ2 H3 fun y H4 => tv σ2 H4 fun z H5 => ∃ H6, DPut H5 D y z H6 ∧
        ∃ (G2 : Hp) (Γ2 : Gm) (acc_1 : List (Key × Dt)) (av : List (Key × V)), Same G1 G2 ∧ Sta K (upd O D (.dK av)) G2 H6 (wipe σ vs) Γ2 ∧ RepK K G2 av acc_1 ∧ I (k + 1) acc_1 Γ2
        else ∃ (G2 : Hp) (Γ2 : Gm) (acc : List (Key × Dt)) (av : List (Key × V)), Same G1 G2 ∧ Sta K (upd O D (.dK av)) G2 H3 (wipe σ vs) Γ2 ∧ RepK K G2 av acc ∧ I (k + 1) acc Γ2) ?_)
      refine hs k _ acc Γ2 hx p _ G3 H3 _ v _ (S2.ext ex) r (fun G4 H4 σ4 Γ4 s4 S4 p4 e4 => ?_) fun σ5 => xf
      have r4 : RepK K G4 av acc := (ra.mono ex.g).mono s4
      have s14 : Same G1 G4 := s2.trans (ex.g.trans s4)
      refine p4 _ G4 H4 σ4 _ S4 (fun b G5 H5 Γ5 s5 S5 p5 => ?_) xf
      cases b with
      | false =>
        refine iteF ⟨G5, _, acc, av, s14.trans s5, ?_, r4.mono s5, p5.2 rfl⟩
        have T := sta_wipe S5 vs
        rw [e4] at T
        exact T
      | true =>
        refine iteT (p5.1 rfl _ G5 H5 σ4 _ S5 (fun y G6 H6 Γ6 dy s6 S6 r6 p6 => ?_) xf)
        refine p6 _ G6 H6 σ4 _ S6 (fun z G7 H7 Γ7 dz s7 S7 r7 p7 => ?_) xf
        obtain ⟨ky, ek, hl, p8⟩ := p7
        subst ek
        have r5 := ((r4.mono s5).mono s6).mono s7
        rw [kD_inj r6]
        refine ⟨_, .inl ⟨av, ky, S7.o D _ upd_same, rfl, by rw [r5.length]; exact Nat.lt_of_lt_of_le hl (by decide), rfl⟩, G7, _, _, _, s14.trans (s5.trans (s6.trans s7)), ?_, r5.put ky r7, p8⟩
        have T := sta_wipe (S7.updO (o' := .dK (putK av ky z)) trivial) vs
        rw [e4] at T
        exact T
    · rintro H2 ⟨G2, Γ2, acc, av, s2, S2, ra, p⟩
      have T := sta_unwipe S2
      have hD : H2 D = some (.dK av) := T.o D _ upd_same
      have gD2 : G2 D = none := T.d D (by rw [upd_same]; simp)
      have fD2 : D ∉ fps Γ2 := fun z => by have n := T.no D z; rw [upd_same] at n; cases n
      refine q (.ref D) G2 H2 Γ2 (.oK D acc) (s1.trans s2) ((T.offO oD).push (.oK hD ra) (by simp [Sl.fp]) ?_ ?_ ?_) (hd D acc Γ2 (by rw [← hn]; exact p))
      · intro b hb; simp [Sl.fp] at hb; subst hb; exact gD2
      · intro b hb; simp [Sl.fp] at hb; subst hb; exact oD
      · intro b hb; simp [Sl.fp] at hb; subst hb; exact fD2) x
theorem evo_dnT (hw : Wr g vs) (hm : MoG g) (h : EvI K W wi Γ (fun xs Γ1 => DCT K g tt tk tv vs PO xs (wipeG Γ1 vs)) X) : EvO K W (tDn true wi g tt tk tv vs) Γ PO X := fun O G H σ Q S q x =>
  h O G H σ _ S (fun J G1 H1 Γ1 xs n GG Y s1 S1 w hn hG hY ⟨I, h0, hs, hd⟩ => by
    intro D nD
    have oD : O D = none := S1.o.free nD
    have gD : G1 D = none := S1.g.free nD
    have fD : D ∉ fps Γ1 := fun z => S1.there D z nD
    have xf : ∀ {O' G' : Hp} {σ' : St}, XOk K WF O' G' σ' XF := fun {O' G' σ'} C d fs G2 H2 Γ2 _ _ _ z => z
    refine dn_it (t := true) w (fun k H' => ∃ (G2 : Hp) (Γ2 : Gm) (acc : List (List Key × Dt)) (av : List (List Key × V)), Same G1 G2 ∧ Sta K (upd O D (.dT av)) G2 H' (wipe σ vs) Γ2 ∧ RepT K G2 av acc ∧ I k acc Γ2) ?_ (fun k H' _ ⟨G2, Γ2, acc, av, s2, S2, _⟩ => hG H' (s2.trans S2.g)) ?_ ?_
    · have T := (S1.ext (Ext.raw (ob := .dT []) S1.g nD)).toO upd_same oD gD fD trivial
      exact ⟨G1, _, [], [], Same.refl _, sta_wipe T vs, .nil, h0⟩
    · rintro k v H2 H3 hk ⟨G2, Γ2, acc, av, s2, S2, ra, p⟩ y
      have hx : xs[k]? = some (xs[k]'(by omega)) := by simp
      obtain ⟨G3, ex, r⟩ := hY k _ v G2 H2 H3 hx s2 S2.g y
      refine hm _ _ _ _ _ (fun σ2 H2 z => (fun (e : wipe σ2 vs = wipe σ vs) => ⟨e, z.2 e⟩) (z.1.trans (wipe_in fun v hv => hv))) (hw v (wipe σ vs) H3 (fun σ2 H2 => wipe σ2 vs = wipe σ vs → tt σ2 H2 fun b H3 => if b = true then tk σ2 H3 fun y H4 => tv σ2 H4 fun z H5 => ∃ H6, DPut H5 D y z H6 ∧
        ∃ (G2 : Hp) (Γ2 : Gm) (acc_1 : List (List Key × Dt)) (av : List (List Key × V)), Same G1 G2 ∧ Sta K (upd O D (.dT av)) G2 H6 (wipe σ vs) Γ2 ∧ RepT K G2 av acc_1 ∧ I (k + 1) acc_1 Γ2
        else ∃ (G2 : Hp) (Γ2 : Gm) (acc : List (List Key × Dt)) (av : List (List Key × V)), Same G1 G2 ∧ Sta K (upd O D (.dT av)) G2 H3 (wipe σ vs) Γ2 ∧ RepT K G2 av acc ∧ I (k + 1) acc Γ2) ?_)
      refine hs k _ acc Γ2 hx p _ G3 H3 _ v _ (S2.ext ex) r (fun G4 H4 σ4 Γ4 s4 S4 p4 e4 => ?_) fun σ5 => xf
      have r4 : RepT K G4 av acc := (ra.mono ex.g).mono s4
      have s14 : Same G1 G4 := s2.trans (ex.g.trans s4)
      refine p4 _ G4 H4 σ4 _ S4 (fun b G5 H5 Γ5 s5 S5 p5 => ?_) xf
      cases b with
      | false =>
        refine iteF ⟨G5, _, acc, av, s14.trans s5, ?_, r4.mono s5, p5.2 rfl⟩
        have T := sta_wipe S5 vs
        rw [e4] at T
        exact T
      | true =>
        refine iteT (p5.1 rfl _ G5 H5 σ4 _ S5 (fun y G6 H6 Γ6 dy s6 S6 r6 p6 => ?_) xf)
        refine p6 _ G6 H6 σ4 _ S6 (fun z G7 H7 Γ7 dz s7 S7 r7 p7 => ?_) xf
        obtain ⟨ky, ek, hl, p8⟩ := p7
        subst ek
        have r5 := ((r4.mono s5).mono s6).mono s7
        cases r6 with
        | @tup b ys _ hb rb =>
        rw [reps_kD rb] at hb
        refine ⟨_, .inr ⟨av, ky, b, S7.o D _ upd_same, rfl, S7.g _ _ (s7 _ _ hb), by rw [r5.length]; exact Nat.lt_of_lt_of_le hl (by decide), rfl⟩, G7, _, _, _, s14.trans (s5.trans (s6.trans s7)), ?_, r5.put ky r7, p8⟩
        have T := sta_wipe (S7.updO (o' := .dT (putK av ky z)) trivial) vs
        rw [e4] at T
        exact T
    · rintro H2 ⟨G2, Γ2, acc, av, s2, S2, ra, p⟩
      have T := sta_unwipe S2
      have hD : H2 D = some (.dT av) := T.o D _ upd_same
      have gD2 : G2 D = none := T.d D (by rw [upd_same]; simp)
      have fD2 : D ∉ fps Γ2 := fun z => by have n := T.no D z; rw [upd_same] at n; cases n
      refine q (.ref D) G2 H2 Γ2 (.oT D acc) (s1.trans s2) ((T.offO oD).push (.oT hD ra) (by simp [Sl.fp]) ?_ ?_ ?_) (hd D acc Γ2 (by rw [← hn]; exact p))
      · intro b hb; simp [Sl.fp] at hb; subst hb; exact gD2
      · intro b hb; simp [Sl.fp] at hb; subst hb; exact oD
      · intro b hb; simp [Sl.fp] at hb; subst hb; exact fD2) x
theorem mkDn {X : Cx} {e : Expr} (vs : List Nat) {t : Bool} {wi : TI} {g : TG} {tt : TT} {tk tv : TE} {l : List Nat} (h : PE X e (tDn t wi g tt tk tv l)) (q : l = vs := by rfl) : PE X e (tDn t wi g tt tk tv vs) := by subst q; exact h
instance [h : WrC g vs] : Wk (EvO K W (tDn false wi g tt tk tv vs) Γ PO X) (EvI K W wi Γ (fun xs Γ1 => DCK K g tt tk tv vs PO xs (wipeG Γ1 vs)) X) := ⟨fun q => evo_dnK h.h h.m q⟩
instance [h : WrC g vs] : Wk (EvO K W (tDn true wi g tt tk tv vs) Γ PO X) (EvI K W wi Γ (fun xs Γ1 => DCT K g tt tk tv vs PO xs (wipeG Γ1 vs)) X) := ⟨fun q => evo_dnT h.h h.m q⟩
instance (priority := 2000) {l : List Nat} [h : WipeC Γ l Γ'] : Wk (DCK K g tt tk tv vs PO xs (wipeG Γ l)) (DCK K g tt tk tv vs PO xs Γ') := ⟨fun q => by rw [h.h]; exact q⟩
instance (priority := 2000) {l : List Nat} [h : WipeC Γ l Γ'] : Wk (DCT K g tt tk tv vs PO xs (wipeG Γ l)) (DCT K g tt tk tv vs PO xs Γ') := ⟨fun q => by rw [h.h]; exact q⟩
/-- a pair for each item, the slots left alone -/
theorem dck_map {β : Type} {ys : List β} {pic : β → Dt} (fk : β → Key) (fv : β → Dt) (hl : ys.length ≤ 1000000)
    (hs : ∀ (k : Nat) y, ys[k]? = some y → GoG K WF g (pic y) Γ (fun Γ3 => EvT K WF tt Γ3 (fun b Γ4 => Br b (Ev K WF tk Γ4 (fun u Γ5 => Ev K WF tv Γ5 (fun z Γ6 => u = kD (fk y) ∧ z = fv y ∧ wipeG Γ6 vs = Γ) XF) XF) False) XF) XF)
    (hd : ∀ a, PO (.oK a (mrgD (ys.map fun y => (fk y, fv y)))) Γ) : DCK K g tt tk tv vs PO (ys.map pic) Γ := by
  have len : ∀ (l : List (Key × Dt)), (mrgD l).length ≤ l.length := fun l => by
    have : ∀ (l acc : List (Key × Dt)), (l.foldl (fun acc kv => pA acc kv.1 kv.2) acc).length ≤ acc.length + l.length := fun l => by
      induction l with
      | nil => intro acc; simp
      | cons p r ih =>
        intro acc
        have := ih (pA acc p.1 p.2)
        have := pA_len acc p.1 p.2
        simp only [List.foldl_cons, List.length_cons]
        omega
    have z := this l []
    rw [List.length_nil, Nat.zero_add] at z
    exact z
  refine ⟨fun k acc Γ2 => Γ2 = Γ ∧ acc = mrgD ((ys.take k).map fun y => (fk y, fv y)), ⟨rfl, by simp [mrgD]⟩, fun k x acc Γ2 hx hJ => ?_, fun a acc Γ2 hJ => ?_⟩
  · obtain ⟨rfl, hJ⟩ := hJ
    rw [List.getElem?_map] at hx
    cases q : ys[k]? with
    | none => rw [q] at hx; cases hx
    | some y =>
      rw [q] at hx; cases hx
      have hk : k < ys.length := (List.getElem?_eq_some_iff.mp q).1
      intro O G H σ v Q S r q' e
      refine hs k y q O G H σ v Q S r (fun G2 H2 σ2 Γ2 s S2 p => q' G2 H2 σ2 Γ2 s S2 ?_) e
      intro O G H σ Q S q3 x3
      refine p O G H σ Q S (fun b G2 H2 Γ2 s S2 p2 => q3 b G2 H2 Γ2 s S2 ?_) x3
      refine ⟨fun hb => ?_, fun hb => (p2.2 hb).elim⟩
      exact (p2.1 hb).imp fun u Γ5 h5 => h5.imp fun z Γ6 ⟨e1, e2, e3⟩ => ⟨fk y, e1, by
        rw [hJ]
        have := len ((ys.take k).map fun y => (fk y, fv y))
        rw [List.length_map, List.length_take] at this
        omega, e3, by rw [hJ, e2, List.take_add_one, q]; simp [mrgD, List.foldl_append]⟩
  · obtain ⟨rfl, hJ⟩ := hJ
    rw [hJ]
    simpa using hd a
theorem dct_map {β : Type} {ys : List β} {pic : β → Dt} (fk : β → List Key) (fv : β → Dt) (hl : ys.length ≤ 1000000)
    (hs : ∀ (k : Nat) y, ys[k]? = some y → GoG K WF g (pic y) Γ (fun Γ3 => EvT K WF tt Γ3 (fun b Γ4 => Br b (Ev K WF tk Γ4 (fun u Γ5 => Ev K WF tv Γ5 (fun z Γ6 => u = kDs (fk y) ∧ z = fv y ∧ wipeG Γ6 vs = Γ) XF) XF) False) XF) XF)
    (hd : ∀ a, PO (.oT a (mrgD (ys.map fun y => (fk y, fv y)))) Γ) : DCT K g tt tk tv vs PO (ys.map pic) Γ := by
  have len : ∀ (l : List (List Key × Dt)), (mrgD l).length ≤ l.length := fun l => by
    have : ∀ (l acc : List (List Key × Dt)), (l.foldl (fun acc kv => pA acc kv.1 kv.2) acc).length ≤ acc.length + l.length := fun l => by
      induction l with
      | nil => intro acc; simp
      | cons p r ih =>
        intro acc
        have := ih (pA acc p.1 p.2)
        have := pA_len acc p.1 p.2
        simp only [List.foldl_cons, List.length_cons]
        omega
    have z := this l []
    rw [List.length_nil, Nat.zero_add] at z
    exact z
  refine ⟨fun k acc Γ2 => Γ2 = Γ ∧ acc = mrgD ((ys.take k).map fun y => (fk y, fv y)), ⟨rfl, by simp [mrgD]⟩, fun k x acc Γ2 hx hJ => ?_, fun a acc Γ2 hJ => ?_⟩
  · obtain ⟨rfl, hJ⟩ := hJ
    rw [List.getElem?_map] at hx
    cases q : ys[k]? with
    | none => rw [q] at hx; cases hx
    | some y =>
      rw [q] at hx; cases hx
      have hk : k < ys.length := (List.getElem?_eq_some_iff.mp q).1
      intro O G H σ v Q S r q' e
      refine hs k y q O G H σ v Q S r (fun G2 H2 σ2 Γ2 s S2 p => q' G2 H2 σ2 Γ2 s S2 ?_) e
      intro O G H σ Q S q3 x3
      refine p O G H σ Q S (fun b G2 H2 Γ2 s S2 p2 => q3 b G2 H2 Γ2 s S2 ?_) x3
      refine ⟨fun hb => ?_, fun hb => (p2.2 hb).elim⟩
      exact (p2.1 hb).imp fun u Γ5 h5 => h5.imp fun z Γ6 ⟨e1, e2, e3⟩ => ⟨fk y, e1, by
        rw [hJ]
        have := len ((ys.take k).map fun y => (fk y, fv y))
        rw [List.length_map, List.length_take] at this
        omega, e3, by rw [hJ, e2, List.take_add_one, q]; simp [mrgD, List.foldl_append]⟩
  · obtain ⟨rfl, hJ⟩ := hJ
    rw [hJ]
    simpa using hd a
/-! ### dict(pairs) -/
abbrev pairK (p : Key × Dt) : Dt := .tup [kD p.1, p.2]
abbrev pairT (p : List Key × Dt) : Dt := .tup [kDs p.1, p.2]
theorem repK_mrg {G : Hp} : ∀ {av : List (Key × V)} {kvs : List (Key × Dt)} {bv : List (Key × V)} {acc : List (Key × Dt)}, RepK K G av kvs → RepK K G bv acc → RepK K G (av.foldl (fun acc kv => putK acc kv.1 kv.2) bv) (kvs.foldl (fun acc kv => pA acc kv.1 kv.2) acc)
  | _, _, _, _, .nil, h => h
  | _, _, bv, acc, @RepK.cons _ _ f v vs d ds r t, h => by
    rw [List.foldl_cons, List.foldl_cons]
    exact repK_mrg t (h.put f r)
theorem repT_mrg {G : Hp} : ∀ {av : List (List Key × V)} {kvs : List (List Key × Dt)} {bv : List (List Key × V)} {acc : List (List Key × Dt)}, RepT K G av kvs → RepT K G bv acc → RepT K G (av.foldl (fun acc kv => putK acc kv.1 kv.2) bv) (kvs.foldl (fun acc kv => pA acc kv.1 kv.2) acc)
  | _, _, _, _, .nil, h => h
  | _, _, bv, acc, @RepT.cons _ _ f v vs d ds r t, h => by
    rw [List.foldl_cons, List.foldl_cons]
    exact repT_mrg t (h.put f r)
theorem pairsK_of {G H : Hp} (s : Same G H) : ∀ {ys : List V} {kvs : List (Key × Dt)}, Reps K G ys (kvs.map pairK) → ∃ (ps : List Addr) (av : List (Key × V)), ys = ps.map V.ref ∧ Paired (fun p kv => SqT K H p [kV kv.1, kv.2]) ps av ∧ RepK K G av kvs
  | _, [], .nil => ⟨[], [], rfl, .nil, .nil⟩
  | _, p :: kvs, .cons r t => by
    obtain ⟨ps, av, e, pr, ra⟩ := pairsK_of s t
    cases r with
    | @tup a xs _ ha rs =>
      cases rs with
      | cons r1 r2 =>
        cases r2 with
        | cons r2 r3 =>
          cases r3
          rw [kD_inj r1] at ha
          exact ⟨a :: ps, (p.1, _) :: av, by rw [e]; rfl, .cons (SqT.of (s _ _ ha)) pr, .cons r2 ra⟩
theorem pairsT_of {G H : Hp} (s : Same G H) : ∀ {ys : List V} {kvs : List (List Key × Dt)}, Reps K G ys (kvs.map pairT) → ∃ (ps : List Addr) (av : List (List Key × V)), ys = ps.map V.ref ∧ Paired (fun p kv => ∃ q, SqT K H p [.ref q, kv.2] ∧ H q = some (.tup (kv.1.map kV))) ps av ∧ RepT K G av kvs
  | _, [], .nil => ⟨[], [], rfl, .nil, .nil⟩
  | _, p :: kvs, .cons r t => by
    obtain ⟨ps, av, e, pr, ra⟩ := pairsT_of s t
    cases r with
    | @tup a xs _ ha rs =>
      cases rs with
      | cons r1 r2 =>
        cases r2 with
        | cons r2 r3 =>
          cases r3
          cases r1 with
          | @tup q ys _ hq rq =>
            rw [reps_kD rq] at hq
            exact ⟨a :: ps, (p.1, _) :: av, by rw [e]; rfl, .cons ⟨q, SqT.of (s _ _ ha), s _ _ hq⟩ pr, .cons r2 ra⟩
theorem evo_dictT (h : Ev K W te Γ (fun d Γ1 => ∃ kvs : List (List Key × Dt), d = .lst (kvs.map pairT) ∧ ∀ a, PO (.oT a (mrgD kvs)) Γ1) X) : EvO K W (tCB (rDP K) (tCons te tNil)) Γ PO X := fun O G H σ Q S q x =>
  h O G H σ _ S (fun v G1 H1 Γ1 d s1 S1 r ⟨kvs, e, p⟩ => by
    subst e
    cases r with
    | @lst a ys _ ha rs =>
      obtain ⟨ps, av, e, pr, ra⟩ := pairsT_of S1.g rs
      subst e
      exact ⟨a, ps, rfl, SqL.of (S1.g _ _ ha), .inr ⟨av, pr, fun l nl => q (.ref l) G1 _ Γ1 (.oT l (mrgD kvs)) s1 (S1.own1 nl rfl (.oT upd_same (repT_mrg ra .nil))) (p l)⟩⟩) x
theorem evo_dictK (h : Ev K W te Γ (fun d Γ1 => ∃ kvs : List (Key × Dt), d = .lst (kvs.map pairK) ∧ ∀ a, PO (.oK a (mrgD kvs)) Γ1) X) : EvO K W (tCB (rDP K) (tCons te tNil)) Γ PO X := fun O G H σ Q S q x =>
  h O G H σ _ S (fun v G1 H1 Γ1 d s1 S1 r ⟨kvs, e, p⟩ => by
    subst e
    cases r with
    | @lst a ys _ ha rs =>
      obtain ⟨ps, av, e, pr, ra⟩ := pairsK_of S1.g rs
      subst e
      exact ⟨a, ps, rfl, SqL.of (S1.g _ _ ha), .inl ⟨av, pr, fun l nl => q (.ref l) G1 _ Γ1 (.oK l (mrgD kvs)) s1 (S1.own1 nl rfl (.oK upd_same (repK_mrg ra .nil))) (p l)⟩⟩) x
/-- the kind of the keys is the reading's choice -/
def tDTk (te : TE) : TE := te
def tDKk (te : TE) : TE := te
theorem mkDT {X : Cx} {e : Expr} (h : PE X e te) : PE X e (tDTk te) := h
theorem mkDK {X : Cx} {e : Expr} (h : PE X e te) : PE X e (tDKk te) := h
def PrsT (d : Dt) (Q : List (List Key × Dt) → Prop) : Prop := ∃ kvs : List (List Key × Dt), d = .lst (kvs.map pairT) ∧ Q kvs
def PrsK (d : Dt) (Q : List (Key × Dt) → Prop) : Prop := ∃ kvs : List (Key × Dt), d = .lst (kvs.map pairK) ∧ Q kvs
instance {kvs : List (List Key × Dt)} {Q : List (List Key × Dt) → Prop} : Wk (PrsT (.lst (kvs.map pairT)) Q) (Q kvs) := ⟨fun q => ⟨kvs, rfl, q⟩⟩
instance {kvs : List (Key × Dt)} {Q : List (Key × Dt) → Prop} : Wk (PrsK (.lst (kvs.map pairK)) Q) (Q kvs) := ⟨fun q => ⟨kvs, rfl, q⟩⟩
instance : Wk (EvO K W (tDTk (tCB (rDP K) (tCons te tNil))) Γ PO X) (Ev K W te Γ (fun d Γ1 => PrsT d fun kvs => ∀ a, PO (.oT a (mrgD kvs)) Γ1) X) := ⟨evo_dictT⟩
instance : Wk (EvO K W (tDKk (tCB (rDP K) (tCons te tNil))) Γ PO X) (Ev K W te Γ (fun d Γ1 => PrsK d fun kvs => ∀ a, PO (.oK a (mrgD kvs)) Γ1) X) := ⟨evo_dictK⟩
/-! ### d.get(k, x) -/
def dGetD : Dt → Dt → Dt → (Dt → Prop) → Prop
  | .dK kvs, y, z, R => KeyQ y fun k => R ((vA kvs k).getD z)
  | .dT kvs, y, z, R => KeysQ y fun k => R ((vA kvs k).getD z)
  | _, _, _, _ => False
theorem dgd_K {G1 H1 : Hp} {a : Addr} {xs : List (Key × V)} {kvs : List (Key × Dt)} {y z : V} {dy dz : Dt} {R : Dt → Prop} {Q : VK} (h : Rd H1 a (.dK xs)) (r : RepK K G1 xs kvs) (ry : Rep K G1 y dy) (rz : Rep K G1 z dz) (p : KeyQ dy fun k => R ((vA kvs k).getD dz)) (q : ∀ v d, Rep K G1 v d → R d → Q v H1) :
    ∃ o, DGet H1 a y o ∧ Q (o.getD z) H1 := by
  obtain ⟨k, e, p⟩ := p
  subst e
  rw [kD_inj ry]
  refine ⟨_, dget_K (ds := []) h, q _ _ ?_ p⟩
  obtain ⟨g1, g2⟩ := r.get k
  cases e : vA kvs k with
  | none => rw [g2 e]; exact rz
  | some d => obtain ⟨v, ev, rv⟩ := g1 d e; rw [ev]; exact rv
theorem dgd_T {G1 H1 : Hp} {a : Addr} {xs : List (List Key × V)} {kvs : List (List Key × Dt)} {y z : V} {dy dz : Dt} {R : Dt → Prop} {Q : VK} (s : Same G1 H1) (h : Rd H1 a (.dT xs)) (r : RepT K G1 xs kvs) (ry : Rep K G1 y dy) (rz : Rep K G1 z dz) (p : KeysQ dy fun k => R ((vA kvs k).getD dz)) (q : ∀ v d, Rep K G1 v d → R d → Q v H1) :
    ∃ o, DGet H1 a y o ∧ Q (o.getD z) H1 := by
  obtain ⟨k, e, p⟩ := p
  subst e
  cases ry with
  | @tup b ys _ hb rb =>
  rw [reps_kD rb] at hb
  refine ⟨_, dget_T h (s _ _ hb), q _ _ ?_ p⟩
  obtain ⟨g1, g2⟩ := r.get k
  cases e : vA kvs k with
  | none => rw [g2 e]; exact rz
  | some d => obtain ⟨v, ev, rv⟩ := g1 d e; rw [ev]; exact rv
def DicQ (d : Dt) (Q : Prop) : Prop := ((∃ kvs, d = .dK kvs) ∨ ∃ kvs, d = .dT kvs) ∧ Q
instance {kvs : List (Key × Dt)} {Q : Prop} : Wk (DicQ (.dK kvs) Q) Q := ⟨fun q => ⟨.inl ⟨kvs, rfl⟩, q⟩⟩
instance {kvs : List (List Key × Dt)} {Q : Prop} : Wk (DicQ (.dT kvs) Q) Q := ⟨fun q => ⟨.inr ⟨kvs, rfl⟩, q⟩⟩
theorem ev_dget2 (h : Ev K W td Γ (fun d Γ1 => DicQ d (Ev K W ty Γ1 (fun y Γ2 => Ev K W tx Γ2 (fun z Γ3 => dGetD d y z fun u => P u Γ3) X) X)) X) : Ev K W (tDGet2 td ty tx) Γ P X := fun O G H σ Q S q x =>
  h O G H σ _ S (fun v G1 H1 Γ1 d s1 S1 r ⟨hd, h1⟩ => by
    rcases hd with ⟨kvs, e⟩ | ⟨kvs, e⟩
    · subst e
      cases r with
      | @dK a ob xs _ ha ra =>
        refine ⟨a, rfl, .inl ⟨xs, .inr ⟨ob, S1.g _ _ ha⟩⟩, h1 O G1 H1 σ _ S1 (fun y G2 H2 Γ2 dy s2 S2 r2 h2 => h2 O G2 H2 σ _ S2 (fun z G3 H3 Γ3 dz s3 S3 r3 h3 => ?_) (x.mono (s1.trans s2))) (x.mono s1)⟩
        exact dgd_K (R := fun u => P u Γ3) (.inr ⟨ob, S3.g _ _ (s3 _ _ (s2 _ _ ha))⟩) ((ra.mono s2).mono s3) (r2.mono s3) r3 h3 fun u du ru pu => q u G3 H3 Γ3 du (s1.trans (s2.trans s3)) S3 ru pu
    · subst e
      cases r with
      | @dT a ob xs _ ha ra =>
        refine ⟨a, rfl, .inr ⟨xs, .inr ⟨ob, S1.g _ _ ha⟩⟩, h1 O G1 H1 σ _ S1 (fun y G2 H2 Γ2 dy s2 S2 r2 h2 => h2 O G2 H2 σ _ S2 (fun z G3 H3 Γ3 dz s3 S3 r3 h3 => ?_) (x.mono (s1.trans s2))) (x.mono s1)⟩
        exact dgd_T (R := fun u => P u Γ3) S3.g (.inr ⟨ob, S3.g _ _ (s3 _ _ (s2 _ _ ha))⟩) ((ra.mono s2).mono s3) (r2.mono s3) r3 h3 fun u du ru pu => q u G3 H3 Γ3 du (s1.trans (s2.trans s3)) S3 ru pu) x
theorem ev_dget2K {kv0 : List (Key × Dt)} (hi : Γ[i]? = some (some (.oK a kv0))) (h : Ev K W ty Γ (fun y Γ2 => Ev K W tx Γ2 (fun z Γ3 => OwnK Γ3 i fun _ kvs => KeyQ y fun k => P ((vA kvs k).getD z) Γ3) X) X) : Ev K W (tDGet2 (tVar i) ty tx) Γ P X := fun O G H σ Q S q x => by
  obtain ⟨x0, e0, h0, _⟩ := look_K S hi
  refine ⟨_, e0, a, rfl, .inl ⟨x0, .inl h0⟩, h O G H σ _ S (fun y G2 H2 Γ2 dy s2 S2 r2 h2 => h2 O G2 H2 σ _ S2 (fun z G3 H3 Γ3 dz s3 S3 r3 ⟨a', kvs, hg, h3⟩ => ?_) (x.mono s2)) x⟩
  obtain ⟨xs, e1, h1, r1⟩ := look_K S3 hg
  rw [e0] at e1
  cases e1
  exact dgd_K (R := fun d => P d Γ3) (.inl h1) r1 (r2.mono s3) r3 h3 fun u du ru pu => q u G3 H3 Γ3 du (s2.trans s3) S3 ru pu
instance (priority := low) : Wk (Ev K W (tDGet2 td ty tx) Γ P X) (Ev K W td Γ (fun d Γ1 => DicQ d (Ev K W ty Γ1 (fun y Γ2 => Ev K W tx Γ2 (fun z Γ3 => dGetD d y z fun u => P u Γ3) X) X)) X) := ⟨ev_dget2⟩
instance {kvs : List (Key × Dt)} [t : At Γ i (.oK a kvs)] : Wk (Ev K W (tDGet2 (tVar i) ty tx) Γ P X) (Ev K W ty Γ (fun y Γ2 => Ev K W tx Γ2 (fun z Γ3 => OwnK Γ3 i fun _ kvs => KeyQ y fun k => P ((vA kvs k).getD z) Γ3) X) X) := ⟨fun h => ev_dget2K t.h h⟩
instance {kvs : List (Key × Dt)} {y z : Dt} {R : Dt → Prop} : Wk (dGetD (.dK kvs) y z R) (KeyQ y fun k => R ((vA kvs k).getD z)) := ⟨fun h => h⟩
instance {kvs : List (List Key × Dt)} {y z : Dt} {R : Dt → Prop} : Wk (dGetD (.dT kvs) y z R) (KeysQ y fun k => R ((vA kvs k).getD z)) := ⟨fun h => h⟩
end
end DL

/-! DD, part e: a dict, an object with dicts is lent for one expression, whatever comes out of it. -/
namespace L2
open PySem PySem.Spec PyProof.Rows
inductive LkW (t : WX → Hp → VK → Prop) : WX → Hp → VK → Prop
  | run {W : WX} {H : Hp} {Q : VK} : t W H Q → LkW t W H Q
  | lock {W : WX} {H : Hp} {Q : VK} (d : Addr) (u : HO) : H d = some u → Mut (some u) →
      (∀ od, LkW t (fun c e σ' H' => H' d = some (.frz od u) ∧ W c e σ' (upd H' d u)) (upd H d (.frz od u)) fun v H' => H' d = some (.frz od u) ∧ Q v (upd H' d u)) → LkW t W H Q
def tLn (_ : Nat) (W : WX) (t : WX → TE) : TE := fun σ H Q => LkW (fun W' => t W' σ) W H Q
section
variable {X : Cx}
theorem Takes.locked {W : WX} {d : Addr} {od : Obj} {u : HO} (tk : Takes X W) (hn : ∀ o' u', X.H_0 d ≠ some (.frz o' u')) : Takes X (fun c e σ' H' => H' d = some (.frz od u) ∧ W c e σ' (upd H' d u)) :=
  fun v s' ⟨a, B, sI, pins, σ, H, cls, dd, e, I, nb, up, sky, na, os, ag, hd, w⟩ =>
    tk v s' ⟨a, B, sI, pins, σ, upd H d u, cls, dd, e, I.unlock hd hn, nb, up, sky, by rw [upd_ne (fun z : a = d => by rw [z, hd] at na; cases na)]; exact na, os, ag, w⟩
theorem mkLn {e : Expr} {t : WX → TE} {W : WX} (i : Nat) (tk : Takes X W) (h : ∀ W', Takes X W' → PE X e (t W')) : PE X e (tLn i W t) := by
  refine ⟨fun pins s σ H Q I hw => ?_⟩
  have go : ∀ {W : WX} {H : Hp} {Q : VK}, LkW (fun W' => t W' σ) W H Q → Takes X W → Inv X pins σ H s → wpAny (model X.prog X.w) X.A (eval e X.env) (EP X pins σ Q) X.xe s := by
    intro W H Q hw
    induction hw with
    | run hw => exact fun tk I => (h _ tk).run pins s σ _ _ I hw
    | lock d u hd mu _ ih =>
      intro tk I
      obtain ⟨od, I1⟩ := I.lock hd mu
      refine thn (ih od (tk.locked (I.nofrz hd mu)) I1) fun v s1 ⟨x, H1, I2, r, e2, q⟩ => ?_
      exact ⟨x, _, I2.unlock e2 (I.nofrz hd mu), r, q⟩
  exact go hw tk I
/-- several things at once -/
def lkH (D : List (Addr × HO)) (od : Addr → Obj) (H : Hp) : Hp := fun b => match D.lookup b with | some u => some (.frz (od b) u) | none => H b
def reH (D : List (Addr × HO)) (H : Hp) : Hp := fun b => match D.lookup b with | some u => some u | none => H b
theorem lkW_list {t : WX → Hp → VK → Prop} : ∀ {D : List (Addr × HO)} {W : WX} {H : Hp} {Q : VK}, (D.map (·.1)).Nodup → (∀ p ∈ D, H p.1 = some p.2 ∧ Mut (some p.2)) →
    (∀ (od : Addr → Obj) (W' : WX) (Q' : VK), (∀ c e σ' H', (∀ p ∈ D, H' p.1 = some (.frz (od p.1) p.2)) → W c e σ' (reH D H') → W' c e σ' H') → (∀ v H', (∀ p ∈ D, H' p.1 = some (.frz (od p.1) p.2)) → Q v (reH D H') → Q' v H') → t W' (lkH D od H) Q') → LkW t W H Q
  | [], W, H, Q, _, _, h => .run (h (fun _ => default) W Q (fun c e σ' H' _ w => w) (fun v H' _ q => q))
  | (d, u) :: D, W, H, Q, nd, hD, h => by
    obtain ⟨n1, n2⟩ := List.nodup_cons.mp nd
    have nl : ∀ p ∈ D, p.1 ≠ d := fun p hp e => n1 (List.mem_map.mpr ⟨p, hp, e⟩)
    have look : D.lookup d = none := by
      have g : ∀ D : List (Addr × HO), (∀ p ∈ D, p.1 ≠ d) → D.lookup d = none := by
        intro D
        induction D with
        | nil => intro _; rfl
        | cons p D ih =>
          intro hp
          rw [List.lookup_cons]
          rw [show (d == p.1) = false from by rw [beq_eq_false_iff_ne]; exact fun z => hp p (List.mem_cons_self ..) z.symm]
          exact ih fun q hq => hp q (List.mem_cons_of_mem _ hq)
      exact g D nl
    obtain ⟨hd, mu⟩ := hD (d, u) (List.mem_cons_self ..)
    refine .lock d u hd mu fun od => lkW_list n2 (fun p hp => ?_) fun od' W' Q' hW hQ => ?_
    · have := hD p (List.mem_cons_of_mem _ hp)
      rw [upd_ne (nl p hp)]
      exact this
    · have e0 : ∀ b, b ≠ d → ((d, u) :: D).lookup b = D.lookup b := fun b hb => by
        rw [List.lookup_cons, show (b == d) = false from by rw [beq_eq_false_iff_ne]; exact hb]
      have e1 : ((d, u) :: D).lookup d = some u := by rw [List.lookup_cons]; simp
      have eH : lkH D od' (upd H d (.frz od u)) = lkH ((d, u) :: D) (fun b => if b = d then od else od' b) H := by
        funext b
        unfold lkH
        by_cases hb : b = d
        · subst hb
          rw [e1, look, upd_same]
          simp
        · rw [e0 b hb, upd_ne hb]
          simp only [if_neg hb]
      have eR : ∀ H', upd (reH D H') d u = reH ((d, u) :: D) H' := fun H' => by
        funext b
        unfold reH
        by_cases hb : b = d
        · subst hb
          rw [e1, upd_same]
        · rw [e0 b hb, upd_ne hb]
      have all : ∀ {H' : Hp}, (∀ p ∈ (d, u) :: D, H' p.1 = some (.frz (if p.1 = d then od else od' p.1) p.2)) → H' d = some (.frz od u) ∧ ∀ p ∈ D, H' p.1 = some (.frz (od' p.1) p.2) := fun {H'} k => by
        refine ⟨?_, fun p hp => ?_⟩
        · have := k (d, u) (List.mem_cons_self ..)
          simpa using this
        · have := k p (List.mem_cons_of_mem _ hp)
          rw [if_neg (nl p hp)] at this
          exact this
      have rd : ∀ {H' : Hp}, H' d = some (.frz od u) → reH D H' d = some (.frz od u) := fun {H'} k => by
        unfold reH
        rw [look]
        exact k
      rw [eH]
      refine h _ W' Q' (fun c e σ' H' k w => ?_) (fun v H' k q => ?_)
      · obtain ⟨k1, k2⟩ := all k
        exact hW c e σ' H' k2 ⟨rd k1, by rw [eR]; exact w⟩
      · obtain ⟨k1, k2⟩ := all k
        exact hQ v H' k2 ⟨rd k1, by rw [eR]; exact q⟩
end
end L2
namespace DL
open PySem PySem.Spec L2
mutual
/-- data apart from dicts and from objects of the class c -/
def noX (c : Option Addr) : Dt → Prop
  | .lst xs => noXs c xs
  | .tup xs => noXs c xs
  | .obj C fs => some C ≠ c ∧ noXf c fs
  | .dK _ => False
  | .dT _ => False
  | .exc _ fs => noXf c fs
  | .at_ _ d => noX c d
  | .scr _ => True
  | .non => True
  | .bl _ => True
  | .int _ => True
  | .str _ => True
  | .ty _ => True
  | .ref _ => True
def noXs (c : Option Addr) : List Dt → Prop
  | [] => True
  | d :: r => noX c d ∧ noXs c r
def noXf (c : Option Addr) : List (Str × Dt) → Prop
  | [] => True
  | (_, d) :: r => noX c d ∧ noXf c r
end
/-- the addresses of l are no longer known -/
def delS (G : Hp) (l : List Addr) : Hp := fun b => if b ∈ l then none else G b
theorem delS_in {G : Hp} {l : List Addr} {b : Addr} (h : b ∈ l) : delS G l b = none := if_pos h
theorem delS_out {G : Hp} {l : List Addr} {b : Addr} (h : b ∉ l) : delS G l b = G b := if_neg h
theorem delS_some {G : Hp} {l : List Addr} {b : Addr} {o : HO} (h : delS G l b = some o) : b ∉ l ∧ G b = some o := by
  by_cases e : b ∈ l
  · rw [delS_in e] at h; cases h
  · exact ⟨e, by rw [delS_out e] at h; exact h⟩
/-- what may be taken away -/
def Bad (c : Option Addr) (o : HO) : Prop := (∃ ob kvs, o = .frz ob (.dK kvs)) ∨ (∃ ob kvs, o = .frz ob (.dT kvs)) ∨ ∃ C dx fs, o = .ins C dx fs ∧ c = some C
section
variable {K : PySem.W.Frag} {G : Hp} {l : List Addr} {c : Option Addr}
theorem del_obS {b : Addr} {o : HO} (h : ∀ b ∈ l, ∀ o, G b = some o → Bad c o) (q : G b = some o) (n : ¬ Bad c o) : delS G l b = some o := by
  rw [delS_out fun e => n (h b e o q)]
  exact q
theorem bad_lst {xs : List V} : ¬ Bad c (.lst xs) := by rintro (⟨_, _, e⟩ | ⟨_, _, e⟩ | ⟨_, _, _, e, _⟩) <;> cases e
theorem bad_tup {xs : List V} : ¬ Bad c (.tup xs) := by rintro (⟨_, _, e⟩ | ⟨_, _, e⟩ | ⟨_, _, _, e, _⟩) <;> cases e
theorem bad_xd {xs : List (Str × V)} : ¬ Bad c (.xd xs) := by rintro (⟨_, _, e⟩ | ⟨_, _, e⟩ | ⟨_, _, _, e, _⟩) <;> cases e
theorem bad_frl {o : Obj} {xs : List V} : ¬ Bad c (.frz o (.lst xs)) := by rintro (⟨_, _, e⟩ | ⟨_, _, e⟩ | ⟨_, _, _, e, _⟩) <;> cases e
theorem bad_exk {C a : Addr} {d : Option Addr} : ¬ Bad c (ExK C d a) := by unfold ExK; rintro (⟨_, _, e⟩ | ⟨_, _, e⟩ | ⟨_, _, _, e, _⟩) <;> cases e
theorem bad_ins {C dx : Addr} {fs : List (Str × V)} (n : some C ≠ c) : ¬ Bad c (.ins C dx fs) := by
  rintro (⟨_, _, e⟩ | ⟨_, _, e⟩ | ⟨C', _, _, e, e2⟩)
  · cases e
  · cases e
  · cases e; exact n e2.symm
mutual
theorem Rep.delS (h : ∀ b ∈ l, ∀ o, G b = some o → Bad c o) : ∀ {v : V} {d : Dt}, Rep K G v d → noX c d → Rep K (DL.delS G l) v d
  | _, _, .non, _ => .non
  | _, _, .bl b, _ => .bl b
  | _, _, .int i, _ => .int i
  | _, _, .str x, _ => .str x
  | _, _, .ty n, _ => .ty n
  | _, _, .ref a, _ => .ref a
  | _, _, .lst q r, n => .lst (del_obS h q bad_lst) (Reps.delS h r (by simpa only [noX] using n))
  | _, _, .scr q, _ => .scr (by
    rcases q with (q | ⟨o, q⟩) | q
    · exact .inl (.inl (del_obS h q bad_lst))
    · exact .inl (.inr ⟨o, del_obS h q bad_frl⟩)
    · exact .inr q)
  | _, _, .tup q r, n => .tup (del_obS h q bad_tup) (Reps.delS h r (by simpa only [noX] using n))
  | _, _, .obj q r, n => .obj (del_obS h q (bad_ins (by simp only [noX] at n; exact n.1))) (RepF.delS h r (by simp only [noX] at n; exact n.2))
  | _, _, .dK q r, n => by simp [noX] at n
  | _, _, .dT q r, n => by simp [noX] at n
  | _, _, .exc q r, n => .exc (del_obS h q bad_exk) (RepX.delS h r (by simpa only [noX] using n))
  | _, _, .at_ r, n => .at_ (Rep.delS h r (by simpa only [noX] using n))
theorem Reps.delS (h : ∀ b ∈ l, ∀ o, G b = some o → Bad c o) : ∀ {v : List V} {d : List Dt}, Reps K G v d → noXs c d → Reps K (DL.delS G l) v d
  | _, _, .nil, _ => .nil
  | _, _, .cons q r, n => .cons (Rep.delS h q (by simp only [noXs] at n; exact n.1)) (Reps.delS h r (by simp only [noXs] at n; exact n.2))
theorem RepF.delS (h : ∀ b ∈ l, ∀ o, G b = some o → Bad c o) : ∀ {v : List (Str × V)} {d : List (Str × Dt)}, RepF K G v d → noXf c d → RepF K (DL.delS G l) v d
  | _, _, .nil, _ => .nil
  | _, _, .cons q r, n => .cons (Rep.delS h q (by simp only [noXf] at n; exact n.1)) (RepF.delS h r (by simp only [noXf] at n; exact n.2))
theorem RepX.delS (h : ∀ b ∈ l, ∀ o, G b = some o → Bad c o) : ∀ {v : Option Addr} {d : List (Str × Dt)}, RepX K G v d → noXf c d → RepX K (DL.delS G l) v d
  | _, _, .none, _ => .none
  | _, _, .some q r, n => .some (del_obS h q bad_xd) (RepF.delS h r n)
end
/-- values of dicts -/
def noXv {κ : Type} (c : Option Addr) (kvs : List (κ × Dt)) : Prop := ∀ p ∈ kvs, noX c p.2
theorem RepK.delS (h : ∀ b ∈ l, ∀ o, G b = some o → Bad c o) : ∀ {v : List (Key × V)} {d : List (Key × Dt)}, RepK K G v d → noXv c d → RepK K (DL.delS G l) v d
  | _, _, .nil, _ => .nil
  | _, _, .cons q r, n => .cons (q.delS h (n _ (List.mem_cons_self ..))) (RepK.delS h r fun p hp => n p (List.mem_cons_of_mem _ hp))
theorem RepT.delS (h : ∀ b ∈ l, ∀ o, G b = some o → Bad c o) : ∀ {v : List (List Key × V)} {d : List (List Key × Dt)}, RepT K G v d → noXv c d → RepT K (DL.delS G l) v d
  | _, _, .nil, _ => .nil
  | _, _, .cons q r, n => .cons (q.delS h (n _ (List.mem_cons_self ..))) (RepT.delS h r fun p hp => n p (List.mem_cons_of_mem _ hp))
end
mutual
def noXS (c : Option Addr) : Sl → Prop
  | .fr d => noX c d
  | .ol _ ds => noXs c ds
  | .os _ φ => ∀ ds, φ ds → noXs c ds
  | .oK _ kvs => noXv c kvs
  | .oT _ kvs => noXv c kvs
  | .oo _ _ fs => noXSf c fs
  | .ex _ _ _ fs => noXf c fs
def noXSf (c : Option Addr) : List (Str × Sl) → Prop
  | [] => True
  | (_, s) :: r => noXS c s ∧ noXSf c r
end
section
variable {K : PySem.W.Frag} {G H : Hp} {l : List Addr} {c : Option Addr}
mutual
theorem Own.delS (h : ∀ b ∈ l, ∀ o, G b = some o → Bad c o) : ∀ {v : V} {s : Sl}, Own K G H v s → noXS c s → Own K (DL.delS G l) H v s
  | _, _, .fr r, n => .fr (r.delS h (by simpa only [noXS] using n))
  | _, _, .ol q r, n => .ol q (r.delS h (by simpa only [noXS] using n))
  | _, _, .os q r p, n => .os q (r.delS h ((by simpa only [noXS] using n : ∀ ds, _ → noXs c ds) _ p)) p
  | _, _, .oK q r, n => .oK q (r.delS h (by simpa only [noXS] using n))
  | _, _, .oT q r, n => .oT q (r.delS h (by simpa only [noXS] using n))
  | _, _, .oo q r, n => .oo q (OwnF.delS h r (by simpa only [noXS] using n))
  | _, _, .ex r, n => .ex (r.delS h (by simpa only [noXS] using n))
theorem OwnF.delS (h : ∀ b ∈ l, ∀ o, G b = some o → Bad c o) : ∀ {v : List (Str × V)} {s : List (Str × Sl)}, OwnF K G H v s → noXSf c s → OwnF K (DL.delS G l) H v s
  | _, _, .nil, _ => .nil
  | _, _, .cons q r, n => .cons (Own.delS h q (by simp only [noXSf] at n; exact n.1)) (OwnF.delS h r (by simp only [noXSf] at n; exact n.2))
end
end
/-! ### what can be lent -/
inductive LnF : List (Str × Sl) → List (Str × Dt) → Prop
  | nil : LnF [] []
  | fr {f : Str} {d : Dt} {fs : List (Str × Sl)} {ds : List (Str × Dt)} : LnF fs ds → LnF ((f, .fr d) :: fs) ((f, d) :: ds)
  | oK {f : Str} {b : Addr} {kvs : List (Key × Dt)} {fs : List (Str × Sl)} {ds : List (Str × Dt)} : LnF fs ds → LnF ((f, .oK b kvs) :: fs) ((f, .dK kvs) :: ds)
  | oT {f : Str} {b : Addr} {kvs : List (List Key × Dt)} {fs : List (Str × Sl)} {ds : List (Str × Dt)} : LnF fs ds → LnF ((f, .oT b kvs) :: fs) ((f, .dT kvs) :: ds)
inductive Ln : Sl → Dt → Prop
  | oK (b : Addr) (kvs : List (Key × Dt)) : Ln (.oK b kvs) (.dK kvs)
  | oT (b : Addr) (kvs : List (List Key × Dt)) : Ln (.oT b kvs) (.dT kvs)
  | oo (a C : Addr) {fs : List (Str × Sl)} {ds : List (Str × Dt)} : LnF fs ds → Ln (.oo a C fs) (.obj C ds)
def lnC : Sl → Option Addr
  | .oo _ C _ => some C
  | _ => none
section
variable {K : PySem.W.Frag} {G H : Hp}
/-- the dicts of the fields, as they stand -/
theorem LnF.dicts : ∀ {fs : List (Str × Sl)} {ds : List (Str × Dt)}, LnF fs ds → ∀ {vs : List (Str × V)}, OwnF K G H vs fs → ∃ D : List (Addr × HO), D.map (·.1) = fpF fs ∧ (∀ p ∈ D, H p.1 = some p.2 ∧ Mut (some p.2) ∧ ∀ ob c, Bad c (.frz ob p.2)) ∧
    ∀ (G1 : Hp) (od : Addr → Obj), Same G G1 → (∀ p ∈ D, G1 p.1 = some (.frz (od p.1) p.2)) → RepF K G1 vs ds
  | _, _, .nil, _, .nil => ⟨[], rfl, fun p hp => (nomatch hp), fun G1 od _ _ => .nil⟩
  | _, _, .fr h, _, .cons (.fr r) t => by
    obtain ⟨D, e, h1, h2⟩ := h.dicts t
    exact ⟨D, by simpa [fpF, Sl.fp] using e, h1, fun G1 od s k => .cons (r.mono s) (h2 G1 od s k)⟩
  | _, _, .oK h, _, .cons (.oK hb r) t => by
    obtain ⟨D, e, h1, h2⟩ := h.dicts t
    refine ⟨(_, _) :: D, by simp [fpF, Sl.fp, e], fun p hp => ?_, fun G1 od s k => .cons (.dK (k _ (List.mem_cons_self ..)) (r.mono s)) (h2 G1 od s fun p hp => k p (List.mem_cons_of_mem _ hp))⟩
    rcases List.mem_cons.mp hp with e | hp
    · subst e; exact ⟨hb, trivial, fun ob c => .inl ⟨_, _, rfl⟩⟩
    · exact h1 p hp
  | _, _, .oT h, _, .cons (.oT hb r) t => by
    obtain ⟨D, e, h1, h2⟩ := h.dicts t
    refine ⟨(_, _) :: D, by simp [fpF, Sl.fp, e], fun p hp => ?_, fun G1 od s k => .cons (.dT (k _ (List.mem_cons_self ..)) (r.mono s)) (h2 G1 od s fun p hp => k p (List.mem_cons_of_mem _ hp))⟩
    rcases List.mem_cons.mp hp with e | hp
    · subst e; exact ⟨hb, trivial, fun ob c => .inr (.inl ⟨_, _, rfl⟩)⟩
    · exact h1 p hp
/-- the dicts of a thing; the rest of its places stand as they are -/
theorem Ln.dicts {s : Sl} {d : Dt} (h : Ln s d) {v : V} (o : Own K G H v s) (nd : s.fp.Nodup) : ∃ D : List (Addr × HO), (D.map (·.1)).Nodup ∧ (∀ p ∈ D, p.1 ∈ s.fp ∧ H p.1 = some p.2 ∧ Mut (some p.2) ∧ ∀ ob c, Bad c (.frz ob p.2)) ∧
    (∀ b ∈ s.fp, b ∉ D.map (·.1) → ∃ C dx fs, H b = some (.ins C dx fs) ∧ lnC s = some C) ∧
    ∀ (G1 : Hp) (od : Addr → Obj), Same G G1 → (∀ p ∈ D, G1 p.1 = some (.frz (od p.1) p.2)) → (∀ b ∈ s.fp, b ∉ D.map (·.1) → G1 b = H b) → Rep K G1 v d := by
  cases h with
  | oK b kvs =>
    cases o with
    | oK hb r =>
      refine ⟨[(b, _)], by simp, fun p hp => ?_, fun x hx hn => ?_, fun G1 od s k _ => .dK (k _ (List.mem_cons_self ..)) (r.mono s)⟩
      · rw [List.mem_singleton] at hp
        subst hp; exact ⟨by simp [Sl.fp], hb, trivial, fun ob c => .inl ⟨_, _, rfl⟩⟩
      · exact absurd (by simpa [Sl.fp] using hx) hn
  | oT b kvs =>
    cases o with
    | oT hb r =>
      refine ⟨[(b, _)], by simp, fun p hp => ?_, fun x hx hn => ?_, fun G1 od s k _ => .dT (k _ (List.mem_cons_self ..)) (r.mono s)⟩
      · rw [List.mem_singleton] at hp
        subst hp; exact ⟨by simp [Sl.fp], hb, trivial, fun ob c => .inr (.inl ⟨_, _, rfl⟩)⟩
      · exact absurd (by simpa [Sl.fp] using hx) hn
  | oo a C hf =>
    cases o with
    | @oo _ _ dx vs _ ha of =>
      obtain ⟨D, e, h1, h2⟩ := hf.dicts of
      simp only [Sl.fp] at nd
      obtain ⟨n1, n2⟩ := List.nodup_cons.mp nd
      refine ⟨D, by rw [e]; exact n2, fun p hp => ⟨?_, h1 p hp⟩, fun b hb hn => ?_, fun G1 od s k k2 => .obj (fs := vs) (by rw [k2 a (by simp [Sl.fp]) (by rw [e]; exact n1)]; exact ha) (h2 G1 od s k)⟩
      · simp only [Sl.fp]; exact List.mem_cons_of_mem _ (by rw [← e]; exact List.mem_map.mpr ⟨p, hp, rfl⟩)
      · simp only [Sl.fp] at hb
        rcases List.mem_cons.mp hb with z | z
        · subst z; exact ⟨C, dx, vs, ha, rfl⟩
        · rw [e] at hn; exact absurd z hn
end
theorem look_mem {D : List (Addr × HO)} {b : Addr} {u : HO} (h : D.lookup b = some u) : (b, u) ∈ D := by
  induction D with
  | nil => cases h
  | cons q D ih =>
    rw [List.lookup_cons] at h
    cases e : (b == q.1) with
    | true =>
      rw [e] at h
      have e1 : b = q.1 := by simpa using e
      cases h
      rw [e1]
      exact List.mem_cons_self ..
    | false =>
      rw [e] at h
      exact List.mem_cons_of_mem _ (ih h)
theorem look_none {D : List (Addr × HO)} {b : Addr} (h : b ∉ D.map (·.1)) : D.lookup b = none := by
  cases e : D.lookup b with
  | none => rfl
  | some u => exact absurd (List.mem_map.mpr ⟨_, look_mem e, rfl⟩) h
theorem look_some {D : List (Addr × HO)} (nd : (D.map (·.1)).Nodup) {p : Addr × HO} (h : p ∈ D) : D.lookup p.1 = some p.2 := by
  induction D with
  | nil => cases h
  | cons q D ih =>
    obtain ⟨n1, n2⟩ := List.nodup_cons.mp nd
    rw [List.lookup_cons]
    rcases List.mem_cons.mp h with e | h
    · subst e; simp
    · rw [show (p.1 == q.1) = false from by rw [beq_eq_false_iff_ne]; exact fun z => n1 (List.mem_map.mpr ⟨p, h, z⟩)]
      exact ih n2 h
/-- the slots behind: the same frozen things as ahead, or apart -/
def KeepX (c : Option Addr) (Γ Γ2 : Gm) (i : Nat) : Prop := ∀ (j : Nat) (s : Sl), j ≠ i → Γ2[j]? = some (some s) → noXS c s ∨ ∃ d, s = .fr d ∧ Γ[j]? = some (some (.fr d))
section
variable {K : PySem.W.Frag} {W : WX} {Γ Γ2 : Gm} {X : XP} {P : Dt → Gm → Prop} {PO : Sl → Gm → Prop} {i : Nat} {s : Sl} {d : Dt}
structure LentAt (K : PySem.W.Frag) (O G H G1 H1 : Hp) (σ : St) (Γ : Gm) (i : Nat) (s : Sl) (d : Dt) (D : List (Addr × HO)) (od : Addr → Obj) : Prop where
  s1 : Same G G1
  S1 : Sta K O G1 H1 σ (Γ.set i (some (.fr d)))
  gD : ∀ p ∈ D, G1 p.1 = some (.frz (od p.1) p.2)
  gR : ∀ b ∈ s.fp, b ∉ D.map (·.1) → G1 b = H b
/-- the thing is given: frozen for a while -/
theorem Sta.lend {O G H : Hp} {σ : St} (S : Sta K O G H σ Γ) (hi : Γ[i]? = some (some s)) (hl : Ln s d) : ∃ (v : V) (D : List (Addr × HO)), σ[i]? = some (some v) ∧ Own K G H v s ∧ (D.map (·.1)).Nodup ∧ (∀ p ∈ D, p.1 ∈ s.fp ∧ H p.1 = some p.2 ∧ Mut (some p.2) ∧ ∀ ob c, Bad c (.frz ob p.2)) ∧
    (∀ b ∈ s.fp, b ∉ D.map (·.1) → ∃ C dx fs, H b = some (.ins C dx fs) ∧ lnC s = some C) ∧ ∀ od, ∃ G1, LentAt K O G H G1 (lkH D od H) σ Γ i s d D od := by
  obtain ⟨v, ev, ow⟩ := S.get hi
  obtain ⟨m1, m2⟩ := fps_part hi S.nd
  obtain ⟨D, n, h1, h2, h3⟩ := hl.dicts ow m1
  refine ⟨v, D, ev, ow, n, h1, h2, fun od => ?_⟩
  have ng : ∀ b ∈ s.fp, G b = none := fun b hb => S.ng b (mem_fps hi b hb)
  have no : ∀ b ∈ s.fp, O b = none := fun b hb => S.no b (mem_fps hi b hb)
  have out : ∀ b, b ∉ s.fp → lkH D od H b = H b := fun b hb => by
    unfold lkH
    rw [look_none fun z => hb (by obtain ⟨p, hp, e⟩ := List.mem_map.mp z; rw [← e]; exact (h1 p hp).1)]
  have outN : ∀ b, b ∉ D.map (·.1) → lkH D od H b = H b := fun b hb => by
    unfold lkH
    rw [look_none hb]
  have inD : ∀ p ∈ D, lkH D od H p.1 = some (.frz (od p.1) p.2) := fun p hp => by
    unfold lkH
    rw [look_some n hp]
  refine ⟨forn G (lkH D od H) s.fp, ?_⟩
  have s1 : Same G (forn G (lkH D od H) s.fp) := fun b o q => by
    rw [forn_out fun z => by rw [ng b z] at q; cases q]
    exact q
  have gD : ∀ p ∈ D, forn G (lkH D od H) s.fp p.1 = some (.frz (od p.1) p.2) := fun p hp => by rw [forn_in (h1 p hp).1]; exact inD p hp
  have gR : ∀ b ∈ s.fp, b ∉ D.map (·.1) → forn G (lkH D od H) s.fp b = H b := fun b hb hn => by rw [forn_in hb]; exact outN b hn
  have rep := h3 _ od s1 gD gR
  refine ⟨s1, ?_, gD, gR⟩
  have Sf := S.forget i (some v)
  rw [set_here ev] at Sf
  have T : Sta K O (forn G (lkH D od H) s.fp) (lkH D od H) σ (Γ.set i none) := by
    refine ⟨fun b o q => ?_, fun b o q => ?_, fun b hb => ?_, Sf.sl.mono s1 fun b hb o q => ?_, Sf.nd, fun b hb => ?_, Sf.no, Sf.om⟩
    · by_cases hb : b ∈ s.fp
      · rw [forn_in hb] at q; exact q
      · rw [forn_out hb] at q; rw [out b hb]; exact S.g b o q
    · rw [out b fun z => by rw [no b z] at q; cases q]; exact S.o b o q
    · rw [forn_out fun z => hb (no b z)]; exact S.d b hb
    · rw [out b fun z => m2 b z hb]; exact q
    · rw [forn_out fun z => m2 b z hb]; exact Sf.ng b hb
  have T2 := T.putF rep i
  rw [set_here ev, List.set_set] at T2
  exact T2
/-- the thing is one's own again -/
theorem Sta.unlend {O G H G1 G2 H2 : Hp} {σ σ2 : St} {D : List (Addr × HO)} {od : Addr → Obj} {v : V} {i2 : Nat} {d2 : Dt} (S : Sta K O G H σ Γ) (hi : Γ[i]? = some (some s)) (ow : Own K G H v s) (n : (D.map (·.1)).Nodup) (h1 : ∀ p ∈ D, p.1 ∈ s.fp ∧ H p.1 = some p.2 ∧ Mut (some p.2) ∧ ∀ ob c, Bad c (.frz ob p.2))
    (h2 : ∀ b ∈ s.fp, b ∉ D.map (·.1) → ∃ C dx fs, H b = some (.ins C dx fs) ∧ lnC s = some C) (L : LentAt K O G H G1 (lkH D od H) σ Γ i s d D od) (s2 : Same G1 G2) (S2 : Sta K O G2 H2 σ2 Γ2) (hi2 : Γ2[i2]? = some (some (.fr d2))) (ev2 : σ2[i2]? = some (some v))
    (k : ∀ (j : Nat) (s' : Sl), j ≠ i2 → Γ2[j]? = some (some s') → noXS (lnC s) s' ∨ ∃ d w, s' = .fr d ∧ σ2[j]? = some (some w) ∧ Rep K G w d) :
    (∀ b ∈ s.fp, ∀ o, G2 b = some o → Bad (lnC s) o) ∧ Same G (delS G2 s.fp) ∧ (∀ p ∈ D, H2 p.1 = some (.frz (od p.1) p.2)) ∧ Sta K O (delS G2 s.fp) (reH D H2) σ2 (Γ2.set i2 (some s)) := by
  have ng : ∀ b ∈ s.fp, G b = none := fun b hb => S.ng b (mem_fps hi b hb)
  have no : ∀ b ∈ s.fp, O b = none := fun b hb => S.no b (mem_fps hi b hb)
  obtain ⟨m1, _⟩ := fps_part hi S.nd
  have g2 : ∀ b ∈ s.fp, ∃ o, G2 b = some o ∧ Bad (lnC s) o ∧ reH D H2 b = H b := fun b hb => by
    by_cases hd : b ∈ D.map (·.1)
    · obtain ⟨p, hp, e⟩ := List.mem_map.mp hd
      subst e
      refine ⟨_, s2 _ _ (L.gD p hp), (h1 p hp).2.2.2 _ _, ?_⟩
      unfold reH
      rw [look_some n hp]
      exact (h1 p hp).2.1.symm
    · obtain ⟨C, dx, fs, e1, e2⟩ := h2 b hb hd
      have g : G1 b = some (.ins C dx fs) := by rw [L.gR b hb hd]; exact e1
      refine ⟨_, s2 _ _ g, .inr (.inr ⟨C, dx, fs, rfl, e2⟩), ?_⟩
      unfold reH
      rw [look_none hd]
      exact (S2.g _ _ (s2 _ _ g)).trans e1.symm
  have out : ∀ b, b ∉ s.fp → reH D H2 b = H2 b := fun b hb => by
    unfold reH
    rw [look_none fun z => hb (by obtain ⟨p, hp, e⟩ := List.mem_map.mp z; rw [← e]; exact (h1 p hp).1)]
  have bad : ∀ b ∈ s.fp, ∀ o, G2 b = some o → Bad (lnC s) o := fun b hb o q => by
    obtain ⟨o', e1, e2, _⟩ := g2 b hb
    rw [q] at e1; cases e1; exact e2
  have sd : Same G (delS G2 s.fp) := fun b o q => by
    rw [delS_out fun z => by rw [ng b z] at q; cases q]
    exact s2 b o (L.s1 b o q)
  refine ⟨bad, sd, fun p hp => S2.g _ _ (s2 _ _ (L.gD p hp)), ⟨fun b o q => ?_, fun b o q => ?_, fun b hb => ?_, ?_, ?_, fun b hb => ?_, fun b hb => ?_, S2.om⟩⟩
  · obtain ⟨q1, q2⟩ := delS_some q
    rw [out b q1]
    exact S2.g b o q2
  · rw [out b fun z => by rw [no b z] at q; cases q]
    exact S2.o b o q
  · by_cases z : b ∈ s.fp
    · exact delS_in z
    · rw [delS_out z]; exact S2.d b hb
  · refine Slots.of (by rw [List.length_set]; exact S2.sl.len) fun j s' e => ?_
    by_cases hj : i2 = j
    · subst hj
      rw [List.getElem?_set_self (List.getElem?_eq_some_iff.mp hi2).1] at e
      obtain rfl : s = s' := Option.some.inj (Option.some.inj e)
      exact ⟨v, ev2, ow.mono sd fun b hb o q => by obtain ⟨_, _, _, e3⟩ := g2 b hb; rw [e3]; exact q⟩
    · rw [List.getElem?_set_ne hj] at e
      obtain ⟨w, ew, o2⟩ := S2.get e
      refine ⟨w, ew, ?_⟩
      rcases k j s' (fun z => hj z.symm) e with nx | ⟨d0, w0, rfl, e0, r0⟩
      · exact (o2.delS bad nx).mono (Same.refl _) fun b hb o q => by
          rw [out b fun z => by
            obtain ⟨_, e1, _⟩ := g2 b z
            rw [S2.ng b (mem_fps e b hb)] at e1; cases e1]
          exact q
      · rw [ew] at e0
        obtain rfl : w = w0 := Option.some.inj (Option.some.inj e0)
        exact .fr (r0.mono sd)
  · refine fps_set_nd i2 ?_
    show (s.fp ++ fps Γ2).Nodup
    rw [List.nodup_append]
    refine ⟨m1, S2.nd, fun x hx y hy e => ?_⟩
    subst e
    obtain ⟨_, e1, _⟩ := g2 x hx
    rw [S2.ng x hy] at e1; cases e1
  · by_cases z : b ∈ s.fp
    · exact delS_in z
    · rw [delS_out z]
      rcases fps_set_sub i2 b hb with y | y
      · exact absurd y z
      · exact S2.ng b y
  · rcases fps_set_sub i2 b hb with y | y
    · exact no b y
    · exact S2.no b y
/-- what is asked behind the lending -/
def LendX (c : Option Addr) (Γ Γ2 : Gm) (i : Nat) (s : Sl) (d : Dt) (N : Prop) (Q : Gm → Prop) : Prop := (N ∧ Γ2[i]? = some (some (.fr d)) ∧ KeepX c Γ Γ2 i) ∧ Q (Γ2.set i (some s))
theorem ev_ln {t : WX → TE} (hi : Γ[i]? = some (some s)) (hl : Ln s d) (h : ∀ W', Ev K W' (t W') (Γ.set i (some (.fr d))) (fun z Γ2 => LendX (lnC s) (Γ.set i (some (.fr d))) Γ2 i s d (noX (lnC s) z) (P z)) (fun C fs Γ2 => LendX (lnC s) (Γ.set i (some (.fr d))) Γ2 i s d (noXf (lnC s) fs) (X C fs))) : Ev K W (tLn i W t) Γ P X := fun O G H σ Q S q x => by
  obtain ⟨v, D, ev, ow, n, h1, h2, hG⟩ := S.lend hi hl
  refine lkW_list n (fun p hp => ⟨(h1 p hp).2.1, (h1 p hp).2.2.1⟩) fun od W' Q' hW hQ => ?_
  obtain ⟨G1, L⟩ := hG od
  have keep : ∀ {Γ2 : Gm}, KeepX (lnC s) (Γ.set i (some (.fr d))) Γ2 i → ∀ (j : Nat) (s' : Sl), j ≠ i → Γ2[j]? = some (some s') → noXS (lnC s) s' ∨ ∃ d w, s' = .fr d ∧ σ[j]? = some (some w) ∧ Rep K G w d := fun {Γ2} k j s' hj e => by
    rcases k j s' hj e with n | ⟨d0, rfl, e0⟩
    · exact .inl n
    · rw [List.getElem?_set_ne (Ne.symm hj)] at e0
      obtain ⟨w, ew, r⟩ := S.getF e0
      exact .inr ⟨d0, w, rfl, ew, r⟩
  refine h W' O G1 _ σ Q' L.S1 (fun u G2 H2 Γ2 z s2 S2 r ⟨⟨nz, hi2, k⟩, p⟩ => ?_) (fun C e fs G2 H2 Γ2 s2 S2 r ⟨⟨nz, hi2, k⟩, p⟩ => ?_)
  · obtain ⟨bad, sd, hD, S3⟩ := S.unlend hi ow n h1 h2 L s2 S2 hi2 ev (keep k)
    exact hQ u H2 hD (q u _ _ _ z sd S3 (r.delS bad nz) p)
  · obtain ⟨bad, sd, hD, S3⟩ := S.unlend hi ow n h1 h2 L s2 S2 hi2 ev (keep k)
    exact hW _ e σ H2 hD (x C e fs _ _ _ sd S3 (r.delS bad nz) p)
theorem evo_ln {t : WX → TE} (hi : Γ[i]? = some (some s)) (hl : Ln s d) (h : ∀ W', EvO K W' (t W') (Γ.set i (some (.fr d))) (fun z Γ2 => LendX (lnC s) (Γ.set i (some (.fr d))) Γ2 i s d (noXS (lnC s) z) (PO z)) (fun C fs Γ2 => LendX (lnC s) (Γ.set i (some (.fr d))) Γ2 i s d (noXf (lnC s) fs) (X C fs))) : EvO K W (tLn i W t) Γ PO X := fun O G H σ Q S q x => by
  obtain ⟨v, D, ev, ow, n, h1, h2, hG⟩ := S.lend hi hl
  refine lkW_list n (fun p hp => ⟨(h1 p hp).2.1, (h1 p hp).2.2.1⟩) fun od W' Q' hW hQ => ?_
  obtain ⟨G1, L⟩ := hG od
  have keep : ∀ {Γ2 : Gm}, KeepX (lnC s) (Γ.set i (some (.fr d))) Γ2 i → ∀ (j : Nat) (s' : Sl), j ≠ i → Γ2[j]? = some (some s') → noXS (lnC s) s' ∨ ∃ d w, s' = .fr d ∧ σ[j]? = some (some w) ∧ Rep K G w d := fun {Γ2} k j s' hj e => by
    rcases k j s' hj e with n | ⟨d0, rfl, e0⟩
    · exact .inl n
    · rw [List.getElem?_set_ne (Ne.symm hj)] at e0
      obtain ⟨w, ew, r⟩ := S.getF e0
      exact .inr ⟨d0, w, rfl, ew, r⟩
  refine h W' O G1 _ σ Q' L.S1 (fun u G2 H2 Γ2 z s2 S2 ⟨⟨nz, hi2, k⟩, p⟩ => ?_) (fun C e fs G2 H2 Γ2 s2 S2 r ⟨⟨nz, hi2, k⟩, p⟩ => ?_)
  · obtain ⟨bad, sd, hD, S3⟩ := S.unlend (i2 := i + 1) (Γ2 := some z :: Γ2) (σ2 := some u :: σ) hi ow n h1 h2 L s2 S2 (by simpa using hi2) (by simpa using ev) (fun j s' hj e => by
      cases j with
      | zero => have e' : z = s' := by simpa using e
                subst e'; exact .inl nz
      | succ j =>
        rcases keep k j s' (by omega) (by simpa using e) with n | ⟨d0, w, e1, e2, r⟩
        · exact .inl n
        · exact .inr ⟨d0, w, e1, by simpa using e2, r⟩)
    refine hQ u H2 hD (q u _ _ (Γ2.set i (some s)) z sd ?_ p)
    simpa using S3
  · obtain ⟨bad, sd, hD, S3⟩ := S.unlend hi ow n h1 h2 L s2 S2 hi2 ev (keep k)
    exact hW _ e σ H2 hD (x C e fs _ _ _ sd S3 (r.delS bad nz) p)
end
end DL

/-! DD, part f: objects of one's own whose fields are dicts: made, changed, lent. -/
namespace L2
open PySem PySem.Spec PyProof.Rows PySem.W
section
variable {X : Cx} {k : Nat} {f C : Addr} {sp : Sp} {pos : Pos} {a b : Expr} {ta tb : TE}
theorem setItem_own {M : Model} {A : Around} {E : Value → Shared → Prop} {s : Shared} {K : Frag} {x C L f : Addr} {h₀ : Heap} {m : Str → Option Value} {ox : Obj} {od : Option Obj} {v u : Value} {Q : Unit → Shared → Prop} (F : Fr h₀ L s.heap m) (X₀ : K.In h₀) (I : InstAt s.heap x ox C od) (hq : noSeq K C = true) (hs : findIn K (.ref C) "__setitem__" = some (some (.ref f))) (hf : isFn K (.ref f) = true)
    (h : wpAny M A (call (.ref f) [.ref x, v, u]) (fun _ s' => Q () s') E s) : wpAny M A (setItem (.ref x) v u) Q E s := by
  have X := X₀.keeps F.keep
  unfold setItem sequenceKey
  refine wpAny_holding (wpAny_bind (wpAny_bind (I.type.here ?_)))
  refine wpAny_bind ((anyM_none X hq).here ?_)
  rw [if_pos (show (!false) = true from rfl)]
  exact wpAny_pure (wpAny_bind (special_fn X I hs (beq_iff_eq.mp hf) (wpAny_mono h (fun _ _ z => wpAny_pure z) fun _ _ z => z)))
/-- a[b] = v by the class's __setitem__ -/
def gSetO (C : Addr) (sp : Sp) (E : St → XK) (to ti : TE) : TG := fun v σ H Q => to σ H fun o H1 => ti σ H1 fun i H2 => ∃ p dx fs, o = .ref p ∧ H2 p = some (.ins C dx fs) ∧ sp [.ref p, i, v] H2 (fun _ H3 => Q σ H3) (E σ)
theorem pg_setO {E : St → XK} {o i : Expr} {to ti : TE} (c : OpO X.K C f "__setitem__") (F : FnK X.prog X.w X.K X.mg X.base k f [] sp) (hr : Room k X.A) (hx : ∀ σ, PassesAt (L2.CX X.prog X.w) X σ (E σ)) (ho : PE X o to) (hi : PE X i ti)
    (ha : ∀ v, assign (.Subscript o i pos) X.env v = (do
      let ov ← holding [v] (eval o X.env)
      let iv ← holding [v, ov] (eval i X.env)
      standAt pos
      holding [v, ov, iv] (setItem ov iv v)
      release [v, ov, iv] []) := by intro _; rfl) : PG X (.Subscript o i pos) (gSetO C sp E to ti) := by
  refine ⟨fun pins s σ H v u Q I r h => ?_⟩
  rw [ha]
  refine wpAny_bind (wpAny_holding (thn (ho.run pins s σ H _ I h) fun ov s1 ⟨x, H1, I1, r1, q1⟩ => ?_))
  refine wpAny_bind (wpAny_holding (thn (hi.run pins s1 σ H1 _ I1 q1) fun iv s2 ⟨y, H2, I2, r2, q2⟩ => ?_))
  obtain ⟨p, dx, fs, rfl, hp, z⟩ := q2
  obtain rfl : ov = Value.ref p := r1
  obtain ⟨mA, J, _⟩ := ins_get I2.hok hp
  obtain ⟨od, J, _⟩ := J.look
  obtain ⟨m, hF⟩ := I2.fr
  refine wpAny_bind (wpAny_standAt (wpAny_bind (wpAny_holding (setItem_own hF I2.ok.mod.kin J c.sq c.me c.fn ?_))))
  refine thn (call_fnK (us := [.ref p, iv, u]) (vs := [.ref p, y, v]) F hr (hx σ) I2 (.cons rfl (.cons r2 (.cons r .nil))) z) fun r' s3 ⟨w, H3, I3, _, q3⟩ => ?_
  exact wpAny_release ⟨σ, H3, I3, q3⟩
end
end L2
namespace DL
open PySem PySem.Spec L2 PyProof.Rows
theorem pg_setOK {X : Cx} {k j : Nat} {S : DSp} {W : WX} {o i : Expr} {to ti : TE} {pos : Pos} {C f : Addr} (K : PySem.W.Frag) (h : X.K = K) (c : OpO K C f "__setitem__") (D : DA X.prog X.w K X.mg X.base f [] k S) (hr : Room j X.A) (hj : k + 1 ≤ j) (tk : Takes X W) (ho : PE X o to) (hi : PE X i ti)
    (ha : ∀ v, assign (.Subscript o i pos) X.env v = (do
      let ov ← holding [v] (eval o X.env)
      let iv ← holding [v, ov] (eval i X.env)
      standAt pos
      holding [v, ov, iv] (setItem ov iv v)
      release [v, ov, iv] []) := by intro _; rfl) : PG X (.Subscript o i pos) (gSetO C (spD K S) (WE W) to ti) := by
  subst h
  exact pg_setO c D.fn (hr.mono (Nat.le_of_succ_le hj)) (fun σ => passAt tk σ) ho hi ha
/-! ### fields -/
def putS (f : Str) (s : Sl) : List (Str × Sl) → List (Str × Sl)
  | [] => [(f, s)]
  | (g, c) :: r => if g = f then (g, s) :: r else (g, c) :: putS f s r
theorem fpF_put_sub (f : Str) (s : Sl) : ∀ (fs : List (Str × Sl)), ∀ b ∈ fpF (putS f s fs), b ∈ fpF fs ∨ b ∈ s.fp
  | [], b, h => by simp [putS, fpF] at h; exact .inr h
  | (g, c) :: r, b, h => by
    unfold putS at h
    by_cases e : g = f
    · rw [if_pos e] at h
      simp only [fpF, List.mem_append] at h ⊢
      rcases h with h | h
      · exact .inr h
      · exact .inl (.inr h)
    · rw [if_neg e] at h
      simp only [fpF, List.mem_append] at h ⊢
      rcases h with h | h
      · exact .inl (.inl h)
      · rcases fpF_put_sub f s r b h with z | z
        · exact .inl (.inr z)
        · exact .inr z
theorem fpF_put_nd (f : Str) (s : Sl) : ∀ (fs : List (Str × Sl)), (s.fp ++ fpF fs).Nodup → (fpF (putS f s fs)).Nodup
  | [], h => by simpa [putS, fpF] using h
  | (g, c) :: r, h => by
    unfold putS
    simp only [fpF] at h
    obtain ⟨n1, n2, n3⟩ := List.nodup_append.mp h
    obtain ⟨m1, m2, m3⟩ := List.nodup_append.mp n2
    by_cases e : g = f
    · rw [if_pos e]
      simp only [fpF]
      rw [List.nodup_append]
      exact ⟨n1, m2, fun a ha b hb => n3 a ha b (List.mem_append_right _ hb)⟩
    · rw [if_neg e]
      simp only [fpF]
      rw [List.nodup_append]
      refine ⟨m1, fpF_put_nd f s r (by rw [List.nodup_append]; exact ⟨n1, m2, fun a ha b hb => n3 a ha b (List.mem_append_right _ hb)⟩), fun a ha b hb => ?_⟩
      rcases fpF_put_sub f s r b hb with z | z
      · exact m3 a ha b z
      · exact fun e => n3 b z a (List.mem_append_left _ ha) e.symm
section
variable {K : PySem.W.Frag} {W : WX} {Γ Γ' Γ2 Γ3 : Gm} {X : XP} {P : Dt → Gm → Prop} {PO : Sl → Gm → Prop} {te ta tb ti tv : TE} {i j : Nat} {nx : Gm → Prop} {rt : Sl → Gm → Prop} {xc : XP} {bk ct : Gm → Prop} {a C : Addr} {f : Str} {t : TA}
theorem ownF_put {G H : Hp} {v : V} {s : Sl} (f : Str) (o : Own K G H v s) : ∀ {vs : List (Str × V)} {fs : List (Str × Sl)}, OwnF K G H vs fs → OwnF K G H (putF f v vs) (putS f s fs)
  | _, _, .nil => .cons o .nil
  | _, _, .cons (f := g) (vs := r) (ss := r') q t => by
    unfold putF putS
    by_cases e : g = f
    · rw [if_pos e, if_pos e]; exact .cons o t
    · rw [if_neg e, if_neg e]; exact .cons q (ownF_put f o t)
theorem OwnF.length {G H : Hp} : ∀ {vs : List (Str × V)} {fs : List (Str × Sl)}, OwnF K G H vs fs → vs.length = fs.length
  | _, _, .nil => rfl
  | _, _, .cons _ t => by simp [OwnF.length t]
theorem OwnF.look {G H : Hp} {s : Sl} : ∀ {vs : List (Str × V)} {fs : List (Str × Sl)}, OwnF K G H vs fs → fs.lookup f = some s → ∃ v, vs.lookup f = some v ∧ Own K G H v s
  | _, _, .nil, h => by cases h
  | _, _, .cons (f := g) q t, h => by
    rw [List.lookup_cons] at h ⊢
    cases e : (f == g) with
    | true => rw [e] at h; cases h; exact ⟨_, rfl, q⟩
    | false => rw [e] at h; exact OwnF.look t h
/-- self.f = e, anything -/
def sFldO (K : PySem.W.Frag) (ta tv : TE) (f : Str) : TS := sFld K ta tv f
theorem mkFO {X : Cx} {st : Stmt} (h : PS X st (sFld K ta tv f)) : PS X st (sFldO K ta tv f) := h
theorem g_fldO (h : EvO K W tv Γ (fun s Γ1 => ∃ a C fs, Γ1[i]? = some (some (.oo a C fs)) ∧ (Cls K C ∧ NoAttr K C f ∧ fs.length < 1000) ∧ nx (Γ1.set i (some (.oo a C (putS f s fs))))) xc) : Go K W (sFldO K (tVar i) tv f) Γ ⟨nx, rt, xc, bk, ct⟩ := fun O G H σ D S x1 b c d e =>
  h O G H σ _ S (fun v G1 H1 Γ1 s s1 S1 ⟨ad, C, fs, hg, ⟨hc, hn, hl⟩, p⟩ => by
    obtain ⟨u, eu, ou⟩ := S1.tail.get hg
    have z := ou.adr rfl
    subst z
    cases ou with
    | @oo _ _ dx fsv _ hy of =>
    have ow := S1.head
    have nd := S1.nd
    simp only [fps, fpO] at nd
    obtain ⟨n1, n2, n3⟩ := List.nodup_append.mp nd
    have mo : ∀ b ∈ (Sl.oo ad C fs).fp, b ∈ fps Γ1 := mem_fps hg
    obtain ⟨m1, _⟩ := fps_part hg n2
    simp only [Sl.fp] at m1 mo
    obtain ⟨k1, k2⟩ := List.nodup_cons.mp m1
    have as : ad ∉ s.fp := fun z => n3 ad z ad (mo ad (List.mem_cons_self ..)) rfl
    have dis : (s.fp ++ fpF fs).Nodup := by
      rw [List.nodup_append]
      exact ⟨n1, k2, fun a ha b hb => n3 a ha b (mo b (List.mem_cons_of_mem _ hb))⟩
    refine ⟨_, eu, ad, C, dx, fsv, rfl, hy, hc, hn, by rw [of.length]; exact hl, ?_⟩
    refine x1 G1 _ σ _ s1 (S1.mutS2 hg eu (by simp [Sl.fp]) (fun b hb => ?_) ?_ (.oo upd_same ((ownF_put f ow of).mono (Same.refl _) fun b hb o q => ?_))) p
    · simp only [Sl.fp, List.mem_cons] at hb ⊢
      rcases hb with hb | hb
      · exact .inl (.inl hb)
      · rcases fpF_put_sub f s fs b hb with z | z
        · exact .inl (.inr z)
        · exact .inr z
    · simp only [Sl.fp]
      rw [List.nodup_cons]
      refine ⟨fun z => ?_, fpF_put_nd f s fs dis⟩
      rcases fpF_put_sub f s fs ad z with z | z
      · exact k1 z
      · exact as z
    · rw [upd_ne fun z => ?_]
      · exact q
      · subst z
        rcases fpF_put_sub f s fs _ hb with z | z
        · exact k1 z
        · exact as z) (e σ)
/-- self.f[k] = v, a dict in a field -/
theorem g_subFT (h : Ev K W te Γ (fun v Γ1 => ∃ a C fs b kvs, Γ1[i]? = some (some (.oo a C fs)) ∧ Cls K C ∧ NoAttr K C f ∧ fs.lookup f = some (.oT b kvs) ∧ Ev K W ti Γ1 (fun y Γ2 => ∃ a C fs kvs k, Γ2[i]? = some (some (.oo a C fs)) ∧ fs.lookup f = some (.oT b kvs) ∧ y = kDs k ∧ kvs.length < 1000000 ∧ nx (Γ2.set i (some (.oo a C (putS f (.oT b (pA kvs k v)) fs))))) xc) xc) :
    Go K W (tAsg te (gSub (tFldP K (tVar i) f) ti rSetP)) Γ ⟨nx, rt, xc, bk, ct⟩ := fun O G H σ D S x1 b c d e =>
  h O G H σ _ S (fun v G1 H1 Γ1 dv s1 S1 r ⟨a1, C1, fs1, b1, kv1, hg1, hc, hn, hl1, h2⟩ => by
    obtain ⟨u, eu, ou⟩ := S1.get hg1
    have z := ou.adr rfl
    subst z
    cases ou with
    | @oo _ _ dx fsv _ hy of =>
    obtain ⟨w, ew, o1⟩ := of.look hl1
    have zw := o1.adr rfl
    subst zw
    refine ⟨_, eu, .inl ⟨a1, C1, dx, fsv, _, rfl, hy, hc, hn, ew, ?_⟩⟩
    refine h2 O G1 H1 σ _ S1 (fun y G2 H2 Γ2 dy s2 S2 r2 ⟨a2, C2, fs2, kvs, k, hg2, hl2, ek, hl, p⟩ => ?_) ((e σ).mono s1)
    subst ek
    obtain ⟨u2, eu2, ou2⟩ := S2.get hg2
    have z2 := ou2.adr rfl
    subst z2
    cases ou2 with
    | @oo _ _ dx2 fsv2 _ hy2 of2 =>
    obtain ⟨w2, ew2, o2⟩ := of2.look hl2
    have zw2 := o2.adr rfl
    subst zw2
    cases o2 with
    | @oT _ xs _ hx rx =>
    cases r2 with
    | @tup bt ys _ hb rb =>
    rw [reps_kD rb] at hb
    refine .inr ⟨b1, _, rfl, .inr ⟨xs, k, bt, hx, rfl, S2.g _ _ hb, by rw [rx.length]; exact Nat.lt_of_lt_of_le hl (by decide), rfl⟩, ?_⟩
    -- the dict is changed in its own place
    obtain ⟨m1, _⟩ := fps_part hg2 S2.nd
    simp only [Sl.fp] at m1
    obtain ⟨k1, k2⟩ := List.nodup_cons.mp m1
    have inF : ∀ {fs : List (Str × Sl)}, fs.lookup f = some (.oT b1 kvs) → b1 ∈ fpF fs := by
      intro fs
      induction fs with
      | nil => intro h; cases h
      | cons q fs ih =>
        obtain ⟨g, s⟩ := q
        intro h
        rw [List.lookup_cons] at h
        cases e : (f == g) with
        | true => rw [e] at h; cases h; simp [fpF, Sl.fp]
        | false => rw [e] at h; simp [fpF, ih h]
    have mb := inF hl2
    have putV : ∀ {vs : List (Str × V)} {fs : List (Str × Sl)}, OwnF K G2 H2 vs fs → vs.lookup f = some (.ref b1) → fs.lookup f = some (.oT b1 kvs) → (fpF fs).Nodup → OwnF K G2 (upd H2 b1 (.dT (putK xs k v))) vs (putS f (.oT b1 (pA kvs k dv)) fs) := by
      intro vs fs of
      induction fs generalizing vs with
      | nil => intro _ h; cases h
      | cons q fs ih =>
        obtain ⟨g, s⟩ := q
        cases of with
        | @cons _ v0 vs _ _ o1 o2 =>
        intro hv hf nd
        simp only [fpF] at nd
        obtain ⟨n1, n2, n3⟩ := List.nodup_append.mp nd
        rw [List.lookup_cons] at hv hf
        unfold putS
        cases e : (f == g) with
        | true =>
          rw [e] at hv hf
          have eg : g = f := by simpa using (beq_iff_eq.mp e).symm
          cases hf
          rw [if_pos eg]
          cases hv
          refine .cons (.oT upd_same (rx.put k (r.mono s2))) (o2.mono (Same.refl _) fun b hb o q => ?_)
          rw [upd_ne fun z => n3 b1 (by simp [Sl.fp]) b hb z.symm]
          exact q
        | false =>
          rw [e] at hv hf
          have eg : g ≠ f := fun z => by rw [z] at e; simp at e
          rw [if_neg eg]
          refine .cons (o1.mono (Same.refl _) fun b hb o q => ?_) (ih o2 hv hf n2)
          rw [upd_ne fun z => n3 b hb b1 (inF hf) z]
          exact q
    have fpe : ∀ {fs : List (Str × Sl)}, fs.lookup f = some (.oT b1 kvs) → fpF (putS f (.oT b1 (pA kvs k dv)) fs) = fpF fs := by
      intro fs
      induction fs with
      | nil => intro h; cases h
      | cons q fs ih =>
        obtain ⟨g, s⟩ := q
        intro hf
        rw [List.lookup_cons] at hf
        unfold putS
        cases e : (f == g) with
        | true =>
          rw [e] at hf
          have eg : g = f := by simpa using (beq_iff_eq.mp e).symm
          cases hf
          rw [if_pos eg]
          simp [fpF, Sl.fp]
        | false =>
          rw [e] at hf
          have eg : g ≠ f := fun z => by rw [z] at e; simp at e
          rw [if_neg eg]
          simp only [fpF]
          rw [ih hf]
    refine x1 G2 _ σ _ (s1.trans s2) (S2.mutS hg2 eu2 (a := b1) (by simp [Sl.fp, mb]) (fun b hb => ?_) ?_ (.oo (dx := dx2) (fs := fsv2) ?_ (putV of2 ew2 hl2 k2))) p
    · simp only [Sl.fp] at hb ⊢; rw [fpe hl2] at hb; exact hb
    · simp only [Sl.fp]; rw [fpe hl2]; exact m1
    · rw [upd_ne fun z => k1 (by rw [z]; exact mb)]; exact hy2) (e σ)
/-! ### an instance is made, one's own -/
def CallMO (S : DSp) (C : Addr) (ds : List Dt) (R : Addr → List (Str × Sl) → Prop) (Y : Addr → List (Str × Dt) → Prop) : Prop :=
  ∀ y, S (.oo y C (frF []) :: ds.map .fr) (fun res args' => ∃ fs, res = .fr .non ∧ args' = .oo y C fs :: ds.map .fr ∧ R y fs) (fun D fs _ => Y D fs)
theorem evo_make {S : DSp} (h : EvA K W t Γ (fun ds Γ1 => CallMO S C ds (fun y fs => PO (.oo y C fs) Γ1) (fun D fs => X D fs Γ1)) X) : EvO K W (tMakeS C (spD K S) (WE W) t) Γ PO X := fun O G H σ Q S0 q x =>
  h O G H σ _ S0 (fun vs G1 H1 Γ1 ds s1 S1 r hS y dy ny nd ne => by
    have e1 : Ext G1 H1 G1 (upd H1 dy (.own y)) := Ext.raw S1.g nd
    have ny2 : upd H1 dy (.own y) y = none := by rw [upd_ne (Ne.symm ne)]; exact ny
    have e2 : Ext G1 (upd H1 dy (.own y)) G1 (upd (upd H1 dy (.own y)) y (.ins C dy [])) := Ext.raw e1.s ny2
    have S2 := S1.ext (e1.trans e2)
    have Se := S2.entry0 r
    have yf : y ∉ fps Γ1 := fun z => S1.there y z ny
    have Sp := Se.push (v := .ref y) (s := .oo y C []) (.oo upd_same .nil) (by simp [Sl.fp, fpF]) (fun a ha => by
      simp [Sl.fp, fpF] at ha; subst ha; exact S1.g.free ny) (fun a ha => by
      simp [Sl.fp, fpF] at ha; subst ha
      rw [forn_out yf]; exact S1.o.free ny) (fun a ha => by rw [fps_fr]; simp)
    refine ⟨_, G1, .oo y C [] :: ds.map .fr, _, _, Sp, hS y, fun v G2 H2 res args' s2 T2 p => ?_, fun D d fs G2 H2 args' s2 T2 rx p => ?_⟩
    · obtain ⟨fs, er, ea, p⟩ := p
      subst er ea
      have hv := T2.head
      cases hv with
      | fr rv =>
      cases rv
      refine ⟨rfl, ?_⟩
      have Tt := T2.tail
      have oy := Tt.head
      have Tb := S2.back s2 T2.g T2.o T2.d
      have ndt := Tt.nd
      simp only [List.map_cons, fps, fpO] at ndt
      have mem : ∀ a ∈ (Sl.oo y C fs).fp, a ∈ fps (sls (.oo y C fs :: ds.map .fr)) := fun a ha => by simp only [List.map_cons, fps, fpO, List.mem_append]; exact .inl ha
      refine q (.ref y) G2 H2 Γ1 _ (s1.trans s2) (Tb.push oy (List.nodup_append.mp ndt).1 (fun a ha => Tt.ng a (mem a ha)) (fun a ha => ?_) (fun a ha z => ?_)) p
      · have n := Tt.no a (mem a ha)
        by_cases hf : a ∈ fps Γ1
        · exact S1.no a hf
        · rw [forn_out hf] at n; exact n
      · have n := Tt.no a (mem a ha)
        rw [forn_in z] at n
        exact S2.there a z n
    · exact x D d fs G2 H2 Γ1 (s1.trans s2) (S2.back s2 T2.g T2.o T2.d) rx p) x
/-! ### a call that gets the slot i itself, at one state -/
theorem call1_at {S : DSp} {E : XK} {O G1 H1 : Hp} {σ : L2.St} {vs us : List V} {v : V} {ds es : List Dt} {s : Sl} {Q : VK} {R : Sl → Sl → Prop} {Y : Addr → List (Str × Dt) → Sl → Prop} (S1 : Sta K O G1 H1 σ Γ) (r1 : Reps K G1 vs ds) (hv : σ[i]? = some (some v)) (r2 : Reps K G1 us es) (hs : Γ[i]? = some (some s))
    (hS : CallB S ds es s R Y) (q : ∀ (u : V) (G2 H2 : Hp) (res s' : Sl), Same G1 G2 → Sta K O G2 H2 (some u :: σ) (some res :: Γ.set i (some s')) → R res s' → Q u H2)
    (x : ∀ (C : Addr) (d : Option Addr) (fs : List (Str × Dt)) (G2 H2 : Hp) (s' : Sl), Same G1 G2 → Sta K O G2 H2 σ (Γ.set i (some s')) → RepX K G2 d fs → Y C fs s' → E (.ref C) d H2) : spD K S (vs ++ v :: us) H1 Q E := by
  obtain ⟨v', ev, ow⟩ := S1.get hs
  rw [hv] at ev
  obtain rfl : v = v' := Option.some.inj (Option.some.inj ev)
  obtain ⟨m1, m2⟩ := fps_part hs S1.nd
  have Sf : Sta K O G1 H1 (σ.set i (some v)) (Γ.set i none) := S1.forget i (some v)
  rw [set_here hv] at Sf
  have ent : Sta K (forn O H1 (fps (Γ.set i none))) G1 H1 (sms (vs ++ v :: us)) (sls (ds.map .fr ++ s :: es.map .fr)) := by
    refine ⟨S1.g, fun a u z => ?_, fun a z => ?_, slots_one ow r2 r1, by rw [fps_one]; exact m1, fun a ha => ?_, fun a ha => ?_, S1.fornM fun a h => (fps_set_sub i a h).elim (fun z => by simp [fpO] at z) id⟩
    · by_cases ha : a ∈ fps (Γ.set i none)
      · rw [forn_in ha] at z; exact z
      · rw [forn_out ha] at z; exact S1.o a u z
    · by_cases ha : a ∈ fps (Γ.set i none)
      · exact Sf.ng a ha
      · rw [forn_out ha] at z; exact S1.d a z
    · rw [fps_one] at ha; exact S1.ng a (mem_fps hs a ha)
    · rw [fps_one] at ha
      rw [forn_out (m2 a ha)]
      exact S1.no a (mem_fps hs a ha)
  have fin : ∀ {G2 H2 : Hp} {s' : Sl}, Same G1 G2 → Same G2 H2 → Same (forn O H1 (fps (Γ.set i none))) H2 → (∀ a, forn O H1 (fps (Γ.set i none)) a ≠ none → G2 a = none) → Own K G2 H2 v s' → s'.fp.Nodup → (∀ a ∈ s'.fp, G2 a = none) → (∀ a ∈ s'.fp, forn O H1 (fps (Γ.set i none)) a = none) →
      Sta K O G2 H2 σ (Γ.set i (some s')) := fun {G2 H2 s'} s2 g o d ow' nd ng no => by
    have T := Sf.back s2 g o d
    have T2 := (T.push ow' nd ng (fun a ha => ?_) (fun a ha z => ?_)).put i
    · rw [set_here hv, List.set_set] at T2
      exact T2
    · have n := no a ha
      by_cases hf : a ∈ fps (Γ.set i none)
      · exact Sf.no a hf
      · rw [forn_out hf] at n; exact n
    · have n := no a ha
      rw [forn_in z] at n
      exact Sf.there a z n
  refine ⟨forn O H1 (fps (Γ.set i none)), G1, _, _, _, ent, hS, fun u G2 H2 res args' s2 S2 ⟨s', ea, p⟩ => ?_, fun C d fs G2 H2 args' s2 S2 rx ⟨s', ea, p⟩ => ?_⟩
  · subst ea
    have St := S2.tail
    have ow2 := slots_mid r1.length St.sl
    have nds := St.nd
    rw [fps_one] at nds
    have ngs := St.ng
    rw [fps_one] at ngs
    have nos := St.no
    rw [fps_one] at nos
    have T := fin s2 S2.g S2.o S2.d ow2 nds ngs nos
    have nd := S2.nd
    simp only [fps, fpO] at nd
    rw [fps_one] at nd
    obtain ⟨n1, n2, n3⟩ := List.nodup_append.mp nd
    have mem : ∀ a ∈ res.fp, a ∈ fps (some res :: sls (ds.map .fr ++ s' :: es.map .fr)) := fun a ha => by simp [fps, fpO, ha]
    refine q u G2 H2 res s' s2 (T.push S2.head n1 (fun a ha => S2.ng a (mem a ha)) (fun a ha => ?_) (fun a ha z => ?_)) p
    · have n := S2.no a (mem a ha)
      by_cases hf : a ∈ fps (Γ.set i none)
      · exact Sf.no a hf
      · rw [forn_out hf] at n; exact n
    · have e2 : Γ.set i (some s') = (Γ.set i none).set i (some s') := by rw [List.set_set]
      rw [e2] at z
      rcases fps_set_sub i a z with z | z
      · exact n3 a ha a z rfl
      · have n := S2.no a (mem a ha)
        rw [forn_in z] at n
        exact Sf.there a z n
  · subst ea
    have ow2 := slots_mid r1.length S2.sl
    have nds := S2.nd
    rw [fps_one] at nds
    have ngs := S2.ng
    rw [fps_one] at ngs
    have nos := S2.no
    rw [fps_one] at nos
    exact x C d fs G2 H2 s' s2 (fin s2 S2.g S2.o S2.d ow2 nds ngs nos) rx p
/-- x[k] = v of an object of one's own -/
theorem g_stO {S : DSp} (h : Ev K W te Γ (fun v Γ1 => (∃ a fs, Γ1[i]? = some (some (.oo a C fs))) ∧ Ev K W ti Γ1 (fun y Γ2 => ∃ a fs, Γ2[i]? = some (some (.oo a C fs)) ∧ CallB S [] [y, v] (.oo a C fs) (fun _ s' => nx (Γ2.set i (some s'))) (fun D fs s' => xc D fs (Γ2.set i (some s')))) xc) xc) :
    Go K W (tAsg te (gSetO C (spD K S) (WE W) (tVar i) ti)) Γ ⟨nx, rt, xc, bk, ct⟩ := fun O G H σ D S0 x1 b c d e =>
  h O G H σ _ S0 (fun v G1 H1 Γ1 dv s1 S1 r ⟨⟨a1, fs1, hg1⟩, h2⟩ => by
    obtain ⟨u, eu, ou⟩ := S1.get hg1
    have z := ou.adr rfl
    subst z
    refine ⟨_, eu, h2 O G1 H1 σ _ S1 (fun y G2 H2 Γ2 dy s2 S2 r2 ⟨a2, fs2, hg2, hS⟩ => ?_) ((e σ).mono s1)⟩
    obtain ⟨u2, eu2, ou2⟩ := S2.get hg2
    have z2 := ou2.adr rfl
    subst z2
    rw [eu] at eu2
    cases eu2
    cases ou2 with
    | @oo _ _ dx fsv _ hy of =>
    refine ⟨a1, dx, fsv, rfl, hy, ?_⟩
    refine call1_at (vs := []) (ds := []) (R := fun _ s' => nx (Γ2.set i (some s'))) (Y := fun D fs s' => xc D fs (Γ2.set i (some s'))) S2 .nil eu (.cons r2 (.cons (r.mono s2) .nil)) hg2 hS (fun u G3 H3 res s' s3 S3 p => ?_) (fun D d fs G3 H3 s' s3 S3 rx p => ?_)
    · exact x1 G3 H3 σ _ ((s1.trans s2).trans s3) S3.tail p
    · exact (e σ) D d fs G3 H3 _ ((s1.trans s2).trans s3) S3 rx p) (e σ)
end
end DL

/-! DD, part g: the driver for part e and f; star parameters with keyword-only ones. -/
namespace DL
open PySem PySem.Spec L2 PyProof.Rows
/-! ### what is left of a conjunction -/
class AndC (p q : Prop) (r : outParam Prop) : Prop where
  h : r → p ∧ q
instance (priority := 2000) {q : Prop} : AndC True q q := ⟨fun h => ⟨trivial, h⟩⟩
instance (priority := 1500) {p : Prop} : AndC p True p := ⟨fun h => ⟨h, trivial⟩⟩
instance (priority := low) {p q : Prop} : AndC p q (p ∧ q) := ⟨fun h => h⟩
class NeC (a b : Addr) : Prop where
  h : a ≠ b
theorem NeC.of {a b : Addr} (h : decide (a ≠ b) = true) : NeC a b := ⟨of_decide_eq_true h⟩
class NeS (a b : Str) : Prop where
  h : a ≠ b
/-! ### apart -/
class NoXC (c : Option Addr) (d : Dt) (p : outParam Prop) : Prop where
  h : p → noX c d
class NoXsC (c : Option Addr) (d : List Dt) (p : outParam Prop) : Prop where
  h : p → noXs c d
class NoXfC (c : Option Addr) (d : List (Str × Dt)) (p : outParam Prop) : Prop where
  h : p → noXf c d
class NoXvC {κ : Type} (c : Option Addr) (d : List (κ × Dt)) (p : outParam Prop) : Prop where
  h : p → noXv c d
theorem noXs_map {c : Option Addr} {α : Type} {f : α → Dt} (h : ∀ x, noX c (f x)) : ∀ l : List α, noXs c (l.map f)
  | [] => by simp only [List.map_nil, noXs]
  | x :: l => by rw [List.map_cons]; simp only [noXs]; exact ⟨h x, noXs_map h l⟩
theorem noXs_mem {c : Option Addr} : ∀ {l : List Dt}, (∀ x ∈ l, noX c x) → noXs c l
  | [], _ => by simp only [noXs]
  | x :: l, h => by simp only [noXs]; exact ⟨h x (List.mem_cons_self ..), noXs_mem fun y hy => h y (List.mem_cons_of_mem _ hy)⟩
theorem mem_noXs {c : Option Addr} : ∀ {l : List Dt}, noXs c l → ∀ x ∈ l, noX c x
  | _ :: l, h, x, hx => by
    simp only [noXs] at h
    rcases List.mem_cons.mp hx with e | hx
    · rw [e]; exact h.1
    · exact mem_noXs h.2 x hx
section
variable {c : Option Addr} {d : Dt} {ds : List Dt} {C C' : Addr} {fs : List (Str × Dt)} {f : Str} {p q r : Prop}
instance {n : Int} : NoXC c (.int n) True := ⟨fun _ => by simp only [noX]⟩
instance {n : Bool} : NoXC c (.bl n) True := ⟨fun _ => by simp only [noX]⟩
instance {n : Str} : NoXC c (.str n) True := ⟨fun _ => by simp only [noX]⟩
instance {n : String} : NoXC c (.ty n) True := ⟨fun _ => by simp only [noX]⟩
instance {n : Addr} : NoXC c (.ref n) True := ⟨fun _ => by simp only [noX]⟩
instance {n : List Int} : NoXC c (.scr n) True := ⟨fun _ => by simp only [noX]⟩
instance : NoXC c .non True := ⟨fun _ => by simp only [noX]⟩
instance {k : Key} : NoXC c (kD k) True := ⟨fun _ => by cases k <;> simp only [kD, noX]⟩
instance [h : NoXsC c ds p] : NoXC c (.tup ds) p := ⟨fun z => by simp only [noX]; exact h.h z⟩
instance [h : NoXsC c ds p] : NoXC c (.lst ds) p := ⟨fun z => by simp only [noX]; exact h.h z⟩
instance [n : NeC C' C] [h : NoXfC (some C) fs p] : NoXC (some C) (.obj C' fs) p := ⟨fun z => by simp only [noX]; exact ⟨fun e => n.h (Option.some.inj e), h.h z⟩⟩
instance [h : NoXfC none fs p] : NoXC none (.obj C' fs) p := ⟨fun z => by simp only [noX]; exact ⟨fun e => (by cases e), h.h z⟩⟩
instance (priority := low) : NoXC c d (noX c d) := ⟨id⟩
instance : NoXsC c [] True := ⟨fun _ => by simp only [noXs]⟩
instance [h : NoXC c d p] [t : NoXsC c ds q] [a : AndC p q r] : NoXsC c (d :: ds) r := ⟨fun z => by simp only [noXs]; exact ⟨h.h (a.h z).1, t.h (a.h z).2⟩⟩
instance {l : List Str} : NoXsC c (l.map Dt.str) True := ⟨fun _ => noXs_map (fun _ => by simp only [noX]) l⟩
instance {l : List Int} : NoXsC c (l.map Dt.int) True := ⟨fun _ => noXs_map (fun _ => by simp only [noX]) l⟩
instance {l : List Key} : NoXsC c (l.map kD) True := ⟨fun _ => noXs_map (fun k => by cases k <;> simp only [kD, noX]) l⟩
instance (priority := low) : NoXsC c ds (noXs c ds) := ⟨id⟩
instance : NoXfC c [] True := ⟨fun _ => by simp only [noXf]⟩
instance [h : NoXC c d p] [t : NoXfC c fs q] [a : AndC p q r] : NoXfC c ((f, d) :: fs) r := ⟨fun z => by simp only [noXf]; exact ⟨h.h (a.h z).1, t.h (a.h z).2⟩⟩
instance (priority := low) : NoXfC c fs (noXf c fs) := ⟨id⟩
variable {κ : Type} [DecidableEq κ]
theorem noXv_put {kvs : List (κ × Dt)} {k : κ} (h : noXv c kvs) (n : noX c d) : noXv c (pA kvs k d) := by
  intro x hx
  unfold pA at hx
  split at hx
  · obtain ⟨y, hy, e⟩ := List.mem_map.mp hx
    by_cases ek : y.1 = k
    · rw [if_pos ek] at e; rw [← e]; exact n
    · rw [if_neg ek] at e; rw [← e]; exact h y hy
  · rcases List.mem_append.mp hx with z | z
    · exact h x z
    · rw [List.mem_singleton] at z; rw [z]; exact n
instance : NoXvC c ([] : List (κ × Dt)) True := ⟨fun _ x hx => nomatch hx⟩
instance {k : κ} {kvs : List (κ × Dt)} [h : NoXC c d p] [t : NoXvC c kvs q] [a : AndC p q r] : NoXvC c (pA kvs k d) r := ⟨fun z => noXv_put (t.h (a.h z).2) (h.h (a.h z).1)⟩
instance (priority := low) {κ : Type} {kvs : List (κ × Dt)} : NoXvC c kvs (noXv c kvs) := ⟨id⟩
end
class NoXSC (c : Option Addr) (s : Sl) (p : outParam Prop) : Prop where
  h : p → noXS c s
class NoXSfC (c : Option Addr) (s : List (Str × Sl)) (p : outParam Prop) : Prop where
  h : p → noXSf c s
section
variable {c : Option Addr} {d : Dt} {ds : List Dt} {a C : Addr} {fs : List (Str × Dt)} {ss : List (Str × Sl)} {s : Sl} {f : Str} {p q r : Prop}
instance [h : NoXC c d p] : NoXSC c (.fr d) p := ⟨fun z => by simp only [noXS]; exact h.h z⟩
instance [h : NoXsC c ds p] : NoXSC c (.ol a ds) p := ⟨fun z => by simp only [noXS]; exact h.h z⟩
instance : NoXSC c (.os a St4) True := ⟨fun _ => by
  simp only [noXS]
  rintro ds ⟨i, j, k, l, rfl⟩
  simp only [noXs, noX, and_self]⟩
instance {kvs : List (Key × Dt)} [h : NoXvC c kvs p] : NoXSC c (.oK a kvs) p := ⟨fun z => by simp only [noXS]; exact h.h z⟩
instance {kvs : List (List Key × Dt)} [h : NoXvC c kvs p] : NoXSC c (.oT a kvs) p := ⟨fun z => by simp only [noXS]; exact h.h z⟩
instance [h : NoXSfC c ss p] : NoXSC c (.oo a C ss) p := ⟨fun z => by simp only [noXS]; exact h.h z⟩
instance {e : Option Addr} [h : NoXfC c fs p] : NoXSC c (.ex a C e fs) p := ⟨fun z => by simp only [noXS]; exact h.h z⟩
instance (priority := low) : NoXSC c s (noXS c s) := ⟨id⟩
instance : NoXSfC c [] True := ⟨fun _ => by simp only [noXSf]⟩
instance [h : NoXSC c s p] [t : NoXSfC c ss q] [a : AndC p q r] : NoXSfC c ((f, s) :: ss) r := ⟨fun z => by simp only [noXSf]; exact ⟨h.h (a.h z).1, t.h (a.h z).2⟩⟩
end
/-! ### the slots behind -/
class KpXC (c : Option Addr) (x y : Option Sl) (p : outParam Prop) : Prop where
  h : p → ∀ s, y = some s → noXS c s ∨ ∃ d, s = .fr d ∧ x = some (.fr d)
class KeepAC (c : Option Addr) (Γ Γ2 : Gm) (p : outParam Prop) : Prop where
  h : p → ∀ (j : Nat) (s : Sl), Γ2[j]? = some (some s) → noXS c s ∨ ∃ d, s = .fr d ∧ Γ[j]? = some (some (.fr d))
class KeepXC (c : Option Addr) (Γ Γ2 : Gm) (i : Nat) (p : outParam Prop) : Prop where
  h : p → KeepX c Γ Γ2 i
section
variable {c : Option Addr} {Γ Γ2 : Gm} {x y : Option Sl} {s : Sl} {d : Dt} {i : Nat} {p q r : Prop}
instance : KpXC c x none True := ⟨fun _ s e => by cases e⟩
instance (priority := high) : KpXC c (some (.fr d)) (some (.fr d)) True := ⟨fun _ s e => by cases e; exact .inr ⟨d, rfl, rfl⟩⟩
instance (priority := low) [h : NoXSC c s p] : KpXC c x (some s) p := ⟨fun z s' e => by cases e; exact .inl (h.h z)⟩
instance : KeepAC c [] [] True := ⟨fun _ j s e => by simp at e⟩
instance [h : KpXC c x y p] [t : KeepAC c Γ Γ2 q] [a : AndC p q r] : KeepAC c (x :: Γ) (y :: Γ2) r := ⟨fun z j s e => by
  cases j with
  | zero =>
    have e' : y = some s := by simpa using e
    rcases h.h (a.h z).1 s e' with n | ⟨d, e1, e2⟩
    · exact .inl n
    · exact .inr ⟨d, e1, by simpa using e2⟩
  | succ j =>
    rcases t.h (a.h z).2 j s (by simpa using e) with n | ⟨d, e1, e2⟩
    · exact .inl n
    · exact .inr ⟨d, e1, by simpa using e2⟩⟩
instance [t : KeepAC c Γ Γ2 p] : KeepXC c (x :: Γ) (y :: Γ2) 0 p := ⟨fun z j s hj e => by
  cases j with
  | zero => exact absurd rfl hj
  | succ j =>
    rcases t.h z j s (by simpa using e) with n | ⟨d, e1, e2⟩
    · exact .inl n
    · exact .inr ⟨d, e1, by simpa using e2⟩⟩
instance [h : KpXC c x y p] [t : KeepXC c Γ Γ2 i q] [a : AndC p q r] : KeepXC c (x :: Γ) (y :: Γ2) (i + 1) r := ⟨fun z j s hj e => by
  cases j with
  | zero =>
    have e' : y = some s := by simpa using e
    rcases h.h (a.h z).1 s e' with n | ⟨d, e1, e2⟩
    · exact .inl n
    · exact .inr ⟨d, e1, by simpa using e2⟩
  | succ j =>
    rcases t.h (a.h z).2 j s (by omega) (by simpa using e) with n | ⟨d, e1, e2⟩
    · exact .inl n
    · exact .inr ⟨d, e1, by simpa using e2⟩⟩
end
/-! ### what is lent -/
class LnFC (fs : List (Str × Sl)) (ds : outParam (List (Str × Dt))) : Prop where
  h : LnF fs ds
class LnC (s : Sl) (d : outParam Dt) (c : outParam (Option Addr)) : Prop where
  h : Ln s d
  e : lnC s = c
theorem LnF.frF : ∀ fs : List (Str × Dt), LnF (frF fs) fs
  | [] => .nil
  | (_, _) :: r => .fr (LnF.frF r)
section
variable {fs : List (Str × Sl)} {ds : List (Str × Dt)} {f : Str} {d : Dt} {b a C : Addr}
instance : LnFC [] [] := ⟨.nil⟩
instance {ds : List (Str × Dt)} : LnFC (frF ds) ds := ⟨LnF.frF ds⟩
instance [h : LnFC fs ds] : LnFC ((f, .fr d) :: fs) ((f, d) :: ds) := ⟨.fr h.h⟩
instance {kvs : List (Key × Dt)} [h : LnFC fs ds] : LnFC ((f, .oK b kvs) :: fs) ((f, .dK kvs) :: ds) := ⟨.oK h.h⟩
instance {kvs : List (List Key × Dt)} [h : LnFC fs ds] : LnFC ((f, .oT b kvs) :: fs) ((f, .dT kvs) :: ds) := ⟨.oT h.h⟩
instance {kvs : List (Key × Dt)} : LnC (.oK b kvs) (.dK kvs) none := ⟨.oK b kvs, rfl⟩
instance {kvs : List (List Key × Dt)} : LnC (.oT b kvs) (.dT kvs) none := ⟨.oT b kvs, rfl⟩
instance [h : LnFC fs ds] : LnC (.oo a C fs) (.obj C ds) (some C) := ⟨.oo a C h.h, rfl⟩
end
class NPC (N : Prop) (p : outParam Prop) : Prop where
  h : p → N
instance {c : Option Addr} {d : Dt} {p : Prop} [h : NoXC c d p] : NPC (noX c d) p := ⟨h.h⟩
instance {c : Option Addr} {d : Sl} {p : Prop} [h : NoXSC c d p] : NPC (noXS c d) p := ⟨h.h⟩
instance {c : Option Addr} {d : List (Str × Dt)} {p : Prop} [h : NoXfC c d p] : NPC (noXf c d) p := ⟨h.h⟩
section
variable {K : PySem.W.Frag} {W : WX} {Γ Γ' Γ2 Γ3 : Gm} {X : XP} {P : Dt → Gm → Prop} {PO : Sl → Gm → Prop} {te ta tb ti tv : TE} {i j : Nat} {nx : Gm → Prop} {rt : Sl → Gm → Prop} {xc : XP} {bk ct : Gm → Prop} {a b C : Addr} {f g : Str} {t : TA} {s s0 : Sl} {d : Dt} {c : Option Addr} {tw : WX → TE} {fs fs' r r' : List (Str × Sl)}
instance {N p q z : Prop} {Q : Gm → Prop} [n : NPC N p] [tt : At Γ2 i (.fr d)] [k : KeepXC c Γ Γ2 i q] [sg : SetG Γ2 i (some s) Γ3] [an : AndC p q z] : Wk (LendX c Γ Γ2 i s d N Q) (Side z (Q Γ3)) := ⟨fun h => ⟨⟨n.h (an.h h.1).1, tt.h, k.h (an.h h.1).2⟩, by rw [sg.h]; exact h.2⟩⟩
instance [tt : At Γ i s] [l : LnC s d c] [sg : SetG Γ i (some (.fr d)) Γ'] : Wk (Ev K W (tLn i W tw) Γ P X) (∀ W', Ev K W' (tw W') Γ' (fun z Γ2 => LendX c Γ' Γ2 i s d (noX c z) (P z)) (fun C fs Γ2 => LendX c Γ' Γ2 i s d (noXf c fs) (X C fs))) := ⟨fun h => ev_ln tt.h l.h fun W' => by rw [l.e, sg.h]; exact h W'⟩
instance [tt : At Γ i s] [l : LnC s d c] [sg : SetG Γ i (some (.fr d)) Γ'] : Wk (EvO K W (tLn i W tw) Γ PO X) (∀ W', EvO K W' (tw W') Γ' (fun z Γ2 => LendX c Γ' Γ2 i s d (noXS c z) (PO z)) (fun C fs Γ2 => LendX c Γ' Γ2 i s d (noXf c fs) (X C fs))) := ⟨fun h => evo_ln tt.h l.h fun W' => by rw [l.e, sg.h]; exact h W'⟩
instance (priority := high) [tt : At Γ i (.fr d)] : Wk (Ev K W (tLn i W tw) Γ P X) (Ev K W (tw W) Γ P X) := ⟨fun h O G H σ Q S q x => .run (h O G H σ Q S q x)⟩
instance (priority := high) [tt : At Γ i (.fr d)] : Wk (EvO K W (tLn i W tw) Γ PO X) (EvO K W (tw W) Γ PO X) := ⟨fun h O G H σ Q S q x => .run (h O G H σ Q S q x)⟩
/-! ### fields -/
class PutC (f : Str) (s : Sl) (fs : List (Str × Sl)) (fs' : outParam (List (Str × Sl))) : Prop where
  h : putS f s fs = fs'
class LkC (f : Str) (fs : List (Str × Sl)) (s : outParam Sl) : Prop where
  h : fs.lookup f = some s
instance : PutC f s [] [(f, s)] := ⟨rfl⟩
instance : PutC f s (frF []) [(f, s)] := ⟨rfl⟩
instance (priority := high) : PutC f s ((f, s0) :: r) ((f, s) :: r) := ⟨by unfold putS; rw [if_pos rfl]⟩
instance [n : NeS g f] [h : PutC f s r r'] : PutC f s ((g, s0) :: r) ((g, s0) :: r') := ⟨by unfold putS; rw [if_neg n.h, h.h]⟩
instance (priority := high) : LkC f ((f, s) :: r) s := ⟨by rw [List.lookup_cons]; simp⟩
instance [n : NeS g f] [h : LkC f r s] : LkC f ((g, s0) :: r) s := ⟨by rw [List.lookup_cons, show (f == g) = false from by rw [beq_eq_false_iff_ne]; exact fun z => n.h z.symm]; exact h.h⟩
def PutQ (f : Str) (s : Sl) (fs : List (Str × Sl)) (Q : List (Str × Sl) → Prop) : Prop := Q (putS f s fs)
instance {Q : List (Str × Sl) → Prop} [h : PutC f s fs fs'] : Wk (PutQ f s fs Q) (Q fs') := ⟨fun q => by unfold PutQ; rw [h.h]; exact q⟩
def OwnO2 (Γ : Gm) (i : Nat) (Q : Addr → Addr → List (Str × Sl) → Prop) : Prop := ∃ a C fs, Γ[i]? = some (some (.oo a C fs)) ∧ Q a C fs
instance {Q : Addr → Addr → List (Str × Sl) → Prop} [h : At Γ i (.oo a C fs)] : Wk (OwnO2 Γ i Q) (Q a C fs) := ⟨fun q => ⟨a, C, fs, h.h, q⟩⟩
instance (priority := high) {v : Option Sl} {Q : Addr → Addr → List (Str × Sl) → Prop} [h : SetG Γ j v Γ'] : Wk (OwnO2 (Γ.set j v) i Q) (OwnO2 Γ' i Q) := ⟨fun q => by rw [h.h]; exact q⟩
instance : Wk (Go K W (sFldO K (tVar i) tv f) Γ ⟨nx, rt, xc, bk, ct⟩) (EvO K W tv Γ (fun s Γ1 => OwnO2 Γ1 i fun a C fs => Side (Cls K C ∧ NoAttr K C f ∧ fs.length < 1000) (PutQ f s fs fun fs' => nx (Γ1.set i (some (.oo a C fs'))))) xc) :=
  ⟨fun h => g_fldO (h.imp fun s Γ1 ⟨a, C, fs, e, l, p⟩ => ⟨a, C, fs, e, l, p⟩)⟩
def OwnFT (Γ : Gm) (i : Nat) (f : Str) (Q : Addr → Addr → List (Str × Sl) → Addr → List (List Key × Dt) → Prop) : Prop := ∃ a C fs b kvs, Γ[i]? = some (some (.oo a C fs)) ∧ fs.lookup f = some (.oT b kvs) ∧ Q a C fs b kvs
def OwnFb (Γ : Gm) (i : Nat) (f : Str) (b : Addr) (Q : Addr → Addr → List (Str × Sl) → List (List Key × Dt) → Prop) : Prop := ∃ a C fs kvs, Γ[i]? = some (some (.oo a C fs)) ∧ fs.lookup f = some (.oT b kvs) ∧ Q a C fs kvs
instance {kvs : List (List Key × Dt)} {Q : Addr → Addr → List (Str × Sl) → Addr → List (List Key × Dt) → Prop} [h : At Γ i (.oo a C fs)] [l : LkC f fs (.oT b kvs)] : Wk (OwnFT Γ i f Q) (Q a C fs b kvs) := ⟨fun q => ⟨a, C, fs, b, kvs, h.h, l.h, q⟩⟩
instance {kvs : List (List Key × Dt)} {Q : Addr → Addr → List (Str × Sl) → List (List Key × Dt) → Prop} [h : At Γ i (.oo a C fs)] [l : LkC f fs (.oT b kvs)] : Wk (OwnFb Γ i f b Q) (Q a C fs kvs) := ⟨fun q => ⟨a, C, fs, kvs, h.h, l.h, q⟩⟩
instance : Wk (Go K W (tAsg te (gSub (tFldP K (tVar i) f) ti rSetP)) Γ ⟨nx, rt, xc, bk, ct⟩) (Ev K W te Γ (fun v Γ1 => OwnFT Γ1 i f fun a C fs b _ => Side (Cls K C ∧ NoAttr K C f) (Ev K W ti Γ1 (fun y Γ2 => OwnFb Γ2 i f b fun a C fs kvs => KeysQ y fun k => Side (kvs.length < 1000000) (PutQ f (.oT b (pA kvs k v)) fs fun fs' => nx (Γ2.set i (some (.oo a C fs'))))) xc)) xc) :=
  ⟨fun h => g_subFT (h.imp fun v Γ1 ⟨a, C, fs, b, kvs, e, l, ⟨hc, hn⟩, q⟩ => ⟨a, C, fs, b, kvs, e, hc, hn, l, q.imp fun y Γ2 ⟨a, C, fs, kvs, e, l, k, ek, hl, p⟩ => ⟨a, C, fs, kvs, k, e, l, ek, hl, p⟩⟩)⟩
/-! ### made, told -/
def OwnOC (Γ : Gm) (i : Nat) (C : Addr) (Q : Addr → List (Str × Sl) → Prop) : Prop := ∃ a fs, Γ[i]? = some (some (.oo a C fs)) ∧ Q a fs
instance {Q : Addr → List (Str × Sl) → Prop} [h : At Γ i (.oo a C fs)] : Wk (OwnOC Γ i C Q) (Q a fs) := ⟨fun q => ⟨a, fs, h.h, q⟩⟩
instance {S : DSp} : Wk (Go K W (tAsg te (gSetO C (spD K S) (WE W) (tVar i) ti)) Γ ⟨nx, rt, xc, bk, ct⟩) (Ev K W te Γ (fun v Γ1 => OwnOC Γ1 i C fun _ _ => Ev K W ti Γ1 (fun y Γ2 => OwnOC Γ2 i C fun a fs => CallB S [] [y, v] (.oo a C fs) (fun _ s' => nx (Γ2.set i (some s'))) (fun D fs s' => xc D fs (Γ2.set i (some s')))) xc) xc) :=
  ⟨fun h => g_stO (h.imp fun v Γ1 ⟨a, fs, e, q⟩ => ⟨⟨a, fs, e⟩, q.imp fun y Γ2 ⟨a, fs, e, p⟩ => ⟨a, fs, e, p⟩⟩)⟩
theorem isCallMO {S : DSp} {C : Addr} {ds : List Dt} {R : Addr → List (Str × Sl) → Prop} {Y : Addr → List (Str × Dt) → Prop} (h : CallMO S C ds R Y) : CallMO S C ds R Y := h
end
end DL
/-! ### star parameters with keyword-only ones -/
namespace L2
open PySem PySem.Spec PyProof.Rows
/-- t looks the names up in the dict at D, one behind another, and goes on with r -/
def KwGo {α : Type} (D : Addr) : List (Str × Value) → Sem α → Sem α → Prop
  | [], t, r => t = r
  | q :: l, t, r => ∃ (β γ : Type) (k1 : Option Value → Sem β) (k2 : β → Sem γ) (k3 : γ → Sem α) (a : β), t = ((nsGet D q.1 >>= k1) >>= k2) >>= k3 ∧ k1 (some q.2) = pure a ∧ KwGo D l (k2 a >>= k3) r
theorem KwGo.wp {α : Type} {K : PySem.W.Frag} {M : Model} {A : Around} {E : Value → Shared → Prop} {s : Shared} {D : Addr} {Q : α → Shared → Prop} (X : K.In s.heap) : ∀ {l : List (Str × Value)} {t r : Sem α}, (∀ q ∈ l, PySem.W.nsIn K D q.1 = some (some q.2)) → KwGo D l t r → wpAny M A r Q E s → wpAny M A t Q E s
  | [], t, r, _, e, h => by rw [show t = r from e]; exact h
  | q :: l, t, r, hl, e, h => by
    obtain ⟨β, γ, k1, k2, k3, a, e1, e2, e3⟩ := e
    have l1 : PySem.W.Looks M s.heap (nsGet D q.1 >>= k1) a := (PySem.W.looks_nsIn X (hl q (List.mem_cons_self ..))).andThen (PySem.W.Looks.of_pure e2)
    rw [e1, bind_assoc]
    exact wpAny_bind (l1.here (KwGo.wp X (fun p hp => hl p (List.mem_cons_of_mem _ hp)) e3 h))
end L2
namespace DL
open PySem PySem.Spec L2 PyProof.Rows
section
variable {K : PySem.W.Frag} {O G G2 H H2 : Hp}
/-- positions, what is left over, the keywords' values; the def gets positions, the keywords' values, the tuple -/
def starK (n m : Nat) (S : DSp) : DSp := fun args R Y => ∃ (ws : List Sl) (rest : List Dt) (zs : List Sl), args = ws ++ rest.map .fr ++ zs ∧ ws.length = n ∧ zs.length = m ∧ rest.length ≤ 1000000 ∧
  S (ws ++ zs ++ [.fr (.tup rest)]) (fun res args' => ∀ ws' zs' s, args' = ws' ++ zs' ++ [s] → ws'.length = n → zs'.length = m → R res (ws' ++ rest.map .fr ++ zs')) (fun C fs args' => ∀ ws' zs' s, args' = ws' ++ zs' ++ [s] → ws'.length = n → zs'.length = m → Y C fs (ws' ++ rest.map .fr ++ zs'))
theorem starK_sp {n m : Nat} {S : DSp} {vs : List V} {Q : VK} {E : XK} (h : spD K (starK n m S) vs H Q E) : ∃ ws rest zs, vs = ws ++ rest ++ zs ∧ ws.length = n ∧ zs.length = m ∧ rest.length ≤ sizeLine ∧ ∀ p, H p = none → spD K S (ws ++ zs ++ [V.ref p]) (upd H p (.tup rest)) Q E := by
  obtain ⟨O, G, args, R, Y, St, ⟨wsS, restD, zsS, rfl, l1, l3, l2, hS⟩, hQ, hE⟩ := h
  have ln : vs.length = wsS.length + restD.length + zsS.length := by have := St.sl.len; simp at this; omega
  obtain ⟨wv, rv, zv, rfl, lw, lr⟩ : ∃ wv rv zv, vs = wv ++ rv ++ zv ∧ wv.length = wsS.length ∧ rv.length = restD.length :=
    ⟨vs.take wsS.length, (vs.drop wsS.length).take restD.length, (vs.drop wsS.length).drop restD.length, by rw [List.append_assoc, List.take_append_drop, List.take_append_drop], by rw [List.length_take]; omega, by rw [List.length_take, List.length_drop]; omega⟩
  have lz : zv.length = zsS.length := by simp only [List.length_append] at ln; omega
  have sl := St.sl
  simp only [sms, sls, List.map_append] at sl
  obtain ⟨sab, sc⟩ := slots_un (by simp; omega) sl
  obtain ⟨sa, sb⟩ := slots_un (by simpa using lw) sab
  have rr : Reps K G rv restD := fr_slots sb
  have fp2 : fps (List.map some (restD.map .fr)) = [] := fps_fr restD
  have fpsE : ∀ (us zs : List Sl), fps (sls (us ++ zs ++ [.fr (.tup restD)])) = fps (sls us) ++ fps (sls zs) := fun us zs => by simp only [sls, List.map_append, fps_app]; simp [fps, fpO, Sl.fp]
  have fpsR : ∀ (us zs : List Sl), fps (sls (us ++ restD.map .fr ++ zs)) = fps (sls us) ++ fps (sls zs) := fun us zs => by simp only [sls, List.map_append, fps_app]; rw [fp2, List.append_nil]
  refine ⟨wv, rv, zv, rfl, by omega, by omega, by rw [lr]; exact Nat.le_trans l2 (by decide), fun p np => ?_⟩
  have ex : Ext G H (upd G p (.tup rv)) (upd H p (.tup rv)) := Ext.new St.g np
  have S1 := St.ext ex
  have mo : ∀ {σ : L2.St} {Γ : Gm}, Slots K G H σ Γ → Slots K (upd G p (.tup rv)) (upd H p (.tup rv)) σ Γ := fun s => s.mono ex.g fun a _ o e => ex.h a o e
  refine ⟨O, upd G p (.tup rv), wsS ++ zsS ++ [.fr (.tup restD)], _, _, ⟨S1.g, S1.o, S1.d, ?_, ?_, ?_, ?_, S1.om⟩, hS, ?_, ?_⟩
  · simp only [sms, sls, List.map_append]
    exact slots_app (slots_app (mo sa) (mo sc)) (.yes (.fr (Rep.newT St.g np rr)) .nil)
  · have := S1.nd; rw [fpsR] at this; rw [fpsE]; exact this
  · have := S1.ng; rw [fpsR] at this; rw [fpsE]; exact this
  · have := S1.no; rw [fpsR] at this; rw [fpsE]; exact this
  · intro v G2 H2 res args' s2 S2 hR
    have lt := S2.sl.len
    obtain ⟨ws', zs', sL, rfl, lw', lz'⟩ : ∃ ws' zs' sL, args' = ws' ++ zs' ++ [sL] ∧ ws'.length = wv.length ∧ zs'.length = zv.length := by
      have ne : args' ≠ [] := fun z => by subst z; simp at lt
      have e := (List.dropLast_concat_getLast ne).symm
      have ld : args'.dropLast.length = wv.length + zv.length := by simp at lt; simp; omega
      refine ⟨args'.dropLast.take wv.length, args'.dropLast.drop wv.length, args'.getLast ne, by rw [List.take_append_drop]; exact e, by rw [List.length_take]; omega, by rw [List.length_drop]; omega⟩
    have slt := S2.tail.sl
    simp only [sms, sls, List.map_append] at slt
    obtain ⟨sab2, _⟩ := slots_un (by simp; omega) slt
    obtain ⟨sa2, sc2⟩ := slots_un (by simp; omega) sab2
    have s02 := ex.g.trans s2
    have e1 : fps (some res :: sls (ws' ++ restD.map .fr ++ zs')) = fpO (some res) ++ (fps (sls ws') ++ fps (sls zs')) := by simp only [fps]; rw [fpsR]
    have e2 : fps (some res :: sls (ws' ++ zs' ++ [sL])) = fpO (some res) ++ (fps (sls ws') ++ fps (sls zs') ++ fps (sls [sL])) := by simp only [fps, sls, List.map_append, fps_app]
    have sub : (fps (some res :: sls (ws' ++ restD.map .fr ++ zs'))).Sublist (fps (some res :: sls (ws' ++ zs' ++ [sL]))) := by
      rw [e1, e2]
      exact (List.Sublist.refl _).append (List.sublist_append_left _ _)
    refine hQ v G2 H2 res (ws' ++ restD.map .fr ++ zs') s02 ⟨S2.g, S2.o, S2.d, .yes S2.head ?_, sub.nodup S2.nd, fun a ha => S2.ng a (sub.subset ha), fun a ha => S2.no a (sub.subset ha), S2.om⟩ (hR ws' zs' sL rfl (by omega) (by omega))
    simp only [sms, sls, List.map_append]
    exact slots_app (slots_app sa2 (slots_fr (rr.mono s02))) sc2
  · intro C d fs G2 H2 args' s2 S2 rx hY
    have lt := S2.sl.len
    obtain ⟨ws', zs', sL, rfl, lw', lz'⟩ : ∃ ws' zs' sL, args' = ws' ++ zs' ++ [sL] ∧ ws'.length = wv.length ∧ zs'.length = zv.length := by
      have ne : args' ≠ [] := fun z => by subst z; simp at lt
      have e := (List.dropLast_concat_getLast ne).symm
      have ld : args'.dropLast.length = wv.length + zv.length := by simp at lt; simp; omega
      refine ⟨args'.dropLast.take wv.length, args'.dropLast.drop wv.length, args'.getLast ne, by rw [List.take_append_drop]; exact e, by rw [List.length_take]; omega, by rw [List.length_drop]; omega⟩
    have slt := S2.sl
    simp only [sms, sls, List.map_append] at slt
    obtain ⟨sab2, _⟩ := slots_un (by simp; omega) slt
    obtain ⟨sa2, sc2⟩ := slots_un (by simp; omega) sab2
    have s02 := ex.g.trans s2
    have e1 : fps (sls (ws' ++ restD.map .fr ++ zs')) = (fps (sls ws') ++ fps (sls zs')) := fpsR _ _
    have e2 : fps (sls (ws' ++ zs' ++ [sL])) = (fps (sls ws') ++ fps (sls zs') ++ fps (sls [sL])) := by simp only [sls, List.map_append, fps_app]
    have sub : (fps (sls (ws' ++ restD.map .fr ++ zs'))).Sublist (fps (sls (ws' ++ zs' ++ [sL]))) := by
      rw [e1, e2]
      exact List.sublist_append_left _ _
    refine hE C d fs G2 H2 (ws' ++ restD.map .fr ++ zs') s02 ⟨S2.g, S2.o, S2.d, ?_, sub.nodup S2.nd, fun a ha => S2.ng a (sub.subset ha), fun a ha => S2.no a (sub.subset ha), S2.om⟩ rx (hY ws' zs' sL rfl (by omega) (by omega))
    simp only [sms, sls, List.map_append]
    exact slots_app (slots_app sa2 (slots_fr (rr.mono s02))) sc2
end
section
variable {P : Program} {w : World} {K : PySem.W.Frag} {mg : Str → Option Value} {base : Heap}
/-- the run of a def with a star parameter and keyword-only ones: all keywords' values are there -/
theorem run_starK {x qual : Str} {params : Arguments} {body : List Stmt} {scope : Scope} {f : Addr} {N ps ks : List Str} {pv : Str} {k n m : Nat} {S : DSp} {oc : Value} {od an : Option Addr} {dV kV doc pm cdv ct : Value} {osl : Array (Option Value)}
    (lk : K.lookup f = some ⟨oc, od, .func (PySem.W.fnOf x qual params body scope dV kV doc pm an cdv ct), osl⟩) (hcd : PySem.W.codeIn K cdv qual = true) (Sc : FnScope N (ps ++ ks ++ [pv]) scope) (hn : ps.length = n) (hm : ks.length = m)
    (hbody : ∀ (cdv : Value) (A : Around) (outer : List Env) (s : Shared) (H : Hp) (E : XK), Room k (A.deeper (PyProof.Rows.envOfC qual scope s.heap.objs.size f cdv)) →
      ∃ t, PSs (cxOf (L2.CX P w) P w K mg base N qual scope f cdv A outer s H E) body t ∧ ∀ args R Y, S args R Y → Go K (fun c d _ H => E c d H) t (gm0 N.length args) (poOf args R Y))
    {A : Around} {outer : List Env} {s : Shared} {H : Hp} {args : Args} {Q : VK} {E : XK} {u1 u2 u3 : List Value} {ws rest zs : List V} (hr : Room (k + 1) A) (e0 : Env0 P w K mg base A outer s H)
    (r1 : Vals ws u1) (r2 : Vals rest u2) (r3 : Vals zs u3) (l1 : ws.length = n) (l3 : zs.length = m) (lz : rest.length ≤ sizeLine)
    (hb : ∀ {M : Model} {A : Around} {Q : List (Str × Value) → Shared → Prop} {E : Value → Shared → Prop}, wpAny M A (newTuple u2 >>= fun t => pure ((ps ++ ks).zip (u1 ++ u3) ++ [(pv, t)])) Q E s → wpAny M A (bindArgs (PySem.W.fnOf x qual params body scope dV kV doc pm an cdv ct) args) Q E s)
    (hsp : ∀ p, H p = none → spD K S (ws ++ zs ++ [V.ref p]) (upd H p (.tup rest)) Q E) :
    codeAny (model P w) A (.call (.ref f) args) (CR (L2.CX P w) outer P w H s Q E) s := by
  have hn' : H s.heap.objs.size = Option.none := e0.hok.fresh (Nat.le_refl _)
  have hl2 : u2.length ≤ sizeLine := by rw [← r2.length]; exact lz
  refine StX.run_bnd lk hcd Sc hr e0 (G := fun xs H2 => ∃ p, H p = Option.none ∧ xs = ws ++ zs ++ [V.ref p] ∧ H2 = upd H p (.tup rest)) (fun A' Ex Q' h => ?_) fun s2 H2 xs ⟨p, hp, ex, eH⟩ hr' => ?_
  · refine hb (wpAny_bind (wpAny_newTuple (wpAny_pure ?_) hl2))
    have new : ObjOk P w (upd H s.heap.objs.size (.tup rest)) (s.heap.push ({ cls := .type "tuple", data := .seq u2.toArray } : Obj)) s.heap.objs.size (.tup rest) := ⟨lz, u2, r2, ⟨_, Heap.get?_push_size _ rfl, rfl, _, rfl⟩⟩
    have un := StX.un_laid (fs := frs outer) (s := s) (o := ({ cls := .type "tuple", data := .seq u2.toArray } : Obj)) (u := .tup rest) hn'
    have z := h _ _ (ws ++ zs ++ [V.ref s.heap.objs.size]) (u1 ++ u3 ++ [Value.ref s.heap.objs.size]) (StX.env0_laid e0 new) un rfl (fun e s' => StX.cxUp outer s H _ _ E e s' un (fun b o q => Heap.get?_push_of_some _ q) rfl) ((r1.append r3).append (.cons rfl .nil))
      (by simp only [List.length_append, List.length_cons, List.length_nil]; omega) ⟨_, hn', rfl, rfl⟩
    have hz : (ps ++ ks).length = (u1 ++ u3).length := by
      have a1 := r1.length
      have a3 := r3.length
      simp only [List.length_append]
      omega
    rw [List.zip_append hz] at z
    exact z
  · subst ex eH
    obtain ⟨t, ht, go⟩ := hbody cdv A outer s2 _ E hr'
    exact ⟨t, ht, go_entry go (hsp p hp)⟩
theorem starK_un {n m : Nat} {us : List V} {vs : List Value} {ws rest zs : List V} (r : Vals us vs) (e : us = ws ++ rest ++ zs) : ∃ u1 u2 u3, vs = u1 ++ u2 ++ u3 ∧ Vals ws u1 ∧ Vals rest u2 ∧ Vals zs u3 := by
  subst e
  obtain ⟨u12, u3, e1, r12, r3⟩ := StX.vals_split r
  obtain ⟨u1, u2, e2, r1, r2⟩ := StX.vals_split r12
  exact ⟨u1, u2, u3, by rw [e1, e2], r1, r2, r3⟩
/-- called with all its keywords -/
theorem fn_starK {x qual : Str} {params : Arguments} {body : List Stmt} {scope : Scope} {f : Addr} {fd : FuncData} {N ps ks : List Str} {pv : Str} {kws : List (Str × V)} {k n m : Nat} {S : DSp} (F : FunD K x qual params body scope [] kws f fd) (Sc : FnScope N (ps ++ ks ++ [pv]) scope) (hn : ps.length = n) (hm : ks.length = m)
    (hb : ∀ (kV doc pm : Value) (an : Option Addr) (cdv ct : Value) (us rest zs : List Value), us.length = n → zs.length = m → bindArgs (PySem.W.fnOf x qual params body scope .none kV doc pm an cdv ct) ⟨us ++ rest, ks.zip zs⟩ = (newTuple rest >>= fun t => pure ((ps ++ ks).zip (us ++ zs) ++ [(pv, t)])))
    (hbody : ∀ (cdv : Value) (A : Around) (outer : List Env) (s : Shared) (H : Hp) (E : XK), Room k (A.deeper (PyProof.Rows.envOfC qual scope s.heap.objs.size f cdv)) →
      ∃ t, PSs (cxOf (L2.CX P w) P w K mg base N qual scope f cdv A outer s H E) body t ∧ ∀ args R Y, S args R Y → Go K (fun c d _ H => E c d H) t (gm0 N.length args) (poOf args R Y)) :
    FnK P w K mg base (k + 1) f ks (spD K (starK n m S)) := by
  obtain ⟨oc, od, dV, kV, doc, pm, an, cdv, ct, osl, rfl, lk, hcd, hD, hK⟩ := F.ex
  rcases hD with ⟨_, rfl⟩ | ⟨e, _⟩
  · intro A outer s H us ws vs zs Q E hr e0 r rz l hsp
    obtain ⟨wv, rv, zv, e, l1, l3, lz, hq⟩ := starK_sp hsp
    have lzz : zv.length = zs.length := by rw [l3, rz.length, l, hm]
    obtain ⟨e1, e2⟩ := List.append_inj' e lzz.symm
    subst e1 e2
    obtain ⟨u1, u2, eu, r1, r2⟩ := StX.vals_split r
    subst eu
    exact run_starK lk hcd Sc hn hm hbody hr e0 r1 r2 rz l1 l3 lz (fun h => by rw [hb kV doc pm an cdv ct u1 u2 ws (by rw [← r1.length]; exact l1) (by rw [← rz.length]; exact l3)]; exact h) hq
  · exact absurd rfl e
/-- called without keywords -/
theorem fn_starD {x qual : Str} {params : Arguments} {body : List Stmt} {scope : Scope} {f : Addr} {fd : FuncData} {N ps ks : List Str} {pv : Str} {kws : List (Str × V)} {dfs : List Dt} {k n m : Nat} {S : DSp} (F : FunD K x qual params body scope [] kws f fd) (Sc : FnScope N (ps ++ ks ++ [pv]) scope) (hn : ps.length = n) (hm : ks.length = m) (hk : kws ≠ []) (hks : kws.map (·.1) = ks)
    (hd : ∀ G, Reps K G (kws.map (·.2)) dfs)
    (hb : ∀ (D : Addr) (doc pm : Value) (an : Option Addr) (cdv ct : Value) (us rest zs : List Value), us.length = n → zs.length = m → KwGo D (ks.zip zs) (bindArgs (PySem.W.fnOf x qual params body scope .none (.ref D) doc pm an cdv ct) ⟨us ++ rest, []⟩) (newTuple rest >>= fun t => pure ((ps ++ ks).zip (us ++ zs) ++ [(pv, t)])))
    (hbody : ∀ (cdv : Value) (A : Around) (outer : List Env) (s : Shared) (H : Hp) (E : XK), Room k (A.deeper (PyProof.Rows.envOfC qual scope s.heap.objs.size f cdv)) →
      ∃ t, PSs (cxOf (L2.CX P w) P w K mg base N qual scope f cdv A outer s H E) body t ∧ ∀ args R Y, S args R Y → Go K (fun c d _ H => E c d H) t (gm0 N.length args) (poOf args R Y)) :
    FnK P w K mg base (k + 1) f [] (spD K (dflS dfs (starK n m S))) := by
  obtain ⟨oc, od, dV, kV, doc, pm, an, cdv, ct, osl, rfl, lk, hcd, hD, hK⟩ := F.ex
  rcases hD with ⟨_, rfl⟩ | ⟨e, _⟩
  · rcases hK with e | ⟨D, rfl, hq⟩
    · exact absurd e hk
    · obtain ⟨kk, hl, rk, hkk⟩ := kwd_vals hq
      refine FnR.toK fun A outer s H us vs Q E hr e0 r hsp => ?_
      have hsp2 := dfl_sp hd hsp
      obtain ⟨wv, rv, zv, e, l1, l3, lz, hq⟩ := starK_sp hsp2
      have lk2 : (kws.map (·.2)).length = m := by rw [List.length_map, ← hm, ← hks, List.length_map]
      obtain ⟨e1, e2⟩ := List.append_inj' e (by rw [l3, lk2])
      subst e1 e2
      obtain ⟨u1, u2, eu, r1, r2⟩ := StX.vals_split r
      subst eu
      have lkk : kk.length = m := by rw [hl, ← hm, ← hks, List.length_map]
      have KX : K.In s.heap := e0.mod.kin.keeps fun b o e => (e0.bs b o e).1
      refine run_starK lk hcd Sc hn hm hbody hr e0 r1 r2 rk l1 l3 lz (fun h => ?_) hq
      exact KwGo.wp KX (by rw [← hks]; exact hkk) (hb D doc pm an cdv ct u1 u2 kk (by rw [← r1.length]; exact l1) lkk) h
  · exact absurd rfl e
end
end DL

/-! DD, part h: instances of one's own by calls; tables of any keys as data. -/
namespace DL
open PySem PySem.Spec L2 PyProof.Rows
section
variable {X : Cx} {x : Str} {k j : Nat} {S : DSp} {W : WX} {p pos : Pos} {C f : Addr}
/-- x() -/
theorem pe_c0K (K : PySem.W.Frag) (h : X.K = K) (M : Mk K C f) (D : DA X.prog X.w K X.mg X.base f [] k S) (hr : Room j X.A) (hj : k + 1 ≤ j) (tk : Takes X W) (hm : X.mg x = some (.ref C)) (hg : Gl X x := by rfl) (hdb : (x == ("__debug__" : Str)) = false := by decide) : PE X (.Call (.Name x p) [] [] pos) (tMakeS C (spD K S) (WE W) tNil) := by
  subst h
  refine ⟨fun pins s σ H Q I h => wpAny_Call_Name_kw (ld_glob I hg hm ?_ hdb)⟩
  exact PySem.W.callWith_K0 I.kIn M.kp (run_makeK (ks := []) (ws := []) (zs := []) M D.fn (hr.mono hj) (passAt tk σ) I .nil .nil rfl (fun y dy n1 n2 n3 => by rw [List.append_nil]; exact h y dy n1 n2 n3))
/-- an instance with fields of its own -/
def tMakeO (C : Addr) (sp : Sp) (E : L2.St → XK) (t : TA) : TE := tMakeS C sp E t
theorem mkMO {e : Expr} {sp : Sp} {E : L2.St → XK} {t : TA} (h : PE X e (tMakeS C sp E t)) : PE X e (tMakeO C sp E t) := h
end
section
variable {K : PySem.W.Frag} {W : WX} {Γ : Gm} {X : XP} {PO : Sl → Gm → Prop} {C : Addr} {t : TA} {S : DSp}
instance : Wk (EvO K W (tMakeO C (spD K S) (WE W) t) Γ PO X) (EvA K W t Γ (fun ds Γ1 => CallMO S C ds (fun y fs => PO (.oo y C fs) Γ1) (fun D fs => X D fs Γ1)) X) := ⟨evo_make⟩
theorem starD_call {ds dfs : List Dt} {R : Addr → List (Str × Sl) → Prop} {Y : Addr → List (Str × Dt) → Prop} (hl : ds.length ≤ 1000000)
    (h : ∀ (y : Addr) (R2 : Sl → List Sl → Prop) (Y2 : Addr → List (Str × Dt) → List Sl → Prop), (∀ fs, R y fs → R2 (.fr .non) (.oo y C fs :: (dfs ++ [Dt.tup ds]).map .fr)) → (∀ D fs a, Y D fs → Y2 D fs a) → S (.oo y C (frF []) :: (dfs ++ [Dt.tup ds]).map .fr) R2 Y2) : CallMO (dflS dfs (starK 1 dfs.length S)) C ds R Y := by
  intro y
  refine ⟨[.oo y C (frF [])], ds, dfs.map .fr, by simp, rfl, by simp, hl, ?_⟩
  have e : [.oo y C (frF [])] ++ dfs.map Sl.fr ++ [Sl.fr (Dt.tup ds)] = .oo y C (frF []) :: (dfs ++ [Dt.tup ds]).map .fr := by simp
  rw [e]
  refine h y _ _ (fun fs hR => ?_) (fun D fs a hy => ?_)
  · intro ws' zs' s e2 l1 l2 ws tt e3 l3
    have e2' : [.oo y C fs] ++ dfs.map Sl.fr ++ [Sl.fr (Dt.tup ds)] = ws' ++ zs' ++ [s] := by rw [← e2]; simp
    obtain ⟨e4, _⟩ := List.append_inj' e2' rfl
    obtain ⟨e5, e6⟩ := List.append_inj e4 (by rw [l1]; rfl)
    subst e5 e6
    have e3' : ([.oo y C fs] ++ ds.map Sl.fr) ++ dfs.map .fr = ws ++ tt := e3
    obtain ⟨e7, _⟩ := List.append_inj' e3' (by rw [l3]; simp)
    exact ⟨fs, rfl, e7.symm, hR⟩
  · intro _ _ _ _ _ _ _ _ _ _
    exact hy
/-- a frozen result is wished -/
def tFrz (te : TE) : TE := te
theorem mkFr {X : Cx} {e : Expr} {te : TE} (h : PE X e te) : PE X e (tFrz te) := h
instance {te : TE} : Wk (EvO K W (tFrz te) Γ PO X) (Ev K W te Γ (fun d Γ1 => PO (.fr d) Γ1) X) := ⟨evo_of⟩
end
section
variable {R : Dt → Prop}
instance {x : List (List Key × Dt)} : Wk (dIs (.dT x) .non R) (R (.bl false)) := ⟨fun h => ⟨rfl, h⟩⟩
instance {x : List (List Key × Dt)} : Wk (dIsnt (.dT x) .non R) (R (.bl true)) := ⟨fun h => ⟨rfl, h⟩⟩
instance {x : List (Key × Dt)} : Wk (dIs (.dK x) .non R) (R (.bl false)) := ⟨fun h => ⟨rfl, h⟩⟩
instance {x : List (Key × Dt)} : Wk (dIsnt (.dK x) .non R) (R (.bl true)) := ⟨fun h => ⟨rfl, h⟩⟩
end
/-! ### tables -/
section
variable {α β : Type} [DecidableEq α] {κ : Type} [DecidableEq κ]
def mapT (ky : α → κ) (va : β → Dt) (tab : List (α × β)) : List (κ × Dt) := tab.map fun e => (ky e.1, va e.2)
theorem mapT_len {ky : α → κ} {va : β → Dt} (tab : List (α × β)) : (mapT ky va tab).length = tab.length := List.length_map ..
theorem mapT_vA {ky : α → κ} {va : β → Dt} (inj : ∀ a b, ky a = ky b → a = b) (a : α) : ∀ tab : List (α × β), vA (mapT ky va tab) (ky a) = (vA tab a).map va
  | [] => rfl
  | p :: r => by
    show vA ((ky p.1, va p.2) :: mapT ky va r) (ky a) = _
    rw [vA_cons, vA_cons]
    by_cases e : p.1 = a
    · rw [if_pos e, if_pos (by rw [e])]; rfl
    · rw [if_neg e, if_neg (fun z => e (inj _ _ z))]; exact mapT_vA inj a r
theorem mapT_pA {ky : α → κ} {va : β → Dt} (inj : ∀ a b, ky a = ky b → a = b) (a : α) (b : β) (tab : List (α × β)) : pA (mapT ky va tab) (ky a) (va b) = mapT ky va (pA tab a b) := by
  unfold pA
  have e : ((mapT ky va tab).any fun kv => decide (kv.1 = ky a)) = tab.any fun kv => decide (kv.1 = a) := by
    rw [vA_any, vA_any, mapT_vA inj]
    cases vA tab a <;> rfl
  rw [e]
  by_cases h : (tab.any fun kv => decide (kv.1 = a)) = true
  · rw [if_pos h, if_pos h]
    unfold mapT
    rw [List.map_map, List.map_map]
    apply List.map_congr_left
    intro x _
    simp only [Function.comp]
    by_cases h2 : x.1 = a
    · rw [if_pos h2, if_pos (by rw [h2])]
    · rw [if_neg h2, if_neg (fun z => h2 (inj _ _ z))]
  · rw [if_neg h, if_neg h]
    unfold mapT
    simp
theorem pA_keys (tab : List (α × β)) (a : α) (b : β) : (pA tab a b).map (·.1) = if a ∈ tab.map (·.1) then tab.map (·.1) else tab.map (·.1) ++ [a] := by
  unfold pA
  rw [vA_any]
  by_cases h : a ∈ tab.map (·.1)
  · have : (vA tab a).isSome = true := by
      cases e : vA tab a with
      | none => exact absurd h (vA_none.mp e)
      | some _ => rfl
    rw [if_pos this, if_pos h, List.map_map]
    apply List.map_congr_left
    intro x _
    simp only [Function.comp]
    split <;> rfl
  · have : ¬ (vA tab a).isSome = true := by rw [vA_none.mpr h]; simp
    rw [if_neg this, if_neg h]
    simp
theorem pA_nodup {tab : List (α × β)} (nd : (tab.map (·.1)).Nodup) (a : α) (b : β) : ((pA tab a b).map (·.1)).Nodup := by
  rw [pA_keys]
  split
  · exact nd
  · rename_i h
    rw [List.nodup_append]
    exact ⟨nd, by simp, fun x hx y hy => by simp at hy; subst hy; exact fun e => h (e ▸ hx)⟩
theorem pA_mem {tab : List (α × β)} {a : α} {b : β} {e : α × β} (h : e ∈ pA tab a b) : e ∈ tab ∨ e = (a, b) := by
  unfold pA at h
  split at h
  · obtain ⟨y, hy, e2⟩ := List.mem_map.mp h
    by_cases ek : y.1 = a
    · rw [if_pos ek] at e2; right; rw [← e2, ek]
    · rw [if_neg ek] at e2; left; rw [← e2]; exact hy
  · rcases List.mem_append.mp h with z | z
    · exact .inl z
    · exact .inr (by simpa using z)
theorem mapT_nodup {ky : α → κ} {va : β → Dt} (inj : ∀ a b, ky a = ky b → a = b) {tab : List (α × β)} (nd : (tab.map (·.1)).Nodup) : ((mapT ky va tab).map (·.1)).Nodup := by
  unfold mapT
  rw [List.map_map]
  have : (tab.map ((fun x : κ × Dt => x.1) ∘ fun e : α × β => (ky e.1, va e.2))) = (tab.map (·.1)).map ky := by rw [List.map_map]; rfl
  rw [this]
  exact List.Pairwise.map ky (fun x y h e => h (inj _ _ e)) nd
end
/-- keys: pairs of texts; a text -/
abbrev ky2 (p : Str × Str) : List Key := [.inr p.1, .inr p.2]
abbrev ky1 (p : Str) : Key := .inr p
theorem ky2_inj (a b : Str × Str) (h : ky2 a = ky2 b) : a = b := by
  simp only [ky2, List.cons.injEq, Sum.inr.injEq, and_true] at h
  exact Prod.ext h.1 h.2
theorem ky1_inj (a b : Str) (h : ky1 a = ky1 b) : a = b := Sum.inr.inj h
end DL

/-! DD, part i: a dict of one's own is walked by a statement. -/
namespace L2
open PySem PySem.Spec PyProof.Rows
def tLnS (_ : Nat) (t : TS) : TS := tLkS t
theorem mkLnS {X : Cx} {st : Stmt} {t : TS} (i : Nat) (h : PS X st t) : PS X st (tLnS i t) := mkLkS h
theorem look_off {D : List (Addr × HO)} {d : Addr} (h : ∀ p ∈ D, p.1 ≠ d) : D.lookup d = none := by
  induction D with
  | nil => rfl
  | cons p D ih =>
    rw [List.lookup_cons]
    rw [show (d == p.1) = false from by rw [beq_eq_false_iff_ne]; exact fun z => h p (List.mem_cons_self ..) z.symm]
    exact ih fun q hq => h q (List.mem_cons_of_mem _ hq)
theorem lkS_list {t : Ends → Hp → Prop} : ∀ {D : List (Addr × HO)} {E : Ends} {H : Hp}, (D.map (·.1)).Nodup → (∀ p ∈ D, H p.1 = some p.2 ∧ Mut (some p.2)) →
    (∀ (od : Addr → Obj) (E' : Ends), (∀ σ' H', (∀ p ∈ D, H' p.1 = some (.frz (od p.1) p.2)) → E.nx σ' (reH D H') → E'.nx σ' H') → (∀ v H', (∀ p ∈ D, H' p.1 = some (.frz (od p.1) p.2)) → E.rt v (reH D H') → E'.rt v H') →
      (∀ σ' H', (∀ p ∈ D, H' p.1 = some (.frz (od p.1) p.2)) → E.bk σ' (reH D H') → E'.bk σ' H') → (∀ σ' H', (∀ p ∈ D, H' p.1 = some (.frz (od p.1) p.2)) → E.ct σ' (reH D H') → E'.ct σ' H') → t E' (lkH D od H)) → LkS t E H
  | [], E, H, _, _, h => .run (h (fun _ => default) E (fun _ _ _ q => q) (fun _ _ _ q => q) (fun _ _ _ q => q) (fun _ _ _ q => q))
  | (d, u) :: D, E, H, nd, hD, h => by
    obtain ⟨n1, n2⟩ := List.nodup_cons.mp nd
    have nl : ∀ p ∈ D, p.1 ≠ d := fun p hp e => n1 (List.mem_map.mpr ⟨p, hp, e⟩)
    have look : D.lookup d = none := look_off nl
    obtain ⟨hd, mu⟩ := hD (d, u) (List.mem_cons_self ..)
    refine .lock d u hd mu fun od => lkS_list n2 (fun p hp => ?_) fun od' E' hN hR hB hC => ?_
    · have := hD p (List.mem_cons_of_mem _ hp)
      rw [upd_ne (nl p hp)]
      exact this
    · have e0 : ∀ b, b ≠ d → ((d, u) :: D).lookup b = D.lookup b := fun b hb => by
        rw [List.lookup_cons, show (b == d) = false from by rw [beq_eq_false_iff_ne]; exact hb]
      have e1 : ((d, u) :: D).lookup d = some u := by rw [List.lookup_cons]; simp
      have eH : lkH D od' (upd H d (.frz od u)) = lkH ((d, u) :: D) (fun b => if b = d then od else od' b) H := by
        funext b
        unfold lkH
        by_cases hb : b = d
        · subst hb
          rw [e1, look, upd_same]
          simp
        · rw [e0 b hb, upd_ne hb]
          simp only [if_neg hb]
      have eR : ∀ H', upd (reH D H') d u = reH ((d, u) :: D) H' := fun H' => by
        funext b
        unfold reH
        by_cases hb : b = d
        · subst hb
          rw [e1, upd_same]
        · rw [e0 b hb, upd_ne hb]
      have all : ∀ {H' : Hp}, (∀ p ∈ (d, u) :: D, H' p.1 = some (.frz (if p.1 = d then od else od' p.1) p.2)) → H' d = some (.frz od u) ∧ ∀ p ∈ D, H' p.1 = some (.frz (od' p.1) p.2) := fun {H'} k => by
        refine ⟨?_, fun p hp => ?_⟩
        · have := k (d, u) (List.mem_cons_self ..)
          simpa using this
        · have := k p (List.mem_cons_of_mem _ hp)
          rw [if_neg (nl p hp)] at this
          exact this
      have rd : ∀ {H' : Hp}, H' d = some (.frz od u) → reH D H' d = some (.frz od u) := fun {H'} k => by
        unfold reH
        rw [look]
        exact k
      rw [eH]
      refine h _ E' (fun σ' H' k w => ?_) (fun v H' k q => ?_) (fun σ' H' k w => ?_) (fun σ' H' k w => ?_)
      · obtain ⟨k1, k2⟩ := all k
        exact hN σ' H' k2 ⟨rd k1, by rw [eR]; exact w⟩
      · obtain ⟨k1, k2⟩ := all k
        exact hR v H' k2 ⟨rd k1, by rw [eR]; exact q⟩
      · obtain ⟨k1, k2⟩ := all k
        exact hB σ' H' k2 ⟨rd k1, by rw [eR]; exact w⟩
      · obtain ⟨k1, k2⟩ := all k
        exact hC σ' H' k2 ⟨rd k1, by rw [eR]; exact w⟩
end L2
namespace DL
open PySem PySem.Spec L2
def LendN (c : Option Addr) (Γ2 : Gm) (i : Nat) (s : Sl) (d : Dt) (N : Prop) (Q : Gm → Prop) : Prop := (N ∧ Γ2[i]? = some (some (.fr d)) ∧ ∀ (j : Nat) (s' : Sl), j ≠ i → Γ2[j]? = some (some s') → noXS c s') ∧ Q (Γ2.set i (some s))
section
variable {K : PySem.W.Frag} {W : WX} {Γ Γ' Γ2 Γ3 : Gm} {X : XP} {P : Dt → Gm → Prop} {i : Nat} {s : Sl} {d : Dt} {b : Addr} {nx : Gm → Prop} {rt : Sl → Gm → Prop} {xc : XP} {bk ct : Gm → Prop} {t : TS} {c : Option Addr}
theorem go_lnS (hi : Γ[i]? = some (some s)) (hl : Ln s d) (ha : adr s = some b) (h : Go K W t (Γ.set i (some (.fr (.at_ b d)))) ⟨fun Γ2 => LendN (lnC s) Γ2 i s (.at_ b d) True nx, fun r Γ2 => LendN (lnC s) Γ2 i s (.at_ b d) (noXS (lnC s) r) (rt r), fun _ _ _ => False, fun Γ2 => LendN (lnC s) Γ2 i s (.at_ b d) True bk, fun Γ2 => LendN (lnC s) Γ2 i s (.at_ b d) True ct⟩) : Go K W (tLnS i t) Γ ⟨nx, rt, xc, bk, ct⟩ := fun O G H σ E S a1 a2 a3 a4 a5 => by
  obtain ⟨v, D, ev, ow, n, h1, h2, hG⟩ := S.lend hi hl
  have vb := ow.adr ha
  subst vb
  refine lkS_list n (fun p hp => ⟨(h1 p hp).2.1, (h1 p hp).2.2.1⟩) fun od E' hN hR hB hC => ?_
  obtain ⟨G1, L⟩ := hG od
  have il : i < Γ.length := (List.getElem?_eq_some_iff.mp hi).1
  have S1 : Sta K O G1 (lkH D od H) σ (Γ.set i (some (.fr (.at_ b d)))) := by
    obtain ⟨v1, e1, r1⟩ := L.S1.getF (i := i) (d := d) (by rw [List.getElem?_set_self il])
    rw [ev] at e1
    cases e1
    have := L.S1.putF (.at_ r1) i
    rw [set_here ev, List.set_set] at this
    exact this
  have fin : ∀ {G2 H2 : Hp} {σ2 : L2.St} {Γ2 : Gm}, Same G1 G2 → Sta K O G2 H2 σ2 Γ2 → Γ2[i]? = some (some (.fr (.at_ b d))) → (∀ (j : Nat) (s' : Sl), j ≠ i → Γ2[j]? = some (some s') → noXS (lnC s) s') →
      (∀ b ∈ s.fp, ∀ o, G2 b = some o → Bad (lnC s) o) ∧ Same G (delS G2 s.fp) ∧ (∀ p ∈ D, H2 p.1 = some (.frz (od p.1) p.2)) ∧ Sta K O (delS G2 s.fp) (reH D H2) σ2 (Γ2.set i (some s)) := fun {G2 H2 σ2 Γ2} s2 S2 hi2 k => by
    obtain ⟨w, ew, rw'⟩ := S2.getF hi2
    cases rw' with
    | at_ r => exact S.unlend hi ow n h1 h2 L s2 S2 hi2 ew fun j s' hj e => .inl (k j s' hj e)
  refine h O G1 _ σ E' S1 (fun G2 H2 σ2 Γ2 s2 S2 ⟨⟨_, hi2, k⟩, p⟩ => ?_) (fun u G2 H2 σ2 Γ2 z s2 S2 ⟨⟨nz, hi2, k⟩, p⟩ => ?_) (fun G2 H2 σ2 Γ2 s2 S2 ⟨⟨_, hi2, k⟩, p⟩ => ?_) (fun G2 H2 σ2 Γ2 s2 S2 ⟨⟨_, hi2, k⟩, p⟩ => ?_) (fun σ2 C e fs G2 H2 Γ2 s2 S2 r z => z.elim)
  · obtain ⟨_, sd, hD, S3⟩ := fin s2 S2 hi2 k
    exact hN σ2 H2 hD (a1 _ _ _ _ sd S3 p)
  · have St := S2.tail
    obtain ⟨w, ew, rw'⟩ := St.getF hi2
    cases rw' with
    | at_ r =>
    obtain ⟨_, sd, hD, S3⟩ := S.unlend (i2 := i + 1) (Γ2 := some z :: Γ2) (σ2 := some u :: σ2) hi ow n h1 h2 L s2 S2 (by simpa using hi2) (by simpa using ew) (fun j s' hj e => by
      cases j with
      | zero => have e' : z = s' := by simpa using e
                subst e'; exact .inl nz
      | succ j => exact .inl (k j s' (by omega) (by simpa using e)))
    refine hR u H2 hD (a2 u _ _ σ2 (Γ2.set i (some s)) z sd ?_ p)
    simpa using S3
  · obtain ⟨_, sd, hD, S3⟩ := fin s2 S2 hi2 k
    exact hB σ2 H2 hD (a3 _ _ _ _ sd S3 p)
  · obtain ⟨_, sd, hD, S3⟩ := fin s2 S2 hi2 k
    exact hC σ2 H2 hD (a4 _ _ _ _ sd S3 p)
/-! ### the driver -/
class KeepNC (c : Option Addr) (Γ2 : Gm) (i : Nat) (p : outParam Prop) : Prop where
  h : p → ∀ (j : Nat) (s' : Sl), j ≠ i → Γ2[j]? = some (some s') → noXS c s'
class KeepMC (c : Option Addr) (Γ2 : Gm) (p : outParam Prop) : Prop where
  h : p → ∀ (j : Nat) (s' : Sl), Γ2[j]? = some (some s') → noXS c s'
class KpNC (c : Option Addr) (y : Option Sl) (p : outParam Prop) : Prop where
  h : p → ∀ s, y = some s → noXS c s
instance : KpNC c none True := ⟨fun _ s e => by cases e⟩
instance {p : Prop} [h : NoXSC c s p] : KpNC c (some s) p := ⟨fun z s' e => by cases e; exact h.h z⟩
instance : KeepMC c [] True := ⟨fun _ j s e => by simp at e⟩
instance {y : Option Sl} {p q r : Prop} [h : KpNC c y p] [t : KeepMC c Γ2 q] [a : AndC p q r] : KeepMC c (y :: Γ2) r := ⟨fun z j s e => by
  cases j with
  | zero => exact h.h (a.h z).1 s (by simpa using e)
  | succ j => exact t.h (a.h z).2 j s (by simpa using e)⟩
instance {y : Option Sl} {p : Prop} [t : KeepMC c Γ2 p] : KeepNC c (y :: Γ2) 0 p := ⟨fun z j s hj e => by
  cases j with
  | zero => exact absurd rfl hj
  | succ j => exact t.h z j s (by simpa using e)⟩
instance {y : Option Sl} {p q r : Prop} [h : KpNC c y p] [t : KeepNC c Γ2 i q] [a : AndC p q r] : KeepNC c (y :: Γ2) (i + 1) r := ⟨fun z j s hj e => by
  cases j with
  | zero => exact h.h (a.h z).1 s (by simpa using e)
  | succ j => exact t.h (a.h z).2 j s (by omega) (by simpa using e)⟩
instance : NPC True True := ⟨id⟩
instance {N p q z : Prop} {Q : Gm → Prop} [n : NPC N p] [tt : At Γ2 i (.fr d)] [k : KeepNC c Γ2 i q] [sg : SetG Γ2 i (some s) Γ3] [an : AndC p q z] : Wk (LendN c Γ2 i s d N Q) (Side z (Q Γ3)) := ⟨fun h => ⟨⟨n.h (an.h h.1).1, tt.h, k.h (an.h h.1).2⟩, by rw [sg.h]; exact h.2⟩⟩
instance {kvs : List (List Key × Dt)} [tt : At Γ i (.oT b kvs)] [sg : SetG Γ i (some (.fr (.at_ b (.dT kvs)))) Γ'] : Wk (Go K W (tLnS i t) Γ ⟨nx, rt, xc, bk, ct⟩) (Go K W t Γ' ⟨fun Γ2 => LendN none Γ2 i (.oT b kvs) (.at_ b (.dT kvs)) True nx, fun r Γ2 => LendN none Γ2 i (.oT b kvs) (.at_ b (.dT kvs)) (noXS none r) (rt r), fun _ _ _ => False, fun Γ2 => LendN none Γ2 i (.oT b kvs) (.at_ b (.dT kvs)) True bk, fun Γ2 => LendN none Γ2 i (.oT b kvs) (.at_ b (.dT kvs)) True ct⟩) :=
  ⟨fun h => go_lnS tt.h (.oT b kvs) rfl (by rw [sg.h]; exact h)⟩
instance {kvs : List (Key × Dt)} [tt : At Γ i (.oK b kvs)] [sg : SetG Γ i (some (.fr (.at_ b (.dK kvs)))) Γ'] : Wk (Go K W (tLnS i t) Γ ⟨nx, rt, xc, bk, ct⟩) (Go K W t Γ' ⟨fun Γ2 => LendN none Γ2 i (.oK b kvs) (.at_ b (.dK kvs)) True nx, fun r Γ2 => LendN none Γ2 i (.oK b kvs) (.at_ b (.dK kvs)) (noXS none r) (rt r), fun _ _ _ => False, fun Γ2 => LendN none Γ2 i (.oK b kvs) (.at_ b (.dK kvs)) True bk, fun Γ2 => LendN none Γ2 i (.oK b kvs) (.at_ b (.dK kvs)) True ct⟩) :=
  ⟨fun h => go_lnS tt.h (.oK b kvs) rfl (by rw [sg.h]; exact h)⟩
instance (priority := high) [tt : At Γ i (.fr (.at_ b d))] : Wk (Ev K W (tVar i) Γ P X) (P d Γ) := ⟨fun p O G H σ Q S q x => by
  obtain ⟨v, e, r⟩ := S.getF tt.h
  cases r with
  | at_ r => exact ⟨_, e, q _ G H Γ d (Same.refl _) S r p⟩⟩
end
end DL

/-! DD, part j: list methods (remove, insert, index); comprehensions of two clauses; lists lent for an owned result. -/
namespace L2
open PySem PySem.Spec PyProof.Rows
section
variable {X : Cx}
theorem first_atS : ∀ {ns : List Str} {k : Str}, k ∈ ns → ∃ j, j < ns.length ∧ ns[j]? = some k ∧ (∀ i, i < j → ns[i]? ≠ some k) ∧ ns.eraseIdx j = ns.erase k
  | [], k, h => absurd h (by simp)
  | a :: r, k, h => by
    by_cases e : a = k
    · refine ⟨0, Nat.succ_pos _, by rw [e] <;> rfl, fun i hi => absurd hi (Nat.not_lt_zero _), ?_⟩
      rw [e, List.erase_cons_head] <;> rfl
    · have hr : k ∈ r := by
        rcases List.mem_cons.mp h with z | z
        · exact absurd z.symm e
        · exact z
      obtain ⟨j, h1, h2, h3, h4⟩ := first_atS hr
      refine ⟨j + 1, Nat.succ_lt_succ h1, h2, fun i hi => ?_, ?_⟩
      · cases i with
        | zero =>
          intro z
          exact e (Option.some.inj z)
        | succ i => exact h3 i (Nat.lt_of_succ_lt_succ hi)
      · rw [List.erase_cons_tail (by rw [beq_iff_eq]; exact e), ← h4] <;> rfl
theorem map_eraseIdxG {α β : Type} (f : α → β) : ∀ (ns : List α) (j : Nat), (ns.map f).eraseIdx j = (ns.eraseIdx j).map f
  | [], _ => rfl
  | _ :: _, 0 => rfl
  | n :: r, j + 1 => by
    show f n :: (r.map f).eraseIdx j = f n :: (r.eraseIdx j).map f
    rw [map_eraseIdxG f r j]
theorem isStr_at (k : Str) : ∀ {vs : List Value} {ns : List Str}, StrsAre vs ns → ∀ (i : Nat) (h : i < vs.length), isStrOf k vs[i] = true ↔ ns[i]? = some k
  | _, _, .nil, i, h => absurd h (by simp)
  | _, _, .cons n t hr, 0, _ => by
    show (n == k) = true ↔ some n = some k
    rw [beq_iff_eq, Option.some_inj]
  | _, _, .cons n t hr, i + 1, h => isStr_at k hr i (Nat.lt_of_succ_lt_succ h)
def rRemS : V → List V → Hp → VK → Prop := fun x vs H Q => ∃ (l : Addr) (ss : List Str) (k : Str), x = .ref l ∧ vs = [.str k] ∧ H l = some (.lst (ss.map V.str)) ∧ k ∈ ss ∧ Q .non (upd H l (.lst ((ss.erase k).map V.str)))
theorem mt_remS : MtR X "list.remove" rRemS := by
  intro pins s σ H x vs v us Q I rx rv h
  obtain ⟨l, ns, k, rfl, rfl, hH, hk, q⟩ := h
  cases rx
  obtain ⟨u, rfl, ru⟩ := rv.one
  obtain ⟨t, rfl⟩ := ru
  obtain ⟨z, its, n, r, hl, e0⟩ := I.lstM hH
  have hi : StrsAre its ns := r.strs
  have heq := eq_isStrOf k t hi
  have hnl : ns.length = its.length := by rw [← hl, List.length_map]
  have hsz : its.toArray.size ≤ sizeLine := by rw [List.size_toArray, ← hl]; exact z
  obtain ⟨j, j1, j2, j3, j4⟩ := first_atS hk
  have hj : j < its.length := by omega
  refine call_meets PySem.F.slot_list_remove ⟨_, e0, rfl⟩ PySem.F.entry_list_remove (PySem.F.args_list_remove_2 _ _)
    (MeetsSeq.list_remove l its.toArray n (.str k t) (isStrOf k) (fun y hy => heq y (by simpa using hy)) j (by rw [List.size_toArray]; exact hj) ?hit (fun i hi2 hlt => ?hno) hsz) ⟨e0, ?_⟩
  case hit =>
    show isStrOf k its[j] = true
    exact (isStr_at k hi j hj).mpr j2
  case hno =>
    have hi3 : i < its.length := by rw [List.size_toArray] at hi2; exact hi2
    show isStrOf k its[i] = false
    rw [Bool.eq_false_iff]
    intro w
    exact j3 i hlt ((isStr_at k hi i hi3).mp w)
  have r2 : Vals ((ns.erase k).map V.str) (its.eraseIdx j) := by
    have w := r.eraseIdx j
    rw [map_eraseIdxG, j4] at w
    exact w
  refine ⟨.non, _, I.lset (its' := its.eraseIdx j) hH e0 ?_ r2 ?_, rfl, q⟩
  · show its.toArray.eraseIdxIfInBounds j = (its.eraseIdx j).toArray
    rw [List.eraseIdxIfInBounds_toArray]
  · rw [List.length_map]
    have := List.length_erase_le (a := k) (l := ns)
    rw [List.length_map] at z
    omega
def rIns : V → List V → Hp → VK → Prop := fun x vs H Q => ∃ (l : Addr) (xs : List V) (i : Int) (y : V), x = .ref l ∧ vs = [.int i, y] ∧ H l = some (.lst xs) ∧ xs.length < sizeLine ∧ 0 ≤ i ∧ i < 2 ^ 63 ∧ Q .non (upd H l (.lst (xs.take i.toNat ++ [y] ++ xs.drop i.toNat)))
theorem mt_insD : MtR X "list.insert" rIns := mt_insert
theorem mt_indexK (K : PySem.W.Frag) (h : X.K = K) : MtR X "list.index" (rIndex K) := by subst h; exact mt_index
end
end L2
namespace DL
open PySem PySem.Spec L2
/-! ### methods -/
theorem idxOf_le_at {w : Str} : ∀ {ss : List Str} {m : Nat}, ss[m]? = some w → ss.idxOf w ≤ m
  | [], m, h => by simp at h
  | x :: ss, 0, h => by
    obtain rfl : x = w := by simpa using h
    simp
  | x :: ss, m + 1, h => by
    have := idxOf_le_at (ss := ss) (m := m) (by simpa using h)
    rw [List.idxOf_cons]
    cases x == w <;> simp <;> omega
def StrsQ (ds : List Dt) (Q : List Str → Prop) : Prop := ∃ ss, ds = ss.map .str ∧ Q ss
instance {ss : List Str} {Q : List Str → Prop} : Wk (StrsQ (ss.map .str) Q) (Q ss) := ⟨fun q => ⟨ss, rfl, q⟩⟩
instance {Q : List Str → Prop} : Wk (StrsQ [] Q) (Q []) := ⟨fun q => ⟨[], rfl, q⟩⟩
theorem reps_strs {K : PySem.W.Frag} {G : Hp} : ∀ {ss : List Str} {vs : List V}, Reps K G vs (ss.map .str) → vs = ss.map V.str
  | [], _, .nil => rfl
  | s :: ss, _, .cons r t => by
    cases r
    rw [reps_strs (ss := ss) t]; rfl
theorem strs_reps {K : PySem.W.Frag} {G : Hp} : ∀ ss : List Str, Reps K G (ss.map V.str) (ss.map .str)
  | [] => .nil
  | s :: ss => .cons (.str s) (strs_reps ss)
section
variable {K : PySem.W.Frag} {W : WX} {Γ Γ' Γ2 : Gm} {X : XP} {P : Dt → Gm → Prop} {PO : Sl → Gm → Prop} {te ta tb : TE} {i : Nat} {nx : Gm → Prop} {rt : Sl → Gm → Prop} {xc : XP} {bk ct : Gm → Prop} {a : Addr} {t : TA}
/-- xs.remove(e), texts -/
theorem g_remS {d0 : List Dt} (hi : Γ[i]? = some (some (.ol a d0))) (h : Ev K W te Γ (fun v Γ1 => IsS v fun k => OwnL Γ1 i fun a ds => StrsQ ds fun ss => Side (k ∈ ss) (nx (Γ1.set i (some (.ol a ((ss.erase k).map .str)))))) xc) :
    Go K W (tDrop (tBM K "list" rRemS (tVar i) (tCons te tNil))) Γ ⟨nx, rt, xc, bk, ct⟩ := fun O G H σ D S a1 b c d e => by
  obtain ⟨v0, e0, o0⟩ := S.get hi
  have z0 := o0.adr rfl
  subst z0
  cases o0 with
  | @ol _ xs0 _ hx0 rx0 =>
  refine ⟨_, e0, .inl ⟨rfl, _, SqL.of hx0⟩, h O G H σ _ S (fun v G1 H1 Γ1 d s1 S1 r ⟨k, ek, a2, ds, hg, ss, es, hk, p⟩ => ?_) (e σ)⟩
  subst ek es
  cases r
  obtain ⟨v2, e2, o2⟩ := S1.get hg
  rw [e0] at e2
  cases e2
  cases o2 with
  | @ol _ xs _ hx rx =>
    rw [reps_strs rx] at hx
    refine ⟨_, ss, k, rfl, rfl, hx, hk, ?_⟩
    exact a1 G1 _ σ _ s1 (S1.mutS hg e0 (by simp [Sl.fp]) (fun b hb => by simpa [Sl.fp] using hb) (by simp [Sl.fp]) (.ol upd_same (strs_reps _))) p
instance {ds : List Dt} [q : At Γ i (.ol a ds)] : Wk (Go K W (tDrop (tBM K "list" rRemS (tVar i) (tCons te tNil))) Γ ⟨nx, rt, xc, bk, ct⟩) (Ev K W te Γ (fun v Γ1 => IsS v fun k => OwnL Γ1 i fun a ds => StrsQ ds fun ss => Side (k ∈ ss) (nx (Γ1.set i (some (.ol a ((ss.erase k).map .str)))))) xc) := ⟨fun h => g_remS q.h h⟩
/-- xs.insert(e, f) -/
theorem g_ins {d0 : List Dt} (hi : Γ[i]? = some (some (.ol a d0))) (h : Ev K W ta Γ (fun n Γ1 => Ev K W tb Γ1 (fun v Γ2 => IsI n fun n => OwnL Γ2 i fun a ds => Side (ds.length < 1000000 ∧ 0 ≤ n ∧ n < 2 ^ 63) (nx (Γ2.set i (some (.ol a (ds.take n.toNat ++ [v] ++ ds.drop n.toNat)))))) xc) xc) :
    Go K W (tDrop (tBM K "list" rIns (tVar i) (tCons ta (tCons tb tNil)))) Γ ⟨nx, rt, xc, bk, ct⟩ := fun O G H σ D S a1 b c d e => by
  obtain ⟨v0, e0, o0⟩ := S.get hi
  have z0 := o0.adr rfl
  subst z0
  cases o0 with
  | @ol _ xs0 _ hx0 rx0 =>
  refine ⟨_, e0, .inl ⟨rfl, _, SqL.of hx0⟩, h O G H σ _ S (fun n G1 H1 Γ1 dn s1 S1 r1 h1 => h1 O G1 H1 σ _ S1 (fun v G2 H2 Γ2 d s2 S2 r2 ⟨k, ek, a2, ds, hg, ⟨hl, h0, h3⟩, p⟩ => ?_) ((e σ).mono s1)) (e σ)⟩
  subst ek
  cases r1
  obtain ⟨v2, e2, o2⟩ := S2.get hg
  rw [e0] at e2
  cases e2
  cases o2 with
  | @ol _ xs _ hx rx =>
    refine ⟨_, xs, k, v, rfl, rfl, hx, by rw [rx.length]; exact Nat.lt_of_lt_of_le hl (by decide), h0, h3, ?_⟩
    exact a1 G2 _ σ _ (s1.trans s2) (S2.mutS hg e0 (by simp [Sl.fp]) (fun b hb => by simpa [Sl.fp] using hb) (by simp [Sl.fp]) (.ol upd_same (((rx.take _).append (.cons r2 .nil)).append (rx.drop _)))) p
instance {ds : List Dt} [q : At Γ i (.ol a ds)] : Wk (Go K W (tDrop (tBM K "list" rIns (tVar i) (tCons ta (tCons tb tNil)))) Γ ⟨nx, rt, xc, bk, ct⟩) (Ev K W ta Γ (fun n Γ1 => Ev K W tb Γ1 (fun v Γ2 => IsI n fun n => OwnL Γ2 i fun a ds => Side (ds.length < 1000000 ∧ 0 ≤ n ∧ n < 2 ^ 63) (nx (Γ2.set i (some (.ol a (ds.take n.toNat ++ [v] ++ ds.drop n.toNat)))))) xc) xc) := ⟨fun h => g_ins q.h h⟩
/-- xs.index(e), texts -/
theorem ev_indexS (h : Ev K W ta Γ (fun d Γ1 => IsL d fun ds => StrsQ ds fun ss => Ev K W te Γ1 (fun y Γ2 => IsS y fun k => Side (k ∈ ss) (P (.int ((ss.idxOf k : Nat) : Int)) Γ2)) X) X) : Ev K W (tBM K "list" (rIndex K) ta (tCons te tNil)) Γ P X := fun O G H σ Q S q x =>
  h O G H σ _ S (fun v G1 H1 Γ1 d1 s1 S1 r1 ⟨ds, e1, ss, e2, h2⟩ => by
    subst e1 e2
    cases r1 with
    | @lst ad vs _ ha rs =>
    refine ⟨.inl ⟨rfl, _, SqL.of (S1.g _ _ ha)⟩, h2 O G1 H1 σ _ S1 (fun y G2 H2 Γ2 dy s2 S2 r2 ⟨k, ek, hk, p⟩ => ?_) (x.mono s1)⟩
    subst ek
    cases r2
    have ha2 := S2.g _ _ (s2 _ _ ha)
    rw [reps_strs rs] at ha2
    have lt : ss.idxOf k < ss.length := List.idxOf_lt_length_iff.mpr hk
    have at1 : ss[ss.idxOf k]? = some k := by rw [List.getElem?_eq_getElem lt]; simp
    have eqs : ∀ z : Str, eqV (.str z) (.str k) = decide (z = k) := fun z => by first | rfl | simp [eqV]
    refine ⟨ad, ss.map V.str, .str k, ss.idxOf k, .str k, rfl, rfl, SqL.of ha2, rfl, ?_, by rw [List.getElem?_map, at1]; rfl, by rw [eqs]; simp, fun m z hm hz => ?_, ?_⟩
    · rw [List.all_eq_true]
      intro z hz
      obtain ⟨w, _, rfl⟩ := List.mem_map.mp hz
      rfl
    · rw [List.getElem?_map] at hz
      cases hq : ss[m]? with
      | none => rw [hq] at hz; cases hz
      | some w =>
        rw [hq] at hz
        cases hz
        rw [eqs, decide_eq_false]
        intro e
        subst e
        have := idxOf_le_at hq
        omega
    · exact q _ G2 H2 Γ2 _ (s1.trans s2) S2 (.int _) p) x
end
end DL

/-! DD, part k: raise x() of an error class without an own __init__; sep.join(list). -/
namespace L2
open PySem PySem.Spec PyProof.Rows
def tRaise0 (C : Addr) (W : WX) : TS := fun _ σ H => W (.ref C) none σ H
section
variable {X : Cx} {C : Addr} {bmB : List Value} {B newId initId : String} {x : Str} {p pos pos2 : Pos}
theorem pmk_own0 (F : ExcBaseFacts B newId initId bmB) (q : PySem.W.excIn X.K C bmB newId = true) (gC : X.mg x = some (.ref C))
    (kC : PySem.W.keepIn X.K (.ref C) = true) (r : Raises X (.ref C)) (hg : Gl X x) (hdb : (x == ("__debug__" : Str)) = false := by decide) :
    PMk X (.Call (.Name x p) [] [] pos) (fun _ H Q => Q (.ref C) none H) := by
  intro pins s σ H Q I h
  refine wpAny_Call_Name_kw (ld_glob I hg gC ?_ hdb)
  refine PySem.W.callWith_K0 I.kIn kC ?_
  show wpAny _ _ (call (.ref C) []) _ _ _
  obtain ⟨bm, N, nm, qn, bs, hdct, sn, sub, ab, col, dd, k0, k1, k2, k3, k5, mN, hC, hN, hni, T⟩ := exc_obj I.kIn q
  refine wpAny_call_exc_subT F T hC hN hni (fun h' e hm => ?_) (Nat.zero_le _)
  exact mk_of I hm r h (I.hok.gone hm.new)
end
end L2
namespace DL
open PySem PySem.Spec L2
/-- the facts of an error class without __init__ -/
structure Err0K (K : PySem.W.Frag) (mg : Str → Option Value) (x : Str) (C : Addr) : Prop where
  gC : mg x = some (.ref C)
  q : PySem.W.excIn K C He.veBase "ValueError.__new__" = true
  kC : PySem.W.keepIn K (.ref C) = true
  exC : PySem.W.subIn K (.ref C) (.type "BaseException") = some true
  tyC : PySem.W.typeIn K (.ref C) = some (.type "type")
def err0B (K : PySem.W.Frag) (x : Str) : Bool := He.eqO (PySem.W.nsIn K mainGlobals x) (some (some (.ref (He.ga K x)))) && (Fa K x)
where Fa (K : PySem.W.Frag) (x : Str) : Bool := (He.Fa.exc x).ok K
theorem err0_ok {K : PySem.W.Frag} {h : Heap} {mg : Str → Option Value} {x : Str} (X : K.In h) (G : h.Ns mainGlobals mg) (q : err0B K x = true) : Err0K K mg x (He.ga K x) := by
  unfold err0B at q
  rw [Bool.and_eq_true] at q
  obtain ⟨c1, c2, c3, c4⟩ := He.exc_ok (x := x) q.2
  exact ⟨PySem.W.mg_of X G (He.eqO_ok q.1), c1, c2, c3, c4⟩
section
variable {X : Cx} {x : Str} {C : Addr} {W : WX} {p pos pos2 : Pos}
theorem ps_raise0 (hc : X.calm = true) (E : Err0K X.K X.mg x C) (tk : Takes X W) (hg : Gl X x := by rfl) (hdb : (x == ("__debug__" : Str)) = false := by decide) :
    PS X (.Raise (some (.Call (.Name x p) [] [] pos)) none pos2) (tRaise0 C W) := ps_raise hc tk (pmk_own0 PySem.F.excBase_ValueError E.q E.gC E.kC (raises_own E.exC E.tyC) hg hdb)
end
section
variable {K : PySem.W.Frag} {W : WX} {Γ : Gm} {nx : Gm → Prop} {rt : Sl → Gm → Prop} {xc : XP} {bk ct : Gm → Prop} {C : Addr}
theorem g_raise0 (h : xc C [] Γ) : Go K W (tRaise0 C W) Γ ⟨nx, rt, xc, bk, ct⟩ := fun O G H σ D S a b c d e =>
  e σ C none [] G H Γ (Same.refl _) S .none h
instance : Wk (Go K W (tRaise0 C W) Γ ⟨nx, rt, xc, bk, ct⟩) (xc C [] Γ) := ⟨g_raise0⟩
end
end DL
namespace L2
open PySem PySem.Spec PyProof.Rows
section
variable {X : Cx}
def rJoin (K : PySem.W.Frag) : V → List V → Hp → VK → Prop := fun x xs H Q => ∃ a p, ∃ ys : List Str, x = .str a ∧ xs = [.ref p] ∧ (SqL K H p (ys.map V.str) ∨ SqT K H p (ys.map V.str)) ∧ (ys.map (·.length)).sum + ys.length * a.length ≤ 16777216 ∧ Q (.str (Txt.join a ys)) H
theorem mt_joinD (K : PySem.W.Frag) (h : X.K = K) : MtR X "str.join" (rJoin K) := by subst h; exact mt_join
end
end L2
namespace DL
open PySem PySem.Spec L2
section
variable {K : PySem.W.Frag} {W : WX} {Γ : Gm} {X : XP} {P : Dt → Gm → Prop} {te ta : TE}
theorem ev_join (h : Ev K W ta Γ (fun x Γ1 => IsS x fun z => Ev K W te Γ1 (fun d Γ2 => IsL d fun ds => StrsQ ds fun ys => Side ((ys.map (·.length)).sum + ys.length * z.length ≤ 16777216) (P (.str (Txt.join z ys)) Γ2)) X) X) : Ev K W (tBM K "str" (rJoin K) ta (tCons te tNil)) Γ P X := fun O G H σ Q S q x =>
  h O G H σ _ S (fun v G1 H1 Γ1 d1 s1 S1 r1 ⟨z, e1, h2⟩ => by
    subst e1
    cases r1
    refine ⟨rfl, h2 O G1 H1 σ _ S1 (fun y G2 H2 Γ2 dy s2 S2 r2 ⟨ds, ek, ys, e2, hz, p⟩ => ?_) (x.mono s1)⟩
    subst ek e2
    cases r2 with
    | @lst ad vs _ ha rs =>
    have ha2 := S2.g _ _ ha
    rw [reps_strs rs] at ha2
    exact ⟨z, ad, ys, rfl, rfl, .inl (SqL.of ha2), hz, q _ G2 H2 Γ2 _ (s1.trans s2) S2 (.str _) p⟩) x
instance : Wk (Ev K W (tBM K "str" (rJoin K) ta (tCons te tNil)) Γ P X) (Ev K W ta Γ (fun x Γ1 => IsS x fun z => Ev K W te Γ1 (fun d Γ2 => IsL d fun ds => StrsQ ds fun ys => Side ((ys.map (·.length)).sum + ys.length * z.length ≤ 16777216) (P (.str (Txt.join z ys)) Γ2)) X) X) := ⟨ev_join⟩
instance : Wk (Ev K W (tBM K "list" (rIndex K) ta (tCons te tNil)) Γ P X) (Ev K W ta Γ (fun d Γ1 => IsL d fun ds => StrsQ ds fun ss => Ev K W te Γ1 (fun y Γ2 => IsS y fun k => Side (k ∈ ss) (P (.int ((ss.idxOf k : Nat) : Int)) Γ2)) X) X) := ⟨ev_indexS⟩
end
end DL

/-! RM, part a: rising maps, plainly: rows, values, runs of steps, greedy rows. -/
namespace RM
abbrev Rw := Int × Int × Bool
def at1 (r : Rw) (t : Int) : Int := r.2.1 + (if r.2.2 then t - r.1 else 0)
/-- the value from the row r on, rs behind it -/
def val (r : Rw) : List Rw → Int → Int
  | [], t => at1 r t
  | q :: rs, t => if q.1 > t then at1 r t else val q rs t
def valueAt : List Rw → Int → Int
  | [], _ => 0
  | r :: rs, t => val r rs t
/-- q may follow r -/
structure Fol (r q : Rw) : Prop where
  s : r.1 < q.1
  v : q.1 ≤ q.2.1
  u : at1 r (q.1 - 1) ≤ q.2.1
  l : r.2.2 = false → q.1 - 1 ≤ r.2.1
def Good : Rw → List Rw → Prop
  | r, [] => r.2.2 = true
  | r, q :: rs => Fol r q ∧ Good q rs
/-- right rows -/
def Right : List Rw → Prop
  | [] => False
  | r :: rs => r.1 = 0 ∧ 0 ≤ r.2.1 ∧ Good r rs
/-- a rising map -/
structure Ris (f : Int → Int) : Prop where
  ge : ∀ t, 0 ≤ t → t ≤ f t
  mo : ∀ t, 0 ≤ t → f t ≤ f (t + 1)
theorem Good.first {r : Rw} : ∀ {rs : List Rw}, Good r rs → ∀ q ∈ rs, r.1 < q.1
  | [], _, q, h => by cases h
  | p :: rs, h, q, hq => by
    rcases List.mem_cons.mp hq with rfl | hq
    · exact h.1.s
    · have := h.2.first q hq; have := h.1.s; omega
theorem val_start {r : Rw} {rs : List Rw} (h : Good r rs) : val r rs r.1 = r.2.1 := by
  cases rs with
  | nil => simp [val, at1]
  | cons q rs => have := h.1.s; unfold val; rw [if_pos (by omega)]; simp [at1]
theorem at1_succ (r : Rw) (t : Int) : at1 r (t + 1) = at1 r t + (if r.2.2 then 1 else 0) := by unfold at1; cases r.2.2 <;> simp <;> omega
theorem ris_val : ∀ {r : Rw} {rs : List Rw}, Good r rs → r.1 ≤ r.2.1 → ∀ t, r.1 ≤ t → t ≤ val r rs t ∧ val r rs t ≤ val r rs (t + 1)
  | r, [], h, hv, t, ht => by
    have hg : r.2.2 = true := h
    unfold val at1
    simp only [hg, if_true]; omega
  | r, q :: rs, h, hv, t, ht => by
    have f := h.1
    by_cases h1 : q.1 ≤ t
    · have ih := ris_val h.2 f.v t h1
      have e1 : val r (q :: rs) t = val q rs t := by unfold val; rw [if_neg (by omega)]; cases rs <;> rfl
      have e2 : val r (q :: rs) (t + 1) = val q rs (t + 1) := by unfold val; rw [if_neg (by omega)]; cases rs <;> rfl
      rw [e1, e2]; exact ih
    · have e1 : val r (q :: rs) t = at1 r t := by unfold val; rw [if_pos (by omega)]
      rw [e1]
      by_cases h2 : q.1 = t + 1
      · have e2 : val r (q :: rs) (t + 1) = q.2.1 := by
          unfold val; rw [if_neg (by omega)]
          have := val_start h.2
          rw [h2] at this
          exact this
        rw [e2]
        have hu := f.u
        rw [h2, show t + 1 - 1 = t by omega] at hu
        refine ⟨?_, hu⟩
        unfold at1
        cases hg : r.2.2 with
        | true => simp; omega
        | false => have := f.l hg; simp; omega
      · have e2 : val r (q :: rs) (t + 1) = at1 r (t + 1) := by unfold val; rw [if_pos (by omega)]
        rw [e2, at1_succ]
        refine ⟨?_, by split <;> omega⟩
        unfold at1
        cases hg : r.2.2 with
        | true => simp; omega
        | false => have := f.l hg; simp; omega
theorem ris_of {rs : List Rw} (h : Right rs) : Ris (valueAt rs) := by
  cases rs with
  | nil => exact h.elim
  | cons r rs =>
    obtain ⟨h0, h1, h2⟩ := h
    exact ⟨fun t ht => (ris_val h2 (by omega) t (by omega)).1, fun t ht => (ris_val h2 (by omega) t (by omega)).2⟩
theorem Ris.le {f : Int → Int} (h : Ris f) {s t : Int} (h0 : 0 ≤ s) (hst : s ≤ t) : f s ≤ f t := by
  obtain ⟨n, rfl⟩ : ∃ n : Nat, t = s + n := ⟨(t - s).toNat, by omega⟩
  clear hst
  induction n with
  | zero => simp
  | succ n ih => have := h.mo (s + n) (by omega); have e : s + ((n + 1 : Nat) : Int) = s + n + 1 := by omega
                 rw [e]; omega
/-! ### runs of steps -/
/-- from each of l's minutes on, to the next one's, d has the told value -/
def Runs (d : Int → Int) : List (Int × Int) → Prop
  | [] => False
  | [x] => x.2 = 1 ∧ ∀ t, x.1 ≤ t → d t = x.2
  | x :: y :: r => x.1 < y.1 ∧ (∀ t, x.1 ≤ t → t < y.1 → d t = x.2) ∧ Runs d (y :: r)
def Dist : List (Int × Int) → Prop
  | x :: y :: r => x.2 ≠ y.2 ∧ Dist (y :: r)
  | _ => True
theorem runs_uniq {d : Int → Int} : ∀ {l l' : List (Int × Int)}, Runs d l → Runs d l' → Dist l → Dist l' → (l.head?.map (·.1) = l'.head?.map (·.1)) → l = l'
  | [], _, h, _, _, _, _ => h.elim
  | _ :: _, [], _, h, _, _, _ => h.elim
  | [x], [y], h, h', _, _, e => by
    simp at e
    have a := h.2 x.1 (by omega)
    have b := h'.2 y.1 (by omega)
    rw [e] at a
    have : x.2 = y.2 := by rw [← a, ← b]
    exact congrArg (· :: []) (Prod.ext e this)
  | [x], y :: z :: r, h, h', _, D', e => by
    simp at e
    have b := h'.2.1 y.1 (by omega) h'.1
    have a := h.2 y.1 (by omega)
    have c : d z.1 = z.2 := by
      cases r with
      | nil => exact h'.2.2.2 z.1 (by omega)
      | cons w r => exact h'.2.2.2.1 z.1 (by omega) h'.2.2.1
    have := h.2 z.1 (by have := h'.1; omega)
    exact absurd (by rw [← b, a, ← this, c]) D'.1
  | y :: z :: r, [x], h', h, D', _, e => by
    simp at e
    have b := h'.2.1 y.1 (by omega) h'.1
    have a := h.2 y.1 (by omega)
    have c : d z.1 = z.2 := by
      cases r with
      | nil => exact h'.2.2.2 z.1 (by omega)
      | cons w r => exact h'.2.2.2.1 z.1 (by omega) h'.2.2.1
    have := h.2 z.1 (by have := h'.1; omega)
    exact absurd (by rw [← b, a, ← this, c]) D'.1
  | x :: y :: r, x' :: y' :: r', h, h', D, D', e => by
    simp at e
    have a := h.2.1 x.1 (by omega) h.1
    have a' := h'.2.1 x'.1 (by omega) h'.1
    have ex : x = x' := Prod.ext e (by rw [← a, ← a', e])
    subst ex
    have c : d y.1 = y.2 := by
      cases r with
      | nil => exact h.2.2.2 y.1 (by omega)
      | cons w r => exact h.2.2.2.1 y.1 (by omega) h.2.2.1
    have c' : d y'.1 = y'.2 := by
      cases r' with
      | nil => exact h'.2.2.2 y'.1 (by omega)
      | cons w r => exact h'.2.2.2.1 y'.1 (by omega) h'.2.2.1
    have ey : y.1 = y'.1 := by
      rcases Int.lt_trichotomy y.1 y'.1 with q | q | q
      · have := h'.2.1 y.1 (by have := h.1; omega) q
        exact absurd (by rw [← this, c]) D.1
      · exact q
      · have := h.2.1 y'.1 (by have := h'.1; omega) q
        exact absurd (by rw [← this, c']) D'.1
    have ih := runs_uniq h.2.2 h'.2.2 D.2 D'.2 (by simp [ey])
    rw [ih]
/-- a run that does not differ from the one before is left out -/
def dd : Option Int → List (Int × Int) → List (Int × Int)
  | _, [] => []
  | o, x :: r => if o = some x.2 then dd o r else x :: dd (some x.2) r
theorem dd_dist : ∀ {l : List (Int × Int)} {v : Int}, (∀ y, (dd (some v) l).head? = some y → v ≠ y.2) ∧ Dist (dd (some v) l)
  | [], v => ⟨by simp [dd], trivial⟩
  | x :: r, v => by
    unfold dd
    by_cases h : v = x.2
    · rw [if_pos (by rw [h])]
      exact dd_dist
    · rw [if_neg (by simpa using h)]
      refine ⟨by simpa using h, ?_⟩
      obtain ⟨h1, h2⟩ := dd_dist (l := r) (v := x.2)
      cases q : dd (some x.2) r with
      | nil => trivial
      | cons y s => rw [q] at h1 h2; exact ⟨h1 y rfl, h2⟩
theorem dist_dd {l : List (Int × Int)} : Dist (dd none l) := by
  cases l with
  | nil => trivial
  | cons x r =>
    unfold dd
    rw [if_neg (by simp)]
    obtain ⟨h1, h2⟩ := dd_dist (l := r) (v := x.2)
    cases q : dd (some x.2) r with
    | nil => trivial
    | cons y s => rw [q] at h1 h2; exact ⟨h1 y rfl, h2⟩
/-- all the runs x :: l lead on, x' standing for x -/
theorem runs_dd {d : Int → Int} : ∀ {l : List (Int × Int)} {x : Int × Int} {m : Int}, Runs d (x :: l) → m ≤ x.1 → (∀ t, m ≤ t → t < x.1 → d t = x.2) → Runs d ((m, x.2) :: dd (some x.2) l)
  | [], x, m, h, hm, hl => ⟨h.1, fun t ht => by
    by_cases q : x.1 ≤ t
    · exact h.2 t q
    · exact hl t ht (by omega)⟩
  | y :: r, x, m, h, hm, hl => by
    unfold dd
    have hx : ∀ t, m ≤ t → t < y.1 → d t = x.2 := fun t h1 h2 => by
      by_cases q : x.1 ≤ t
      · exact h.2.1 t q h2
      · exact hl t h1 (by omega)
    by_cases e : x.2 = y.2
    · rw [if_pos (by rw [e]), e]
      have := h.1
      have ih := runs_dd (x := y) (m := m) h.2.2 (by omega) (fun t h1 h2 => by rw [hx t h1 h2, e])
      exact ih
    · rw [if_neg (by simpa using e)]
      have ih := runs_dd (x := y) (m := y.1) h.2.2 (by omega) (fun t h1 h2 => by omega)
      have := h.1
      exact ⟨by show m < y.1; omega, hx, ih⟩
/-! ### the runs of rows -/
def runs1 (r q : Rw) : List (Int × Int) :=
  if q.1 - 1 > r.1 then [(r.1, if r.2.2 then 1 else 0), (q.1 - 1, q.2.1 - at1 r (q.1 - 1))] else [(q.1 - 1, q.2.1 - at1 r (q.1 - 1))]
def raw (r : Rw) : List Rw → List (Int × Int)
  | [] => [(r.1, 1)]
  | q :: rs => runs1 r q ++ raw q rs
def steps : List Rw → List (Int × Int)
  | [] => []
  | r :: rs => dd none (raw r rs)
theorem raw_head {r : Rw} {rs : List Rw} (h : Good r rs) : (raw r rs).head?.map (·.1) = some r.1 := by
  cases rs with
  | nil => rfl
  | cons q rs =>
    have := h.1.s
    unfold raw runs1
    by_cases c : q.1 - 1 > r.1
    · rw [if_pos c]; rfl
    · rw [if_neg c]; simp; omega
theorem runs_raw {d : Int → Int} : ∀ {r : Rw} {rs : List Rw}, Good r rs → (∀ t, r.1 ≤ t → d t = val r rs (t + 1) - val r rs t) → Runs d (raw r rs)
  | r, [], h, hd => ⟨rfl, fun t ht => by
    have ht' : r.1 ≤ t := ht
    have hg : r.2.2 = true := h
    rw [hd t ht']
    simp only [val, at1, hg, if_true]
    omega⟩
  | r, q :: rs, h, hd => by
    have f := h.1
    have fs := f.s
    have hq : ∀ t, q.1 ≤ t → val r (q :: rs) t = val q rs t := fun t ht => by
      show (if q.1 > t then at1 r t else val q rs t) = _
      rw [if_neg (by omega)]
    have hr : ∀ t, t < q.1 → val r (q :: rs) t = at1 r t := fun t ht => by
      show (if q.1 > t then at1 r t else val q rs t) = _
      rw [if_pos (by omega)]
    have ih := runs_raw (d := d) h.2 (fun t ht => by rw [hd t (by omega), hq t ht, hq (t + 1) (by omega)])
    have leap : d (q.1 - 1) = q.2.1 - at1 r (q.1 - 1) := by
      rw [hd (q.1 - 1) (by omega), hr (q.1 - 1) (by omega), show q.1 - 1 + 1 = q.1 by omega, hq q.1 (by omega), val_start h.2]
    have flat : ∀ t, r.1 ≤ t → t < q.1 - 1 → d t = if r.2.2 then 1 else 0 := fun t h1 h2 => by
      rw [hd t h1, hr t (by omega), hr (t + 1) (by omega), at1_succ]; omega
    have hd1 := raw_head h.2
    have tail : Runs d ((q.1 - 1, q.2.1 - at1 r (q.1 - 1)) :: raw q rs) := by
      cases e : raw q rs with
      | nil => rw [e] at ih; exact ih.elim
      | cons y s =>
        rw [e] at ih hd1
        have ey : y.1 = q.1 := by simpa using hd1
        refine ⟨by show q.1 - 1 < y.1; omega, fun t h1 h2 => ?_, ih⟩
        have h1' : q.1 - 1 ≤ t := h1
        have : t = q.1 - 1 := by omega
        rw [this, leap]
    show Runs d (runs1 r q ++ raw q rs)
    unfold runs1
    by_cases c : q.1 - 1 > r.1
    · rw [if_pos c]
      exact ⟨c, fun t h1 h2 => flat t h1 h2, tail⟩
    · rw [if_neg c]
      exact tail
def der (f : Int → Int) (t : Int) : Int := f (t + 1) - f t
/-- the steps of right rows -/
structure Steps (f : Int → Int) (l : List (Int × Int)) : Prop where
  runs : Runs (der f) l
  dist : Dist l
  zero : l.head?.map (·.1) = some 0
theorem steps_of {rs : List Rw} (h : Right rs) : Steps (valueAt rs) (steps rs) := by
  cases rs with
  | nil => exact h.elim
  | cons r rs =>
    obtain ⟨h0, h1, h2⟩ := h
    have hr : Runs (der (valueAt (r :: rs))) (raw r rs) := runs_raw h2 fun t ht => rfl
    have hh := raw_head h2
    show Steps _ (dd none (raw r rs))
    cases e : raw r rs with
    | nil => rw [e] at hr; exact hr.elim
    | cons x l =>
      rw [e] at hr hh
      have ex : x.1 = 0 := by have : x.1 = r.1 := by simpa using hh
                              omega
      refine ⟨?_, dist_dd, ?_⟩
      · have : dd none (x :: l) = x :: dd (some x.2) l := if_neg (by simp)
        rw [this]
        exact runs_dd (m := x.1) hr (by omega) (fun t a b => by omega)
      · unfold dd; rw [if_neg (by simp)]; simp [ex]
theorem steps_uniq {f g : Int → Int} {l l' : List (Int × Int)} (h : Steps f l) (h' : Steps g l') (e : ∀ t, 0 ≤ t → f t = g t) : l = l' := by
  have conv : ∀ {l : List (Int × Int)}, (∃ m, l.head?.map (·.1) = some m ∧ 0 ≤ m) → Runs (der g) l → Runs (der f) l := by
    intro l
    induction l with
    | nil => intro _ h; exact h
    | cons x r ih =>
      intro ⟨m, hm, h0⟩ h
      have ex : x.1 = m := by simpa using hm
      cases r with
      | nil => exact ⟨h.1, fun t ht => by rw [← h.2 t ht]; unfold der; rw [e t (by omega), e (t + 1) (by omega)]⟩
      | cons y r =>
        refine ⟨h.1, fun t h1 h2 => ?_, ih ⟨y.1, rfl, by have := h.1; omega⟩ h.2.2⟩
        rw [← h.2.1 t h1 h2]; unfold der; rw [e t (by omega), e (t + 1) (by omega)]
  exact runs_uniq h.runs (conv ⟨0, h'.zero, by omega⟩ h'.runs) h.dist h'.dist (by rw [h.zero, h'.zero])
/-! ### greedy rows -/
def skip (s : Int) : List (Int × Int) → List (Int × Int)
  | x :: y :: r => if y.1 ≤ s then skip s (y :: r) else x :: y :: r
  | l => l
def ende (s : Int) (x y : Int × Int) : Int := if x.2 < 2 then y.1 else s
inductive Gre (f : Int → Int) : Int → List (Int × Int) → List Rw → Prop
  | last (s : Int) (x : Int × Int) : Gre f s [x] [(s, f s, true)]
  | more {s : Int} {x y : Int × Int} {r : List (Int × Int)} {G : List Rw} : Gre f (ende s x y + 1) (skip (ende s x y + 1) (x :: y :: r)) G → Gre f s (x :: y :: r) ((s, f s, decide (x.2 = 1)) :: G)
theorem gre_uniq {f g : Int → Int} {s : Int} {l : List (Int × Int)} {G G' : List Rw} (h : Gre f s l G) (h' : Gre g s l G') (e : ∀ t, 0 ≤ t → f t = g t) (hs : 0 ≤ s) (hl : ∀ x ∈ l, 0 ≤ x.1) : G = G' := by
  induction h generalizing G' with
  | last s x => cases h'; rw [e s hs]
  | @more s x y r G h ih =>
    cases h' with
    | more h' =>
      have sk : ∀ {l : List (Int × Int)} {s : Int}, (∀ x ∈ l, 0 ≤ x.1) → ∀ x ∈ skip s l, 0 ≤ x.1 := by
        intro l s
        induction l with
        | nil => intro hl x hx; exact hl x hx
        | cons a l ih =>
          intro hl x hx
          cases l with
          | nil => exact hl x hx
          | cons b l =>
            unfold skip at hx
            split at hx
            · exact ih (fun z hz => hl z (List.mem_cons_of_mem _ hz)) x hx
            · exact hl x hx
      have := hl y (by simp)
      rw [ih h' (by unfold ende; split <;> omega) (sk hl), e s hs]
/-- l's first run reaches to s -/
def Hit (s : Int) : List (Int × Int) → Prop
  | [] => False
  | [x] => x.1 ≤ s
  | x :: y :: _ => x.1 ≤ s ∧ s < y.1
theorem skip_at {d : Int → Int} {s : Int} : ∀ {l : List (Int × Int)}, Runs d l → (∀ x, l.head? = some x → x.1 ≤ s) → Hit s (skip s l) ∧ Runs d (skip s l)
  | [], h, _ => h.elim
  | [x], h, hx => ⟨hx x rfl, h⟩
  | x :: y :: r, h, hx => by
    unfold skip
    by_cases c : y.1 ≤ s
    · rw [if_pos c]
      exact skip_at h.2.2 (fun z hz => by simp at hz; subst hz; exact c)
    · rw [if_neg c]
      exact ⟨⟨hx x rfl, by omega⟩, h⟩
theorem der_sum {f : Int → Int} {v s t : Int} (h : ∀ u, s ≤ u → u < t → der f u = v) (hst : s ≤ t) : f t = f s + v * (t - s) := by
  obtain ⟨n, rfl⟩ : ∃ n : Nat, t = s + n := ⟨(t - s).toNat, by omega⟩
  clear hst
  induction n with
  | zero => simp
  | succ n ih =>
    have e1 := ih (fun u a b => h u a (by omega))
    have e2 := h (s + n) (by omega) (by omega)
    unfold der at e2
    have e3 : s + ((n + 1 : Nat) : Int) = s + n + 1 := by omega
    rw [e3]
    have e4 : v * (s + n + 1 - s) = v * (s + n - s) + v := by
      have : s + (n : Int) + 1 - s = (s + n - s) + 1 := by omega
      rw [this, Int.mul_add, Int.mul_one]
    omega
theorem gre_val {f : Int → Int} (R : Ris f) {s : Int} {l : List (Int × Int)} {G : List Rw} (h : Gre f s l G) : Runs (der f) l → Hit s l → 0 ≤ s → ∃ r rs, G = r :: rs ∧ r.1 = s ∧ r.2.1 = f s ∧ Good r rs ∧ ∀ t, s ≤ t → val r rs t = f t := by
  induction h with
  | last s x =>
    intro hr ha h0
    refine ⟨_, _, rfl, rfl, rfl, rfl, fun t ht => ?_⟩
    have ha' : x.1 ≤ s := ha
    have := der_sum (f := f) (v := 1) (s := s) (t := t) (fun u a b => by rw [hr.2 u (by omega), hr.1]) ht
    show f s + (if true = true then t - s else 0) = f t
    simp; omega
  | @more s x y r G h ih =>
    intro hr ha h0
    obtain ⟨ha1, ha2⟩ := ha
    have hes : s ≤ ende s x y := by unfold ende; split <;> omega
    have hey : ende s x y ≤ y.1 := by unfold ende; split <;> omega
    obtain ⟨sa, sr⟩ := skip_at (s := ende s x y + 1) hr (fun z hz => by simp at hz; subst hz; omega)
    obtain ⟨q, rs, rfl, e1, e2, hg, hv⟩ := ih sr sa (by omega)
    have dx : 0 ≤ x.2 := by
      have := hr.2.1 s ha1 ha2
      have := R.mo s h0
      unfold der at *
      omega
    have inner : ∀ t, s ≤ t → t ≤ ende s x y → at1 (s, f s, decide (x.2 = 1)) t = f t := fun t h1 h2 => by
      show f s + (if decide (x.2 = 1) = true then t - s else 0) = f t
      by_cases c : x.2 < 2
      · have he : ende s x y = y.1 := if_pos c
        have := der_sum (f := f) (v := x.2) (s := s) (t := t) (fun u a b => hr.2.1 u (by omega) (by omega)) h1
        have hx : x.2 = 0 ∨ x.2 = 1 := by omega
        rcases hx with hx | hx
        · simp [hx] at this ⊢; omega
        · simp [hx] at this ⊢; omega
      · have he : ende s x y = s := if_neg c
        have : t = s := by omega
        subst this
        simp
    refine ⟨_, _, rfl, rfl, rfl, ⟨⟨?_, ?_, ?_, fun hf => ?_⟩, hg⟩, fun t ht => ?_⟩
    · show s < q.1; omega
    · rw [e2, e1]; exact R.ge _ (by omega)
    · rw [e1, show ende s x y + 1 - 1 = ende s x y by omega, inner _ hes (Int.le_refl _), e2]; exact R.mo _ (by omega)
    · show q.1 - 1 ≤ f s
      have i := inner _ hes (Int.le_refl _)
      have hf' : decide (x.2 = 1) = false := hf
      unfold at1 at i
      simp only [hf'] at i
      have := R.ge (ende s x y) (by omega)
      simp at i
      omega
    · show (if q.1 > t then at1 _ t else val q rs t) = f t
      by_cases c : q.1 > t
      · rw [if_pos c]; exact inner t ht (by omega)
      · rw [if_neg c]; exact hv t (by omega)
/-- G are the rows that depend on the values f alone -/
def Canon (f : Int → Int) (G : List Rw) : Prop := ∃ l, Steps f l ∧ Gre f 0 l G
theorem Steps.at0 {f : Int → Int} {l : List (Int × Int)} (h : Steps f l) : Hit 0 l := by
  have r := h.runs
  have z := h.zero
  match l with
  | [] => exact r.elim
  | [x] => have : x.1 = 0 := by simpa using z
           show x.1 ≤ 0; omega
  | x :: y :: s => have : x.1 = 0 := by simpa using z
                   have := r.1
                   exact ⟨by omega, by omega⟩
theorem Canon.right {f : Int → Int} {G : List Rw} (R : Ris f) (h : Canon f G) : Right G ∧ ∀ t, 0 ≤ t → valueAt G t = f t := by
  obtain ⟨l, hs, hg⟩ := h
  obtain ⟨r, rs, rfl, e1, e2, g, v⟩ := gre_val R hg hs.runs hs.at0 (Int.le_refl _)
  exact ⟨⟨e1, by rw [e2]; exact R.ge 0 (Int.le_refl _), g⟩, v⟩
theorem runs_pos {d : Int → Int} : ∀ {l : List (Int × Int)}, Runs d l → ∀ m, l.head?.map (·.1) = some m → ∀ x ∈ l, m ≤ x.1
  | [], h, _, _ => h.elim
  | [x], h, m, hm => fun z hz => by simp at hz hm; subst hz; omega
  | x :: y :: r, h, m, hm => fun z hz => by
    have hx : x.1 = m := by simpa using hm
    rcases List.mem_cons.mp hz with rfl | hz
    · omega
    · have := runs_pos h.2.2 y.1 rfl z hz
      have := h.1
      omega
theorem Canon.uniq {f g : Int → Int} {G G' : List Rw} (h : Canon f G) (h' : Canon g G') (e : ∀ t, 0 ≤ t → f t = g t) : G = G' := by
  obtain ⟨l, hs, hg⟩ := h
  obtain ⟨l', hs', hg'⟩ := h'
  obtain rfl := steps_uniq hs hs' e
  exact gre_uniq hg hg' e (Int.le_refl _) (runs_pos hs.runs 0 hs.zero)
/-- equal rows, equal values -/
theorem Canon.same {f g : Int → Int} {G : List Rw} (R : Ris f) (R' : Ris g) (h : Canon f G) (h' : Canon g G) (t : Int) (ht : 0 ≤ t) : f t = g t := by
  rw [← (h.right R).2 t ht, ← (h'.right R').2 t ht]
end RM

/-! RM, part b: drawn values, rows that give them, level stretches. -/
namespace RM
/-- values that a rising map may have at its first minutes -/
structure VOk (vs : List Int) : Prop where
  ne : vs ≠ []
  ge : ∀ (i : Nat) (v : Int), vs[i]? = some v → (i : Int) ≤ v
  mo : ∀ (i : Nat) (v w : Int), vs[i]? = some v → vs[i + 1]? = some w → v ≤ w
/-- the value at a minute, then one more a minute -/
def valF (vs : List Int) (t : Int) : Int := if t < vs.length then vs.getD t.toNat 0 else vs.getLastD 0 + t - vs.length + 1
theorem valF_in {vs : List Int} {i : Nat} {v : Int} (h : vs[i]? = some v) : valF vs i = v := by
  obtain ⟨hi, e⟩ := List.getElem?_eq_some_iff.mp h
  unfold valF
  rw [if_pos (by omega)]
  simp [List.getD, hi, e]
theorem valF_out {vs : List Int} (h : vs ≠ []) {t : Int} (ht : (vs.length : Int) ≤ t + 1) : valF vs t = vs.getLastD 0 + t - vs.length + 1 := by
  unfold valF
  have hp := List.length_pos_iff.mpr h
  by_cases c : t < vs.length
  · rw [if_pos c]
    have e : t.toNat = vs.length - 1 := by omega
    have e2 : vs.getD t.toNat 0 = vs.getLastD 0 := by
      rw [e, List.getLastD_eq_getLast?, List.getLast?_eq_getElem?]
      simp [List.getD]
    rw [e2]; omega
  · rw [if_neg c]
theorem VOk.ris {vs : List Int} (h : VOk vs) : Ris (valF vs) := by
  have hp := List.length_pos_iff.mpr h.ne
  have last : vs[vs.length - 1]? = some (vs.getLastD 0) := by
    rw [List.getLastD_eq_getLast?, List.getLast?_eq_getElem?]
    simp [List.getElem?_eq_getElem (show vs.length - 1 < vs.length by omega)]
  have hl := h.ge _ _ last
  refine ⟨fun t ht => ?_, fun t ht => ?_⟩
  · by_cases c : t < vs.length
    · have e : vs[t.toNat]? = some (vs[t.toNat]'(by omega)) := by simp
      have := valF_in e
      rw [show ((t.toNat : Nat) : Int) = t by omega] at this
      rw [this]
      have := h.ge _ _ e
      omega
    · rw [valF_out h.ne (by omega)]; omega
  · by_cases c : t + 1 < vs.length
    · have e : vs[t.toNat]? = some (vs[t.toNat]'(by omega)) := by simp
      have e2 : vs[t.toNat + 1]? = some (vs[t.toNat + 1]'(by omega)) := by simp
      have a := valF_in e
      have b := valF_in e2
      rw [show ((t.toNat : Nat) : Int) = t by omega] at a
      rw [show ((t.toNat + 1 : Nat) : Int) = t + 1 by omega] at b
      rw [a, b]
      exact h.mo _ _ _ e e2
    · rw [valF_out h.ne (show (vs.length : Int) ≤ t + 1 by omega), valF_out h.ne (show (vs.length : Int) ≤ t + 1 + 1 by omega)]; omega
structure VPre (vs : List Int) : Prop where
  ge : ∀ (i : Nat) (v : Int), vs[i]? = some v → (i : Int) ≤ v
  mo : ∀ (i : Nat) (v w : Int), vs[i]? = some v → vs[i + 1]? = some w → v ≤ w
theorem vpre_nil : VPre [] := ⟨fun i v h => by simp at h, fun i v w h => by simp at h⟩
theorem vpre_snoc {vs : List Int} {w : Int} (h : VPre vs) (hl : ∀ v, vs.getLast? = some v → v ≤ w) (hk : (vs.length : Int) ≤ w) : VPre (vs ++ [w]) := by
  refine ⟨fun i v e => ?_, fun i v u e1 e2 => ?_⟩
  · rw [List.getElem?_append] at e
    split at e
    · exact h.ge i v e
    · rename_i c
      have hi : i - vs.length = 0 := by
        rcases Nat.eq_zero_or_pos (i - vs.length) with z | z
        · exact z
        · rw [List.getElem?_eq_none (by simp; omega)] at e; cases e
      rw [hi] at e
      simp at e
      omega
  · rw [List.getElem?_append] at e1 e2
    split at e2
    · rename_i c
      rw [if_pos (by omega)] at e1
      exact h.mo i v u e1 e2
    · rename_i c
      have hi : i + 1 - vs.length = 0 := by
        rcases Nat.eq_zero_or_pos (i + 1 - vs.length) with z | z
        · exact z
        · rw [List.getElem?_eq_none (by simp; omega)] at e2; cases e2
      rw [hi] at e2
      simp at e2
      subst e2
      split at e1
      · apply hl
        rw [List.getLast?_eq_getElem?, show vs.length - 1 = i by omega]
        exact e1
      · omega
theorem vpre_ok {vs : List Int} (h : VPre vs) (n : vs ≠ []) : VOk vs := ⟨n, h.ge, h.mo⟩
/-! ### rows, one behind the other -/
def Ch : Rw → List Rw → Prop
  | _, [] => True
  | r, q :: rs => Fol r q ∧ Ch q rs
def lastR : Rw → List Rw → Rw
  | r, [] => r
  | _, q :: rs => lastR q rs
theorem last_split : ∀ (r : Rw) (rs : List Rw), ∃ i, r :: rs = i ++ [lastR r rs]
  | r, [] => ⟨[], rfl⟩
  | r, q :: rs => by
    obtain ⟨i, e⟩ := last_split q rs
    exact ⟨r :: i, congrArg (List.cons r) e⟩
theorem ch_snoc : ∀ {r : Rw} {rs : List Rw} {q : Rw}, Ch r rs → Fol (lastR r rs) q → Ch r (rs ++ [q])
  | r, [], q, _, h => ⟨h, trivial⟩
  | r, p :: rs, q, h, h' => ⟨h.1, ch_snoc h.2 h'⟩
theorem last_snoc : ∀ {r : Rw} {rs : List Rw} {q : Rw}, lastR r (rs ++ [q]) = q
  | r, [], q => rfl
  | r, p :: rs, q => last_snoc (r := p) (rs := rs)
theorem good_snoc : ∀ {r : Rw} {rs : List Rw} {q : Rw}, Ch r rs → Fol (lastR r rs) q → q.2.2 = true → Good r (rs ++ [q])
  | r, [], q, _, h, g => ⟨h, g⟩
  | r, p :: rs, q, h, h', g => ⟨h.1, good_snoc h.2 h' g⟩
theorem ch_le : ∀ {r : Rw} {rs : List Rw}, Ch r rs → r.1 ≤ (lastR r rs).1
  | r, [], _ => Int.le_refl _
  | r, q :: rs, h => by have := ch_le h.2; have := h.1.s; show r.1 ≤ (lastR q rs).1; omega
theorem val_last : ∀ {r : Rw} {rs : List Rw} {t : Int}, Ch r rs → (lastR r rs).1 ≤ t → val r rs t = at1 (lastR r rs) t
  | r, [], t, _, _ => rfl
  | r, q :: rs, t, h, ht => by
    have ht' : (lastR q rs).1 ≤ t := ht
    have := ch_le h.2
    show (if q.1 > t then at1 r t else val q rs t) = at1 (lastR q rs) t
    rw [if_neg (by omega)]
    exact val_last h.2 ht'
theorem val_snoc : ∀ {r : Rw} {rs : List Rw} {q : Rw} {t : Int}, Ch r rs → Fol (lastR r rs) q → t < q.1 → val r (rs ++ [q]) t = val r rs t
  | r, [], q, t, _, _, ht => by show (if q.1 > t then at1 r t else at1 q t) = at1 r t; rw [if_pos ht]
  | r, p :: rs, q, t, h, h', ht => by
    show (if p.1 > t then at1 r t else val p (rs ++ [q]) t) = (if p.1 > t then at1 r t else val p rs t)
    rw [val_snoc h.2 h' ht]
/-- rs gives the values up to the minute k -/
structure Part (vs : List Int) (k : Nat) (r : Rw) (rs : List Rw) : Prop where
  z : r.1 = 0
  p : 0 ≤ r.2.1
  ch : Ch r rs
  v : ∀ t : Nat, t < k → val r rs t = valF vs t
  l : (lastR r rs).1 < k
theorem Part.last {vs : List Int} {k : Nat} {r : Rw} {rs : List Rw} (h : Part vs k r rs) (hk : 0 < k) : at1 (lastR r rs) ((k : Int) - 1) = valF vs ((k : Int) - 1) := by
  have l := h.l
  rw [← val_last h.ch (by omega)]
  have := h.v (k - 1) (by omega)
  rw [show (((k - 1 : Nat)) : Int) = (k : Int) - 1 by omega] at this
  exact this
theorem Part.fol {vs : List Int} (V : VOk vs) {k : Nat} {r : Rw} {rs : List Rw} (h : Part vs k r rs) (hk : 0 < k) (g : Bool) : Fol (lastR r rs) ((k : Int), valF vs k, g) := by
  have R := V.ris
  have e := h.last hk
  have l := h.l
  refine ⟨l, R.ge _ (by omega), ?_, fun hf => ?_⟩
  · show at1 (lastR r rs) ((k : Int) - 1) ≤ valF vs k
    rw [e]
    have := R.mo ((k : Int) - 1) (by omega)
    rw [show (k : Int) - 1 + 1 = k by omega] at this
    exact this
  · show (k : Int) - 1 ≤ (lastR r rs).2.1
    unfold at1 at e
    rw [hf] at e
    have := R.ge ((k : Int) - 1) (by omega)
    simp at e
    omega
theorem Part.add {vs : List Int} (V : VOk vs) {k : Nat} {r : Rw} {rs : List Rw} (h : Part vs k r rs) (hk : 0 < k) (g : Bool) : Part vs (k + 1) r (rs ++ [((k : Int), valF vs k, g)]) := by
  have f := h.fol V hk g
  have c := ch_snoc h.ch f
  refine ⟨h.z, h.p, c, fun t ht => ?_, by rw [last_snoc]; show (k : Int) < ((k + 1 : Nat) : Int); omega⟩
  by_cases q : t < k
  · rw [val_snoc h.ch f (by show (t : Int) < k; omega)]
    exact h.v t q
  · have e : t = k := by omega
    subst e
    rw [val_last c (by rw [last_snoc]; exact Int.le_refl _), last_snoc]
    simp [at1]
theorem Part.on {vs : List Int} {k : Nat} {r : Rw} {rs : List Rw} (h : Part vs k r rs) (e : at1 (lastR r rs) k = valF vs k) : Part vs (k + 1) r rs := by
  have l := h.l
  refine ⟨h.z, h.p, h.ch, fun t ht => ?_, by omega⟩
  by_cases q : t < k
  · exact h.v t q
  · have e' : t = k := by omega
    subst e'
    rw [val_last h.ch (by omega), e]
theorem Part.one {vs : List Int} (V : VOk vs) (g : Bool) : Part vs 1 (0, valF vs 0, g) [] := by
  refine ⟨rfl, V.ris.ge 0 (by omega), trivial, fun t ht => ?_, by show (0 : Int) < ((1 : Nat) : Int); omega⟩
  have : t = 0 := by omega
  subst this
  simp [val, at1]
/-- right rows with the values -/
structure RowsOf (vs : List Int) (rs : List Rw) : Prop where
  right : Right rs
  val : ∀ t, 0 ≤ t → valueAt rs t = valF vs t
  bd : ∀ r ∈ rs, r.1 < vs.length
theorem last_lt {vs : List Int} {B : Int} : ∀ {r : Rw} {rs : List Rw}, Ch r rs → (lastR r rs).1 < B → ∀ q ∈ r :: rs, q.1 < B
  | r, [], _, h, q, hq => by have : q = r := by simpa using hq
                             subst this; exact h
  | r, p :: rs, h, hl, q, hq => by
    have ih := last_lt (vs := vs) h.2 hl
    rcases List.mem_cons.mp hq with rfl | hq
    · have := ih p (by simp); have := h.1.s; omega
    · exact ih q hq
theorem rows_one {vs : List Int} (V : VOk vs) (hl : vs.length = 1) : RowsOf vs [(0, valF vs 0, true)] := by
  refine ⟨⟨rfl, V.ris.ge 0 (by omega), rfl⟩, fun t ht => ?_, fun r hr => by have : r = (0, valF vs 0, true) := by simpa using hr
                                                                            subst this; show (0 : Int) < vs.length; omega⟩
  show at1 (0, valF vs 0, true) t = valF vs t
  rw [valF_out V.ne (show (vs.length : Int) ≤ 0 + 1 by omega), valF_out V.ne (show (vs.length : Int) ≤ t + 1 by omega)]
  simp [at1]; omega
theorem rows_end {vs : List Int} (V : VOk vs) {k : Nat} {r : Rw} {rs : List Rw} (h : Part vs k r rs) (hk : 0 < k) (hl : vs.length = k + 1) : RowsOf vs (r :: rs ++ [((k : Int), valF vs k, true)]) := by
  have f := h.fol V hk true
  have c := ch_snoc h.ch f
  refine ⟨⟨h.z, h.p, good_snoc h.ch f rfl⟩, fun t ht => ?_, ?_⟩
  · show val r (rs ++ [((k : Int), valF vs k, true)]) t = valF vs t
    by_cases q : t < k
    · rw [val_snoc h.ch f q]
      have := h.v t.toNat (by omega)
      rw [show ((t.toNat : Nat) : Int) = t by omega] at this
      exact this
    · rw [val_last c (by rw [last_snoc]; show (k : Int) ≤ t; omega), last_snoc, valF_out V.ne (show (vs.length : Int) ≤ t + 1 by omega)]
      show valF vs k + (if true = true then t - (k : Int) else 0) = _
      rw [valF_out V.ne (show (vs.length : Int) ≤ (k : Int) + 1 by omega)]
      simp; omega
  · have hh := last_lt (vs := vs) (B := vs.length) c (by rw [last_snoc]; show (k : Int) < vs.length; omega)
    exact hh
/-! ### level stretches -/
def levs (n : Int) : List (Int × Int) → List (Int × Int)
  | x :: y :: r => if x.2 = 0 ∧ n ≤ y.1 - x.1 + 1 then (x.1, y.1) :: levs n (y :: r) else levs n (y :: r)
  | _ => []
/-- the stretches, minute by minute -/
def dueF (f : Int → Int) (n : Int) : Int → Int → Nat → List (Int × Int)
  | _, _, 0 => []
  | s, k, j + 1 => if f (k + 1) = f k then dueF f n s (k + 1) j else (if n ≤ k - s + 1 then [(s, k)] else []) ++ dueF f n (k + 1) (k + 1) j
theorem due_len (f : Int → Int) (n : Int) : ∀ (j : Nat) (s k : Int), (dueF f n s k j).length ≤ j
  | 0, _, _ => by simp [dueF]
  | j + 1, s, k => by
    have h1 := due_len f n j s (k + 1)
    have h2 := due_len f n j (k + 1) (k + 1)
    unfold dueF
    split
    · omega
    · split <;> simp <;> omega
def lastM : List (Int × Int) → Int
  | [] => 0
  | [x] => x.1
  | _ :: y :: r => lastM (y :: r)
theorem due_levs {f : Int → Int} {n : Int} (hn : 2 ≤ n) : ∀ (j : Nat) (x : Int × Int) (r : List (Int × Int)) (k : Int), Runs (der f) (x :: r) → Dist (x :: r) → Hit k (x :: r) → lastM (x :: r) < k + j →
    (x.2 = 0 → dueF f n x.1 k j = levs n (x :: r)) ∧ (x.2 ≠ 0 → ∀ s, s ≤ k → (s = k ∨ k = x.1) → dueF f n s k j = (if n ≤ k - s + 1 then [(s, k)] else []) ++ levs n (x :: r))
  | 0, x, [], k, hr, hd, hh, hm => by
    have hh' : x.1 ≤ k := hh
    have hm' : x.1 < k + 0 := by simpa [lastM] using hm
    refine ⟨fun e => by have := hr.1; omega, fun e s h1 h2 => ?_⟩
    have : s = k := by omega
    subst this
    rw [if_neg (by omega)]; rfl
  | 0, x, y :: r, k, hr, hd, hh, hm => by
    have lm : ∀ (l : List (Int × Int)) (y : Int × Int), Runs (der f) (y :: l) → y.1 ≤ lastM (y :: l) := by
      intro l
      induction l with
      | nil => intro y _; exact Int.le_refl _
      | cons z l ih => intro y h; have := ih z h.2.2; have := h.1; show y.1 ≤ lastM (z :: l); omega
    have := lm r y hr.2.2
    have e : lastM (x :: y :: r) = lastM (y :: r) := rfl
    have := hh.2
    rw [e] at hm
    simp at hm
    omega
  | j + 1, x, [], k, hr, hd, hh, hm => by
    have hh' : x.1 ≤ k := hh
    refine ⟨fun e => by have := hr.1; omega, fun e s h1 h2 => ?_⟩
    have d := hr.2 k hh'
    have hx := hr.1
    unfold der at d
    unfold dueF
    rw [if_neg (by omega)]
    have em : lastM [x] = x.1 := rfl
    have ih := (due_levs hn j x [] (k + 1) hr hd (show x.1 ≤ k + 1 by omega) (by rw [em]; omega)).2 e (k + 1) (Int.le_refl _) (.inl rfl)
    rw [ih, if_neg (show ¬ n ≤ k + 1 - (k + 1) + 1 by omega)]
    rfl
  | j + 1, x, y :: r, k, hr, hd, hh, hm => by
    have d := hr.2.1 k hh.1 hh.2
    have hy := hr.1
    have em : lastM (x :: y :: r) = lastM (y :: r) := rfl
    have hit : k + 1 = y.1 → Hit (k + 1) (y :: r) := fun e => by
      cases r with
      | nil => show y.1 ≤ k + 1; omega
      | cons z r => exact ⟨by omega, by have := hr.2.2.1; omega⟩
    unfold der at d
    refine ⟨fun e => ?_, fun e s h1 h2 => ?_⟩
    · unfold dueF
      rw [if_pos (by omega)]
      by_cases c : k + 1 < y.1
      · exact (due_levs hn j x (y :: r) (k + 1) hr hd ⟨by have := hh.1; omega, c⟩ (by omega)).1 e
      · have ek : k + 1 = y.1 := by have := hh.2; omega
        have ny : y.2 ≠ 0 := fun z => hd.1 (by rw [e, z])
        rw [(due_levs hn j y r (k + 1) hr.2.2 hd.2 (hit ek) (by rw [← em]; omega)).2 ny x.1 (by omega) (.inr ek), ek]
        show _ = if x.2 = 0 ∧ n ≤ y.1 - x.1 + 1 then (x.1, y.1) :: levs n (y :: r) else levs n (y :: r)
        by_cases q : n ≤ y.1 - x.1 + 1
        · rw [if_pos q, if_pos ⟨e, q⟩]; rfl
        · rw [if_neg q, if_neg (fun z => q z.2)]; rfl
    · unfold dueF
      rw [if_neg (by omega)]
      congr 1
      have el : levs n (x :: y :: r) = levs n (y :: r) := by
        show (if x.2 = 0 ∧ n ≤ y.1 - x.1 + 1 then (x.1, y.1) :: levs n (y :: r) else levs n (y :: r)) = _
        rw [if_neg (fun z => e z.1)]
      by_cases c : k + 1 < y.1
      · rw [(due_levs hn j x (y :: r) (k + 1) hr hd ⟨by have := hh.1; omega, c⟩ (by omega)).2 e (k + 1) (Int.le_refl _) (.inl rfl), if_neg (by omega)]
        rfl
      · have ek : k + 1 = y.1 := by have := hh.2; omega
        rw [el]
        by_cases z : y.2 = 0
        · have := (due_levs hn j y r (k + 1) hr.2.2 hd.2 (hit ek) (by rw [← em]; omega)).1 z
          rw [← ek] at this
          exact this
        · rw [(due_levs hn j y r (k + 1) hr.2.2 hd.2 (hit ek) (by rw [← em]; omega)).2 z (k + 1) (Int.le_refl _) (.inl rfl), if_neg (by omega)]
          rfl
theorem due_all {f g : Int → Int} {n : Int} (hn : 2 ≤ n) {l : List (Int × Int)} (h : Steps f l) (e : ∀ t, 0 ≤ t → f t = g t) {j : Nat} (hm : lastM l < j) : dueF g n 0 0 j = levs n l := by
  have conv : ∀ (j : Nat) (s k : Int), 0 ≤ k → dueF g n s k j = dueF f n s k j := by
    intro j
    induction j with
    | zero => intro s k _; rfl
    | succ j ih =>
      intro s k hk
      unfold dueF
      rw [e k hk, e (k + 1) (by omega), ih s (k + 1) (by omega), ih (k + 1) (k + 1) (by omega)]
  rw [conv j 0 0 (by omega)]
  have r := h.runs
  have d := h.dist
  have z := h.zero
  have a := h.at0
  cases l with
  | nil => exact r.elim
  | cons x l =>
    have ex : x.1 = 0 := by simpa using z
    obtain ⟨h1, h2⟩ := due_levs hn j x l 0 r d a (by omega)
    by_cases q : x.2 = 0
    · have := h1 q; rw [ex] at this; exact this
    · rw [h2 q 0 (by omega) (.inl rfl), if_neg (by omega)]; rfl
/-- where the values rise by one for ever, no step begins -/
theorem last_run {f : Int → Int} {B : Int} (hB : ∀ t, B ≤ t → f (t + 1) = f t + 1) (h0 : 0 ≤ B) : ∀ {l : List (Int × Int)}, Runs (der f) l → Dist l → (∀ x, l.head? = some x → x.1 ≤ B) → lastM l ≤ B
  | [], h, _, _ => h.elim
  | [x], _, _, hx => hx x rfl
  | x :: y :: r, h, d, hx => by
    have : lastM (x :: y :: r) = lastM (y :: r) := rfl
    rw [this]
    refine last_run hB h0 (l := y :: r) h.2.2 d.2 fun z hz => ?_
    have ez : y = z := by simpa using hz
    subst ez
    rcases Int.lt_or_le B y.1 with c | c
    · exfalso
      have dy : der f y.1 = y.2 := by
        cases r with
        | nil => exact h.2.2.2 y.1 (by omega)
        | cons w r => exact h.2.2.2.1 y.1 (by omega) h.2.2.1
      have dx := h.2.1 (y.1 - 1) (by have := h.1; omega) (by omega)
      unfold der at dx dy
      have b1 := hB y.1 (by omega)
      have b2 := hB (y.1 - 1) (by omega)
      exact d.1 (by omega)
    · exact c
theorem hit_last {d : Int → Int} : ∀ {l : List (Int × Int)} {x : Int × Int}, Runs d (x :: l) → x.1 ≤ lastM (x :: l)
  | [], x, _ => Int.le_refl _
  | y :: l, x, h => by have := hit_last h.2.2; have := h.1; show x.1 ≤ lastM (y :: l); omega
theorem lastM_skip {s : Int} : ∀ {l : List (Int × Int)}, lastM (skip s l) = lastM l
  | [] => rfl
  | [x] => rfl
  | x :: y :: r => by
    unfold skip
    split
    · exact lastM_skip (l := y :: r)
    · rfl
theorem gre_bd {f d : Int → Int} {s : Int} {l : List (Int × Int)} {G : List Rw} (h : Gre f s l G) : Runs d l → Hit s l → s ≤ lastM l + 1 → ∀ r ∈ G, r.1 ≤ lastM l + 1 := by
  induction h with
  | last s x => intro _ _ hs r hr; have : r = (s, f s, true) := by simpa using hr
                subst this; exact hs
  | @more s x y r G h ih =>
    intro hr ha hs q hq
    rcases List.mem_cons.mp hq with rfl | hq
    · exact hs
    · have hey : ende s x y ≤ y.1 := by unfold ende; split <;> have := ha.2 <;> omega
      have hes : s ≤ ende s x y := by unfold ende; split <;> have := ha.2 <;> omega
      obtain ⟨sa, sr⟩ := skip_at (s := ende s x y + 1) hr (fun z hz => by simp at hz; subst hz; have := ha.1; omega)
      have hy : y.1 ≤ lastM (x :: y :: r) := hit_last hr.2.2
      have := ih sr sa (by rw [lastM_skip]; omega) q hq
      rw [lastM_skip] at this
      exact this
theorem canon_bd {f : Int → Int} {G : List Rw} (h : Canon f G) {B : Int} (hB : ∀ t, B ≤ t → f (t + 1) = f t + 1) (h0 : 0 ≤ B) : ∀ r ∈ G, r.1 ≤ B + 1 := by
  obtain ⟨l, hs, hg⟩ := h
  have hl : lastM l ≤ B := last_run hB h0 hs.runs hs.dist (fun x hx => by
    have z := hs.zero
    rw [hx] at z
    have : x.1 = 0 := by simpa using z
    omega)
  have h0l : 0 ≤ lastM l := by
    have z := hs.zero
    have r := hs.runs
    cases l with
    | nil => exact r.elim
    | cons x l => have := hit_last r; have : x.1 = 0 := by simpa using z
                  omega
  intro r hr
  have := gre_bd hg hs.runs hs.at0 (by omega) r hr
  omega
theorem valF_up {vs : List Int} (h : vs ≠ []) (t : Int) (ht : (vs.length : Int) - 1 ≤ t) : valF vs (t + 1) = valF vs t + 1 := by
  rw [valF_out h (by omega), valF_out h (by omega)]; omega
/-- the rows of drawn values -/
theorem RowsOf.canon {vs : List Int} {rs G : List Rw} (V : VOk vs) (h : RowsOf vs rs) (c : Canon (valueAt rs) G) : Right G ∧ (∀ t, 0 ≤ t → valueAt G t = valF vs t) ∧ ∀ r ∈ G, r.1 ≤ vs.length := by
  obtain ⟨r, v⟩ := c.right (ris_of h.right)
  have hp := List.length_pos_iff.mpr V.ne
  refine ⟨r, fun t ht => by rw [v t ht, h.val t ht], fun q hq => ?_⟩
  have := canon_bd c (B := (vs.length : Int) - 1) (fun t ht => by rw [h.val t (by omega), h.val (t + 1) (by omega), valF_up V.ne t ht]) (by omega) q hq
  omega
end RM

/-! RM, part c: rows made by cutting, greatest and least, put together, back. -/
namespace RM
/-- rows that tell f from s on -/
inductive Cut (f : Int → Int) : Int → List Rw → Prop
  | last {s : Int} (h : ∀ t, s ≤ t → f t = f s + (t - s)) : Cut f s [(s, f s, true)]
  | more {s e : Int} {g : Bool} {rs : List Rw} (l : s < e) (h : ∀ t, s ≤ t → t < e → f t = at1 (s, f s, g) t) (c : Cut f e rs) : Cut f s ((s, f s, g) :: rs)
theorem Cut.good {f : Int → Int} (R : Ris f) {s : Int} {rs : List Rw} (h : Cut f s rs) : 0 ≤ s → ∃ r tl, rs = r :: tl ∧ r.1 = s ∧ r.2.1 = f s ∧ Good r tl ∧ ∀ t, s ≤ t → val r tl t = f t := by
  induction h with
  | @last s h =>
    intro h0
    refine ⟨_, _, rfl, rfl, rfl, rfl, fun t ht => ?_⟩
    rw [h t ht]
    simp [val, at1]
  | @more s e g rs l h c ih =>
    intro h0
    obtain ⟨q, tl, rfl, e1, e2, hg, hv⟩ := ih (by omega)
    refine ⟨_, _, rfl, rfl, rfl, ⟨⟨?_, ?_, ?_, fun hf => ?_⟩, hg⟩, fun t ht => ?_⟩
    · show s < q.1; omega
    · rw [e2, e1]; exact R.ge _ (by omega)
    · rw [e1, e2, ← h (e - 1) (by omega) (by omega)]
      have := R.mo (e - 1) (by omega)
      rw [show e - 1 + 1 = e by omega] at this
      exact this
    · show q.1 - 1 ≤ f s
      have hf' : g = false := hf
      have i := h (e - 1) (by omega) (by omega)
      have := R.ge (e - 1) (by omega)
      rw [hf'] at i
      simp [at1] at i
      omega
    · show (if q.1 > t then at1 _ t else val q tl t) = f t
      by_cases c' : q.1 > t
      · rw [if_pos c']; exact (h t ht (by omega)).symm
      · rw [if_neg c']; exact hv t (by omega)
theorem Cut.right {f : Int → Int} (R : Ris f) {rs : List Rw} (h : Cut f 0 rs) : Right rs ∧ ∀ t, 0 ≤ t → valueAt rs t = f t := by
  obtain ⟨r, tl, rfl, e1, e2, g, v⟩ := h.good R (Int.le_refl _)
  exact ⟨⟨e1, by rw [e2]; exact R.ge 0 (Int.le_refl _), g⟩, v⟩
/-! ### the rows with their ends -/
def covs : List Rw → List (Rw × Option Int)
  | [] => []
  | [r] => [(r, none)]
  | r :: q :: rs => (r, some (q.1 - 1)) :: covs (q :: rs)
theorem covs_len : ∀ rs : List Rw, (covs rs).length = rs.length
  | [] => rfl
  | [r] => rfl
  | r :: q :: rs => by unfold covs; simp [covs_len (q :: rs)]
theorem val_in {r q : Rw} {rs : List Rw} {t : Int} (h : t < q.1) : val r (q :: rs) t = at1 r t := if_pos (by omega)
theorem val_on {r q : Rw} {rs : List Rw} {t : Int} (h : q.1 ≤ t) : val r (q :: rs) t = val q rs t := by
  show (if q.1 > t then _ else _) = _
  rw [if_neg (by omega)]
/-! ### the second map at values that climb -/
def inT (x : Int) : Option Int → Bool
  | none => true
  | some T => decide (x ≤ T)
def climb1 (g : Int → Int) (s v : Int) (T : Option Int) (c : Rw × Option Int) : List Rw :=
  if ((match c.2 with | none => true | some e => decide (v ≤ e)) && inT c.1.1 T) = true then [(s + (if v > c.1.1 then v else c.1.1) - v, g (if v > c.1.1 then v else c.1.1), c.1.2.2)] else []
def climbR (g : Int → Int) (s v : Int) (T : Option Int) (cs : List (Rw × Option Int)) : List Rw := cs.flatMap (climb1 g s v T)
theorem climb_out {g : Int → Int} {s v T : Int} : ∀ {rs : List Rw} {q : Rw}, Good q rs → T < q.1 → climbR g s v (some T) (covs (q :: rs)) = []
  | [], q, _, h => by simp [climbR, covs, climb1, inT]; omega
  | p :: rs, q, hg, h => by
    have ih := climb_out (g := g) (s := s) (v := v) (T := T) hg.2 (by have := hg.1.s; omega)
    show climb1 g s v (some T) (q, some (p.1 - 1)) ++ climbR g s v (some T) (covs (p :: rs)) = []
    rw [ih, List.append_nil]
    unfold climb1 inT
    rw [if_neg]
    simp
    omega
/-- what stands behind the climb -/
def CutT (F : Int → Int) (s v : Int) (T : Option Int) (tail : List Rw) : Prop := match T with
  | none => tail = []
  | some T => Cut F (s + T - v + 1) tail
theorem climb_cut {F g : Int → Int} {s v : Int} {T : Option Int} {tail : List Rw} (ht : CutT F s v T tail) : ∀ {rs : List Rw} {r : Rw} {x : Int}, Good r rs → x = (if v > r.1 then v else r.1) → inT x T = true → (∀ t, r.1 ≤ t → g t = val r rs t) → (∀ t, s + x - v ≤ t → inT (v + t - s) T = true → F t = g (v + t - s)) → Cut F (s + x - v) (climbR g s v T (covs (r :: rs)) ++ tail)
  | [], r, x, hg, hx, hT, hgv, hF => by
    have hgr : r.2.2 = true := hg
    have xr : r.1 ≤ x := by rw [hx]; split <;> omega
    have i1 : inT r.1 T = true := by cases T with | none => rfl | some T => simp [inT] at hT ⊢; omega
    have e : climbR g s v T (covs [r]) = [(s + x - v, g x, true)] := by
      simp only [climbR, covs, List.flatMap_cons, List.flatMap_nil, List.append_nil]
      unfold climb1
      rw [if_pos (by simp [i1]), ← hx, hgr]
    have Fx : F (s + x - v) = g x := by
      have := hF (s + x - v) (Int.le_refl _) (by rw [show v + (s + x - v) - s = x by omega]; exact hT)
      rw [this]; congr 1; omega
    have st : ∀ t, s + x - v ≤ t → inT (v + t - s) T = true → F t = F (s + x - v) + (t - (s + x - v)) := fun t h1 h2 => by
      rw [hF t h1 h2, Fx, hgv _ (by omega), hgv x xr]
      simp [val, at1, hgr]
      omega
    rw [e, ← Fx]
    cases T with
    | none =>
      have : tail = [] := ht
      subst this
      exact Cut.last fun t h1 => st t h1 rfl
    | some T =>
      have hT' : x ≤ T := by simpa [inT] using hT
      refine Cut.more (by omega) (fun t h1 h2 => ?_) (show Cut F (s + T - v + 1) tail from ht)
      rw [st t h1 (by simp [inT]; omega)]
      simp [at1]
  | q :: rs, r, x, hg, hx, hT, hgv, hF => by
    have xr : r.1 ≤ x := by rw [hx]; split <;> omega
    have i1 : inT r.1 T = true := by cases T with | none => rfl | some T => simp [inT] at hT ⊢; omega
    have hq := hg.1.s
    show Cut F (s + x - v) (climb1 g s v T (r, some (q.1 - 1)) ++ climbR g s v T (covs (q :: rs)) ++ tail)
    by_cases hv : v ≤ q.1 - 1
    · have e : climb1 g s v T (r, some (q.1 - 1)) = [(s + x - v, g x, r.2.2)] := by
        unfold climb1
        rw [if_pos (by simp [i1]; exact hv), ← hx]
      have Fx : F (s + x - v) = g x := by
        have := hF (s + x - v) (Int.le_refl _) (by rw [show v + (s + x - v) - s = x by omega]; exact hT)
        rw [this]; congr 1; omega
      have xq : x < q.1 := by rw [hx]; split <;> omega
      have st : ∀ t, s + x - v ≤ t → t < s + q.1 - v → inT (v + t - s) T = true → F t = at1 (s + x - v, F (s + x - v), r.2.2) t := fun t h1 h2 h3 => by
        rw [hF t h1 h3, Fx, hgv _ (by omega), hgv x xr, val_in (by omega), val_in xq]
        unfold at1
        cases r.2.2 <;> simp
        omega
      rw [e, List.append_assoc, List.singleton_append, ← Fx]
      by_cases hin : inT q.1 T = true
      · refine Cut.more (e := s + q.1 - v) (by omega) (fun t h1 h2 => st t h1 h2 ?_) (climb_cut ht hg.2 (x := q.1) (by rw [if_neg (by omega)]) hin (fun t h => by rw [hgv t (by omega), val_on h]) (fun t h1 h2 => hF t (by omega) h2))
        cases T with
        | none => rfl
        | some T => simp [inT] at hin ⊢; omega
      · cases T with
        | none => exact absurd rfl hin
        | some T =>
          have hT' : x ≤ T := by simpa [inT] using hT
          have hq' : T < q.1 := by simpa [inT] using hin
          rw [climb_out hg.2 hq', List.nil_append]
          exact Cut.more (by omega) (fun t h1 h2 => st t h1 (by omega) (by simp [inT]; omega)) (show Cut F (s + T - v + 1) tail from ht)
    · have e : climb1 g s v T (r, some (q.1 - 1)) = [] := by
        unfold climb1
        rw [if_neg]
        simp
        intro h; exact absurd h hv
      rw [e, List.nil_append]
      exact climb_cut ht hg.2 (x := x) (by rw [hx, if_pos (by omega)]; split <;> omega) hT (fun t h => by rw [hgv t (by omega), val_on h]) hF
/-! ### two maps put together -/
def tog1 (g : Int → Int) (G : List (Rw × Option Int)) (c : Rw × Option Int) : List Rw :=
  if c.1.2.2 = true then climbR g c.1.1 c.1.2.1 (c.2.map fun e => c.1.2.1 + e - c.1.1) G else [(c.1.1, g c.1.2.1, false)]
def togR (g : Int → Int) (G : List (Rw × Option Int)) (cs : List (Rw × Option Int)) : List Rw := cs.flatMap (tog1 g G)
theorem tog_cut {F f : Int → Int} {G : List Rw} (hG : Right G) (hF : ∀ t, 0 ≤ t → F t = valueAt G (f t)) : ∀ {rs : List Rw} {r : Rw}, Good r rs → 0 ≤ r.1 → r.1 ≤ r.2.1 → (∀ t, r.1 ≤ t → f t = val r rs t) → Cut F r.1 (togR (valueAt G) (covs G) (covs (r :: rs)))
  | [], r, hg, h0, hv, hf => by
    cases G with
    | nil => exact hG.elim
    | cons p G =>
    have hgr : r.2.2 = true := hg
    obtain ⟨g0, g1, g2⟩ := hG
    have := climb_cut (F := F) (g := valueAt (p :: G)) (s := r.1) (v := r.2.1) (T := none) (tail := []) rfl g2 (x := r.2.1) (by split <;> omega) rfl (fun t h => rfl) (fun t h _ => by
      rw [hF t (by omega), hf t (by omega)]
      simp [val, at1, hgr]
      congr 1; omega)
    rw [List.append_nil, show r.1 + r.2.1 - r.2.1 = r.1 by omega] at this
    have e : togR (valueAt (p :: G)) (covs (p :: G)) (covs [r]) = climbR (valueAt (p :: G)) r.1 r.2.1 none (covs (p :: G)) := by
      simp [togR, covs, tog1, hgr]
    rw [e]
    exact this
  | q :: rs, r, hg, h0, hv, hf => by
    have hq := hg.1
    have hqs := hq.s
    have hqv := hq.v
    have ih := tog_cut (F := F) (f := f) hG hF hg.2 (by omega) hqv (fun t h => by rw [hf t (by omega), val_on h])
    cases G with
    | nil => exact hG.elim
    | cons p G =>
    show Cut F r.1 (tog1 (valueAt (p :: G)) (covs (p :: G)) (r, some (q.1 - 1)) ++ togR (valueAt (p :: G)) (covs (p :: G)) (covs (q :: rs)))
    obtain ⟨g0, g1, g2⟩ := hG
    cases hgr : r.2.2 with
    | true =>
      have := climb_cut (F := F) (g := valueAt (p :: G)) (s := r.1) (v := r.2.1) (T := some (r.2.1 + (q.1 - 1) - r.1)) (tail := togR (valueAt (p :: G)) (covs (p :: G)) (covs (q :: rs))) (by
        show Cut F (r.1 + (r.2.1 + (q.1 - 1) - r.1) - r.2.1 + 1) _
        rw [show r.1 + (r.2.1 + (q.1 - 1) - r.1) - r.2.1 + 1 = q.1 by omega]
        exact ih) g2 (x := r.2.1) (by split <;> omega) (by simp [inT]; omega) (fun t h => rfl) (fun t h h2 => by
        have h3 : t < q.1 := by simp [inT] at h2; omega
        rw [hF t (by omega), hf t (by omega), val_in h3]
        simp [at1, hgr]
        congr 1; omega)
      rw [show r.1 + r.2.1 - r.2.1 = r.1 by omega] at this
      unfold tog1
      rw [if_pos hgr]
      exact this
    | false =>
      unfold tog1
      rw [if_neg (by rw [hgr]; simp)]
      have F1 : ∀ t, r.1 ≤ t → t < q.1 → F t = valueAt (p :: G) r.2.1 := fun t h1 h2 => by
        rw [hF t (by omega), hf t h1, val_in h2]
        simp [at1, hgr]
      have := Cut.more (f := F) (g := false) hqs (fun t h1 h2 => by rw [F1 t h1 h2, F1 r.1 (Int.le_refl _) hqs]; simp [at1]) ih
      rw [F1 r.1 (Int.le_refl _) hqs] at this
      exact this
/-! ### the greater and the lesser of two maps -/
def pick (most : Bool) (a b : Int) : Int := if most = true then (if b > a then b else a) else (if b < a then b else a)
/-- f is straight from s on, as far as e -/
def inE (t : Int) : Option Int → Prop
  | none => True
  | some e => t ≤ e
def Strt (f : Int → Int) (s : Int) (e : Option Int) (g : Bool) : Prop := ∀ t, s ≤ t → inE t e → f t = at1 (s, f s, g) t
theorem strt_of : ∀ {rs : List Rw} {r : Rw} {s : Int} {e : Option Int}, Good r rs → r.1 ≤ s → (∀ q ∈ rs, s < q.1 → ¬ inE q.1 e) → (e = none → ∀ q ∈ rs, q.1 ≤ s) → ∃ g, Strt (val r rs) s e g ∧ (e = none → g = true)
  | [], r, s, e, hg, h, _, _ => ⟨r.2.2, fun t h1 _ => by
      simp only [val]; unfold at1; cases r.2.2 <;> simp; omega, fun _ => hg⟩
  | q :: rs, r, s, e, hg, h, hn, hl => by
    by_cases c : q.1 ≤ s
    · obtain ⟨g, hS, he⟩ := strt_of (e := e) hg.2 c (fun p hp => hn p (List.mem_cons_of_mem _ hp)) (fun z p hp => hl z p (List.mem_cons_of_mem _ hp))
      refine ⟨g, fun t h1 h2 => ?_, he⟩
      rw [val_on (by omega), val_on c]
      exact hS t h1 h2
    · have no := hn q (by simp) (by omega)
      cases e with
      | none => exact absurd trivial no
      | some e =>
        have : e < q.1 := by
          have : ¬ q.1 ≤ e := no
          omega
        refine ⟨r.2.2, fun t h1 h2 => ?_, fun z => nomatch z⟩
        have h2 : t ≤ e := h2
        rw [val_in (by omega), val_in (by omega)]
        unfold at1; cases r.2.2 <;> simp; omega
/-- what a stretch's end tells of its growing -/
def growB (f : Int → Int) (s : Int) : Option Int → Bool
  | none => true
  | some e => decide (f e > f s) || decide (e = s)
theorem strt_grow {f : Int → Int} {s : Int} {e : Option Int} {g : Bool} (h : Strt f s e g) (he : ∀ x, e = some x → s ≤ x) (hn : e = none → g = true) : Strt f s e (growB f s e) := by
  cases e with
  | none => rw [hn rfl] at h; exact h
  | some e =>
    have hs := he e rfl
    have fe := h e hs (Int.le_refl _)
    show Strt f s (some e) (decide (f e > f s) || decide (e = s))
    by_cases c : e = s
    · subst c
      intro t h1 h2
      have h2 : t ≤ e := h2
      have : t = e := by omega
      subst this
      unfold at1; simp
    · cases g with
      | true =>
        have : f e > f s := by rw [fe]; unfold at1; simp; omega
        rw [decide_eq_true this]
        exact h
      | false =>
        have : ¬ f e > f s := by rw [fe]; unfold at1; simp
        rw [decide_eq_false this, decide_eq_false c]
        exact h
def partR (f g : Int → Int) (s : Int) (e : Option Int) (most : Bool) : List Rw :=
  let a := growB f s e
  if a = growB g s e then [(s, pick most (f s) (g s), a)]
  else
    let L := if a = true then g s else f s
    let G := if a = true then f s else g s
    if s + L - G ≤ s then (if most = true then [(s, G, true)] else [(s, L, false)])
    else
      let fr : Rw := if most = true then (s, L, false) else (s, G, true)
      if (match e with | none => false | some e => decide (s + L - G > e)) = true then [fr] else [fr, (s + L - G, L, most)]
def Beh (F : Int → Int) (e : Option Int) (tail : List Rw) : Prop := match e with
  | none => tail = []
  | some e => Cut F (e + 1) tail
theorem cut_one {F : Int → Int} {s : Int} {e : Option Int} {g : Bool} {tail : List Rw} (hs : ∀ x, e = some x → s ≤ x) (hb : Beh F e tail) (h : Strt F s e g) (hn : e = none → g = true) : Cut F s ((s, F s, g) :: tail) := by
  cases e with
  | none =>
    have : tail = [] := hb
    subst this
    obtain rfl := hn rfl
    exact Cut.last fun t h1 => by rw [h t h1 trivial]; simp [at1]
  | some e => exact Cut.more (by have := hs e rfl; omega) (fun t h1 h2 => h t h1 (by show t ≤ e; omega)) hb
theorem part_cut {F f g : Int → Int} {s : Int} {e : Option Int} {most : Bool} {tail : List Rw} (hs : ∀ x, e = some x → s ≤ x) (hf : ∃ b, Strt f s e b ∧ (e = none → b = true)) (hg : ∃ b, Strt g s e b ∧ (e = none → b = true))
    (hF : ∀ t, s ≤ t → F t = pick most (f t) (g t)) (hb : Beh F e tail) : Cut F s (partR f g s e most ++ tail) := by
  obtain ⟨b1, f1, f2⟩ := hf
  obtain ⟨b2, g1, g2⟩ := hg
  have sf := strt_grow f1 hs f2
  have sg := strt_grow g1 hs g2
  have Fs := hF s (Int.le_refl _)
  unfold partR
  dsimp only
  by_cases c : growB f s e = growB g s e
  · rw [if_pos c, List.singleton_append, ← Fs]
    refine cut_one hs hb (fun t h1 h2 => ?_) (fun z => by rw [z]; rfl)
    rw [hF t h1, Fs, sf t h1 h2, sg t h1 h2, ← c]
    unfold at1 pick
    cases growB f s e <;> cases most <;> simp <;> repeat' split
    all_goals omega
  · rw [if_neg c]
    obtain ⟨e, rfl⟩ : ∃ x, e = some x := by
      cases e with
      | none => exact absurd rfl c
      | some e => exact ⟨e, rfl⟩
    have hse := hs e rfl
    -- one is level, one grows
    have key : ∀ (l u : Int → Int), Strt l s (some e) false → Strt u s (some e) true → (∀ t, s ≤ t → F t = pick most (l t) (u t)) →
        Cut F s ((if s + l s - u s ≤ s then (if most = true then [(s, u s, true)] else [(s, l s, false)]) else (if (decide (s + l s - u s > e)) = true then [if most = true then (s, l s, false) else (s, u s, true)] else [if most = true then (s, l s, false) else (s, u s, true), (s + l s - u s, l s, most)])) ++ tail) := by
      intro l u hl hu hF
      have Lt : ∀ t, s ≤ t → t ≤ e → l t = l s := fun t h1 h2 => by rw [hl t h1 h2]; simp [at1]
      have Ut : ∀ t, s ≤ t → t ≤ e → u t = u s + (t - s) := fun t h1 h2 => by rw [hu t h1 h2]; simp [at1]
      have Fs := hF s (Int.le_refl _)
      by_cases c1 : s + l s - u s ≤ s
      · rw [if_pos c1]
        cases most with
        | true =>
          have Fe : F s = u s := by rw [Fs]; simp only [pick, if_true]; split <;> omega
          simp only [if_true, List.singleton_append]
          rw [← Fe]
          refine cut_one hs hb (fun t h1 h2 => ?_) (fun z => nomatch z)
          have h2 : t ≤ e := h2
          rw [hF t h1, Lt t h1 h2, Ut t h1 h2]
          simp only [pick, if_true, at1]
          split <;> omega
        | false =>
          have Fe : F s = l s := by rw [Fs]; simp only [pick, Bool.false_eq_true, if_false]; split <;> omega
          simp only [Bool.false_eq_true, if_false, List.singleton_append]
          rw [← Fe]
          refine cut_one hs hb (fun t h1 h2 => ?_) (fun z => nomatch z)
          have h2 : t ≤ e := h2
          rw [hF t h1, Lt t h1 h2, Ut t h1 h2]
          simp only [pick, Bool.false_eq_true, if_false, at1]
          split <;> omega
      · rw [if_neg c1]
        by_cases c2 : s + l s - u s > e
        · rw [if_pos (decide_eq_true c2)]
          cases most with
          | true =>
            have Fe : F s = l s := by rw [Fs]; simp only [pick, if_true]; split <;> omega
            simp only [if_true, List.singleton_append]
            rw [← Fe]
            refine cut_one hs hb (fun t h1 h2 => ?_) (fun z => nomatch z)
            have h2 : t ≤ e := h2
            rw [hF t h1, Lt t h1 h2, Ut t h1 h2]
            simp only [pick, if_true, at1, Bool.false_eq_true, if_false]
            split <;> omega
          | false =>
            have Fe : F s = u s := by rw [Fs]; simp only [pick, Bool.false_eq_true, if_false]; split <;> omega
            simp only [Bool.false_eq_true, if_false, List.singleton_append]
            rw [← Fe]
            refine cut_one hs hb (fun t h1 h2 => ?_) (fun z => nomatch z)
            have h2 : t ≤ e := h2
            rw [hF t h1, Lt t h1 h2, Ut t h1 h2]
            simp only [pick, Bool.false_eq_true, if_false, if_true, at1]
            split <;> omega
        · rw [if_neg (by simp; omega)]
          have Fc : F (s + l s - u s) = l s := by
            rw [hF _ (by omega), Lt _ (by omega) (by omega), Ut _ (by omega) (by omega)]
            unfold pick
            cases most <;> simp <;> omega
          have snd : Cut F (s + l s - u s) ((s + l s - u s, l s, most) :: tail) := by
            have := cut_one (F := F) (s := s + l s - u s) (e := some e) (g := most) (tail := tail) (fun x z => by cases z; omega) hb (fun t h1 h2 => by
              have h2 : t ≤ e := h2
              rw [hF t (by omega), Lt t (by omega) h2, Ut t (by omega) h2, Fc]
              cases most <;> simp only [pick, at1, if_true, Bool.false_eq_true, if_false] <;> (repeat' split) <;> omega) (fun z => nomatch z)
            rw [Fc] at this
            exact this
          cases most with
          | true =>
            have Fe : F s = l s := by rw [Fs]; simp only [pick, if_true]; split <;> omega
            simp only [if_true]
            have := Cut.more (f := F) (s := s) (g := false) (by omega) (fun t h1 h2 => by
              rw [hF t h1, Lt t h1 (by omega), Ut t h1 (by omega), Fe]
              simp only [pick, if_true, at1, Bool.false_eq_true, if_false]
              split <;> omega) snd
            rw [Fe] at this
            exact this
          | false =>
            have Fe : F s = u s := by rw [Fs]; simp only [pick, Bool.false_eq_true, if_false]; split <;> omega
            simp only [Bool.false_eq_true, if_false]
            have := Cut.more (f := F) (s := s) (g := true) (by omega) (fun t h1 h2 => by
              rw [hF t h1, Lt t h1 (by omega), Ut t h1 (by omega), Fe]
              simp only [pick, if_true, at1, Bool.false_eq_true, if_false]
              split <;> omega) snd
            rw [Fe] at this
            exact this
    cases ha : growB f s (some e) with
    | true =>
      have hb' : growB g s (some e) = false := by
        cases z : growB g s (some e) with
        | false => rfl
        | true => exact absurd (ha.trans z.symm) c
      rw [ha] at sf
      rw [hb'] at sg
      simp only [if_true]
      exact key g f sg sf fun t h => by rw [hF t h]; cases most <;> simp only [pick, if_true, Bool.false_eq_true, if_false] <;> (repeat' split) <;> omega
    | false =>
      have hb' : growB g s (some e) = true := by
        cases z : growB g s (some e) with
        | true => rfl
        | false => exact absurd (ha.trans z.symm) c
      rw [ha] at sf
      rw [hb'] at sg
      simp only [Bool.false_eq_true, if_false]
      exact key f g sf sg hF
def merR (f g : Int → Int) (most : Bool) : List Int → List Rw
  | [] => []
  | [s] => partR f g s none most
  | s :: e :: r => partR f g s (some (e - 1)) most ++ merR f g most (e :: r)
theorem mer_cut {F : Int → Int} {A B : List Rw} (hA : Right A) (hB : Right B) {most : Bool} (hF : ∀ t, 0 ≤ t → F t = pick most (valueAt A t) (valueAt B t)) : ∀ {ns : List Int} {s : Int}, 0 ≤ s → (s :: ns).Pairwise (· < ·) → (∀ q ∈ A ++ B, s < q.1 → q.1 ∈ ns) → Cut F s (merR (valueAt A) (valueAt B) most (s :: ns))
  | [], s, h0, hp, hm => by
    cases A with
    | nil => exact hA.elim
    | cons a A =>
    cases B with
    | nil => exact hB.elim
    | cons b B =>
    have n1 : ∀ q ∈ a :: A ++ b :: B, q.1 ≤ s := fun q hq => by
      rcases Int.lt_or_le s q.1 with z | z
      · exact absurd (hm q hq z) (by simp)
      · exact z
    have := part_cut (F := F) (f := valueAt (a :: A)) (g := valueAt (b :: B)) (s := s) (e := none) (most := most) (tail := []) (fun x z => nomatch z)
      (strt_of hA.2.2 (by have := hA.1; omega) (fun q hq z => absurd (n1 q (by simp [hq])) (by omega)) fun _ q hq => n1 q (by simp [hq]))
      (strt_of hB.2.2 (by have := hB.1; omega) (fun q hq z => absurd (n1 q (by simp [hq])) (by omega)) fun _ q hq => n1 q (by simp [hq])) (fun t h => hF t (by omega)) rfl
    rw [List.append_nil] at this
    exact this
  | e :: ns, s, h0, hp, hm => by
    have hse : s < e := (List.pairwise_cons.mp hp).1 e (by simp)
    have hp2 := (List.pairwise_cons.mp hp).2
    have ih := mer_cut hA hB hF (ns := ns) (s := e) (by omega) hp2 (fun q hq z => by
      rcases List.mem_cons.mp (hm q hq (by omega)) with h | h
      · omega
      · exact h)
    cases A with
    | nil => exact hA.elim
    | cons a A =>
    cases B with
    | nil => exact hB.elim
    | cons b B =>
    have n1 : ∀ q ∈ a :: A ++ b :: B, s < q.1 → ¬ inE q.1 (some (e - 1)) := fun q hq z => by
      intro (k : q.1 ≤ e - 1)
      rcases List.mem_cons.mp (hm q hq z) with h | h
      · omega
      · have := (List.pairwise_cons.mp hp2).1 _ h
        omega
    exact part_cut (F := F) (f := valueAt (a :: A)) (g := valueAt (b :: B)) (s := s) (e := some (e - 1)) (most := most) (fun x z => by cases z; omega)
      (strt_of hA.2.2 (by have := hA.1; omega) (fun q hq z => n1 q (by simp [hq]) z) fun z => nomatch z)
      (strt_of hB.2.2 (by have := hB.1; omega) (fun q hq z => n1 q (by simp [hq]) z) fun z => nomatch z) (fun t h => hF t (by omega)) (by show Cut F (e - 1 + 1) _; rw [show e - 1 + 1 = e by omega]; exact ih)
/-! ### bounds of the starts -/
theorem climb_bd {g : Int → Int} {s v B : Int} {T : Option Int} (hsv : s ≤ v) (hs : s ≤ B) {cs : List (Rw × Option Int)} (h : ∀ c ∈ cs, c.1.1 ≤ B) : ∀ q ∈ climbR g s v T cs, q.1 ≤ B := fun q hq => by
  obtain ⟨c, hc, hq⟩ := List.mem_flatMap.mp hq
  have hB := h c hc
  unfold climb1 at hq
  generalize ((match c.2 with | none => true | some e => decide (v ≤ e)) && inT c.1.1 T) = b at hq
  cases b with
  | true =>
    rw [if_pos rfl] at hq
    obtain rfl := List.mem_singleton.mp hq
    show s + (if v > c.1.1 then v else c.1.1) - v ≤ B
    split <;> omega
  | false => rw [if_neg (by simp)] at hq; cases hq
theorem covs_mem : ∀ {rs : List Rw} {c : Rw × Option Int}, c ∈ covs rs → c.1 ∈ rs
  | [], c, h => by simp [covs] at h
  | [r], c, h => by simp [covs] at h; subst h; simp
  | r :: q :: rs, c, h => by
    unfold covs at h
    rcases List.mem_cons.mp h with rfl | h
    · simp
    · exact List.mem_cons_of_mem _ (covs_mem h)
theorem tog_bd {g : Int → Int} {G F : List Rw} {B : Int} (hF : ∀ r ∈ F, r.1 ≤ r.2.1 ∧ r.1 ≤ B) (hG : ∀ r ∈ G, r.1 ≤ B) : ∀ q ∈ togR g (covs G) (covs F), q.1 ≤ B := fun q hq => by
  obtain ⟨c, hc, hq⟩ := List.mem_flatMap.mp hq
  have := hF c.1 (covs_mem hc)
  unfold tog1 at hq
  split at hq
  · exact climb_bd this.1 this.2 (fun d hd => hG _ (covs_mem hd)) q hq
  · simp at hq; subst hq; exact this.2
theorem part_bd {f g : Int → Int} {s B : Int} {e : Option Int} {most : Bool} (hs : s ≤ B) (he : ∀ x, e = some x → x ≤ B) (hn : e = none → growB f s e = growB g s e) : ∀ q ∈ partR f g s e most, q.1 ≤ B := fun q hq => by
  unfold partR at hq
  dsimp only at hq
  split at hq
  · simp at hq; subst hq; exact hs
  · rename_i hc
    generalize (if growB f s e = true then g s else f s) = L at hq
    generalize (if growB f s e = true then f s else g s) = U at hq
    split at hq
    · split at hq <;> (simp at hq; subst hq; exact hs)
    · rename_i h1
      have fst : (if most = true then ((s, L, false) : Rw) else (s, U, true)).1 ≤ B := by split <;> exact hs
      generalize hm : (match e with | none => false | some e => decide (s + L - U > e)) = b at hq
      cases b with
      | true =>
        rw [if_pos rfl] at hq
        obtain rfl := List.mem_singleton.mp hq
        exact fst
      | false =>
        rw [if_neg (by simp)] at hq
        rcases List.mem_cons.mp hq with rfl | hq
        · exact fst
        · obtain rfl := List.mem_singleton.mp hq
          cases e with
          | none => exact absurd (hn rfl) hc
          | some e =>
            have := he e rfl
            have hm : decide (s + L - U > e) = false := hm
            have := of_decide_eq_false hm
            show s + L - U ≤ B
            omega
theorem mer_bd {f g : Int → Int} {most : Bool} {B : Int} : ∀ {ns : List Int}, (∀ n ∈ ns, n ≤ B) → ∀ q ∈ merR f g most ns, q.1 ≤ B
  | [], _, q, hq => by simp [merR] at hq
  | [s], h, q, hq => part_bd (f := f) (g := g) (e := none) (most := most) (h s (by simp)) (fun x z => nomatch z) (fun _ => rfl) q hq
  | s :: e :: r, h, q, hq => by
    rcases List.mem_append.mp hq with hq | hq
    · exact part_bd (f := f) (g := g) (e := some (e - 1)) (most := most) (h s (by simp)) (fun x z => by cases z; have := h e (by simp); omega) (fun z => nomatch z) q hq
    · exact mer_bd (fun n hn => h n (List.mem_cons_of_mem _ hn)) q hq
/-! ### n minutes more -/
def addR (n : Int) (rs : List Rw) : List Rw := rs.map fun r => (r.1, r.2.1 + n, r.2.2)
theorem val_add {n : Int} : ∀ (rs : List Rw) (r : Rw) (t : Int), val (r.1, r.2.1 + n, r.2.2) (addR n rs) t = val r rs t + n
  | [], r, t => by simp [addR, val, at1]; omega
  | q :: rs, r, t => by
    show (if q.1 > t then at1 (r.1, r.2.1 + n, r.2.2) t else val (q.1, q.2.1 + n, q.2.2) (addR n rs) t) = (if q.1 > t then at1 r t else val q rs t) + n
    split
    · simp [at1]; omega
    · exact val_add rs q t
theorem good_add {n : Int} (hn : 0 ≤ n) : ∀ {rs : List Rw} {r : Rw}, Good r rs → Good (r.1, r.2.1 + n, r.2.2) (addR n rs)
  | [], r, h => h
  | q :: rs, r, h => by
    obtain ⟨⟨a, b, c, d⟩, h2⟩ := h
    refine ⟨⟨a, by show q.1 ≤ q.2.1 + n; omega, ?_, fun e => ?_⟩, good_add hn h2⟩
    · show at1 (r.1, r.2.1 + n, r.2.2) (q.1 - 1) ≤ q.2.1 + n
      unfold at1 at c ⊢
      dsimp only
      omega
    · have := d e
      show q.1 - 1 ≤ r.2.1 + n
      omega
theorem right_add {n : Int} (hn : 0 ≤ n) {rs : List Rw} (h : Right rs) : Right (addR n rs) ∧ ∀ t, valueAt (addR n rs) t = valueAt rs t + n := by
  cases rs with
  | nil => exact h.elim
  | cons r rs => exact ⟨⟨h.1, by have := h.2.1; show 0 ≤ r.2.1 + n; omega, good_add hn h.2.2⟩, fun t => val_add rs r t⟩
/-! ### back -/
def bk1 (y : Int) (found : Option Int) (c : Rw × Option Int) : Option Int :=
  if c.1.2.1 ≤ y then (if (c.1.2.2 && (match c.2 with | none => true | some e => decide (c.1.1 + y - c.1.2.1 < e))) = true then some (c.1.1 + y - c.1.2.1) else c.2) else found
def bkR (y : Int) (found : Option Int) (cs : List (Rw × Option Int)) : Option Int := cs.foldl (bk1 y) found
def IsBack (f : Int → Int) (y : Int) : Option Int → Prop
  | none => y < f 0
  | some t => 0 ≤ t ∧ f t ≤ y ∧ y < f (t + 1)
theorem bk_out {y : Int} : ∀ {rs : List Rw} {r : Rw} {o : Option Int}, Good r rs → y < r.2.1 → bkR y o (covs (r :: rs)) = o
  | [], r, o, hg, h => by simp [bkR, covs, bk1]; omega
  | q :: rs, r, o, hg, h => by
    have u := hg.1.u
    have s := hg.1.s
    have : r.2.1 ≤ q.2.1 := by
      unfold at1 at u
      split at u <;> omega
    show bkR y (bk1 y o (r, some (q.1 - 1))) (covs (q :: rs)) = o
    have e : bk1 y o (r, some (q.1 - 1)) = o := by unfold bk1; rw [if_neg (by dsimp only; omega)]
    rw [e]
    exact bk_out hg.2 (by omega)
theorem bk_in {y : Int} : ∀ {rs : List Rw} {r : Rw} {o : Option Int}, Good r rs → r.2.1 ≤ y → ∃ t, bkR y o (covs (r :: rs)) = some t ∧ r.1 ≤ t ∧ val r rs t ≤ y ∧ y < val r rs (t + 1)
  | [], r, o, hg, h => by
    have hgr : r.2.2 = true := hg
    refine ⟨r.1 + y - r.2.1, ?_, by omega, ?_, ?_⟩
    · simp [bkR, covs, bk1, hgr]; omega
    · simp [val, at1, hgr]; omega
    · simp [val, at1, hgr]; omega
  | q :: rs, r, o, hg, h => by
    have u := hg.1.u
    have s := hg.1.s
    show ∃ t, bkR y (bk1 y o (r, some (q.1 - 1))) (covs (q :: rs)) = some t ∧ _
    by_cases hq : q.2.1 ≤ y
    · obtain ⟨t, e, h1, h2, h3⟩ := bk_in (o := bk1 y o (r, some (q.1 - 1))) hg.2 hq
      exact ⟨t, e, by omega, by rw [val_on h1]; exact h2, by rw [val_on (by omega)]; exact h3⟩
    · rw [bk_out hg.2 (by omega)]
      have vq : val r (q :: rs) q.1 = q.2.1 := by rw [val_on (Int.le_refl _)]; exact val_start hg.2
      unfold bk1
      rw [if_pos h]
      cases hgr : r.2.2 with
      | true =>
        simp only [Bool.true_and, decide_eq_true_eq]
        split
        · rename_i hlt
          refine ⟨_, rfl, by omega, ?_, ?_⟩
          · rw [val_in (by omega)]; simp [at1, hgr]; omega
          · rw [val_in (by omega)]; simp [at1, hgr]; omega
        · rename_i hge
          refine ⟨_, rfl, by omega, ?_, ?_⟩
          · rw [val_in (by omega)]; simp [at1, hgr]; omega
          · rw [show q.1 - 1 + 1 = q.1 by omega, vq]; omega
      | false =>
        simp only [Bool.false_and, Bool.false_eq_true, if_false]
        refine ⟨_, rfl, by omega, ?_, ?_⟩
        · rw [val_in (by omega)]; simp [at1, hgr]; omega
        · rw [show q.1 - 1 + 1 = q.1 by omega, vq]; omega
theorem back_is {G : List Rw} (h : Right G) (y : Int) : IsBack (valueAt G) y (bkR y none (covs G)) := by
  cases G with
  | nil => exact h.elim
  | cons r rs =>
    obtain ⟨h0, h1, hg⟩ := h
    by_cases c : r.2.1 ≤ y
    · obtain ⟨t, e, a, b, d⟩ := bk_in (o := none) hg c
      rw [e]
      exact ⟨by omega, b, d⟩
    · rw [bk_out hg (by omega)]
      show y < val r rs 0
      rw [← h0, val_start hg]
      omega
theorem IsBack.uniq {f g : Int → Int} (R : Ris f) {y : Int} {o o' : Option Int} (h : IsBack f y o) (h' : IsBack g y o') (e : ∀ t, 0 ≤ t → f t = g t) : o = o' := by
  cases o with
  | none =>
    cases o' with
    | none => rfl
    | some t =>
      obtain ⟨a, b, c⟩ := h'
      have h : y < f 0 := h
      rw [← e t a] at b
      have := R.le (Int.le_refl 0) a
      omega
  | some t =>
    obtain ⟨a, b, c⟩ := h
    cases o' with
    | none =>
      have h' : y < g 0 := h'
      rw [← e 0 (Int.le_refl _)] at h'
      have := R.le (Int.le_refl 0) a
      omega
    | some u =>
      obtain ⟨a', b', c'⟩ := h'
      rw [← e u a'] at b'
      rw [← e (u + 1) (by omega)] at c'
      congr 1
      rcases Int.lt_trichotomy t u with z | z | z
      · have := R.le (s := t + 1) (t := u) (by omega) (by omega); omega
      · exact z
      · have := R.le (s := u + 1) (t := t) (by omega) (by omega); omega
end RM

/-! RM, part d: the rows by the values alone; maps as they are handed on. -/
namespace RM
inductive Grd (f : Int → Int) : Int → List Rw → Prop
  | last {s : Int} (h : ∀ t, s ≤ t → der f t = 1) : Grd f s [(s, f s, true)]
  | more {s e : Int} {G : List Rw} (l : s ≤ e) (h : ∀ t, s ≤ t → t < e → der f t = der f s) (hn : der f s < 2 → s < e ∧ der f e ≠ der f s) (h2 : 2 ≤ der f s → e = s) (c : Grd f (e + 1) G) : Grd f s ((s, f s, decide (der f s = 1)) :: G)
theorem Grd.uniq {f g : Int → Int} (e : ∀ t, 0 ≤ t → f t = g t) {s : Int} {G G' : List Rw} (h : Grd f s G) (h' : Grd g s G') : 0 ≤ s → G = G' := by
  have de : ∀ t, 0 ≤ t → der f t = der g t := fun t ht => by unfold der; rw [e t ht, e (t + 1) (by omega)]
  induction h generalizing G' with
  | @last s h =>
    intro h0
    cases h' with
    | last h' => rw [e s h0]
    | @more _ e' _ l' k' hn' h2' c' =>
      exfalso
      have d1 : der g s = 1 := by rw [← de s h0]; exact h s (Int.le_refl _)
      have := hn' (by omega)
      exact this.2 (by rw [d1, ← de e' (by omega)]; exact h e' l')
  | @more s e0 G l k hn h2 c ih =>
    intro h0
    cases h' with
    | last h' =>
      exfalso
      have d1 : der f s = 1 := by rw [de s h0]; exact h' s (Int.le_refl _)
      have := hn (by omega)
      exact this.2 (by rw [d1, de e0 (by omega)]; exact h' e0 l)
    | @more _ e' G' l' k' hn' h2' c' =>
      have ds := de s h0
      have ee : e0 = e' := by
        by_cases c2 : der f s < 2
        · have a := hn c2
          have a' := hn' (by omega)
          rcases Int.lt_trichotomy e0 e' with z | z | z
          · exact absurd (show der f e0 = der f s by rw [de e0 (by omega), k' e0 l z, ds]) a.2
          · exact z
          · exact absurd (show der g e' = der g s by rw [← de e' (by omega), k e' l' z, ds]) a'.2
        · rw [h2 (by omega), h2' (by omega)]
      subst ee
      rw [ih c' (by omega), e s h0, ds]
theorem gre_grd {f : Int → Int} (R : Ris f) {s : Int} {l : List (Int × Int)} {G : List Rw} (h : Gre f s l G) : Runs (der f) l → Dist l → Hit s l → 0 ≤ s → Grd f s G := by
  induction h with
  | last s x =>
    intro hr hd ha h0
    have ha : x.1 ≤ s := ha
    exact Grd.last fun t ht => by rw [hr.2 t (by omega), hr.1]
  | @more s x y r G h ih =>
    intro hr hd ha h0
    obtain ⟨ha1, ha2⟩ := ha
    have ds : der f s = x.2 := hr.2.1 s ha1 ha2
    have hes : s ≤ ende s x y := by unfold ende; split <;> omega
    have hey : ende s x y ≤ y.1 := by unfold ende; split <;> omega
    obtain ⟨sa, sr⟩ := skip_at (s := ende s x y + 1) hr (fun z hz => by simp at hz; subst hz; omega)
    have sd : ∀ {l : List (Int × Int)} {u : Int}, Dist l → Dist (skip u l) := by
      intro l u
      induction l with
      | nil => intro h; exact h
      | cons a l ih2 =>
        intro h
        cases l with
        | nil => exact h
        | cons b l =>
          unfold skip
          split
          · exact ih2 h.2
          · exact h
    have g := ih sr (sd hd) sa (by omega)
    rw [← ds]
    refine Grd.more hes (fun t h1 h2 => by rw [ds]; exact hr.2.1 t (by omega) (by omega)) (fun c => ?_) (fun c => ?_) g
    · have he : ende s x y = y.1 := if_pos (by omega)
      rw [he]
      refine ⟨ha2, ?_⟩
      have dy : der f y.1 = y.2 := by
        cases r with
        | nil => exact hr.2.2.2 y.1 (Int.le_refl _)
        | cons z r => exact hr.2.2.2.1 y.1 (Int.le_refl _) hr.2.2.1
      rw [dy, ds]
      exact Ne.symm hd.1
    · exact if_neg (by omega)
theorem Canon.grd {f : Int → Int} (R : Ris f) {G : List Rw} (h : Canon f G) : Grd f 0 G := by
  obtain ⟨l, hs, hg⟩ := h
  exact gre_grd R hg hs.runs hs.dist hs.at0 (Int.le_refl _)
/-! ### maps by their values from 0 on -/
theorem runs_congr {d d' : Int → Int} (e : ∀ t, 0 ≤ t → d t = d' t) : ∀ {l : List (Int × Int)}, (∀ x, l.head? = some x → 0 ≤ x.1) → Runs d l → Runs d' l
  | [], _, h => h.elim
  | [x], h0, h => ⟨h.1, fun t ht => by rw [← e t (by have := h0 x rfl; omega)]; exact h.2 t ht⟩
  | x :: y :: r, h0, h => by
    have h0x := h0 x rfl
    exact ⟨h.1, fun t h1 h2 => by rw [← e t (by omega)]; exact h.2.1 t h1 h2, runs_congr e (fun z hz => by simp at hz; subst hz; have := h.1; omega) h.2.2⟩
theorem gre_congr {f g : Int → Int} (e : ∀ t, 0 ≤ t → f t = g t) {s : Int} {l : List (Int × Int)} {G : List Rw} (h : Gre f s l G) : (∀ x ∈ l, 0 ≤ x.1) → 0 ≤ s → Gre g s l G := by
  induction h with
  | last s x => intro _ h0; rw [e s h0]; exact Gre.last s x
  | @more s x y r G h ih =>
    intro hl h0
    have sk : ∀ {l : List (Int × Int)} {s : Int}, (∀ x ∈ l, 0 ≤ x.1) → ∀ x ∈ skip s l, 0 ≤ x.1 := by
      intro l s
      induction l with
      | nil => intro hl x hx; exact hl x hx
      | cons a l ih =>
        intro hl x hx
        cases l with
        | nil => exact hl x hx
        | cons b l =>
          unfold skip at hx
          split at hx
          · exact ih (fun z hz => hl z (List.mem_cons_of_mem _ hz)) x hx
          · exact hl x hx
    have := hl y (by simp)
    rw [e s h0]
    exact Gre.more (ih (sk hl) (by unfold ende; split <;> omega))
theorem Canon.congr {f g : Int → Int} {G : List Rw} (h : Canon f G) (e : ∀ t, 0 ≤ t → f t = g t) : Canon g G := by
  obtain ⟨l, hs, hg⟩ := h
  have hd : ∀ t, 0 ≤ t → der f t = der g t := fun t ht => by unfold der; rw [e t ht, e (t + 1) (by omega)]
  refine ⟨l, ⟨runs_congr hd (fun x hx => by have z := hs.zero; rw [hx] at z; have : x.1 = 0 := by simpa using z
                                            omega) hs.runs, hs.dist, hs.zero⟩, gre_congr e hg (runs_pos hs.runs 0 hs.zero) (Int.le_refl _)⟩
theorem Ris.congr {f g : Int → Int} (R : Ris f) (e : ∀ t, 0 ≤ t → f t = g t) : Ris g := ⟨fun t ht => by rw [← e t ht]; exact R.ge t ht, fun t ht => by rw [← e t ht, ← e (t + 1) (by omega)]; exact R.mo t ht⟩
/-- from here on every map that is handed on grows -/
def Up (f : Int → Int) : Prop := ∀ t, 4000 ≤ t → f (t + 1) = f t + 1
/-- the rows of a map that is handed on -/
structure Rz (F : List Rw) : Prop where
  r : Right F
  c : Canon (valueAt F) F
  u : Up (valueAt F)
theorem Rz.ris {F : List Rw} (h : Rz F) : Ris (valueAt F) := ris_of h.r
theorem Rz.bd {F : List Rw} (h : Rz F) : ∀ r ∈ F, r.1 ≤ 4001 := fun r hr => canon_bd h.c (B := 4000) h.u (by decide) r hr
theorem good_start : ∀ {rs : List Rw} {r : Rw}, Good r rs → 0 ≤ r.1 → ∀ q ∈ r :: rs, 0 ≤ q.1
  | [], r, _, h0, q, hq => by simp at hq; subst hq; exact h0
  | p :: rs, r, h, h0, q, hq => by
    rcases List.mem_cons.mp hq with rfl | hq
    · exact h0
    · exact good_start h.2 (by have := h.1.s; omega) q hq
theorem good_val : ∀ {rs : List Rw} {r : Rw}, Good r rs → r.1 ≤ r.2.1 → ∀ q ∈ r :: rs, q.1 ≤ q.2.1
  | [], r, _, h0, q, hq => by simp at hq; subst hq; exact h0
  | p :: rs, r, h, h0, q, hq => by
    rcases List.mem_cons.mp hq with rfl | hq
    · exact h0
    · exact good_val h.2 h.1.v q hq
theorem right_start {F : List Rw} (h : Right F) : ∀ q ∈ F, 0 ≤ q.1 := by
  cases F with
  | nil => intro q hq; cases hq
  | cons r rs => exact good_start h.2.2 (by have := h.1; omega)
theorem right_val {F : List Rw} (h : Right F) : ∀ q ∈ F, q.1 ≤ q.2.1 := by
  cases F with
  | nil => intro q hq; cases hq
  | cons r rs => exact good_val h.2.2 (by have := h.1; have := h.2.1; omega)
theorem good_len' : ∀ {r : Rw} {rs : List Rw} {B : Int}, Good r rs → (∀ q ∈ r :: rs, q.1 ≤ B) → r.1 + rs.length ≤ B
  | r, [], B, _, h => by have := h r (by simp); simpa using this
  | r, q :: rs, B, hg, h => by
    have := good_len' hg.2 (fun p hp => h p (List.mem_cons_of_mem _ hp))
    have := hg.1.s
    simp; omega
theorem right_len' {F : List Rw} (h : Right F) {B : Int} (b : ∀ q ∈ F, q.1 ≤ B) : (F.length : Int) ≤ B + 1 := by
  cases F with
  | nil => exact h.elim
  | cons r rs => have := good_len' h.2.2 b; have := h.1; simp; omega
theorem Rz.len {F : List Rw} (h : Rz F) : F.length ≤ 4002 := by
  have := right_len' h.r h.bd
  omega
theorem rz_of {f : Int → Int} (R : Ris f) (u : Up f) {G : List Rw} (c : Canon f G) : Rz G ∧ ∀ t, 0 ≤ t → valueAt G t = f t := by
  obtain ⟨r, v⟩ := c.right R
  refine ⟨⟨r, c.congr fun t ht => (v t ht).symm, fun t ht => ?_⟩, v⟩
  rw [v t (by omega), v (t + 1) (by omega)]
  exact u t ht
theorem Rz.eq {F G : List Rw} (h : Rz F) (k : Rz G) (e : ∀ t, 0 ≤ t → valueAt F t = valueAt G t) : F = G := h.c.uniq k.c e
theorem Rz.eq_iff {F G : List Rw} (h : Rz F) (k : Rz G) : F = G ↔ ∀ t, 0 ≤ t → valueAt F t = valueAt G t := ⟨fun e t _ => by rw [e], h.eq k⟩
theorem Rz.grd {F : List Rw} (h : Rz F) {f : Int → Int} (e : ∀ t, 0 ≤ t → valueAt F t = f t) : Grd f 0 F := (h.c.congr e).grd (h.ris.congr e)
/-! ### what the operations give -/
theorem ris_pick {f g : Int → Int} (F : Ris f) (G : Ris g) (most : Bool) : Ris fun t => pick most (f t) (g t) := by
  refine ⟨fun t ht => ?_, fun t ht => ?_⟩
  · have := F.ge t ht; have := G.ge t ht
    unfold pick
    cases most <;> simp only [if_true, Bool.false_eq_true, if_false] <;> split <;> omega
  · have := F.mo t ht; have := G.mo t ht
    unfold pick
    cases most <;> simp only [if_true, Bool.false_eq_true, if_false] <;> split <;> split <;> omega
theorem up_pick {f g : Int → Int} (F : Up f) (G : Up g) (most : Bool) : Up fun t => pick most (f t) (g t) := fun t ht => by
  have := F t ht; have := G t ht
  dsimp only; unfold pick
  cases most <;> simp only [if_true, Bool.false_eq_true, if_false] <;> split <;> split <;> omega
theorem ris_comp {f g : Int → Int} (F : Ris f) (G : Ris g) : Ris fun t => g (f t) := ⟨fun t ht => by
    have a := F.ge t ht; have := G.ge (f t) (by omega); omega, fun t ht => G.le (by have := F.ge t ht; omega) (F.mo t ht)⟩
theorem up_comp {f g : Int → Int} (F : Ris f) (uf : Up f) (ug : Up g) : Up fun t => g (f t) := fun t ht => by
  have := F.ge t (by omega)
  dsimp only
  rw [uf t ht]
  exact ug (f t) (by omega)
theorem ris_add {f : Int → Int} (F : Ris f) {n : Int} (hn : 0 ≤ n) : Ris fun t => f t + n := ⟨fun t ht => by have := F.ge t ht; omega, fun t ht => by have := F.mo t ht; omega⟩
theorem up_add {f : Int → Int} (F : Up f) {n : Int} : Up fun t => f t + n := fun t ht => by have := F t ht; dsimp only; omega
/-- merged rows are right, with the values wanted -/
theorem mer_right {A B : List Rw} (hA : Rz A) (hB : Rz B) (most : Bool) {ns : List Int} (hp : ns.Pairwise (· < ·)) (hm : ∀ k, k ∈ ns ↔ ∃ q ∈ A ++ B, q.1 = k) :
    Right (merR (valueAt A) (valueAt B) most ns) ∧ (∀ t, 0 ≤ t → valueAt (merR (valueAt A) (valueAt B) most ns) t = pick most (valueAt A t) (valueAt B t)) ∧ ∀ q ∈ merR (valueAt A) (valueAt B) most ns, q.1 ≤ 4001 := by
  have st : ∀ n ∈ ns, 0 ≤ n ∧ n ≤ 4001 := fun n hn => by
    obtain ⟨q, hq, rfl⟩ := (hm n).mp hn
    rcases List.mem_append.mp hq with h | h
    · exact ⟨right_start hA.r q h, hA.bd q h⟩
    · exact ⟨right_start hB.r q h, hB.bd q h⟩
  obtain ⟨a, A', eA⟩ : ∃ a A', A = a :: A' := by
    cases A with
    | nil => exact hA.r.elim
    | cons a A => exact ⟨a, A, rfl⟩
  have h0 : (0 : Int) ∈ ns := (hm 0).mpr ⟨a, by rw [eA]; simp, by have := hA.r; rw [eA] at this; exact this.1⟩
  cases ns with
  | nil => cases h0
  | cons s ns =>
    have hs : s = 0 := by
      have h1 := (st s (by simp)).1
      rcases List.mem_cons.mp h0 with h | h
      · exact h.symm
      · have := (List.pairwise_cons.mp hp).1 0 h
        omega
    subst hs
    have c := mer_cut hA.r hB.r (F := fun t => pick most (valueAt A t) (valueAt B t)) (most := most) (fun t _ => rfl) (Int.le_refl 0) hp (fun q hq hq0 => by
      rcases List.mem_cons.mp ((hm q.1).mpr ⟨q, hq, rfl⟩) with h | h
      · omega
      · exact h)
    obtain ⟨r, v⟩ := c.right (ris_pick hA.ris hB.ris most)
    exact ⟨r, v, mer_bd fun n hn => (st n hn).2⟩
theorem tog_right {A B : List Rw} (hA : Rz A) (hB : Rz B) :
    Right (togR (valueAt B) (covs B) (covs A)) ∧ (∀ t, 0 ≤ t → valueAt (togR (valueAt B) (covs B) (covs A)) t = valueAt B (valueAt A t)) ∧ ∀ q ∈ togR (valueAt B) (covs B) (covs A), q.1 ≤ 4001 := by
  have bd := tog_bd (g := valueAt B) (G := B) (F := A) (B := 4001) (fun r hr => ⟨right_val hA.r r hr, hA.bd r hr⟩) hB.bd
  cases A with
  | nil => exact hA.r.elim
  | cons a A =>
    have ha := hA.r
    have c := tog_cut (F := fun t => valueAt B (valueAt (a :: A) t)) (f := valueAt (a :: A)) hB.r (fun t _ => rfl) ha.2.2 (by have := ha.1; omega) (right_val ha a (by simp)) (fun t _ => rfl)
    rw [ha.1] at c
    obtain ⟨r, v⟩ := c.right (ris_comp hA.ris hB.ris)
    exact ⟨r, v, bd⟩
theorem le_iff {A B : List Rw} (hA : Rz A) (hB : Rz B) {H : List Rw} (c : Canon (fun t => pick true (valueAt A t) (valueAt B t)) H) : H = B ↔ ∀ t, 0 ≤ t → valueAt A t ≤ valueAt B t := by
  obtain ⟨hH, v⟩ := rz_of (ris_pick hA.ris hB.ris true) (up_pick hA.u hB.u true) c
  rw [hH.eq_iff hB]
  refine ⟨fun h t ht => ?_, fun h t ht => ?_⟩
  · have := h t ht
    rw [v t ht] at this
    simp only [pick, if_true] at this
    split at this <;> omega
  · have := h t ht
    rw [v t ht]
    simp only [pick, if_true]
    split <;> omega
/-! ### the values of the laws -/
theorem rz_rows {vs : List Int} (V : VOk vs) (hl : vs.length ≤ 4000) {rs G : List Rw} (h : RowsOf vs rs) (c : Canon (valueAt rs) G) : Rz G ∧ ∀ t, 0 ≤ t → valueAt G t = valF vs t := by
  obtain ⟨z, v⟩ := rz_of (ris_of h.right) (fun t ht => by rw [h.val t (by omega), h.val (t + 1) (by omega), valF_up V.ne t (by omega)]) c
  exact ⟨z, fun t ht => by rw [v t ht, h.val t ht]⟩
/-- values minute by minute give back the map -/
theorem valF_of {f : Int → Int} (R : Ris f) {n : Nat} (hn : 0 < n) (hu : ∀ t, (n : Int) - 1 ≤ t → f (t + 1) = f t + 1) {vs : List Int} (hl : vs.length = n) (hv : ∀ (i : Nat), i < n → vs[i]? = some (f i)) : VOk vs ∧ ∀ t, 0 ≤ t → valF vs t = f t := by
  have ne : vs ≠ [] := fun e => by rw [e] at hl; simp at hl; omega
  have up : ∀ k : Nat, f ((n : Int) - 1 + k) = f ((n : Int) - 1) + k := by
    intro k
    induction k with
    | zero => simp
    | succ k ih =>
      have := hu ((n : Int) - 1 + k) (by omega)
      rw [show ((n : Int) - 1 + ((k + 1 : Nat) : Int)) = (n : Int) - 1 + k + 1 by omega, this, ih]
      omega
  have lst : vs.getLastD 0 = f ((n : Int) - 1) := by
    have h1 := hv (n - 1) (by omega)
    rw [← hl] at h1
    rw [List.getLastD_eq_getLast?, List.getLast?_eq_getElem?, h1]
    simp only [Option.getD_some]
    congr 1
    omega
  refine ⟨⟨ne, fun i v h => ?_, fun i v w h1 h2 => ?_⟩, fun t ht => ?_⟩
  · have hi : i < n := by rw [← hl]; exact (List.getElem?_eq_some_iff.mp h).1
    rw [hv i hi] at h
    cases h
    exact R.ge i (by omega)
  · have hi : i + 1 < n := by rw [← hl]; exact (List.getElem?_eq_some_iff.mp h2).1
    rw [hv i (by omega)] at h1
    rw [hv (i + 1) hi] at h2
    cases h1; cases h2
    exact R.mo i (by omega)
  · by_cases c : t < n
    · have := valF_in (hv t.toNat (by omega))
      rw [show ((t.toNat : Nat) : Int) = t by omega] at this
      exact this
    · rw [valF_out ne (by omega), lst, hl]
      have := up (t - ((n : Int) - 1)).toNat
      rw [show ((n : Int) - 1 + ((t - ((n : Int) - 1)).toNat : Nat)) = t by omega] at this
      rw [this]
      omega
end RM

namespace KE83
open PySem PySem.Spec L2 DL
def cN : List Str := ["BadName", "BadNumber", "BadRows", "BadWay", "BadRing", "BadPaper", "BadRides", "BadText", "BadDeed", "TooMany", "NotKept", "NothingToUndo"]
def kC (K : PySem.W.Frag) (k : Int) : Addr := He.ga K (cN.getD k.toNat "")
def kitsB (K : PySem.W.Frag) : Bool := (List.range 12).all fun k => (List.range 12).all fun j => decide (PySem.W.kitOne K (.ref (He.ga K (cN.getD k ""))) (.ref (He.ga K (cN.getD j ""))) = some (decide (k = j)))
def calsB (K : PySem.W.Frag) : Bool := (List.range 12).all fun k => decide (PySem.W.kitOne K (.ref (He.ga K (cN.getD k ""))) (.ref (He.ga K "CalendarError")) = some true) && (decide (PySem.W.kitOne K (.ref (He.ga K (cN.getD k ""))) (.type "ValueError") = some true) && (decide (PySem.W.exmOne K (.ref (He.ga K (cN.getD k ""))) (.ref (He.ga K "CalendarError")) = some true) && excCB K (He.ga K (cN.getD k ""))))
theorem cals_ok {K : PySem.W.Frag} (h : calsB K = true) {k : Int} (h0 : 0 ≤ k) (h1 : k < 12) : PySem.W.kitOne K (.ref (kC K k)) (.ref (He.ga K "CalendarError")) = some true ∧ PySem.W.kitOne K (.ref (kC K k)) (.type "ValueError") = some true ∧ PySem.W.exmOne K (.ref (kC K k)) (.ref (He.ga K "CalendarError")) = some true ∧ ExcC K (kC K k) := by
  have := List.all_eq_true.mp h k.toNat (List.mem_range.mpr (by omega))
  simp only [Bool.and_eq_true, decide_eq_true_eq] at this
  exact ⟨this.1, this.2.1, this.2.2.1, excCB_ok this.2.2.2⟩
theorem kits_ok {K : PySem.W.Frag} (h : kitsB K = true) {k : Int} (h0 : 0 ≤ k) (h1 : k < 12) (j : Nat) (hj : j < 12) : PySem.W.kitOne K (.ref (kC K k)) (.ref (He.ga K (cN.getD j ""))) = some (decide (k = (j : Int))) := by
  have := List.all_eq_true.mp (List.all_eq_true.mp h k.toNat (List.mem_range.mpr (by omega))) j (List.mem_range.mpr hj)
  rw [decide_eq_true_eq] at this
  unfold kC
  rw [this]
  congr 1
  rw [Bool.eq_iff_iff]; simp only [decide_eq_true_eq]; omega
def kF (k : Int) (a c d e : Str) (b : Int) : List (Str × Dt) := match k.toNat with
  | 0 => [("name", .str a)] | 1 => [("what", .str a), ("value", .int b)] | 2 => [("place", .int b)] | 3 => [("start", .str a), ("end", .str c)] | 4 => [("names", .lst [.str d, .str e])]
  | 5 => [("row", .int b), ("reason", .str c)] | 6 => [("place", .int b)] | 7 => [("line", .int b)] | 8 => [("place", .int b)] | 9 => [("limit", .int b)] | _ => []
def letB (c : Nat) : Bool := decide (97 ≤ c ∧ c ≤ 122)
/-- a word: letters alone -/
def Wd (z : Str) : Prop := z.length ≤ 8 ∧ ∀ c ∈ z.cps.toList, letB c = true
theorem Wd.ok {z : Str} (h : Wd z) : PyData.strOk z = true := by
  unfold PyData.strOk
  rw [← Array.all_toList, List.all_eq_true]
  intro c hc
  have := h.2 c hc
  unfold letB at this
  rw [decide_eq_true_eq] at this ⊢
  omega
theorem join_wd : ∀ {ys : List Str}, (∀ y ∈ ys, y.length = 1 ∧ ∀ c ∈ y.cps.toList, letB c = true) → (Str.join "" ys).length = ys.length ∧ ∀ c ∈ (Str.join "" ys).cps.toList, letB c = true
  | [], _ => ⟨rfl, fun c hc => by simp [Str.join, Str.empty] at hc⟩
  | [x], h => by
    obtain ⟨h1, h2⟩ := h x (by simp)
    exact ⟨by simpa [Str.join] using h1, by simpa [Str.join] using h2⟩
  | x :: y :: ys, h => by
    obtain ⟨h1, h2⟩ := h x (by simp)
    obtain ⟨g1, g2⟩ := join_wd (ys := y :: ys) fun z hz => h z (List.mem_cons_of_mem _ hz)
    have e0 : (("" : Str)).length = 0 := by decide +kernel
    have e1 : (("" : Str)).cps.toList = [] := by decide +kernel
    refine ⟨?_, fun c hc => ?_⟩
    · show (x ++ "" ++ Str.join "" (y :: ys)).length = _
      rw [app_len, app_len, h1, e0, g1]; simp only [List.length_cons]; omega
    · have hc : c ∈ (x ++ "" ++ Str.join "" (y :: ys)).cps.toList := hc
      rw [app_list, app_list, e1, List.mem_append, List.mem_append] at hc
      rcases hc with (hc | hc) | hc
      · exact h2 c hc
      · cases hc
      · exact g2 c hc
def vT (a c d e : Str) (b : Int) : Dt := .tup [.str a, .int b, .str c, .lst [.str d, .str e]]
theorem rng_at {n : Int} {j : Nat} {x : Dt} (h : (rngD 0 n)[j]? = some x) : x = .int (j : Int) ∧ (j : Int) < n := by
  have hj : j < (rngD 0 n).length := (List.getElem?_eq_some_iff.mp h).1
  have hl := hj
  rw [rngD_len] at hl
  unfold rngD at h
  rw [List.getElem?_map, List.getElem?_range (by omega)] at h
  simp only [Option.map_some, Option.some.injEq] at h
  exact ⟨by rw [← h]; simp, by omega⟩
theorem let_ok {j c : Nat} (h : ("abcdefghijklmnopqrstuvwxyz" : Str).cps.toList[j]? = some c) : letB c = true := by
  have : ∀ c ∈ ("abcdefghijklmnopqrstuvwxyz" : Str).cps.toList, letB c = true := by decide +kernel
  exact this c (List.mem_of_getElem? h)
theorem sum_ones : ∀ {ys : List Str}, (∀ y ∈ ys, y.length = 1 ∧ ∀ c ∈ y.cps.toList, letB c = true) → (ys.map (·.length)).sum = ys.length
  | [], _ => rfl
  | y :: ys, h => by
    rw [List.map_cons, List.sum_cons, sum_ones fun z hz => h z (List.mem_cons_of_mem _ hz), (h y (by simp)).1, List.length_cons]; omega
theorem wd_join {ys : List Str} (h : ∀ y ∈ ys, y.length = 1 ∧ ∀ c ∈ y.cps.toList, letB c = true) (hl : ys.length ≤ 8) : Wd (Txt.join "" ys) := by
  rw [TL.join_eq]
  obtain ⟨h1, h2⟩ := join_wd h
  exact ⟨by omega, h2⟩
theorem four {ss : List Str} (h : ss.length = 4) : ∃ a b c d, ss = [a, b, c, d] := by
  match ss, h with
  | [a, b, c, d], _ => exact ⟨a, b, c, d, rfl⟩
def kL (k : Int) : List Dt := (List.range 12).map fun j : Nat => Dt.bl (decide (k = (j : Int)))
theorem kL_len (k : Int) : (kL k).length = 12 := by simp [kL]
theorem kL_at {k : Int} {j : Nat} (h : j < 12) : (kL k)[j]? = some (Dt.bl (decide (k = (j : Int)))) := by
  unfold kL
  rw [List.getElem?_map, List.getElem?_range h]; rfl
end KE83
open KE83
namespace LW
open PySem PySem.Spec L2 DL PySem.NumText
def top (i : Nat) : Stmt := PySem.Challenge.pw_laterways_k83_kinds_of_errors.main.body.getD i (.Pass ⟨0, 0, 0, 0⟩)
abbrev s_law_start : Stmt := top 15
abbrev s_law_draw : Stmt := top 16
abbrev s_law_kinds : Stmt := top 17
abbrev s_law_throw : Stmt := top 18
abbrev s_law_caught : Stmt := top 19
abbrev s_law_holds : Stmt := top 20
abbrev s_law_values : Stmt := top 21
abbrev s_law : Stmt := top 22
theorem sc_law_start : FnScope ["_law_script", "_law_first"] ["_law_script"] (defScope s_law_start) := ⟨rfl, rfl, rfl, by decide +kernel, rfl, by decide +kernel, by decide +kernel⟩
theorem sc_law_draw : FnScope ["_law_script", "_law_state", "_law_limit", "_law_number", "_law_cell", "_law_mixed"] ["_law_script", "_law_state", "_law_limit"] (defScope s_law_draw) := ⟨rfl, rfl, rfl, by decide +kernel, rfl, by decide +kernel, by decide +kernel⟩
theorem sc_law_kinds : FnScope ["_law_fell", "_law_kinds_here"] ["_law_fell"] (defScope s_law_kinds) := ⟨rfl, rfl, rfl, by decide +kernel, rfl, by decide +kernel, by decide +kernel⟩
theorem sc_law_throw : FnScope ["_law_kind", "_law_values_here"] ["_law_kind", "_law_values_here"] (defScope s_law_throw) := ⟨rfl, rfl, rfl, by decide +kernel, rfl, by decide +kernel, by decide +kernel⟩
theorem sc_law_caught : FnScope ["_law_kind", "_law_values_here", "_law_fell", "e"] ["_law_kind", "_law_values_here"] (defScope s_law_caught) := ⟨rfl, rfl, rfl, by decide +kernel, rfl, by decide +kernel, by decide +kernel⟩
theorem sc_law_holds : FnScope ["_law_fell", "_law_kind", "_law_values_here", "_law_kinds_here", "_law_at"] ["_law_fell", "_law_kind", "_law_values_here"] (defScope s_law_holds) := ⟨rfl, rfl, rfl, by decide +kernel, rfl, by decide +kernel, by decide +kernel⟩
theorem sc_law_values : FnScope ["_law_script", "_law_state", "_law_letters", "_law_words", "_law_k", "_law_j"] ["_law_script", "_law_state"] (defScope s_law_values) := ⟨rfl, rfl, rfl, by decide +kernel, rfl, by decide +kernel, by decide +kernel⟩
theorem sc_law : FnScope ["_law_script", "_law_state", "_law_kind", "_law_first", "_law_second", "_law_one", "_law_two"] ["_law_script"] (defScope s_law) := ⟨rfl, rfl, rfl, by decide +kernel, rfl, by decide +kernel, by decide +kernel⟩
structure Tx (P : Program) (K : PySem.W.Frag) (mg : Str → Option Value) : Prop where
  b_ValueError : mg "ValueError" = none
  b_abs : mg "abs" = none
  b_int : mg "int" = none
  b_isinstance : mg "isinstance" = none
  b_len : mg "len" = none
  b_list : mg "list" = none
  b_range : mg "range" = none
  g_BadDeed : mg "BadDeed" = some (.ref (He.ga K "BadDeed"))
  g_BadName : mg "BadName" = some (.ref (He.ga K "BadName"))
  g_BadNumber : mg "BadNumber" = some (.ref (He.ga K "BadNumber"))
  g_BadPaper : mg "BadPaper" = some (.ref (He.ga K "BadPaper"))
  g_BadRides : mg "BadRides" = some (.ref (He.ga K "BadRides"))
  g_BadRing : mg "BadRing" = some (.ref (He.ga K "BadRing"))
  g_BadRows : mg "BadRows" = some (.ref (He.ga K "BadRows"))
  g_BadText : mg "BadText" = some (.ref (He.ga K "BadText"))
  g_BadWay : mg "BadWay" = some (.ref (He.ga K "BadWay"))
  g_CalendarError : mg "CalendarError" = some (.ref (He.ga K "CalendarError"))
  g_NotKept : mg "NotKept" = some (.ref (He.ga K "NotKept"))
  g_NothingToUndo : mg "NothingToUndo" = some (.ref (He.ga K "NothingToUndo"))
  g_TooMany : mg "TooMany" = some (.ref (He.ga K "TooMany"))
  E_BadDeed : ErrK P K mg "BadDeed" (He.ga K "BadDeed") ["place"]
  E_BadName : ErrK P K mg "BadName" (He.ga K "BadName") ["name"]
  E_BadNumber : ErrK P K mg "BadNumber" (He.ga K "BadNumber") ["what", "value"]
  E_BadPaper : ErrK P K mg "BadPaper" (He.ga K "BadPaper") ["row", "reason"]
  E_BadRides : ErrK P K mg "BadRides" (He.ga K "BadRides") ["place"]
  E_BadRing : ErrK P K mg "BadRing" (He.ga K "BadRing") ["names"]
  E_BadRows : ErrK P K mg "BadRows" (He.ga K "BadRows") ["place"]
  E_BadText : ErrK P K mg "BadText" (He.ga K "BadText") ["line"]
  E_BadWay : ErrK P K mg "BadWay" (He.ga K "BadWay") ["start", "end"]
  E_TooMany : ErrK P K mg "TooMany" (He.ga K "TooMany") ["limit"]
  f_law_start : ∃ fd, FunD K "_law_start" "_law_start" (defArgs s_law_start) (defBody s_law_start) (defScope s_law_start) [] [] (He.fAd K ("_law_start", none)) fd
  g_law_start : mg "_law_start" = some (.ref (He.ga K "_law_start"))
  f_law_draw : ∃ fd, FunD K "_law_draw" "_law_draw" (defArgs s_law_draw) (defBody s_law_draw) (defScope s_law_draw) [] [] (He.fAd K ("_law_draw", none)) fd
  g_law_draw : mg "_law_draw" = some (.ref (He.ga K "_law_draw"))
  f_law_kinds : ∃ fd, FunD K "_law_kinds" "_law_kinds" (defArgs s_law_kinds) (defBody s_law_kinds) (defScope s_law_kinds) [] [] (He.fAd K ("_law_kinds", none)) fd
  g_law_kinds : mg "_law_kinds" = some (.ref (He.ga K "_law_kinds"))
  f_law_throw : ∃ fd, FunD K "_law_throw" "_law_throw" (defArgs s_law_throw) (defBody s_law_throw) (defScope s_law_throw) [] [] (He.fAd K ("_law_throw", none)) fd
  g_law_throw : mg "_law_throw" = some (.ref (He.ga K "_law_throw"))
  f_law_caught : ∃ fd, FunD K "_law_caught" "_law_caught" (defArgs s_law_caught) (defBody s_law_caught) (defScope s_law_caught) [] [] (He.fAd K ("_law_caught", none)) fd
  g_law_caught : mg "_law_caught" = some (.ref (He.ga K "_law_caught"))
  f_law_holds : ∃ fd, FunD K "_law_holds" "_law_holds" (defArgs s_law_holds) (defBody s_law_holds) (defScope s_law_holds) [] [] (He.fAd K ("_law_holds", none)) fd
  g_law_holds : mg "_law_holds" = some (.ref (He.ga K "_law_holds"))
  f_law_values : ∃ fd, FunD K "_law_values" "_law_values" (defArgs s_law_values) (defBody s_law_values) (defScope s_law_values) [] [] (He.fAd K ("_law_values", none)) fd
  g_law_values : mg "_law_values" = some (.ref (He.ga K "_law_values"))
  f_law : ∃ fd, FunD K "law" "law" (defArgs s_law) (defBody s_law) (defScope s_law) [] [] (He.fAd K ("law", none)) fd
  g_law : mg "law" = some (.ref (He.ga K "law"))
  kits : (kitsB K = true)
  cals : (calsB K = true)
  Z_NotKept : Err0K K mg "NotKept" (He.ga K "NotKept")
  Z_NothingToUndo : Err0K K mg "NothingToUndo" (He.ga K "NothingToUndo")
set_option hygiene false
local macro_rules
  | `(tactic| w_dflts wM) => `(tactic| first | exact hR _ h | exact hR _ _ h | exact hY _ _ h | exact hY _ _ _ h | exact h | (refine ⟨h.1, ?_⟩; replace h := h.2; w_dflts wM) | (intro x; replace h := h x; w_dflts wM) | (refine ⟨fun z => ?_, fun z => ?_⟩; (· replace h := h.1 z; w_dflts wM); (· replace h := h.2 z; w_dflts wM)) | (obtain ⟨x, h⟩ := h; refine ⟨x, ?_⟩; w_dflts wM))
set_option hygiene true

def Q_law_start (K : PySem.W.Frag) (ns : List Int) (R : Sl → Prop) (Y : Addr → List (Str × Dt) → Prop) : Prop := (∀ a, R (.os a St4))
def S_law_start (K : PySem.W.Frag) : DSp := fun args R Y => ∃ (ns : List Int), args = [.fr (.scr ns)] ∧ Q_law_start K ns (fun r => R r [.fr (.scr ns)]) (fun C fs => Y C fs [.fr (.scr ns)])
instance {K : PySem.W.Frag} {ns : List Int}  {R : Sl → Prop} {Y : Addr → List (Str × Dt) → Prop} : Wk (CallS (S_law_start K) [.scr ns] R Y) (∀ a, R (.os a St4)) := ⟨fun hW => ⟨ns, rfl, hW⟩⟩
def Q_law_draw (K : PySem.W.Frag) (ns : List Int) (a : Addr) (m : Int) (R : Sl → Sl → Prop) (Y : Addr → List (Str × Dt) → Sl → Prop) : Prop := (Side (0 < m ∧ m < 1073741824) (∀ n : Int, 0 ≤ n → n < m → R (.fr (.int n)) (.os a St4)))
theorem mo_law_draw {K : PySem.W.Frag} {ns : List Int} {a : Addr} {m : Int} {R R2 : Sl → Sl → Prop} {Y Y2 : Addr → List (Str × Dt) → Sl → Prop} (hR : ∀ x s, R x s → R2 x s) (hY : ∀ C fs s, Y C fs s → Y2 C fs s) (h : Q_law_draw K ns a m R Y) : Q_law_draw K ns a m R2 Y2 := by
  unfold Q_law_draw at h ⊢
  w_dflts wM
def S_law_draw (K : PySem.W.Frag) : DSp := fun args R Y => ∃ (ns : List Int) (a : Addr) (m : Int), args = [.fr (.scr ns), .os a St4, .fr (.int m)] ∧ Q_law_draw K ns a m (fun r s => R r [.fr (.scr ns), s, .fr (.int m)]) (fun C fs s => Y C fs [.fr (.scr ns), s, .fr (.int m)])
instance {K : PySem.W.Frag} {ns : List Int} {a : Addr} {m : Int}  {R : Sl → Sl → Prop} {Y : Addr → List (Str × Dt) → Sl → Prop} : Wk (CallB (S_law_draw K) [.scr ns] [.int m] (.os a St4) R Y) (Side (0 < m ∧ m < 1073741824) (∀ n : Int, 0 ≤ n → n < m → R (.fr (.int n)) (.os a St4))) := ⟨fun hW => ⟨ns, a, m, rfl, mo_law_draw (fun _ s z => ⟨s, rfl, z⟩) (fun _ _ s z => ⟨s, rfl, z⟩) hW⟩⟩
def Q_law_kinds (K : PySem.W.Frag) (k : Int) (fs : List (Str × Dt)) (R : Sl → Prop) (Y : Addr → List (Str × Dt) → Prop) : Prop := (Side (0 ≤ k ∧ k < 12) (∀ b, R (.ol b (kL k))))
def S_law_kinds (K : PySem.W.Frag) : DSp := fun args R Y => ∃ (k : Int) (fs : List (Str × Dt)), args = [.fr (.exc (kC K k) fs)] ∧ Q_law_kinds K k fs (fun r => R r [.fr (.exc (kC K k) fs)]) (fun C fs => Y C fs [.fr (.exc (kC K k) fs)])
instance {K : PySem.W.Frag} {k : Int} {fs : List (Str × Dt)}  {R : Sl → Prop} {Y : Addr → List (Str × Dt) → Prop} : Wk (CallS (S_law_kinds K) [.exc (kC K k) fs] R Y) (Side (0 ≤ k ∧ k < 12) (∀ b, R (.ol b (kL k)))) := ⟨fun hW => ⟨k, fs, rfl, hW⟩⟩
def Q_law_throw (K : PySem.W.Frag) (k : Int) (a c d e : Str) (b : Int) (R : Sl → Prop) (Y : Addr → List (Str × Dt) → Prop) : Prop := (Side (0 ≤ k ∧ k < 12) (Y (kC K k) (kF k a c d e b)))
def S_law_throw (K : PySem.W.Frag) : DSp := fun args R Y => ∃ (k : Int) (a c d e : Str) (b : Int), args = [.fr (.int k), .fr (vT a c d e b)] ∧ Q_law_throw K k a c d e b (fun r => R r [.fr (.int k), .fr (vT a c d e b)]) (fun C fs => Y C fs [.fr (.int k), .fr (vT a c d e b)])
instance {K : PySem.W.Frag} {k : Int} {a c d e : Str} {b : Int}  {R : Sl → Prop} {Y : Addr → List (Str × Dt) → Prop} : Wk (CallS (S_law_throw K) [.int k, vT a c d e b] R Y) (Side (0 ≤ k ∧ k < 12) (Y (kC K k) (kF k a c d e b))) := ⟨fun hW => ⟨k, a, c, d, e, b, rfl, hW⟩⟩
def Q_law_caught (K : PySem.W.Frag) (k : Int) (a c d e : Str) (b : Int) (R : Sl → Prop) (Y : Addr → List (Str × Dt) → Prop) : Prop := (Side (0 ≤ k ∧ k < 12) (R (.fr (.exc (kC K k) (kF k a c d e b)))))
def S_law_caught (K : PySem.W.Frag) : DSp := fun args R Y => ∃ (k : Int) (a c d e : Str) (b : Int), args = [.fr (.int k), .fr (vT a c d e b)] ∧ Q_law_caught K k a c d e b (fun r => R r [.fr (.int k), .fr (vT a c d e b)]) (fun C fs => Y C fs [.fr (.int k), .fr (vT a c d e b)])
instance {K : PySem.W.Frag} {k : Int} {a c d e : Str} {b : Int}  {R : Sl → Prop} {Y : Addr → List (Str × Dt) → Prop} : Wk (CallS (S_law_caught K) [.int k, vT a c d e b] R Y) (Side (0 ≤ k ∧ k < 12) (R (.fr (.exc (kC K k) (kF k a c d e b))))) := ⟨fun hW => ⟨k, a, c, d, e, b, rfl, hW⟩⟩
def Q_law_holds (K : PySem.W.Frag) (k : Int) (a c d e : Str) (b : Int) (R : Sl → Prop) (Y : Addr → List (Str × Dt) → Prop) : Prop := (Side ((0 ≤ k ∧ k < 12) ∧ Wd a ∧ Wd c ∧ Wd d ∧ Wd e) (R (.fr (.bl true))))
def S_law_holds (K : PySem.W.Frag) : DSp := fun args R Y => ∃ (k : Int) (a c d e : Str) (b : Int), args = [.fr (.exc (kC K k) (kF k a c d e b)), .fr (.int k), .fr (vT a c d e b)] ∧ Q_law_holds K k a c d e b (fun r => R r [.fr (.exc (kC K k) (kF k a c d e b)), .fr (.int k), .fr (vT a c d e b)]) (fun C fs => Y C fs [.fr (.exc (kC K k) (kF k a c d e b)), .fr (.int k), .fr (vT a c d e b)])
instance {K : PySem.W.Frag} {k : Int} {a c d e : Str} {b : Int}  {R : Sl → Prop} {Y : Addr → List (Str × Dt) → Prop} : Wk (CallS (S_law_holds K) [.exc (kC K k) (kF k a c d e b), .int k, vT a c d e b] R Y) (Side ((0 ≤ k ∧ k < 12) ∧ Wd a ∧ Wd c ∧ Wd d ∧ Wd e) (R (.fr (.bl true)))) := ⟨fun hW => ⟨k, a, c, d, e, b, rfl, hW⟩⟩
def Q_law_values (K : PySem.W.Frag) (ns : List Int) (a : Addr) (R : Sl → Sl → Prop) (Y : Addr → List (Str × Dt) → Sl → Prop) : Prop := (∀ a1 c d e b, Wd a1 → Wd c → Wd d → Wd e → R (.fr (vT a1 c d e b)) (.os a St4))
theorem mo_law_values {K : PySem.W.Frag} {ns : List Int} {a : Addr} {R R2 : Sl → Sl → Prop} {Y Y2 : Addr → List (Str × Dt) → Sl → Prop} (hR : ∀ x s, R x s → R2 x s) (hY : ∀ C fs s, Y C fs s → Y2 C fs s) (h : Q_law_values K ns a R Y) : Q_law_values K ns a R2 Y2 := by
  unfold Q_law_values at h ⊢
  w_dflts wM
def S_law_values (K : PySem.W.Frag) : DSp := fun args R Y => ∃ (ns : List Int) (a : Addr), args = [.fr (.scr ns), .os a St4] ∧ Q_law_values K ns a (fun r s => R r [.fr (.scr ns), s]) (fun C fs s => Y C fs [.fr (.scr ns), s])
instance {K : PySem.W.Frag} {ns : List Int} {a : Addr}  {R : Sl → Sl → Prop} {Y : Addr → List (Str × Dt) → Sl → Prop} : Wk (CallB (S_law_values K) [.scr ns] [] (.os a St4) R Y) (∀ a1 c d e b, Wd a1 → Wd c → Wd d → Wd e → R (.fr (vT a1 c d e b)) (.os a St4)) := ⟨fun hW => ⟨ns, a, rfl, mo_law_values (fun _ s z => ⟨s, rfl, z⟩) (fun _ _ s z => ⟨s, rfl, z⟩) hW⟩⟩
set_option hygiene false
local macro_rules
  | `(tactic| w_dflts wS) => `(tactic| first
    | omega | assumption | exact Nat.le_of_ble_eq_true rfl | exact rfl | exact True.intro
    | exact St4.mk _ _ _ _ | exact ⟨St4.mk _ _ _ _, True.intro⟩
    | (simp only [List.length_cons, List.length_nil, List.length_append, sizeLine, app_len]; omega)
    | exact .inr ⟨by decide, by decide⟩ | exact .inl ⟨by decide, by decide⟩
    | (refine .inr ⟨?_, ?_⟩ <;> omega) | (refine .inl ⟨?_, ?_⟩ <;> omega)
    | (refine ⟨?_, ?_⟩ <;> omega) | (refine ⟨?_, ?_, ?_⟩ <;> (first | omega | decide))
    | exact ⟨by assumption, by assumption, cnt_lt (by repeat' (first | exact cnt_nil | apply cnt_put)) (by decide)⟩
    | (refine ⟨?_, ?_, ?_⟩ <;> first | assumption | (simp only [List.length_cons, List.length_nil]; omega))
    | (refine ⟨?_, ?_⟩ <;> first | assumption | omega | (constructor; done) | exact True.intro)
    | (refine ⟨?_, ?_, ?_⟩ <;> first | assumption | omega | (constructor; done))
    | (refine ⟨?_, ?_, ?_, ?_⟩ <;> first | assumption | omega | (constructor; done))
    | (refine ⟨?_, ?_, ?_, ?_, ?_⟩ <;> first | assumption | omega | (constructor; done))
    | (constructor; done)
    | (and_intros <;> first | exact True.intro | assumption)
    | decide +kernel)
local macro_rules
  | `(tactic| w_dflts w1) => `(tactic| first
    | with_reducible refine Wk.go ?_
    | ((with_reducible refine isSide ?_); first | refine Side.mk (by w_dflts wS) ?_ | refine Side.mk ?_ ?_)
    | ((with_reducible refine isBrP ?_); first | refine brp_t (by assumption) ?_ | refine brp_f (by assumption) ?_ | (refine BrP.mk (fun hb => ?_) (fun hb => ?_)) <;> (first | (exfalso; omega) | skip))
    | ((with_reducible refine isBr ?_); first | refine br_t (by assumption) ?_ | refine br_f (by assumption) ?_ | refine Br.mk (fun hb => ?_) (fun hb => ?_))
    | ((with_reducible refine isFld ?_); first | refine f_obj (by assumption) (by assumption) rfl ?_ | refine f_exc (by assumption) (by assumption) rfl ?_)
    | ((with_reducible refine hx_yes (by assumption) fun a d => ?_); dsimp only [gOn, gOff, List.set_cons_zero, List.set_cons_succ])
    | with_reducible refine hx_no (by assumption) ?_
    | w_dflts wO
    | with_reducible refine va_of (by assumption) ?_
    | with_reducible refine f_isInt (by assumption) ?_
    | with_reducible refine f_isStr (by assumption) ?_
    | with_reducible refine f_isBl (by assumption) ?_
    | with_reducible refine f_eqS (by assumption) ?_
    | with_reducible refine f_eqD (by assumption) ?_
    | with_reducible refine f_neD (by assumption) ?_
    | with_reducible refine isix_own (by assumption) (by assumption) ?_
    | with_reducible refine isix_ty (by assumption) (by assumption) ?_
    | with_reducible refine x_isO (by assumption) ?_
    | with_reducible refine x_isE (by assumption) (by assumption) ?_
    | with_reducible refine x_isV (by assumption) (by assumption) ?_
    | refine l_ixL rfl ?_
    | refine l_ixT rfl ?_
    | ((with_reducible refine ex_and ?_ ?_); · simp [ExAll, exOk]
       dsimp only [gOff, fixE, fixS, List.set_cons_zero, List.set_cons_succ])
    | with_reducible refine l_eqX rfl ?_
    | with_reducible refine l_neX rfl ?_
    | with_reducible refine ⟨_, rfl, ?_⟩
    | refine ⟨_, rfl, ?_⟩
    | refine ⟨_, _, rfl, ?_⟩
    | with_reducible intro _)
local macro_rules
  | `(tactic| w_dflts wO) => `(tactic| fail "none")
local macro_rules
  | `(tactic| w_dflts wd) => `(tactic| repeat' w_dflts w1)
local macro_rules
  | `(tactic| w_dflts w0) => `(tactic| first
    | with_reducible refine Wk.go ?_
    | ((with_reducible refine isSide ?_); first | refine Side.mk (by w_dflts wS) ?_ | refine Side.mk ?_ ?_)
    | ((with_reducible refine isBrP ?_); first | refine brp_t (by assumption) ?_ | refine brp_f (by assumption) ?_ | (refine BrP.mk (fun hb => ?_) (fun hb => ?_)) <;> (first | (exfalso; omega) | skip))
    | ((with_reducible refine isBr ?_); first | refine br_t (by assumption) ?_ | refine br_f (by assumption) ?_ | refine Br.mk (fun hb => ?_) (fun hb => ?_))
    | ((with_reducible refine isFld ?_); first | refine f_obj (by assumption) (by assumption) rfl ?_ | refine f_exc (by assumption) (by assumption) rfl ?_)
    | ((with_reducible refine hx_yes (by assumption) fun a d => ?_); dsimp only [gOn, gOff, List.set_cons_zero, List.set_cons_succ])
    | with_reducible refine hx_no (by assumption) ?_
    | w_dflts wO
    | with_reducible refine va_of (by assumption) ?_
    | with_reducible refine f_isInt (by assumption) ?_
    | with_reducible refine f_isStr (by assumption) ?_
    | with_reducible refine f_isBl (by assumption) ?_
    | with_reducible refine f_eqS (by assumption) ?_
    | with_reducible refine f_eqD (by assumption) ?_
    | with_reducible refine f_neD (by assumption) ?_
    | with_reducible refine isix_own (by assumption) (by assumption) ?_
    | with_reducible refine isix_ty (by assumption) (by assumption) ?_
    | with_reducible refine x_isO (by assumption) ?_
    | with_reducible refine x_isE (by assumption) (by assumption) ?_
    | with_reducible refine x_isV (by assumption) (by assumption) ?_
    | refine l_ixL rfl ?_
    | refine l_ixT rfl ?_
    | ((with_reducible refine ex_and ?_ ?_); · simp [ExAll, exOk]
       dsimp only [gOff, fixE, fixS, List.set_cons_zero, List.set_cons_succ])
    | with_reducible refine l_eqX rfl ?_
    | with_reducible refine l_neX rfl ?_
    | with_reducible refine ⟨_, rfl, ?_⟩
    | refine ⟨_, rfl, ?_⟩
    | refine ⟨_, _, rfl, ?_⟩
    | fail "stop")
local macro_rules
  | `(tactic| w_dflts wn) => `(tactic| repeat' w_dflts w0)
set_option hygiene true
section
variable {P : Program} {w : World} {K : PySem.W.Frag} {mg : Str → Option Value} {base : Heap}
theorem ok_law_start (T : Tx P K mg) : DN P w K mg base "_law_start" [] 1 (S_law_start K) := by
  obtain ⟨fd, F⟩ := T.f_law_start
  refine ⟨_, (fn_d (fun_of F) sc_law_start (fun args R Y h => by obtain ⟨_, rfl, _⟩ := h; rfl) (fun cdv A outer s H E hr => ?_)).toK (F.bindsN (fun _ _ _ _ _ _ us hl => match us, hl with | [_], _ => rfl)), T.g_law_start, F.kp⟩
  have tk := takes_of (X := cxOf (L2.CX P w) P w K mg base ["_law_script", "_law_first"] "_law_start" (defScope s_law_start) (He.fAd K ("_law_start", none)) cdv A outer s H E) rfl rfl rfl rfl
  have po := passes_of (X := cxOf (L2.CX P w) P w K mg base ["_law_script", "_law_first"] "_law_start" (defScope s_law_start) (He.fAd K ("_law_start", none)) cdv A outer s H E) rfl
  refine ⟨_, (pss_cons (ps_set (i := 1) sc_law_start.nd rfl (Or.inl rfl) pe_int)
  (pss_cons (ps_if (pt_cmpR op_gtP (pe_callB (call_lenK K rfl) (by rfl) T.b_len (by decide +kernel) (pa_cons (pv 0) pa_nil)) pe_int (nomark _)) (pss_one (ps_set (i := 1) sc_law_start.nd rfl (Or.inl rfl) (pe_ix (ix_K K rfl hr.units) (pv 0) pe_int (fun _ _ => rfl)))) pss_nil)
  (pss_one (mkR (ps_ret (pe_lst (pa_cons (pe_callB call_absP (by rfl) T.b_abs (by decide +kernel) (pa_cons (pe_callTy call_intP (by rfl) T.b_int (by decide +kernel) (pa_cons (pv 1) pa_nil)) pa_nil)) (pa_cons (pe_callTy call_intP (by rfl) T.b_int (by decide +kernel) (pa_cons (pe_cmpR op_geP (pe_callB call_absP (by rfl) T.b_abs (by decide +kernel) (pa_cons (pe_callTy call_intP (by rfl) T.b_int (by decide +kernel) (pa_cons (pv 1) pa_nil)) pa_nil)) (pe_op op_powP pe_int pe_int) (nomark _)) pa_nil)) (pa_cons pe_int (pa_cons pe_int pa_nil)))))))))), ?_⟩
  intro args R Y hS
  obtain ⟨ns, rfl, hS⟩ := hS
  unfold Q_law_start at hS
  try dsimp only at hS
  refine w_start (Γ := [some (.fr (.scr ns)), none]) ?_
  try dsimp only [cxOf]
  clear po tk hr
  have fT_kits := T.kits
  have fT_cals := T.cals
  have fT_Z_NotKept := T.Z_NotKept
  have fT_Z_NothingToUndo := T.Z_NothingToUndo
  have xf_BadDeed := T.E_BadDeed.xf
  have xn_BadDeed_place := T.E_BadDeed.no "place" (by decide +kernel)
  have xf_BadName := T.E_BadName.xf
  have xn_BadName_name := T.E_BadName.no "name" (by decide +kernel)
  have xf_BadNumber := T.E_BadNumber.xf
  have xn_BadNumber_what := T.E_BadNumber.no "what" (by decide +kernel)
  have xn_BadNumber_value := T.E_BadNumber.no "value" (by decide +kernel)
  have xf_BadPaper := T.E_BadPaper.xf
  have xn_BadPaper_row := T.E_BadPaper.no "row" (by decide +kernel)
  have xn_BadPaper_reason := T.E_BadPaper.no "reason" (by decide +kernel)
  have xf_BadRides := T.E_BadRides.xf
  have xn_BadRides_place := T.E_BadRides.no "place" (by decide +kernel)
  have xf_BadRing := T.E_BadRing.xf
  have xn_BadRing_names := T.E_BadRing.no "names" (by decide +kernel)
  have xf_BadRows := T.E_BadRows.xf
  have xn_BadRows_place := T.E_BadRows.no "place" (by decide +kernel)
  have xf_BadText := T.E_BadText.xf
  have xn_BadText_line := T.E_BadText.no "line" (by decide +kernel)
  have xf_BadWay := T.E_BadWay.xf
  have xn_BadWay_start := T.E_BadWay.no "start" (by decide +kernel)
  have xn_BadWay_end := T.E_BadWay.no "end" (by decide +kernel)
  have xf_TooMany := T.E_TooMany.xf
  have xn_TooMany_limit := T.E_TooMany.no "limit" (by decide +kernel)
  w_dflts w1
  w_dflts w1
  w_dflts w1
  refine g_mid (fun Γ => ∃ v : Int, Γ = [some (.fr (.scr ns)), some (.fr (.int v))]) ?_ ?_
  · w_dflts wd
    · refine x_ixC (by omega) (by omega) fun v => ?_
      w_dflts wd
      exact ⟨v, rfl⟩
    · exact ⟨0, rfl⟩
  · rintro Γ ⟨v, rfl⟩
    refine g_retO (evo_pack St4 ?_)
    w_dflts wd
    exact ⟨St4.mk _ _ _ _, _, .fr .nil, hS _⟩
theorem ok_law_draw (T : Tx P K mg) : DN P w K mg base "_law_draw" [] 1 (S_law_draw K) := by
  obtain ⟨fd, F⟩ := T.f_law_draw
  refine ⟨_, (fn_d (fun_of F) sc_law_draw (fun args R Y h => by obtain ⟨_, _, _, rfl, _⟩ := h; rfl) (fun cdv A outer s H E hr => ?_)).toK (F.bindsN (fun _ _ _ _ _ _ us hl => match us, hl with | [_, _, _], _ => rfl)), T.g_law_draw, F.kp⟩
  have tk := takes_of (X := cxOf (L2.CX P w) P w K mg base ["_law_script", "_law_state", "_law_limit", "_law_number", "_law_cell", "_law_mixed"] "_law_draw" (defScope s_law_draw) (He.fAd K ("_law_draw", none)) cdv A outer s H E) rfl rfl rfl rfl
  have po := passes_of (X := cxOf (L2.CX P w) P w K mg base ["_law_script", "_law_state", "_law_limit", "_law_number", "_law_cell", "_law_mixed"] "_law_draw" (defScope s_law_draw) (He.fAd K ("_law_draw", none)) cdv A outer s H E) rfl
  refine ⟨_, (pss_cons (ps_asg (pe_op (op_addK K rfl) (pe_ix (ix_K K rfl hr.units) (pv 1) pe_int (fun _ _ => rfl)) pe_int) (pg_sub (pv 1) pe_int set_list))
  (pss_cons (ps_if (PW.pt (pw_and (pt_cmpR (op_eqK K rfl hr.units) (pe_ix (ix_K K rfl hr.units) (pv 1) pe_int (fun _ _ => rfl)) pe_int (nomark _)) (pw_and1 (pt_cmpR op_gtP (pe_ix (ix_K K rfl hr.units) (pv 1) pe_int (fun _ _ => rfl)) pe_int (nomark _))))) (pss_cons (ps_set (i := 3) sc_law_draw.nd rfl (Or.inl rfl) (pe_op op_modP (pe_callTy call_intP (by rfl) T.b_int (by decide +kernel) (pa_cons (pe_ix (ix_K K rfl hr.units) (pv 1) pe_int (fun _ _ => rfl)) pa_nil)) (pv 2)))
  (pss_cons (ps_asg (pe_op op_fdivP (pe_ix (ix_K K rfl hr.units) (pv 1) pe_int (fun _ _ => rfl)) (pv 2)) (pg_sub (pv 1) pe_int set_list))
  (pss_one (ps_ret (pv 3))))) pss_nil)
  (pss_cons (ps_asg pe_int (pg_sub (pv 1) pe_int set_list))
  (pss_cons (ps_set (i := 4) sc_law_draw.nd rfl (Or.inl rfl) pe_int)
  (pss_cons (ps_if (pt_cmpR op_gtP (pe_callB (call_lenK K rfl) (by rfl) T.b_len (by decide +kernel) (pa_cons (pv 0) pa_nil)) pe_int (nomark _)) (pss_one (ps_set (i := 4) sc_law_draw.nd rfl (Or.inl rfl) (pe_ix (ix_K K rfl hr.units) (pv 0) (pe_op op_modP (pe_callTy call_intP (by rfl) T.b_int (by decide +kernel) (pa_cons (pe_ix (ix_K K rfl hr.units) (pv 1) pe_int (fun _ _ => rfl)) pa_nil)) (pe_callB (call_lenK K rfl) (by rfl) T.b_len (by decide +kernel) (pa_cons (pv 0) pa_nil))) (fun _ _ => rfl)))) pss_nil)
  (pss_cons (ps_asg (pe_op (op_addK K rfl) (pe_ix (ix_K K rfl hr.units) (pv 1) pe_int (fun _ _ => rfl)) pe_int) (pg_sub (pv 1) pe_int set_list))
  (pss_cons (ps_set (i := 5) sc_law_draw.nd rfl (Or.inl rfl) (pe_op op_mulP (pe_op op_modP (pe_callTy call_intP (by rfl) T.b_int (by decide +kernel) (pa_cons (pe_ix (ix_K K rfl hr.units) (pv 1) pe_int (fun _ _ => rfl)) pa_nil)) pe_int) pe_int))
  (pss_cons (ps_set (i := 5) sc_law_draw.nd rfl (Or.inl rfl) (pe_op (op_addK K rfl) (pe_op (op_addK K rfl) (pe_op (op_addK K rfl) (pv 5) (pe_op op_modP (pe_callTy call_intP (by rfl) T.b_int (by decide +kernel) (pa_cons (pv 4) pa_nil)) pe_int)) (pe_op op_mulP pe_int (pe_ix (ix_K K rfl hr.units) (pv 1) pe_int (fun _ _ => rfl)))) pe_int))
  (pss_cons (ps_asg (pe_op op_modP (pe_callTy call_intP (by rfl) T.b_int (by decide +kernel) (pa_cons (pv 5) pa_nil)) pe_int) (pg_sub (pv 1) pe_int set_list))
  (pss_cons (ps_set (i := 5) sc_law_draw.nd rfl (Or.inl rfl) (pe_op op_modP (pe_callTy call_intP (by rfl) T.b_int (by decide +kernel) (pa_cons (pe_op (op_addK K rfl) (pe_op op_mulP (pe_ix (ix_K K rfl hr.units) (pv 1) pe_int (fun _ _ => rfl)) pe_int) (pe_ix (ix_K K rfl hr.units) (pv 1) pe_int (fun _ _ => rfl))) pa_nil)) pe_int))
  (pss_one (ps_ret (pe_op op_modP (pe_callTy call_intP (by rfl) T.b_int (by decide +kernel) (pa_cons (pe_op op_fdivP (pv 5) pe_int) pa_nil)) (pv 2)))))))))))))), ?_⟩
  intro args R Y hS
  obtain ⟨ns, a, m, rfl, hS⟩ := hS
  unfold Q_law_draw at hS
  try dsimp only at hS
  obtain ⟨hP, hS⟩ := hS
  refine w_start (Γ := [some (.fr (.scr ns)), some (.os a St4), some (.fr (.int m)), none, none, none]) ?_
  try dsimp only [cxOf]
  clear po tk hr
  have fT_kits := T.kits
  have fT_cals := T.cals
  have fT_Z_NotKept := T.Z_NotKept
  have fT_Z_NothingToUndo := T.Z_NothingToUndo
  have xf_BadDeed := T.E_BadDeed.xf
  have xn_BadDeed_place := T.E_BadDeed.no "place" (by decide +kernel)
  have xf_BadName := T.E_BadName.xf
  have xn_BadName_name := T.E_BadName.no "name" (by decide +kernel)
  have xf_BadNumber := T.E_BadNumber.xf
  have xn_BadNumber_what := T.E_BadNumber.no "what" (by decide +kernel)
  have xn_BadNumber_value := T.E_BadNumber.no "value" (by decide +kernel)
  have xf_BadPaper := T.E_BadPaper.xf
  have xn_BadPaper_row := T.E_BadPaper.no "row" (by decide +kernel)
  have xn_BadPaper_reason := T.E_BadPaper.no "reason" (by decide +kernel)
  have xf_BadRides := T.E_BadRides.xf
  have xn_BadRides_place := T.E_BadRides.no "place" (by decide +kernel)
  have xf_BadRing := T.E_BadRing.xf
  have xn_BadRing_names := T.E_BadRing.no "names" (by decide +kernel)
  have xf_BadRows := T.E_BadRows.xf
  have xn_BadRows_place := T.E_BadRows.no "place" (by decide +kernel)
  have xf_BadText := T.E_BadText.xf
  have xn_BadText_line := T.E_BadText.no "line" (by decide +kernel)
  have xf_BadWay := T.E_BadWay.xf
  have xn_BadWay_start := T.E_BadWay.no "start" (by decide +kernel)
  have xn_BadWay_end := T.E_BadWay.no "end" (by decide +kernel)
  have xf_TooMany := T.E_TooMany.xf
  have xn_TooMany_limit := T.E_TooMany.no "limit" (by decide +kernel)
  refine go_unpack (i := 1) rfl fun ds hds => ?_
  obtain ⟨s0, s1, s2, s3, rfl⟩ := hds
  have fin : ∀ x : Int, R (.fr (.int (x % m))) [.fr (.scr ns), .os a St4, .fr (.int m)] := fun x => hS _ (Int.emod_nonneg _ (by omega)) (Int.emod_lt_of_pos _ hP.1)
  w_dflts wd
  all_goals first | exact fin _ | (refine x_ixC (Int.emod_nonneg _ (by omega)) (Int.emod_lt_of_pos _ (by omega)) fun v => ?_)
  all_goals w_dflts wd
  all_goals exact fin _
theorem ok_law_kinds (T : Tx P K mg) : DN P w K mg base "_law_kinds" [] 1 (S_law_kinds K) := by
  obtain ⟨fd, F⟩ := T.f_law_kinds
  refine ⟨_, (fn_d (fun_of F) sc_law_kinds (fun args R Y h => by obtain ⟨_, _, rfl, _⟩ := h; rfl) (fun cdv A outer s H E hr => ?_)).toK (F.bindsN (fun _ _ _ _ _ _ us hl => match us, hl with | [_], _ => rfl)), T.g_law_kinds, F.kp⟩
  have tk := takes_of (X := cxOf (L2.CX P w) P w K mg base ["_law_fell", "_law_kinds_here"] "_law_kinds" (defScope s_law_kinds) (He.fAd K ("_law_kinds", none)) cdv A outer s H E) rfl rfl rfl rfl
  have po := passes_of (X := cxOf (L2.CX P w) P w K mg base ["_law_fell", "_law_kinds_here"] "_law_kinds" (defScope s_law_kinds) (He.fAd K ("_law_kinds", none)) cdv A outer s H E) rfl
  refine ⟨_, (pss_cons (ps_set (i := 1) sc_law_kinds.nd rfl (Or.inl rfl) (pe_lst (pa_cons (pe_callB (call_isiK K rfl) (by rfl) T.b_isinstance (by decide +kernel) (pa_cons (pv 0) (pa_cons (pe_glob (v := .ref (He.ga K "BadName")) rfl T.g_BadName rfl) pa_nil))) (pa_cons (pe_callB (call_isiK K rfl) (by rfl) T.b_isinstance (by decide +kernel) (pa_cons (pv 0) (pa_cons (pe_glob (v := .ref (He.ga K "BadNumber")) rfl T.g_BadNumber rfl) pa_nil))) (pa_cons (pe_callB (call_isiK K rfl) (by rfl) T.b_isinstance (by decide +kernel) (pa_cons (pv 0) (pa_cons (pe_glob (v := .ref (He.ga K "BadRows")) rfl T.g_BadRows rfl) pa_nil))) pa_nil)))))
  (pss_cons (ps_set (i := 1) sc_law_kinds.nd rfl (Or.inl rfl) (pe_op (op_addK K rfl) (pv 1) (pe_lst (pa_cons (pe_callB (call_isiK K rfl) (by rfl) T.b_isinstance (by decide +kernel) (pa_cons (pv 0) (pa_cons (pe_glob (v := .ref (He.ga K "BadWay")) rfl T.g_BadWay rfl) pa_nil))) (pa_cons (pe_callB (call_isiK K rfl) (by rfl) T.b_isinstance (by decide +kernel) (pa_cons (pv 0) (pa_cons (pe_glob (v := .ref (He.ga K "BadRing")) rfl T.g_BadRing rfl) pa_nil))) (pa_cons (pe_callB (call_isiK K rfl) (by rfl) T.b_isinstance (by decide +kernel) (pa_cons (pv 0) (pa_cons (pe_glob (v := .ref (He.ga K "BadPaper")) rfl T.g_BadPaper rfl) pa_nil))) pa_nil))))))
  (pss_cons (ps_set (i := 1) sc_law_kinds.nd rfl (Or.inl rfl) (pe_op (op_addK K rfl) (pv 1) (pe_lst (pa_cons (pe_callB (call_isiK K rfl) (by rfl) T.b_isinstance (by decide +kernel) (pa_cons (pv 0) (pa_cons (pe_glob (v := .ref (He.ga K "BadRides")) rfl T.g_BadRides rfl) pa_nil))) (pa_cons (pe_callB (call_isiK K rfl) (by rfl) T.b_isinstance (by decide +kernel) (pa_cons (pv 0) (pa_cons (pe_glob (v := .ref (He.ga K "BadText")) rfl T.g_BadText rfl) pa_nil))) (pa_cons (pe_callB (call_isiK K rfl) (by rfl) T.b_isinstance (by decide +kernel) (pa_cons (pv 0) (pa_cons (pe_glob (v := .ref (He.ga K "BadDeed")) rfl T.g_BadDeed rfl) pa_nil))) pa_nil))))))
  (pss_one (mkR (ps_ret (pe_op (op_addK K rfl) (pv 1) (pe_lst (pa_cons (pe_callB (call_isiK K rfl) (by rfl) T.b_isinstance (by decide +kernel) (pa_cons (pv 0) (pa_cons (pe_glob (v := .ref (He.ga K "TooMany")) rfl T.g_TooMany rfl) pa_nil))) (pa_cons (pe_callB (call_isiK K rfl) (by rfl) T.b_isinstance (by decide +kernel) (pa_cons (pv 0) (pa_cons (pe_glob (v := .ref (He.ga K "NotKept")) rfl T.g_NotKept rfl) pa_nil))) (pa_cons (pe_callB (call_isiK K rfl) (by rfl) T.b_isinstance (by decide +kernel) (pa_cons (pv 0) (pa_cons (pe_glob (v := .ref (He.ga K "NothingToUndo")) rfl T.g_NothingToUndo rfl) pa_nil))) pa_nil))))))))))), ?_⟩
  intro args R Y hS
  obtain ⟨k, fs, rfl, hS⟩ := hS
  unfold Q_law_kinds at hS
  try dsimp only at hS
  obtain ⟨hP, hS⟩ := hS
  refine w_start (Γ := [some (.fr (.exc (kC K k) fs)), none]) ?_
  try dsimp only [cxOf]
  clear po tk hr
  have fT_kits := T.kits
  have fT_cals := T.cals
  have fT_Z_NotKept := T.Z_NotKept
  have fT_Z_NothingToUndo := T.Z_NothingToUndo
  have xf_BadDeed := T.E_BadDeed.xf
  have xn_BadDeed_place := T.E_BadDeed.no "place" (by decide +kernel)
  have xf_BadName := T.E_BadName.xf
  have xn_BadName_name := T.E_BadName.no "name" (by decide +kernel)
  have xf_BadNumber := T.E_BadNumber.xf
  have xn_BadNumber_what := T.E_BadNumber.no "what" (by decide +kernel)
  have xn_BadNumber_value := T.E_BadNumber.no "value" (by decide +kernel)
  have xf_BadPaper := T.E_BadPaper.xf
  have xn_BadPaper_row := T.E_BadPaper.no "row" (by decide +kernel)
  have xn_BadPaper_reason := T.E_BadPaper.no "reason" (by decide +kernel)
  have xf_BadRides := T.E_BadRides.xf
  have xn_BadRides_place := T.E_BadRides.no "place" (by decide +kernel)
  have xf_BadRing := T.E_BadRing.xf
  have xn_BadRing_names := T.E_BadRing.no "names" (by decide +kernel)
  have xf_BadRows := T.E_BadRows.xf
  have xn_BadRows_place := T.E_BadRows.no "place" (by decide +kernel)
  have xf_BadText := T.E_BadText.xf
  have xn_BadText_line := T.E_BadText.no "line" (by decide +kernel)
  have xf_BadWay := T.E_BadWay.xf
  have xn_BadWay_start := T.E_BadWay.no "start" (by decide +kernel)
  have xn_BadWay_end := T.E_BadWay.no "end" (by decide +kernel)
  have xf_TooMany := T.E_TooMany.xf
  have xn_TooMany_limit := T.E_TooMany.no "limit" (by decide +kernel)
  obtain ⟨h0, h1⟩ := hP
  have q0 : PySem.W.kitOne K (.ref (kC K k)) (.ref (He.ga K "BadName")) = some (decide (k = (0 : Int))) := kits_ok fT_kits h0 h1 0 (by decide)
  have q1 : PySem.W.kitOne K (.ref (kC K k)) (.ref (He.ga K "BadNumber")) = some (decide (k = (1 : Int))) := kits_ok fT_kits h0 h1 1 (by decide)
  have q2 : PySem.W.kitOne K (.ref (kC K k)) (.ref (He.ga K "BadRows")) = some (decide (k = (2 : Int))) := kits_ok fT_kits h0 h1 2 (by decide)
  have q3 : PySem.W.kitOne K (.ref (kC K k)) (.ref (He.ga K "BadWay")) = some (decide (k = (3 : Int))) := kits_ok fT_kits h0 h1 3 (by decide)
  have q4 : PySem.W.kitOne K (.ref (kC K k)) (.ref (He.ga K "BadRing")) = some (decide (k = (4 : Int))) := kits_ok fT_kits h0 h1 4 (by decide)
  have q5 : PySem.W.kitOne K (.ref (kC K k)) (.ref (He.ga K "BadPaper")) = some (decide (k = (5 : Int))) := kits_ok fT_kits h0 h1 5 (by decide)
  have q6 : PySem.W.kitOne K (.ref (kC K k)) (.ref (He.ga K "BadRides")) = some (decide (k = (6 : Int))) := kits_ok fT_kits h0 h1 6 (by decide)
  have q7 : PySem.W.kitOne K (.ref (kC K k)) (.ref (He.ga K "BadText")) = some (decide (k = (7 : Int))) := kits_ok fT_kits h0 h1 7 (by decide)
  have q8 : PySem.W.kitOne K (.ref (kC K k)) (.ref (He.ga K "BadDeed")) = some (decide (k = (8 : Int))) := kits_ok fT_kits h0 h1 8 (by decide)
  have q9 : PySem.W.kitOne K (.ref (kC K k)) (.ref (He.ga K "TooMany")) = some (decide (k = (9 : Int))) := kits_ok fT_kits h0 h1 9 (by decide)
  have q10 : PySem.W.kitOne K (.ref (kC K k)) (.ref (He.ga K "NotKept")) = some (decide (k = (10 : Int))) := kits_ok fT_kits h0 h1 10 (by decide)
  have q11 : PySem.W.kitOne K (.ref (kC K k)) (.ref (He.ga K "NothingToUndo")) = some (decide (k = (11 : Int))) := kits_ok fT_kits h0 h1 11 (by decide)
  obtain ⟨_, _, _, ex⟩ := cals_ok fT_cals h0 h1
  w_dflts wd
  exact hS _
theorem ok_law_throw (T : Tx P K mg) : DN P w K mg base "_law_throw" [] 1 (S_law_throw K) := by
  obtain ⟨fd, F⟩ := T.f_law_throw
  refine ⟨_, (fn_d (fun_of F) sc_law_throw (fun args R Y h => by obtain ⟨_, _, _, _, _, _, rfl, _⟩ := h; rfl) (fun cdv A outer s H E hr => ?_)).toK (F.bindsN (fun _ _ _ _ _ _ us hl => match us, hl with | [_, _], _ => rfl)), T.g_law_throw, F.kp⟩
  have tk := takes_of (X := cxOf (L2.CX P w) P w K mg base ["_law_kind", "_law_values_here"] "_law_throw" (defScope s_law_throw) (He.fAd K ("_law_throw", none)) cdv A outer s H E) rfl rfl rfl rfl
  have po := passes_of (X := cxOf (L2.CX P w) P w K mg base ["_law_kind", "_law_values_here"] "_law_throw" (defScope s_law_throw) (He.fAd K ("_law_throw", none)) cdv A outer s H E) rfl
  refine ⟨_, (pss_cons (ps_if (pt_cmpR (op_eqK K rfl hr.units) (pv 0) pe_int (nomark _)) (pss_one (ps_raiseE rfl T.E_BadName.at hr tk (pa_cons (pe_ix (ix_K K rfl hr.units) (pv 1) pe_int (fun _ _ => rfl)) pa_nil))) pss_nil)
  (pss_cons (ps_if (pt_cmpR (op_eqK K rfl hr.units) (pv 0) pe_int (nomark _)) (pss_one (ps_raiseE rfl T.E_BadNumber.at hr tk (pa_cons (pe_ix (ix_K K rfl hr.units) (pv 1) pe_int (fun _ _ => rfl)) (pa_cons (pe_ix (ix_K K rfl hr.units) (pv 1) pe_int (fun _ _ => rfl)) pa_nil)))) pss_nil)
  (pss_cons (ps_if (pt_cmpR (op_eqK K rfl hr.units) (pv 0) pe_int (nomark _)) (pss_one (ps_raiseE rfl T.E_BadRows.at hr tk (pa_cons (pe_ix (ix_K K rfl hr.units) (pv 1) pe_int (fun _ _ => rfl)) pa_nil))) pss_nil)
  (pss_cons (ps_if (pt_cmpR (op_eqK K rfl hr.units) (pv 0) pe_int (nomark _)) (pss_one (ps_raiseE rfl T.E_BadWay.at hr tk (pa_cons (pe_ix (ix_K K rfl hr.units) (pv 1) pe_int (fun _ _ => rfl)) (pa_cons (pe_ix (ix_K K rfl hr.units) (pv 1) pe_int (fun _ _ => rfl)) pa_nil)))) pss_nil)
  (pss_cons (ps_if (pt_cmpR (op_eqK K rfl hr.units) (pv 0) pe_int (nomark _)) (pss_one (ps_raiseE rfl T.E_BadRing.at hr tk (pa_cons (pe_callTy (call_listK K rfl) (by rfl) T.b_list (by decide +kernel) (pa_cons (pe_ix (ix_K K rfl hr.units) (pv 1) pe_int (fun _ _ => rfl)) pa_nil)) pa_nil))) pss_nil)
  (pss_cons (ps_if (pt_cmpR (op_eqK K rfl hr.units) (pv 0) pe_int (nomark _)) (pss_one (ps_raiseE rfl T.E_BadPaper.at hr tk (pa_cons (pe_ix (ix_K K rfl hr.units) (pv 1) pe_int (fun _ _ => rfl)) (pa_cons (pe_ix (ix_K K rfl hr.units) (pv 1) pe_int (fun _ _ => rfl)) pa_nil)))) pss_nil)
  (pss_cons (ps_if (pt_cmpR (op_eqK K rfl hr.units) (pv 0) pe_int (nomark _)) (pss_one (ps_raiseE rfl T.E_BadRides.at hr tk (pa_cons (pe_ix (ix_K K rfl hr.units) (pv 1) pe_int (fun _ _ => rfl)) pa_nil))) pss_nil)
  (pss_cons (ps_if (pt_cmpR (op_eqK K rfl hr.units) (pv 0) pe_int (nomark _)) (pss_one (ps_raiseE rfl T.E_BadText.at hr tk (pa_cons (pe_ix (ix_K K rfl hr.units) (pv 1) pe_int (fun _ _ => rfl)) pa_nil))) pss_nil)
  (pss_cons (ps_if (pt_cmpR (op_eqK K rfl hr.units) (pv 0) pe_int (nomark _)) (pss_one (ps_raiseE rfl T.E_BadDeed.at hr tk (pa_cons (pe_ix (ix_K K rfl hr.units) (pv 1) pe_int (fun _ _ => rfl)) pa_nil))) pss_nil)
  (pss_cons (ps_if (pt_cmpR (op_eqK K rfl hr.units) (pv 0) pe_int (nomark _)) (pss_one (ps_raiseE rfl T.E_TooMany.at hr tk (pa_cons (pe_ix (ix_K K rfl hr.units) (pv 1) pe_int (fun _ _ => rfl)) pa_nil))) pss_nil)
  (pss_cons (ps_if (pt_cmpR (op_eqK K rfl hr.units) (pv 0) pe_int (nomark _)) (pss_one (ps_raise0 rfl T.Z_NotKept tk)) pss_nil)
  (pss_one (ps_raise0 rfl T.Z_NothingToUndo tk))))))))))))), ?_⟩
  intro args R Y hS
  obtain ⟨k, a, c, d, e, b, rfl, hS⟩ := hS
  unfold Q_law_throw at hS
  try dsimp only at hS
  obtain ⟨hP, hS⟩ := hS
  refine w_start (Γ := [some (.fr (.int k)), some (.fr (vT a c d e b))]) ?_
  try dsimp only [cxOf]
  clear po tk hr
  have fT_kits := T.kits
  have fT_cals := T.cals
  have fT_Z_NotKept := T.Z_NotKept
  have fT_Z_NothingToUndo := T.Z_NothingToUndo
  have xf_BadDeed := T.E_BadDeed.xf
  have xn_BadDeed_place := T.E_BadDeed.no "place" (by decide +kernel)
  have xf_BadName := T.E_BadName.xf
  have xn_BadName_name := T.E_BadName.no "name" (by decide +kernel)
  have xf_BadNumber := T.E_BadNumber.xf
  have xn_BadNumber_what := T.E_BadNumber.no "what" (by decide +kernel)
  have xn_BadNumber_value := T.E_BadNumber.no "value" (by decide +kernel)
  have xf_BadPaper := T.E_BadPaper.xf
  have xn_BadPaper_row := T.E_BadPaper.no "row" (by decide +kernel)
  have xn_BadPaper_reason := T.E_BadPaper.no "reason" (by decide +kernel)
  have xf_BadRides := T.E_BadRides.xf
  have xn_BadRides_place := T.E_BadRides.no "place" (by decide +kernel)
  have xf_BadRing := T.E_BadRing.xf
  have xn_BadRing_names := T.E_BadRing.no "names" (by decide +kernel)
  have xf_BadRows := T.E_BadRows.xf
  have xn_BadRows_place := T.E_BadRows.no "place" (by decide +kernel)
  have xf_BadText := T.E_BadText.xf
  have xn_BadText_line := T.E_BadText.no "line" (by decide +kernel)
  have xf_BadWay := T.E_BadWay.xf
  have xn_BadWay_start := T.E_BadWay.no "start" (by decide +kernel)
  have xn_BadWay_end := T.E_BadWay.no "end" (by decide +kernel)
  have xf_TooMany := T.E_TooMany.xf
  have xn_TooMany_limit := T.E_TooMany.no "limit" (by decide +kernel)
  obtain ⟨h0, h1⟩ := hP
  unfold vT
  rcases (by omega : k = 0 ∨ k = 1 ∨ k = 2 ∨ k = 3 ∨ k = 4 ∨ k = 5 ∨ k = 6 ∨ k = 7 ∨ k = 8 ∨ k = 9 ∨ k = 10 ∨ k = 11) with rfl | rfl | rfl | rfl | rfl | rfl | rfl | rfl | rfl | rfl | rfl | rfl
  all_goals w_dflts wn
  all_goals exact hS
theorem ok_law_caught (T : Tx P K mg) : DN P w K mg base "_law_caught" [] 2 (S_law_caught K) := by
  have D_law_throw := ok_law_throw (P := P) (w := w) (base := base) T
  obtain ⟨fd, F⟩ := T.f_law_caught
  refine ⟨_, (fn_d (fun_of F) sc_law_caught (fun args R Y h => by obtain ⟨_, _, _, _, _, _, rfl, _⟩ := h; rfl) (fun cdv A outer s H E hr => ?_)).toK (F.bindsN (fun _ _ _ _ _ _ us hl => match us, hl with | [_, _], _ => rfl)), T.g_law_caught, F.kp⟩
  have tk := takes_of (X := cxOf (L2.CX P w) P w K mg base ["_law_kind", "_law_values_here", "_law_fell", "e"] "_law_caught" (defScope s_law_caught) (He.fAd K ("_law_caught", none)) cdv A outer s H E) rfl rfl rfl rfl
  have po := passes_of (X := cxOf (L2.CX P w) P w K mg base ["_law_kind", "_law_values_here", "_law_fell", "e"] "_law_caught" (defScope s_law_caught) (He.fAd K ("_law_caught", none)) cdv A outer s H E) rfl
  refine ⟨_, (pss_cons (ps_set (i := 2) sc_law_caught.nd rfl (Or.inl rfl) pe_non)
  (pss_cons (ps_try_h rfl rfl rfl sc_law_caught.nd tk (fun W2 pn xe tk2 po2 => (pss_one (ps_expr (pe_nK K rfl D_law_throw hr (by decide) tk2 (pa_cons (pv 0) (pa_cons (pv 1) pa_nil))))))
  (.named (i := 3) ⟨rfl, by decide, .inl T.g_CalendarError⟩ rfl rfl (fun a oe cls d pn hz hf => (pss_one (mkO (ps_set (i := 2) sc_law_caught.nd rfl (Or.inl rfl) (pv 3))))) .nil))
  (pss_one (ps_ret (pv 2))))), ?_⟩
  intro args R Y hS
  obtain ⟨k, a, c, d, e, b, rfl, hS⟩ := hS
  unfold Q_law_caught at hS
  try dsimp only at hS
  obtain ⟨hP, hS⟩ := hS
  refine w_start (Γ := [some (.fr (.int k)), some (.fr (vT a c d e b)), none, none]) ?_
  try dsimp only [cxOf]
  clear po tk hr
  have fT_kits := T.kits
  have fT_cals := T.cals
  have fT_Z_NotKept := T.Z_NotKept
  have fT_Z_NothingToUndo := T.Z_NothingToUndo
  have xf_BadDeed := T.E_BadDeed.xf
  have xn_BadDeed_place := T.E_BadDeed.no "place" (by decide +kernel)
  have xf_BadName := T.E_BadName.xf
  have xn_BadName_name := T.E_BadName.no "name" (by decide +kernel)
  have xf_BadNumber := T.E_BadNumber.xf
  have xn_BadNumber_what := T.E_BadNumber.no "what" (by decide +kernel)
  have xn_BadNumber_value := T.E_BadNumber.no "value" (by decide +kernel)
  have xf_BadPaper := T.E_BadPaper.xf
  have xn_BadPaper_row := T.E_BadPaper.no "row" (by decide +kernel)
  have xn_BadPaper_reason := T.E_BadPaper.no "reason" (by decide +kernel)
  have xf_BadRides := T.E_BadRides.xf
  have xn_BadRides_place := T.E_BadRides.no "place" (by decide +kernel)
  have xf_BadRing := T.E_BadRing.xf
  have xn_BadRing_names := T.E_BadRing.no "names" (by decide +kernel)
  have xf_BadRows := T.E_BadRows.xf
  have xn_BadRows_place := T.E_BadRows.no "place" (by decide +kernel)
  have xf_BadText := T.E_BadText.xf
  have xn_BadText_line := T.E_BadText.no "line" (by decide +kernel)
  have xf_BadWay := T.E_BadWay.xf
  have xn_BadWay_start := T.E_BadWay.no "start" (by decide +kernel)
  have xn_BadWay_end := T.E_BadWay.no "end" (by decide +kernel)
  have xf_TooMany := T.E_TooMany.xf
  have xn_TooMany_limit := T.E_TooMany.no "limit" (by decide +kernel)
  have hP2 := hP
  obtain ⟨c1, c2, c3, ex⟩ := cals_ok fT_cals hP.1 hP.2
  w_dflts wd
  exact hS
theorem ok_law_holds (T : Tx P K mg) : DN P w K mg base "_law_holds" [] 2 (S_law_holds K) := by
  have D_law_kinds := ok_law_kinds (P := P) (w := w) (base := base) T
  obtain ⟨fd, F⟩ := T.f_law_holds
  refine ⟨_, (fn_d (fun_of F) sc_law_holds (fun args R Y h => by obtain ⟨_, _, _, _, _, _, rfl, _⟩ := h; rfl) (fun cdv A outer s H E hr => ?_)).toK (F.bindsN (fun _ _ _ _ _ _ us hl => match us, hl with | [_, _, _], _ => rfl)), T.g_law_holds, F.kp⟩
  have tk := takes_of (X := cxOf (L2.CX P w) P w K mg base ["_law_fell", "_law_kind", "_law_values_here", "_law_kinds_here", "_law_at"] "_law_holds" (defScope s_law_holds) (He.fAd K ("_law_holds", none)) cdv A outer s H E) rfl rfl rfl rfl
  have po := passes_of (X := cxOf (L2.CX P w) P w K mg base ["_law_fell", "_law_kind", "_law_values_here", "_law_kinds_here", "_law_at"] "_law_holds" (defScope s_law_holds) (He.fAd K ("_law_holds", none)) cdv A outer s H E) rfl
  refine ⟨_, (pss_cons (ps_if (PW.pt (pw_or (pt_not (pt_val (pe_callB (call_isiK K rfl) (by rfl) T.b_isinstance (by decide +kernel) (pa_cons (pv 0) (pa_cons (pe_glob (v := .ref (He.ga K "CalendarError")) rfl T.g_CalendarError rfl) pa_nil))))) (pw_or1 (pt_not (pt_val (pe_callB (call_isiK K rfl) (by rfl) T.b_isinstance (by decide +kernel) (pa_cons (pv 0) (pa_cons (pe_bltn (v := .ty "ValueError") (u := .type "ValueError") (by rfl) T.b_ValueError (by decide +kernel) rfl) pa_nil)))))))) (pss_one (ps_ret pe_bl)) pss_nil)
  (pss_cons (ps_set (i := 3) sc_law_holds.nd rfl (Or.inr rfl) (pe_nK K rfl D_law_kinds hr (by decide) tk (pa_cons (pv 0) pa_nil)))
  (pss_cons (ps_if (pt_cmpR (op_neK K rfl hr.units) (mkLc [4] (pe_lc (own := [("_law_at", 4)]) rfl sc_law_holds.nd (pi_range1 (by rfl) T.b_range (pa_cons (pe_callB (call_lenK K rfl) (by rfl) T.b_len (by decide +kernel) (pa_cons (pv 3) pa_nil)) pa_nil)) (blkOk_by (own := [("_law_at", 4)]) (N := ["_law_fell", "_law_kind", "_law_values_here", "_law_kinds_here", "_law_at"]) (sc := defScope s_law_holds) (by decide +kernel)) (fun _ _ _ _ _ => (pg_name (i := 4) sc_law_holds.nd rfl (Or.inl rfl))) (fun _ _ _ _ _ => (pts_one (pt_val (pe_ix (ix_K K rfl hr.units) (pv 3) (pv 4) (fun _ _ => rfl))))) (fun _ _ _ _ _ => (pv 4)))) (pe_lst (pa_cons (pv 1) pa_nil)) (nomark _)) (pss_one (ps_ret pe_bl)) pss_nil)
  (pss_cons (ps_if (pt_cmpR (op_eqK K rfl hr.units) (pv 1) pe_int (nomark _)) (pss_one (ps_ret (pe_cmpR (op_eqK K rfl hr.units) (pe_fldK K rfl (pv 0)) (pe_ix (ix_K K rfl hr.units) (pv 2) pe_int (fun _ _ => rfl)) (nomark _)))) pss_nil)
  (pss_cons (ps_if (pt_cmpR (op_eqK K rfl hr.units) (pv 1) pe_int (nomark _)) (pss_one (ps_ret (pe_and (pe_cmpR (op_eqK K rfl hr.units) (pe_fldK K rfl (pv 0)) (pe_ix (ix_K K rfl hr.units) (pv 2) pe_int (fun _ _ => rfl)) (nomark _)) (pe_one (pe_cmpR (op_eqK K rfl hr.units) (pe_fldK K rfl (pv 0)) (pe_ix (ix_K K rfl hr.units) (pv 2) pe_int (fun _ _ => rfl)) (nomark _)))))) pss_nil)
  (pss_cons (ps_if (pt_cmpR (op_eqK K rfl hr.units) (pv 1) pe_int (nomark _)) (pss_one (ps_ret (pe_cmpR (op_eqK K rfl hr.units) (pe_fldK K rfl (pv 0)) (pe_ix (ix_K K rfl hr.units) (pv 2) pe_int (fun _ _ => rfl)) (nomark _)))) pss_nil)
  (pss_cons (ps_if (pt_cmpR (op_eqK K rfl hr.units) (pv 1) pe_int (nomark _)) (pss_one (ps_ret (pe_and (pe_cmpR (op_eqK K rfl hr.units) (pe_fldK K rfl (pv 0)) (pe_ix (ix_K K rfl hr.units) (pv 2) pe_int (fun _ _ => rfl)) (nomark _)) (pe_one (pe_cmpR (op_eqK K rfl hr.units) (pe_fldK K rfl (pv 0)) (pe_ix (ix_K K rfl hr.units) (pv 2) pe_int (fun _ _ => rfl)) (nomark _)))))) pss_nil)
  (pss_cons (ps_if (pt_cmpR (op_eqK K rfl hr.units) (pv 1) pe_int (nomark _)) (pss_one (ps_ret (pe_cmpR (op_eqK K rfl hr.units) (pe_fldK K rfl (pv 0)) (pe_callTy (call_listK K rfl) (by rfl) T.b_list (by decide +kernel) (pa_cons (pe_ix (ix_K K rfl hr.units) (pv 2) pe_int (fun _ _ => rfl)) pa_nil)) (nomark _)))) pss_nil)
  (pss_cons (ps_if (pt_cmpR (op_eqK K rfl hr.units) (pv 1) pe_int (nomark _)) (pss_one (ps_ret (pe_and (pe_cmpR (op_eqK K rfl hr.units) (pe_fldK K rfl (pv 0)) (pe_ix (ix_K K rfl hr.units) (pv 2) pe_int (fun _ _ => rfl)) (nomark _)) (pe_one (pe_cmpR (op_eqK K rfl hr.units) (pe_fldK K rfl (pv 0)) (pe_ix (ix_K K rfl hr.units) (pv 2) pe_int (fun _ _ => rfl)) (nomark _)))))) pss_nil)
  (pss_cons (ps_if (pt_cmpR (op_eqK K rfl hr.units) (pv 1) pe_int (nomark _)) (pss_one (ps_ret (pe_cmpR (op_eqK K rfl hr.units) (pe_fldK K rfl (pv 0)) (pe_ix (ix_K K rfl hr.units) (pv 2) pe_int (fun _ _ => rfl)) (nomark _)))) pss_nil)
  (pss_cons (ps_if (pt_cmpR (op_eqK K rfl hr.units) (pv 1) pe_int (nomark _)) (pss_one (ps_ret (pe_cmpR (op_eqK K rfl hr.units) (pe_fldK K rfl (pv 0)) (pe_ix (ix_K K rfl hr.units) (pv 2) pe_int (fun _ _ => rfl)) (nomark _)))) pss_nil)
  (pss_cons (ps_if (pt_cmpR (op_eqK K rfl hr.units) (pv 1) pe_int (nomark _)) (pss_one (ps_ret (pe_cmpR (op_eqK K rfl hr.units) (pe_fldK K rfl (pv 0)) (pe_ix (ix_K K rfl hr.units) (pv 2) pe_int (fun _ _ => rfl)) (nomark _)))) pss_nil)
  (pss_cons (ps_if (pt_cmpR (op_eqK K rfl hr.units) (pv 1) pe_int (nomark _)) (pss_one (ps_ret (pe_cmpR (op_eqK K rfl hr.units) (pe_fldK K rfl (pv 0)) (pe_ix (ix_K K rfl hr.units) (pv 2) pe_int (fun _ _ => rfl)) (nomark _)))) pss_nil)
  (pss_one (ps_ret (pe_or (pe_cmpR (op_eqK K rfl hr.units) (pv 1) pe_int (nomark _)) (pe_one (pe_cmpR (op_eqK K rfl hr.units) (pv 1) pe_int (nomark _))))))))))))))))))), ?_⟩
  intro args R Y hS
  obtain ⟨k, a, c, d, e, b, rfl, hS⟩ := hS
  unfold Q_law_holds at hS
  try dsimp only at hS
  obtain ⟨hP, hS⟩ := hS
  refine w_start (Γ := [some (.fr (.exc (kC K k) (kF k a c d e b))), some (.fr (.int k)), some (.fr (vT a c d e b)), none, none]) ?_
  try dsimp only [cxOf]
  clear po tk hr
  have fT_kits := T.kits
  have fT_cals := T.cals
  have fT_Z_NotKept := T.Z_NotKept
  have fT_Z_NothingToUndo := T.Z_NothingToUndo
  have xf_BadDeed := T.E_BadDeed.xf
  have xn_BadDeed_place := T.E_BadDeed.no "place" (by decide +kernel)
  have xf_BadName := T.E_BadName.xf
  have xn_BadName_name := T.E_BadName.no "name" (by decide +kernel)
  have xf_BadNumber := T.E_BadNumber.xf
  have xn_BadNumber_what := T.E_BadNumber.no "what" (by decide +kernel)
  have xn_BadNumber_value := T.E_BadNumber.no "value" (by decide +kernel)
  have xf_BadPaper := T.E_BadPaper.xf
  have xn_BadPaper_row := T.E_BadPaper.no "row" (by decide +kernel)
  have xn_BadPaper_reason := T.E_BadPaper.no "reason" (by decide +kernel)
  have xf_BadRides := T.E_BadRides.xf
  have xn_BadRides_place := T.E_BadRides.no "place" (by decide +kernel)
  have xf_BadRing := T.E_BadRing.xf
  have xn_BadRing_names := T.E_BadRing.no "names" (by decide +kernel)
  have xf_BadRows := T.E_BadRows.xf
  have xn_BadRows_place := T.E_BadRows.no "place" (by decide +kernel)
  have xf_BadText := T.E_BadText.xf
  have xn_BadText_line := T.E_BadText.no "line" (by decide +kernel)
  have xf_BadWay := T.E_BadWay.xf
  have xn_BadWay_start := T.E_BadWay.no "start" (by decide +kernel)
  have xn_BadWay_end := T.E_BadWay.no "end" (by decide +kernel)
  have xf_TooMany := T.E_TooMany.xf
  have xn_TooMany_limit := T.E_TooMany.no "limit" (by decide +kernel)
  obtain ⟨hP, wa, wc, wd, we⟩ := hP
  have hP2 := hP
  obtain ⟨c1, c2, c3, ex⟩ := cals_ok fT_cals hP.1 hP.2
  have lk := kL_len k
  w_dflts wn
  intro bb
  w_dflts wn
  refine lc_inv (α := Unit) (fun j acc _ => acc = if k < (j : Int) then [.int k] else []) (fun _ => []) () (by rw [if_neg (by omega)]) rfl ?_ ?_
  · rintro j x acc _ hx rfl
    obtain ⟨rfl, hj⟩ := rng_at hx
    have hj2 : j < 12 := by omega
    have hat := kL_at (k := k) hj2
    w_dflts wn
    refine x_ixL (by omega) (by omega) fun v hv => ?_
    have ev : v = .bl (decide (k = (j : Int))) := by
      rw [Int.toNat_natCast, hat] at hv
      exact (Option.some.inj hv).symm
    subst ev
    by_cases hkj : k = (j : Int)
    · rw [decide_eq_true hkj, if_neg (by omega)]
      w_dflts wn
      exact ⟨(), by dsimp only; rw [if_pos (by omega), hkj]; rfl, rfl⟩
    · rw [decide_eq_false hkj]
      w_dflts wn
      exact ⟨(), by dsimp only; split <;> split <;> first | rfl | omega, rfl⟩
  rintro b2 acc _ rfl
  dsimp only [setA]
  rw [if_pos (by rw [rngD_len, lk]; omega)]
  w_dflts wn
  refine q_ne 1 (by simp [plB, plBs]) (by simp [plB, plBs]) ?_
  rw [show eqD (.lst [.int k]) (.lst [.int k]) = true by simp [eqD, eqDs]]
  have oa := wa.ok
  have oc := wc.ok
  have od := wd.ok
  have oe := we.ok
  w_dflts wn
  · subst hb
    rw [show kC K 0 = He.ga K "BadName" from rfl, show kF 0 a c d e b = ([("name", .str a)] : List (Str × Dt)) from rfl] at hS ⊢
    unfold vT at hS ⊢
    w_dflts wn
    all_goals first | exact hS | (rw [decide_eq_true rfl]; exact hS) | exact absurd rfl hb | (refine q_eq 1 (by simp [plB, plBs, od, oe]) (by simp [plB, plBs, od, oe]) ?_; simp only [eqD, eqDs, beq_self_eq_true, Bool.and_self, Bool.and_true]; w_dflts wn; exact hS)
  · subst hb
    rw [show kC K 1 = He.ga K "BadNumber" from rfl, show kF 1 a c d e b = ([("what", .str a), ("value", .int b)] : List (Str × Dt)) from rfl] at hS ⊢
    unfold vT at hS ⊢
    w_dflts wn
    all_goals first | exact hS | (rw [decide_eq_true rfl]; exact hS) | exact absurd rfl hb | (refine q_eq 1 (by simp [plB, plBs, od, oe]) (by simp [plB, plBs, od, oe]) ?_; simp only [eqD, eqDs, beq_self_eq_true, Bool.and_self, Bool.and_true]; w_dflts wn; exact hS)
  · subst hb
    rw [show kC K 2 = He.ga K "BadRows" from rfl, show kF 2 a c d e b = ([("place", .int b)] : List (Str × Dt)) from rfl] at hS ⊢
    unfold vT at hS ⊢
    w_dflts wn
    all_goals first | exact hS | (rw [decide_eq_true rfl]; exact hS) | exact absurd rfl hb | (refine q_eq 1 (by simp [plB, plBs, od, oe]) (by simp [plB, plBs, od, oe]) ?_; simp only [eqD, eqDs, beq_self_eq_true, Bool.and_self, Bool.and_true]; w_dflts wn; exact hS)
  · subst hb
    rw [show kC K 3 = He.ga K "BadWay" from rfl, show kF 3 a c d e b = ([("start", .str a), ("end", .str c)] : List (Str × Dt)) from rfl] at hS ⊢
    unfold vT at hS ⊢
    w_dflts wn
    all_goals first | exact hS | (rw [decide_eq_true rfl]; exact hS) | exact absurd rfl hb | (refine q_eq 1 (by simp [plB, plBs, od, oe]) (by simp [plB, plBs, od, oe]) ?_; simp only [eqD, eqDs, beq_self_eq_true, Bool.and_self, Bool.and_true]; w_dflts wn; exact hS)
  · subst hb
    rw [show kC K 4 = He.ga K "BadRing" from rfl, show kF 4 a c d e b = ([("names", .lst [.str d, .str e])] : List (Str × Dt)) from rfl] at hS ⊢
    unfold vT at hS ⊢
    w_dflts wn
    all_goals first | exact hS | (rw [decide_eq_true rfl]; exact hS) | exact absurd rfl hb | (refine q_eq 1 (by simp [plB, plBs, od, oe]) (by simp [plB, plBs, od, oe]) ?_; simp only [eqD, eqDs, beq_self_eq_true, Bool.and_self, Bool.and_true]; w_dflts wn; exact hS)
  · subst hb
    rw [show kC K 5 = He.ga K "BadPaper" from rfl, show kF 5 a c d e b = ([("row", .int b), ("reason", .str c)] : List (Str × Dt)) from rfl] at hS ⊢
    unfold vT at hS ⊢
    w_dflts wn
    all_goals first | exact hS | (rw [decide_eq_true rfl]; exact hS) | exact absurd rfl hb | (refine q_eq 1 (by simp [plB, plBs, od, oe]) (by simp [plB, plBs, od, oe]) ?_; simp only [eqD, eqDs, beq_self_eq_true, Bool.and_self, Bool.and_true]; w_dflts wn; exact hS)
  · subst hb
    rw [show kC K 6 = He.ga K "BadRides" from rfl, show kF 6 a c d e b = ([("place", .int b)] : List (Str × Dt)) from rfl] at hS ⊢
    unfold vT at hS ⊢
    w_dflts wn
    all_goals first | exact hS | (rw [decide_eq_true rfl]; exact hS) | exact absurd rfl hb | (refine q_eq 1 (by simp [plB, plBs, od, oe]) (by simp [plB, plBs, od, oe]) ?_; simp only [eqD, eqDs, beq_self_eq_true, Bool.and_self, Bool.and_true]; w_dflts wn; exact hS)
  · subst hb
    rw [show kC K 7 = He.ga K "BadText" from rfl, show kF 7 a c d e b = ([("line", .int b)] : List (Str × Dt)) from rfl] at hS ⊢
    unfold vT at hS ⊢
    w_dflts wn
    all_goals first | exact hS | (rw [decide_eq_true rfl]; exact hS) | exact absurd rfl hb | (refine q_eq 1 (by simp [plB, plBs, od, oe]) (by simp [plB, plBs, od, oe]) ?_; simp only [eqD, eqDs, beq_self_eq_true, Bool.and_self, Bool.and_true]; w_dflts wn; exact hS)
  · subst hb
    rw [show kC K 8 = He.ga K "BadDeed" from rfl, show kF 8 a c d e b = ([("place", .int b)] : List (Str × Dt)) from rfl] at hS ⊢
    unfold vT at hS ⊢
    w_dflts wn
    all_goals first | exact hS | (rw [decide_eq_true rfl]; exact hS) | exact absurd rfl hb | (refine q_eq 1 (by simp [plB, plBs, od, oe]) (by simp [plB, plBs, od, oe]) ?_; simp only [eqD, eqDs, beq_self_eq_true, Bool.and_self, Bool.and_true]; w_dflts wn; exact hS)
  · subst hb
    rw [show kC K 9 = He.ga K "TooMany" from rfl, show kF 9 a c d e b = ([("limit", .int b)] : List (Str × Dt)) from rfl] at hS ⊢
    unfold vT at hS ⊢
    w_dflts wn
    all_goals first | exact hS | (rw [decide_eq_true rfl]; exact hS) | exact absurd rfl hb | (refine q_eq 1 (by simp [plB, plBs, od, oe]) (by simp [plB, plBs, od, oe]) ?_; simp only [eqD, eqDs, beq_self_eq_true, Bool.and_self, Bool.and_true]; w_dflts wn; exact hS)
  · exact hS
  · rw [decide_eq_true (show k = 11 by omega)]; exact hS
theorem ok_law_values (T : Tx P K mg) : DN P w K mg base "_law_values" [] 2 (S_law_values K) := by
  have D_law_draw := ok_law_draw (P := P) (w := w) (base := base) T
  obtain ⟨fd, F⟩ := T.f_law_values
  refine ⟨_, (fn_d (fun_of F) sc_law_values (fun args R Y h => by obtain ⟨_, _, rfl, _⟩ := h; rfl) (fun cdv A outer s H E hr => ?_)).toK (F.bindsN (fun _ _ _ _ _ _ us hl => match us, hl with | [_, _], _ => rfl)), T.g_law_values, F.kp⟩
  have tk := takes_of (X := cxOf (L2.CX P w) P w K mg base ["_law_script", "_law_state", "_law_letters", "_law_words", "_law_k", "_law_j"] "_law_values" (defScope s_law_values) (He.fAd K ("_law_values", none)) cdv A outer s H E) rfl rfl rfl rfl
  have po := passes_of (X := cxOf (L2.CX P w) P w K mg base ["_law_script", "_law_state", "_law_letters", "_law_words", "_law_k", "_law_j"] "_law_values" (defScope s_law_values) (He.fAd K ("_law_values", none)) cdv A outer s H E) rfl
  refine ⟨_, (pss_cons (ps_set (i := 2) sc_law_values.nd rfl (Or.inr rfl) pe_str)
  (pss_cons (mkO (ps_set (i := 3) sc_law_values.nd rfl (Or.inl rfl) (pe_lst pa_nil)))
  (pss_cons (mkF [5, 4] (ps_for po rfl (pi_range1 (by rfl) T.b_range (pa_cons pe_int pa_nil)) (pg_name (i := 4) sc_law_values.nd rfl (Or.inl rfl)) (pss_one (ps_expr (pe_bm PySem.F.plainAttrs_list PySem.F.slot_list_append PySem.F.type_list_append mt_append (pv 3) (pa_cons (pe_bm PySem.F.plainAttrs_str PySem.F.slot_str_join PySem.F.type_str_join (mt_joinD K rfl) pe_str (pa_cons (mkLc [5] (pe_lc (own := [("_law_j", 5)]) rfl sc_law_values.nd (pi_range1 (by rfl) T.b_range (pa_cons (pe_op (op_addK K rfl) pe_int (mk1 1 (pe_nK K rfl D_law_draw hr (by decide) tk (pa_cons (pv 0) (pa_cons (pv 1) (pa_cons pe_int pa_nil)))))) pa_nil)) (blkOk_by (own := [("_law_j", 5)]) (N := ["_law_script", "_law_state", "_law_letters", "_law_words", "_law_k", "_law_j"]) (sc := defScope s_law_values) (by decide +kernel)) (fun _ _ _ _ _ => (pg_name (i := 5) sc_law_values.nd rfl (Or.inl rfl))) (fun _ _ _ _ _ => pts_nil) (fun _ _ _ _ _ => (pe_ix (ix_K K rfl hr.units) (pv 2) (mk1 1 (pe_nK K rfl D_law_draw hr (by decide) takes_none (pa_cons (pv 0) (pa_cons (pv 1) (pa_cons pe_int pa_nil))))) (fun _ _ => rfl))))) pa_nil)) pa_nil))))))
  (pss_one (ps_ret (pe_tup (pa_cons (pe_ix (ix_K K rfl hr.units) (pv 3) pe_int (fun _ _ => rfl)) (pa_cons (mk1 1 (pe_nK K rfl D_law_draw hr (by decide) tk (pa_cons (pv 0) (pa_cons (pv 1) (pa_cons (pe_op op_powP pe_int pe_int) pa_nil))))) (pa_cons (pe_ix (ix_K K rfl hr.units) (pv 3) pe_int (fun _ _ => rfl)) (pa_cons (pe_slice (sl_K K rfl) (pv 3) (po_some pe_int) po_none) pa_nil)))))))))), ?_⟩
  intro args R Y hS
  obtain ⟨ns, a, rfl, hS⟩ := hS
  unfold Q_law_values at hS
  try dsimp only at hS
  refine w_start (Γ := [some (.fr (.scr ns)), some (.os a St4), none, none, none, none]) ?_
  try dsimp only [cxOf]
  clear po tk hr
  have fT_kits := T.kits
  have fT_cals := T.cals
  have fT_Z_NotKept := T.Z_NotKept
  have fT_Z_NothingToUndo := T.Z_NothingToUndo
  have xf_BadDeed := T.E_BadDeed.xf
  have xn_BadDeed_place := T.E_BadDeed.no "place" (by decide +kernel)
  have xf_BadName := T.E_BadName.xf
  have xn_BadName_name := T.E_BadName.no "name" (by decide +kernel)
  have xf_BadNumber := T.E_BadNumber.xf
  have xn_BadNumber_what := T.E_BadNumber.no "what" (by decide +kernel)
  have xn_BadNumber_value := T.E_BadNumber.no "value" (by decide +kernel)
  have xf_BadPaper := T.E_BadPaper.xf
  have xn_BadPaper_row := T.E_BadPaper.no "row" (by decide +kernel)
  have xn_BadPaper_reason := T.E_BadPaper.no "reason" (by decide +kernel)
  have xf_BadRides := T.E_BadRides.xf
  have xn_BadRides_place := T.E_BadRides.no "place" (by decide +kernel)
  have xf_BadRing := T.E_BadRing.xf
  have xn_BadRing_names := T.E_BadRing.no "names" (by decide +kernel)
  have xf_BadRows := T.E_BadRows.xf
  have xn_BadRows_place := T.E_BadRows.no "place" (by decide +kernel)
  have xf_BadText := T.E_BadText.xf
  have xn_BadText_line := T.E_BadText.no "line" (by decide +kernel)
  have xf_BadWay := T.E_BadWay.xf
  have xn_BadWay_start := T.E_BadWay.no "start" (by decide +kernel)
  have xn_BadWay_end := T.E_BadWay.no "end" (by decide +kernel)
  have xf_TooMany := T.E_TooMany.xf
  have xn_TooMany_limit := T.E_TooMany.no "limit" (by decide +kernel)
  have l26 : ("abcdefghijklmnopqrstuvwxyz" : Str).length = 26 := by decide +kernel
  w_dflts wd
  rename_i wb
  refine loop_rng (α := List Str) (fun k ss => ss.length = k ∧ ∀ z ∈ ss, Wd z) (fun ss => [(3, some (.ol wb (ss.map .str)))]) [] ⟨rfl, by simp⟩ rfl ?_ ?_
  · rintro k ss hk ⟨h1, h2⟩
    have ls : (ss.map Dt.str).length = ss.length := List.length_map ..
    w_dflts wn
    intro n0 p0 q0
    w_dflts wn
    refine lc_inv (α := Unit) (fun j acc _ => ∃ ys : List Str, acc = ys.map .str ∧ ys.length = j ∧ ∀ y ∈ ys, y.length = 1 ∧ ∀ c ∈ y.cps.toList, letB c = true) (fun _ => []) () ⟨[], rfl, rfl, by simp⟩ rfl ?_ ?_
    · rintro j x acc _ hx ⟨ys, rfl, hl, hy⟩
      obtain ⟨rfl, hj⟩ := rng_at hx
      have lt : (ys.map Dt.str).length = ys.length := List.length_map ..
      w_dflts wn
      intro n1 p1 q1
      w_dflts wn
      refine x_ixS (by simp only [sizeLine]; omega) (by omega) (by omega) fun c hc => ?_
      w_dflts wn
      exact ⟨(), ⟨ys ++ [⟨#[c]⟩], by simp, by simp [hl], fun y hy2 => by
        rcases List.mem_append.mp hy2 with hy2 | hy2
        · exact hy y hy2
        · have : y = ⟨#[c]⟩ := by simpa using hy2
          subst this
          exact ⟨rfl, fun d hd => by
            have : d = c := by simpa using hd
            subst this; exact let_ok hc⟩⟩, rfl⟩
    rintro b2 acc _ ⟨ys, rfl, lys, hys⟩
    dsimp only [setA]
    rw [rngD_len] at lys
    have su := sum_ones hys
    have hw := wd_join hys (by omega)
    have e0 : (("" : Str)).length = 0 := by decide +kernel
    w_dflts wn
    · rw [su, e0]; omega
    exact ⟨ss ++ [Txt.join "" ys], ⟨by simp [h1], fun z hz => by
      rcases List.mem_append.mp hz with hz | hz
      · exact h2 z hz
      · have : z = Txt.join "" ys := by simpa using hz
        subst this; exact hw⟩, by simp only [List.map_append]; rfl⟩
  rintro ss ⟨h1, h2⟩
  obtain ⟨w0, w1, w2, w3, rfl⟩ := four h1
  have g0 := h2 w0 (by simp)
  have g1 := h2 w1 (by simp)
  have g2 := h2 w2 (by simp)
  have g3 := h2 w3 (by simp)
  w_dflts wn
  intro bn pb qb
  w_dflts wn
  exact hS w0 w1 w2 w3 bn g0 g1 g2 g3
theorem ok_law (T : Tx P K mg) {fd : FuncData} (F : FunD K "law" "law" (defArgs s_law) (defBody s_law) (defScope s_law) [] [] (He.fAd K ("law", none)) fd) : FnOk P w K mg base (L2.CX P w) 3 (He.fAd K ("law", none)) fd ["_law_script"] (spD K SLaw) := by
  have D_law_caught := ok_law_caught (P := P) (w := w) (base := base) T
  have D_law_holds := ok_law_holds (P := P) (w := w) (base := base) T
  have D_law_start := ok_law_start (P := P) (w := w) (base := base) T
  have D_law_values := ok_law_values (P := P) (w := w) (base := base) T
  refine fn_d (fun_of F) sc_law (fun args R Y h => by obtain ⟨_, rfl, _⟩ := h; rfl) (fun cdv A outer s H E hr => ?_)
  have tk := takes_of (X := cxOf (L2.CX P w) P w K mg base ["_law_script", "_law_state", "_law_kind", "_law_first", "_law_second", "_law_one", "_law_two"] "law" (defScope s_law) (He.fAd K ("law", none)) cdv A outer s H E) rfl rfl rfl rfl
  have po := passes_of (X := cxOf (L2.CX P w) P w K mg base ["_law_script", "_law_state", "_law_kind", "_law_first", "_law_second", "_law_one", "_law_two"] "law" (defScope s_law) (He.fAd K ("law", none)) cdv A outer s H E) rfl
  refine ⟨_, (pss_cons (ps_set (i := 1) sc_law.nd rfl (Or.inl rfl) (pe_nK K rfl D_law_start hr (by decide) tk (pa_cons (pv 0) pa_nil)))
  (pss_cons (mkF [3, 2, 5, 4, 6] (ps_for po rfl (pi_range1 (by rfl) T.b_range (pa_cons pe_int pa_nil)) (pg_name (i := 2) sc_law.nd rfl (Or.inl rfl)) (pss_cons (ps_set (i := 3) sc_law.nd rfl (Or.inl rfl) (mk1 1 (pe_nK K rfl D_law_values hr (by decide) tk (pa_cons (pv 0) (pa_cons (pv 1) pa_nil)))))
  (pss_cons (ps_set (i := 4) sc_law.nd rfl (Or.inl rfl) (mk1 1 (pe_nK K rfl D_law_values hr (by decide) tk (pa_cons (pv 0) (pa_cons (pv 1) pa_nil)))))
  (pss_cons (ps_set (i := 5) sc_law.nd rfl (Or.inl rfl) (pe_nK K rfl D_law_caught hr (by decide) tk (pa_cons (pv 2) (pa_cons (pv 3) pa_nil))))
  (pss_cons (ps_set (i := 6) sc_law.nd rfl (Or.inl rfl) (pe_nK K rfl D_law_caught hr (by decide) tk (pa_cons (pv 2) (pa_cons (pv 4) pa_nil))))
  (pss_one (ps_if (PW.pt (pw_or (pt_not (pt_val (pe_nK K rfl D_law_holds hr (by decide) tk (pa_cons (pv 5) (pa_cons (pv 2) (pa_cons (pv 3) pa_nil)))))) (pw_or1 (pt_not (pt_val (pe_nK K rfl D_law_holds hr (by decide) tk (pa_cons (pv 6) (pa_cons (pv 2) (pa_cons (pv 4) pa_nil))))))))) (pss_one (ps_ret pe_bl)) pss_nil))))))))
  (pss_one (ps_ret pe_bl)))), ?_⟩
  intro args R Y hS
  obtain ⟨ns, rfl, hl, hS⟩ := hS
  refine w_start (Γ := [some (.fr (.scr ns)), none, none, none, none, none, none]) ?_
  try dsimp only [cxOf]
  clear po tk hr
  have fT_kits := T.kits
  have fT_cals := T.cals
  have fT_Z_NotKept := T.Z_NotKept
  have fT_Z_NothingToUndo := T.Z_NothingToUndo
  have xf_BadDeed := T.E_BadDeed.xf
  have xn_BadDeed_place := T.E_BadDeed.no "place" (by decide +kernel)
  have xf_BadName := T.E_BadName.xf
  have xn_BadName_name := T.E_BadName.no "name" (by decide +kernel)
  have xf_BadNumber := T.E_BadNumber.xf
  have xn_BadNumber_what := T.E_BadNumber.no "what" (by decide +kernel)
  have xn_BadNumber_value := T.E_BadNumber.no "value" (by decide +kernel)
  have xf_BadPaper := T.E_BadPaper.xf
  have xn_BadPaper_row := T.E_BadPaper.no "row" (by decide +kernel)
  have xn_BadPaper_reason := T.E_BadPaper.no "reason" (by decide +kernel)
  have xf_BadRides := T.E_BadRides.xf
  have xn_BadRides_place := T.E_BadRides.no "place" (by decide +kernel)
  have xf_BadRing := T.E_BadRing.xf
  have xn_BadRing_names := T.E_BadRing.no "names" (by decide +kernel)
  have xf_BadRows := T.E_BadRows.xf
  have xn_BadRows_place := T.E_BadRows.no "place" (by decide +kernel)
  have xf_BadText := T.E_BadText.xf
  have xn_BadText_line := T.E_BadText.no "line" (by decide +kernel)
  have xf_BadWay := T.E_BadWay.xf
  have xn_BadWay_start := T.E_BadWay.no "start" (by decide +kernel)
  have xn_BadWay_end := T.E_BadWay.no "end" (by decide +kernel)
  have xf_TooMany := T.E_TooMany.xf
  have xn_TooMany_limit := T.E_TooMany.no "limit" (by decide +kernel)
  w_dflts wd
  rename_i sa
  refine loop_rng (α := Unit) (fun k _ => True) (fun _ => []) () trivial rfl ?_ ?_
  · rintro k _ hk _
    have hkk : (0 : Int) ≤ (0 + (k : Int)) ∧ (0 + (k : Int)) < 12 := by omega
    w_dflts wn
    intro a1 c1 d1 e1 b1 wa1 wc1 wd1 we1
    w_dflts wn
    intro a2 c2 d2 e2 b2 wa2 wc2 wd2 we2
    have f1 : ((0 : Int) ≤ (0 + (k : Int)) ∧ (0 + (k : Int)) < 12) ∧ Wd a1 ∧ Wd c1 ∧ Wd d1 ∧ Wd e1 := ⟨hkk, wa1, wc1, wd1, we1⟩
    have f2 : ((0 : Int) ≤ (0 + (k : Int)) ∧ (0 + (k : Int)) < 12) ∧ Wd a2 ∧ Wd c2 ∧ Wd d2 ∧ Wd e2 := ⟨hkk, wa2, wc2, wd2, we2⟩
    w_dflts wn
    exact ⟨(), trivial, rfl⟩
  · rintro _ _
    w_dflts wn
    exact hS _
end
/-! ### the head -/
def e_BadDeed : EDef := ⟨"BadDeed", "BadDeed.__init__", defArgs (inClass (top 10) 0), defBody (inClass (top 10) 0), defScope (inClass (top 10) 0), ["place"]⟩
theorem ct_BadDeed : ER.CallT "bad deed" ⟨50, 8, 50, 13⟩ ⟨50, 8, 50, 15⟩ ⟨50, 8, 50, 24⟩ ⟨50, 25, 50, 35⟩ ⟨50, 8, 50, 36⟩ ⟨50, 8, 50, 36⟩ := ⟨fun _ => rfl, fun _ => ⟨_, rfl⟩⟩
theorem mk_BadDeed {K : PySem.W.Frag} {h : Heap} {mg : Str → Option Value} (X : K.In h) (G : h.Ns mainGlobals mg) (z : fnE K "BadDeed" = e_BadDeed.val ∧ errB PySem.Challenge.pw_laterways_k83_kinds_of_errors K "BadDeed" "BadDeed.__init__" ["place"] = true) : ErrK PySem.Challenge.pw_laterways_k83_kinds_of_errors K mg "BadDeed" (He.ga K "BadDeed") ["place"] := by
  obtain ⟨ET, IB⟩ := err_ok X G z.2
  have IT : ER.InitT PySem.Challenge.pw_laterways_k83_kinds_of_errors K "BadDeed.__init__" ⟨49, 17, 49, 21⟩ [("place", ⟨49, 23, 49, 28⟩)] [.Expr (ER.eCall "bad deed" ⟨50, 8, 50, 13⟩ ⟨50, 8, 50, 15⟩ ⟨50, 8, 50, 24⟩ ⟨50, 25, 50, 35⟩ ⟨50, 8, 50, 36⟩) ⟨50, 8, 50, 36⟩, ER.eSet "place" ⟨51, 8, 51, 12⟩ ⟨51, 8, 51, 18⟩ ⟨51, 21, 51, 26⟩ ⟨51, 8, 51, 26⟩] (He.ga K "BadDeed") _ := init_ok (prog := PySem.Challenge.pw_laterways_k83_kinds_of_errors) (by rw [z.1]; rfl) IB
  exact errK_of ET (ER.maker1 ET ct_BadDeed IT (fun _ _ _ _ _ _ _ _ => by first | rfl | with_unfolding_all rfl | kernel_rfl) (by decide +kernel) (by decide +kernel) (by decide +kernel) (by decide +kernel))
def e_BadName : EDef := ⟨"BadName", "BadName.__init__", defArgs (inClass (top 2) 0), defBody (inClass (top 2) 0), defScope (inClass (top 2) 0), ["name"]⟩
theorem ct_BadName : ER.CallT "bad name" ⟨7, 8, 7, 13⟩ ⟨7, 8, 7, 15⟩ ⟨7, 8, 7, 24⟩ ⟨7, 25, 7, 35⟩ ⟨7, 8, 7, 36⟩ ⟨7, 8, 7, 36⟩ := ⟨fun _ => rfl, fun _ => ⟨_, rfl⟩⟩
theorem mk_BadName {K : PySem.W.Frag} {h : Heap} {mg : Str → Option Value} (X : K.In h) (G : h.Ns mainGlobals mg) (z : fnE K "BadName" = e_BadName.val ∧ errB PySem.Challenge.pw_laterways_k83_kinds_of_errors K "BadName" "BadName.__init__" ["name"] = true) : ErrK PySem.Challenge.pw_laterways_k83_kinds_of_errors K mg "BadName" (He.ga K "BadName") ["name"] := by
  obtain ⟨ET, IB⟩ := err_ok X G z.2
  have IT : ER.InitT PySem.Challenge.pw_laterways_k83_kinds_of_errors K "BadName.__init__" ⟨6, 17, 6, 21⟩ [("name", ⟨6, 23, 6, 27⟩)] [.Expr (ER.eCall "bad name" ⟨7, 8, 7, 13⟩ ⟨7, 8, 7, 15⟩ ⟨7, 8, 7, 24⟩ ⟨7, 25, 7, 35⟩ ⟨7, 8, 7, 36⟩) ⟨7, 8, 7, 36⟩, ER.eSet "name" ⟨8, 8, 8, 12⟩ ⟨8, 8, 8, 17⟩ ⟨8, 20, 8, 24⟩ ⟨8, 8, 8, 24⟩] (He.ga K "BadName") _ := init_ok (prog := PySem.Challenge.pw_laterways_k83_kinds_of_errors) (by rw [z.1]; rfl) IB
  exact errK_of ET (ER.maker1 ET ct_BadName IT (fun _ _ _ _ _ _ _ _ => by first | rfl | with_unfolding_all rfl | kernel_rfl) (by decide +kernel) (by decide +kernel) (by decide +kernel) (by decide +kernel))
def e_BadNumber : EDef := ⟨"BadNumber", "BadNumber.__init__", defArgs (inClass (top 3) 0), defBody (inClass (top 3) 0), defScope (inClass (top 3) 0), ["what", "value"]⟩
theorem ct_BadNumber : ER.CallT "bad number" ⟨12, 8, 12, 13⟩ ⟨12, 8, 12, 15⟩ ⟨12, 8, 12, 24⟩ ⟨12, 25, 12, 37⟩ ⟨12, 8, 12, 38⟩ ⟨12, 8, 12, 38⟩ := ⟨fun _ => rfl, fun _ => ⟨_, rfl⟩⟩
theorem mk_BadNumber {K : PySem.W.Frag} {h : Heap} {mg : Str → Option Value} (X : K.In h) (G : h.Ns mainGlobals mg) (z : fnE K "BadNumber" = e_BadNumber.val ∧ errB PySem.Challenge.pw_laterways_k83_kinds_of_errors K "BadNumber" "BadNumber.__init__" ["what", "value"] = true) : ErrK PySem.Challenge.pw_laterways_k83_kinds_of_errors K mg "BadNumber" (He.ga K "BadNumber") ["what", "value"] := by
  obtain ⟨ET, IB⟩ := err_ok X G z.2
  have IT : ER.InitT PySem.Challenge.pw_laterways_k83_kinds_of_errors K "BadNumber.__init__" ⟨11, 17, 11, 21⟩ [("what", ⟨11, 23, 11, 27⟩), ("value", ⟨11, 29, 11, 34⟩)] [.Expr (ER.eCall "bad number" ⟨12, 8, 12, 13⟩ ⟨12, 8, 12, 15⟩ ⟨12, 8, 12, 24⟩ ⟨12, 25, 12, 37⟩ ⟨12, 8, 12, 38⟩) ⟨12, 8, 12, 38⟩, ER.eSet "what" ⟨13, 8, 13, 12⟩ ⟨13, 8, 13, 17⟩ ⟨13, 20, 13, 24⟩ ⟨13, 8, 13, 24⟩, ER.eSet "value" ⟨14, 8, 14, 12⟩ ⟨14, 8, 14, 18⟩ ⟨14, 21, 14, 26⟩ ⟨14, 8, 14, 26⟩] (He.ga K "BadNumber") _ := init_ok (prog := PySem.Challenge.pw_laterways_k83_kinds_of_errors) (by rw [z.1]; rfl) IB
  exact errK_of ET (ER.maker2 ET ct_BadNumber IT (fun _ _ _ _ _ _ _ _ _ => by first | rfl | with_unfolding_all rfl | kernel_rfl) (by decide +kernel) (by decide +kernel) (by decide +kernel) (by decide +kernel) (by decide +kernel) (by decide +kernel) (by decide +kernel) (by decide +kernel) (by decide +kernel))
def e_BadPaper : EDef := ⟨"BadPaper", "BadPaper.__init__", defArgs (inClass (top 7) 0), defBody (inClass (top 7) 0), defScope (inClass (top 7) 0), ["row", "reason"]⟩
theorem ct_BadPaper : ER.CallT "bad paper" ⟨34, 8, 34, 13⟩ ⟨34, 8, 34, 15⟩ ⟨34, 8, 34, 24⟩ ⟨34, 25, 34, 36⟩ ⟨34, 8, 34, 37⟩ ⟨34, 8, 34, 37⟩ := ⟨fun _ => rfl, fun _ => ⟨_, rfl⟩⟩
theorem mk_BadPaper {K : PySem.W.Frag} {h : Heap} {mg : Str → Option Value} (X : K.In h) (G : h.Ns mainGlobals mg) (z : fnE K "BadPaper" = e_BadPaper.val ∧ errB PySem.Challenge.pw_laterways_k83_kinds_of_errors K "BadPaper" "BadPaper.__init__" ["row", "reason"] = true) : ErrK PySem.Challenge.pw_laterways_k83_kinds_of_errors K mg "BadPaper" (He.ga K "BadPaper") ["row", "reason"] := by
  obtain ⟨ET, IB⟩ := err_ok X G z.2
  have IT : ER.InitT PySem.Challenge.pw_laterways_k83_kinds_of_errors K "BadPaper.__init__" ⟨33, 17, 33, 21⟩ [("row", ⟨33, 23, 33, 26⟩), ("reason", ⟨33, 28, 33, 34⟩)] [.Expr (ER.eCall "bad paper" ⟨34, 8, 34, 13⟩ ⟨34, 8, 34, 15⟩ ⟨34, 8, 34, 24⟩ ⟨34, 25, 34, 36⟩ ⟨34, 8, 34, 37⟩) ⟨34, 8, 34, 37⟩, ER.eSet "row" ⟨35, 8, 35, 12⟩ ⟨35, 8, 35, 16⟩ ⟨35, 19, 35, 22⟩ ⟨35, 8, 35, 22⟩, ER.eSet "reason" ⟨36, 8, 36, 12⟩ ⟨36, 8, 36, 19⟩ ⟨36, 22, 36, 28⟩ ⟨36, 8, 36, 28⟩] (He.ga K "BadPaper") _ := init_ok (prog := PySem.Challenge.pw_laterways_k83_kinds_of_errors) (by rw [z.1]; rfl) IB
  exact errK_of ET (ER.maker2 ET ct_BadPaper IT (fun _ _ _ _ _ _ _ _ _ => by first | rfl | with_unfolding_all rfl | kernel_rfl) (by decide +kernel) (by decide +kernel) (by decide +kernel) (by decide +kernel) (by decide +kernel) (by decide +kernel) (by decide +kernel) (by decide +kernel) (by decide +kernel))
def e_BadRides : EDef := ⟨"BadRides", "BadRides.__init__", defArgs (inClass (top 8) 0), defBody (inClass (top 8) 0), defScope (inClass (top 8) 0), ["place"]⟩
theorem ct_BadRides : ER.CallT "bad rides" ⟨40, 8, 40, 13⟩ ⟨40, 8, 40, 15⟩ ⟨40, 8, 40, 24⟩ ⟨40, 25, 40, 36⟩ ⟨40, 8, 40, 37⟩ ⟨40, 8, 40, 37⟩ := ⟨fun _ => rfl, fun _ => ⟨_, rfl⟩⟩
theorem mk_BadRides {K : PySem.W.Frag} {h : Heap} {mg : Str → Option Value} (X : K.In h) (G : h.Ns mainGlobals mg) (z : fnE K "BadRides" = e_BadRides.val ∧ errB PySem.Challenge.pw_laterways_k83_kinds_of_errors K "BadRides" "BadRides.__init__" ["place"] = true) : ErrK PySem.Challenge.pw_laterways_k83_kinds_of_errors K mg "BadRides" (He.ga K "BadRides") ["place"] := by
  obtain ⟨ET, IB⟩ := err_ok X G z.2
  have IT : ER.InitT PySem.Challenge.pw_laterways_k83_kinds_of_errors K "BadRides.__init__" ⟨39, 17, 39, 21⟩ [("place", ⟨39, 23, 39, 28⟩)] [.Expr (ER.eCall "bad rides" ⟨40, 8, 40, 13⟩ ⟨40, 8, 40, 15⟩ ⟨40, 8, 40, 24⟩ ⟨40, 25, 40, 36⟩ ⟨40, 8, 40, 37⟩) ⟨40, 8, 40, 37⟩, ER.eSet "place" ⟨41, 8, 41, 12⟩ ⟨41, 8, 41, 18⟩ ⟨41, 21, 41, 26⟩ ⟨41, 8, 41, 26⟩] (He.ga K "BadRides") _ := init_ok (prog := PySem.Challenge.pw_laterways_k83_kinds_of_errors) (by rw [z.1]; rfl) IB
  exact errK_of ET (ER.maker1 ET ct_BadRides IT (fun _ _ _ _ _ _ _ _ => by first | rfl | with_unfolding_all rfl | kernel_rfl) (by decide +kernel) (by decide +kernel) (by decide +kernel) (by decide +kernel))
def e_BadRing : EDef := ⟨"BadRing", "BadRing.__init__", defArgs (inClass (top 6) 0), defBody (inClass (top 6) 0), defScope (inClass (top 6) 0), ["names"]⟩
theorem ct_BadRing : ER.CallT "bad ring" ⟨29, 8, 29, 13⟩ ⟨29, 8, 29, 15⟩ ⟨29, 8, 29, 24⟩ ⟨29, 25, 29, 35⟩ ⟨29, 8, 29, 36⟩ ⟨29, 8, 29, 36⟩ := ⟨fun _ => rfl, fun _ => ⟨_, rfl⟩⟩
theorem mk_BadRing {K : PySem.W.Frag} {h : Heap} {mg : Str → Option Value} (X : K.In h) (G : h.Ns mainGlobals mg) (z : fnE K "BadRing" = e_BadRing.val ∧ errB PySem.Challenge.pw_laterways_k83_kinds_of_errors K "BadRing" "BadRing.__init__" ["names"] = true) : ErrK PySem.Challenge.pw_laterways_k83_kinds_of_errors K mg "BadRing" (He.ga K "BadRing") ["names"] := by
  obtain ⟨ET, IB⟩ := err_ok X G z.2
  have IT : ER.InitT PySem.Challenge.pw_laterways_k83_kinds_of_errors K "BadRing.__init__" ⟨28, 17, 28, 21⟩ [("names", ⟨28, 23, 28, 28⟩)] [.Expr (ER.eCall "bad ring" ⟨29, 8, 29, 13⟩ ⟨29, 8, 29, 15⟩ ⟨29, 8, 29, 24⟩ ⟨29, 25, 29, 35⟩ ⟨29, 8, 29, 36⟩) ⟨29, 8, 29, 36⟩, ER.eSet "names" ⟨30, 8, 30, 12⟩ ⟨30, 8, 30, 18⟩ ⟨30, 21, 30, 26⟩ ⟨30, 8, 30, 26⟩] (He.ga K "BadRing") _ := init_ok (prog := PySem.Challenge.pw_laterways_k83_kinds_of_errors) (by rw [z.1]; rfl) IB
  exact errK_of ET (ER.maker1 ET ct_BadRing IT (fun _ _ _ _ _ _ _ _ => by first | rfl | with_unfolding_all rfl | kernel_rfl) (by decide +kernel) (by decide +kernel) (by decide +kernel) (by decide +kernel))
def e_BadRows : EDef := ⟨"BadRows", "BadRows.__init__", defArgs (inClass (top 4) 0), defBody (inClass (top 4) 0), defScope (inClass (top 4) 0), ["place"]⟩
theorem ct_BadRows : ER.CallT "bad rows" ⟨18, 8, 18, 13⟩ ⟨18, 8, 18, 15⟩ ⟨18, 8, 18, 24⟩ ⟨18, 25, 18, 35⟩ ⟨18, 8, 18, 36⟩ ⟨18, 8, 18, 36⟩ := ⟨fun _ => rfl, fun _ => ⟨_, rfl⟩⟩
theorem mk_BadRows {K : PySem.W.Frag} {h : Heap} {mg : Str → Option Value} (X : K.In h) (G : h.Ns mainGlobals mg) (z : fnE K "BadRows" = e_BadRows.val ∧ errB PySem.Challenge.pw_laterways_k83_kinds_of_errors K "BadRows" "BadRows.__init__" ["place"] = true) : ErrK PySem.Challenge.pw_laterways_k83_kinds_of_errors K mg "BadRows" (He.ga K "BadRows") ["place"] := by
  obtain ⟨ET, IB⟩ := err_ok X G z.2
  have IT : ER.InitT PySem.Challenge.pw_laterways_k83_kinds_of_errors K "BadRows.__init__" ⟨17, 17, 17, 21⟩ [("place", ⟨17, 23, 17, 28⟩)] [.Expr (ER.eCall "bad rows" ⟨18, 8, 18, 13⟩ ⟨18, 8, 18, 15⟩ ⟨18, 8, 18, 24⟩ ⟨18, 25, 18, 35⟩ ⟨18, 8, 18, 36⟩) ⟨18, 8, 18, 36⟩, ER.eSet "place" ⟨19, 8, 19, 12⟩ ⟨19, 8, 19, 18⟩ ⟨19, 21, 19, 26⟩ ⟨19, 8, 19, 26⟩] (He.ga K "BadRows") _ := init_ok (prog := PySem.Challenge.pw_laterways_k83_kinds_of_errors) (by rw [z.1]; rfl) IB
  exact errK_of ET (ER.maker1 ET ct_BadRows IT (fun _ _ _ _ _ _ _ _ => by first | rfl | with_unfolding_all rfl | kernel_rfl) (by decide +kernel) (by decide +kernel) (by decide +kernel) (by decide +kernel))
def e_BadText : EDef := ⟨"BadText", "BadText.__init__", defArgs (inClass (top 9) 0), defBody (inClass (top 9) 0), defScope (inClass (top 9) 0), ["line"]⟩
theorem ct_BadText : ER.CallT "bad text" ⟨45, 8, 45, 13⟩ ⟨45, 8, 45, 15⟩ ⟨45, 8, 45, 24⟩ ⟨45, 25, 45, 35⟩ ⟨45, 8, 45, 36⟩ ⟨45, 8, 45, 36⟩ := ⟨fun _ => rfl, fun _ => ⟨_, rfl⟩⟩
theorem mk_BadText {K : PySem.W.Frag} {h : Heap} {mg : Str → Option Value} (X : K.In h) (G : h.Ns mainGlobals mg) (z : fnE K "BadText" = e_BadText.val ∧ errB PySem.Challenge.pw_laterways_k83_kinds_of_errors K "BadText" "BadText.__init__" ["line"] = true) : ErrK PySem.Challenge.pw_laterways_k83_kinds_of_errors K mg "BadText" (He.ga K "BadText") ["line"] := by
  obtain ⟨ET, IB⟩ := err_ok X G z.2
  have IT : ER.InitT PySem.Challenge.pw_laterways_k83_kinds_of_errors K "BadText.__init__" ⟨44, 17, 44, 21⟩ [("line", ⟨44, 23, 44, 27⟩)] [.Expr (ER.eCall "bad text" ⟨45, 8, 45, 13⟩ ⟨45, 8, 45, 15⟩ ⟨45, 8, 45, 24⟩ ⟨45, 25, 45, 35⟩ ⟨45, 8, 45, 36⟩) ⟨45, 8, 45, 36⟩, ER.eSet "line" ⟨46, 8, 46, 12⟩ ⟨46, 8, 46, 17⟩ ⟨46, 20, 46, 24⟩ ⟨46, 8, 46, 24⟩] (He.ga K "BadText") _ := init_ok (prog := PySem.Challenge.pw_laterways_k83_kinds_of_errors) (by rw [z.1]; rfl) IB
  exact errK_of ET (ER.maker1 ET ct_BadText IT (fun _ _ _ _ _ _ _ _ => by first | rfl | with_unfolding_all rfl | kernel_rfl) (by decide +kernel) (by decide +kernel) (by decide +kernel) (by decide +kernel))
def e_BadWay : EDef := ⟨"BadWay", "BadWay.__init__", defArgs (inClass (top 5) 0), defBody (inClass (top 5) 0), defScope (inClass (top 5) 0), ["start", "end"]⟩
theorem ct_BadWay : ER.CallT "bad way" ⟨23, 8, 23, 13⟩ ⟨23, 8, 23, 15⟩ ⟨23, 8, 23, 24⟩ ⟨23, 25, 23, 34⟩ ⟨23, 8, 23, 35⟩ ⟨23, 8, 23, 35⟩ := ⟨fun _ => rfl, fun _ => ⟨_, rfl⟩⟩
theorem mk_BadWay {K : PySem.W.Frag} {h : Heap} {mg : Str → Option Value} (X : K.In h) (G : h.Ns mainGlobals mg) (z : fnE K "BadWay" = e_BadWay.val ∧ errB PySem.Challenge.pw_laterways_k83_kinds_of_errors K "BadWay" "BadWay.__init__" ["start", "end"] = true) : ErrK PySem.Challenge.pw_laterways_k83_kinds_of_errors K mg "BadWay" (He.ga K "BadWay") ["start", "end"] := by
  obtain ⟨ET, IB⟩ := err_ok X G z.2
  have IT : ER.InitT PySem.Challenge.pw_laterways_k83_kinds_of_errors K "BadWay.__init__" ⟨22, 17, 22, 21⟩ [("start", ⟨22, 23, 22, 28⟩), ("end", ⟨22, 30, 22, 33⟩)] [.Expr (ER.eCall "bad way" ⟨23, 8, 23, 13⟩ ⟨23, 8, 23, 15⟩ ⟨23, 8, 23, 24⟩ ⟨23, 25, 23, 34⟩ ⟨23, 8, 23, 35⟩) ⟨23, 8, 23, 35⟩, ER.eSet "start" ⟨24, 8, 24, 12⟩ ⟨24, 8, 24, 18⟩ ⟨24, 21, 24, 26⟩ ⟨24, 8, 24, 26⟩, ER.eSet "end" ⟨25, 8, 25, 12⟩ ⟨25, 8, 25, 16⟩ ⟨25, 19, 25, 22⟩ ⟨25, 8, 25, 22⟩] (He.ga K "BadWay") _ := init_ok (prog := PySem.Challenge.pw_laterways_k83_kinds_of_errors) (by rw [z.1]; rfl) IB
  exact errK_of ET (ER.maker2 ET ct_BadWay IT (fun _ _ _ _ _ _ _ _ _ => by first | rfl | with_unfolding_all rfl | kernel_rfl) (by decide +kernel) (by decide +kernel) (by decide +kernel) (by decide +kernel) (by decide +kernel) (by decide +kernel) (by decide +kernel) (by decide +kernel) (by decide +kernel))
def e_TooMany : EDef := ⟨"TooMany", "TooMany.__init__", defArgs (inClass (top 11) 0), defBody (inClass (top 11) 0), defScope (inClass (top 11) 0), ["limit"]⟩
theorem ct_TooMany : ER.CallT "too many" ⟨55, 8, 55, 13⟩ ⟨55, 8, 55, 15⟩ ⟨55, 8, 55, 24⟩ ⟨55, 25, 55, 35⟩ ⟨55, 8, 55, 36⟩ ⟨55, 8, 55, 36⟩ := ⟨fun _ => rfl, fun _ => ⟨_, rfl⟩⟩
theorem mk_TooMany {K : PySem.W.Frag} {h : Heap} {mg : Str → Option Value} (X : K.In h) (G : h.Ns mainGlobals mg) (z : fnE K "TooMany" = e_TooMany.val ∧ errB PySem.Challenge.pw_laterways_k83_kinds_of_errors K "TooMany" "TooMany.__init__" ["limit"] = true) : ErrK PySem.Challenge.pw_laterways_k83_kinds_of_errors K mg "TooMany" (He.ga K "TooMany") ["limit"] := by
  obtain ⟨ET, IB⟩ := err_ok X G z.2
  have IT : ER.InitT PySem.Challenge.pw_laterways_k83_kinds_of_errors K "TooMany.__init__" ⟨54, 17, 54, 21⟩ [("limit", ⟨54, 23, 54, 28⟩)] [.Expr (ER.eCall "too many" ⟨55, 8, 55, 13⟩ ⟨55, 8, 55, 15⟩ ⟨55, 8, 55, 24⟩ ⟨55, 25, 55, 35⟩ ⟨55, 8, 55, 36⟩) ⟨55, 8, 55, 36⟩, ER.eSet "limit" ⟨56, 8, 56, 12⟩ ⟨56, 8, 56, 18⟩ ⟨56, 21, 56, 26⟩ ⟨56, 8, 56, 26⟩] (He.ga K "TooMany") _ := init_ok (prog := PySem.Challenge.pw_laterways_k83_kinds_of_errors) (by rw [z.1]; rfl) IB
  exact errK_of ET (ER.maker1 ET ct_TooMany IT (fun _ _ _ _ _ _ _ _ => by first | rfl | with_unfolding_all rfl | kernel_rfl) (by decide +kernel) (by decide +kernel) (by decide +kernel) (by decide +kernel))
def fxl (K : PySem.W.Frag) : List Bool := [kitsB K, calsB K, err0B K "NotKept", err0B K "NothingToUndo"]
def fx (K : PySem.W.Frag) : Bool := (fxl K).all id
def fa : List He.Fa := [.free "ValueError", .free "abs", .free "int", .free "isinstance", .free "len", .free "list", .free "range", .glo "BadDeed", .glo "BadName", .glo "BadNumber", .glo "BadPaper", .glo "BadRides", .glo "BadRing", .glo "BadRows", .glo "BadText", .glo "BadWay", .glo "CalendarError", .glo "NotKept", .glo "NothingToUndo", .glo "TooMany", .glo "_law_start", .glo "_law_draw", .glo "_law_kinds", .glo "_law_throw", .glo "_law_caught", .glo "_law_holds", .glo "_law_values", .glo "law"]
def fn : List He.DefD := [⟨("_law_start", none), "_law_start", "_law_start", defArgs s_law_start, defBody s_law_start, defScope s_law_start, [], []⟩, ⟨("_law_draw", none), "_law_draw", "_law_draw", defArgs s_law_draw, defBody s_law_draw, defScope s_law_draw, [], []⟩, ⟨("_law_kinds", none), "_law_kinds", "_law_kinds", defArgs s_law_kinds, defBody s_law_kinds, defScope s_law_kinds, [], []⟩, ⟨("_law_throw", none), "_law_throw", "_law_throw", defArgs s_law_throw, defBody s_law_throw, defScope s_law_throw, [], []⟩, ⟨("_law_caught", none), "_law_caught", "_law_caught", defArgs s_law_caught, defBody s_law_caught, defScope s_law_caught, [], []⟩, ⟨("_law_holds", none), "_law_holds", "_law_holds", defArgs s_law_holds, defBody s_law_holds, defScope s_law_holds, [], []⟩, ⟨("_law_values", none), "_law_values", "_law_values", defArgs s_law_values, defBody s_law_values, defScope s_law_values, [], []⟩, ⟨("law", none), "law", "law", defArgs s_law, defBody s_law, defScope s_law, [], []⟩]
def ss : List He.DefD := []
def en : List EDef := [e_BadDeed, e_BadName, e_BadNumber, e_BadPaper, e_BadRides, e_BadRing, e_BadRows, e_BadText, e_BadWay, e_TooMany]
abbrev R0 : PySem.W.OpenRow := PySem.W.OpenLaw.row PySem.Challenge.rw_laterways_k83_kinds_of_errors
abbrev hk : PySem.W.Hook := hookY 7 PySem.Challenge.pw_laterways_k83_kinds_of_errors fx fa fn en ss
def ob (s : PySem.W.SharedT) : AlY := obsYG 7 PySem.Challenge.pw_laterways_k83_kinds_of_errors fx fa fn en ss (HandSHeadRun.getT s)
theorem ob_eq (s : PySem.W.SharedT) : ob s = hk.obs s.abs := obsYG_eq (HandSHeadRun.getT_eq s)
def loose : List PySem.Str := (["__name__", "CalendarError", "BadName", "BadNumber", "BadRows", "BadWay", "BadRing", "BadPaper", "BadRides", "BadText", "BadDeed", "TooMany", "NotKept", "NothingToUndo", "_law_start", "_law_draw", "_law_kinds", "_law_throw", "_law_caught", "_law_holds", "_law_values"] : List PySem.Str)
theorem run (w : World) : HandSHeadRun.RunEq R0 (PySem.W.view R0.prog [22]) hk ob 100000 loose w := by
  intro os
  kernel_rfl
theorem tx_of {K : PySem.W.Frag} {h : Heap} {mg : Str → Option Value} (X : K.In h) (G : h.Ns mainGlobals mg) (c : SaysY PySem.Challenge.pw_laterways_k83_kinds_of_errors fx fa fn en ss K) : Tx PySem.Challenge.pw_laterways_k83_kinds_of_errors K mg := by
  exact ⟨He.free_ok X G (c.fact 0),
    He.free_ok X G (c.fact 1),
    He.free_ok X G (c.fact 2),
    He.free_ok X G (c.fact 3),
    He.free_ok X G (c.fact 4),
    He.free_ok X G (c.fact 5),
    He.free_ok X G (c.fact 6),
    He.glo_ok X G (c.fact 7),
    He.glo_ok X G (c.fact 8),
    He.glo_ok X G (c.fact 9),
    He.glo_ok X G (c.fact 10),
    He.glo_ok X G (c.fact 11),
    He.glo_ok X G (c.fact 12),
    He.glo_ok X G (c.fact 13),
    He.glo_ok X G (c.fact 14),
    He.glo_ok X G (c.fact 15),
    He.glo_ok X G (c.fact 16),
    He.glo_ok X G (c.fact 17),
    He.glo_ok X G (c.fact 18),
    He.glo_ok X G (c.fact 19),
    mk_BadDeed X G (c.err 0),
    mk_BadName X G (c.err 1),
    mk_BadNumber X G (c.err 2),
    mk_BadPaper X G (c.err 3),
    mk_BadRides X G (c.err 4),
    mk_BadRing X G (c.err 5),
    mk_BadRows X G (c.err 6),
    mk_BadText X G (c.err 7),
    mk_BadWay X G (c.err 8),
    mk_TooMany X G (c.err 9),
    c.def_ 0,
    He.glo_ok X G (c.fact 20),
    c.def_ 1,
    He.glo_ok X G (c.fact 21),
    c.def_ 2,
    He.glo_ok X G (c.fact 22),
    c.def_ 3,
    He.glo_ok X G (c.fact 23),
    c.def_ 4,
    He.glo_ok X G (c.fact 24),
    c.def_ 5,
    He.glo_ok X G (c.fact 25),
    c.def_ 6,
    He.glo_ok X G (c.fact 26),
    c.def_ 7,
    He.glo_ok X G (c.fact 27),
    (own_at (l := fxl K) c.own 0),
    (own_at (l := fxl K) c.own 1),
    err0_ok X G (own_at (l := fxl K) c.own 2),
    err0_ok X G (own_at (l := fxl K) c.own 3)⟩
abbrev lawA (K : PySem.W.Frag) : Addr := He.fAd K ("law", none)
end LW
open PySem PySem.W PySem.Calls PyProof.Rows
set_option maxRecDepth 100000 in
set_option maxHeartbeats 0 in
theorem PySem.Challenge.cw_laterways_k83_kinds_of_errors_holds : PySem.Challenge.rw_laterways_k83_kinds_of_errors.Holds := by
  w_on; o_law
  refine HandSHeadRun.head_any (r := OpenLaw.row PySem.Challenge.rw_laterways_k83_kinds_of_errors) (q := view (OpenLaw.row PySem.Challenge.rw_laterways_k83_kinds_of_errors).prog [22]) (H := LW.hk) (ob := LW.ob) (M := 100000) (loose := LW.loose) (d := HandSHeadRun.topDef (OpenLaw.row PySem.Challenge.rw_laterways_k83_kinds_of_errors).prog 22) (kwd := []) LW.ob_eq
    (by kernel_rfl) (fun s => by kernel_rfl) LW.run (by kernel_rfl) (by kernel_rfl) (by kernel_rfl) (by rfl) (by first | assumption | decide +kernel) (by decide +kernel) ⟨rfl, rfl, rfl, rfl, rfl, by decide +kernel⟩ ?hw ?hc
  case hw => w_witness2
  case hc =>
    refine DL.end_of (l := PySem.Challenge.rw_laterways_k83_kinds_of_errors) (n := 63) (k := 3) rfl (by decide) (by kernel_rfl) ⟨rfl, by decide, by decide⟩ ?F
    intro w mg fa h Y G hmg0
    obtain ⟨K, KX, c⟩ := Y
    have hmg : mg ("law" : PySem.Str) = some (.ref fa) := by
      have e : (HandSHeadRun.topDef (OpenLaw.row PySem.Challenge.rw_laterways_k83_kinds_of_errors).prog 22).name = ("law" : PySem.Str) := by kernel_rfl
      rw [← e]
      exact hmg0
    have T := LW.tx_of KX G c
    obtain ⟨fdL, FL⟩ := T.f_law
    have e : fa = LW.lawA K := by
      have z := T.g_law
      rw [hmg] at z
      cases z
      rfl
    subst e
    exact ⟨K, fdL, KX, fun s u => FL.bindsA (ps := ["_law_script"]) (fun _ _ _ _ _ _ us hl => match us, hl with | [_], _ => rfl) s [u] rfl, fun base => LW.ok_law T FL⟩
