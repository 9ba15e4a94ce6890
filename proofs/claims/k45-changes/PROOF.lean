import PyProof.Rows.All
import Wide.All
import OpenK.AllK
import Wide.FinOn
import KE.KStateDown
import Lean
import HandS.ForMost
import HandS.Exc
import HandS.ExcOwn
import HandS.WordsExc
import HandS.TryMany
import HandS.TryOnly
import HandS.ExcField
import HandS.ExcIs
import HandS.ExcSuper
import HandS.IsInst
import HandS.Defaults
import HandS.CallSlots
import HandS.Flow
import HandS.Conv
import HandS.More
import HandS.RevRange
import HandS.Head0
import HandS.Head1
import HandS.Head2
import HandS.HeadEnd
import HandS.HeadHook1
import HandS.HeadHook2
import HandS.Lambda
import KE.KExcSuper
import HandS.Iter
import HandS.Dict
import HandS.TupLen
import HandS.WordsDict
import HandS.Walk
import HandS.TupAny
import KE.KExcIs
import KE.IntTextLaws
import KE.KIntText
import HandS.Comp
import HandS.Zip
import HandS.OwnEq
import PyProof.InstNe
import KE.GoesEnum
import KE.GoesZip
import KE.GoesMore
import HandS.Star
import HandS.SetBool
import HandS.Strs
import HandS.SortInts
import HandS.ClsMeth
import HandS.HeadNt
import HandS.Style
import HandS.DictComp
import KE.KDictPairs
import HandS.Text
import KE.KEqDict
import HandS.Rev
import KE.KDictDisplayH
import HandS.Deep
import PyProof.P3In
import KE.KEqNest
import PyProof.Rows.IntBool
import HandS.EndTab
import HandS.HeadWalk
import HandS.HeadHook4
import KE.KDictCopyH
import HandS.Words
import PySem.Challenge.RW_laterways_k45_changes
set_option Elab.async false
set_option linter.all false
set_option maxRecDepth 100000
set_option maxHeartbeats 4000000
namespace DL
open PySem PySem.Spec L2
inductive Dt where
  | non | bl (b : Bool) | int (i : Int) | str (x : Str) | ty (n : String) | ref (a : Addr)
  | lst (xs : List Dt) | tup (xs : List Dt) | scr (ns : List Int)
  | obj (C : Addr) (fs : List (Str × Dt))
  | dK (kvs : List (Key × Dt)) | dT (kvs : List (List Key × Dt))
  | exc (C : Addr) (fs : List (Str × Dt))
  | at_ (a : Addr) (d : Dt)
  | fn (a c : Addr) (q : Str) (sg : List (Option V)) (ds : List (Option Dt))
def ExK (C : Addr) (d : Option Addr) (a : Addr) : HO := .ext fun h => ∃ (oe : Obj) (vs : Array Value), h.get? a = some oe ∧ Zc (.ref C) d oe ∧ oe.data = .fields vs
mutual
inductive Rep (K : PySem.W.Frag) (G : Hp) : V → Dt → Prop
  | non : Rep K G .non .non
  | bl (b : Bool) : Rep K G (.bl b) (.bl b)
  | int (i : Int) : Rep K G (.int i) (.int i)
  | str (x : Str) : Rep K G (.str x) (.str x)
  | ty (n : String) : Rep K G (.ty n) (.ty n)
  | ref (a : Addr) : Rep K G (.ref a) (.ref a)
  | lst {a : Addr} {xs : List V} {ds : List Dt} : G a = some (.lst xs) → Reps K G xs ds → Rep K G (.ref a) (.lst ds)
  | tup {a : Addr} {xs : List V} {ds : List Dt} : G a = some (.tup xs) → Reps K G xs ds → Rep K G (.ref a) (.tup ds)
  | scr {a : Addr} {ns : List Int} : SqL K G a (ns.map V.int) → Rep K G (.ref a) (.scr ns)
  | obj {a C dx : Addr} {fs : List (Str × V)} {fds : List (Str × Dt)} : G a = some (.ins C dx fs) → RepF K G fs fds → Rep K G (.ref a) (.obj C fds)
  | dK {a : Addr} {ob : Obj} {kvs : List (Key × V)} {kds : List (Key × Dt)} : G a = some (.frz ob (.dK kvs)) → RepK K G kvs kds → Rep K G (.ref a) (.dK kds)
  | dT {a : Addr} {ob : Obj} {kvs : List (List Key × V)} {kds : List (List Key × Dt)} : G a = some (.frz ob (.dT kvs)) → RepT K G kvs kds → Rep K G (.ref a) (.dT kds)
  | exc {a C : Addr} {d : Option Addr} {fds : List (Str × Dt)} : G a = some (ExK C d a) → RepX K G d fds → Rep K G (.ref a) (.exc C fds)
  | at_ {a : Addr} {d : Dt} : Rep K G (.ref a) d → Rep K G (.ref a) (.at_ a d)
  | fn {a c : Addr} {q : Str} {sg : List (Option V)} {ds : List (Option Dt)} : G c = some (LamX.CodeO c q) → RepS K G sg ds → Rep K G (.ref a) (.fn a c q sg ds)
inductive Reps (K : PySem.W.Frag) (G : Hp) : List V → List Dt → Prop
  | nil : Reps K G [] []
  | cons {v : V} {vs : List V} {d : Dt} {ds : List Dt} : Rep K G v d → Reps K G vs ds → Reps K G (v :: vs) (d :: ds)
inductive RepF (K : PySem.W.Frag) (G : Hp) : List (Str × V) → List (Str × Dt) → Prop
  | nil : RepF K G [] []
  | cons {f : Str} {v : V} {vs : List (Str × V)} {d : Dt} {ds : List (Str × Dt)} : Rep K G v d → RepF K G vs ds → RepF K G ((f, v) :: vs) ((f, d) :: ds)
inductive RepK (K : PySem.W.Frag) (G : Hp) : List (Key × V) → List (Key × Dt) → Prop
  | nil : RepK K G [] []
  | cons {f : Key} {v : V} {vs : List (Key × V)} {d : Dt} {ds : List (Key × Dt)} : Rep K G v d → RepK K G vs ds → RepK K G ((f, v) :: vs) ((f, d) :: ds)
inductive RepT (K : PySem.W.Frag) (G : Hp) : List (List Key × V) → List (List Key × Dt) → Prop
  | nil : RepT K G [] []
  | cons {f : List Key} {v : V} {vs : List (List Key × V)} {d : Dt} {ds : List (List Key × Dt)} : Rep K G v d → RepT K G vs ds → RepT K G ((f, v) :: vs) ((f, d) :: ds)
inductive RepS (K : PySem.W.Frag) (G : Hp) : List (Option V) → List (Option Dt) → Prop
  | nil : RepS K G [] []
  | no {x : Option V} {vs : List (Option V)} {ds : List (Option Dt)} : RepS K G vs ds → RepS K G (x :: vs) (none :: ds)
  | yes {v : V} {vs : List (Option V)} {d : Dt} {ds : List (Option Dt)} : Rep K G v d → RepS K G vs ds → RepS K G (some v :: vs) (some d :: ds)
inductive RepX (K : PySem.W.Frag) (G : Hp) : Option Addr → List (Str × Dt) → Prop
  | none : RepX K G none []
  | some {d : Addr} {fs : List (Str × V)} {fds : List (Str × Dt)} : G d = some (.xd fs) → RepF K G fs fds → RepX K G (some d) fds
end
section
variable {K : PySem.W.Frag} {G G' : Hp}
mutual
theorem Rep.mono (s : Same G G') : ∀ {v : V} {d : Dt}, Rep K G v d → Rep K G' v d
  | _, _, .non => .non
  | _, _, .bl b => .bl b
  | _, _, .int i => .int i
  | _, _, .str x => .str x
  | _, _, .ty n => .ty n
  | _, _, .ref a => .ref a
  | _, _, .lst h r => .lst (s _ _ h) (Reps.mono s r)
  | _, _, .tup h r => .tup (s _ _ h) (Reps.mono s r)
  | _, _, .scr h => .scr (s.seq h)
  | _, _, .obj h r => .obj (s _ _ h) (RepF.mono s r)
  | _, _, .dK h r => .dK (s _ _ h) (RepK.mono s r)
  | _, _, .dT h r => .dT (s _ _ h) (RepT.mono s r)
  | _, _, .exc h r => .exc (s _ _ h) (RepX.mono s r)
  | _, _, .at_ r => .at_ (Rep.mono s r)
  | _, _, .fn h r => .fn (s _ _ h) (RepS.mono s r)
theorem Reps.mono (s : Same G G') : ∀ {v : List V} {d : List Dt}, Reps K G v d → Reps K G' v d
  | _, _, .nil => .nil
  | _, _, .cons h r => .cons (Rep.mono s h) (Reps.mono s r)
theorem RepF.mono (s : Same G G') : ∀ {v : List (Str × V)} {d : List (Str × Dt)}, RepF K G v d → RepF K G' v d
  | _, _, .nil => .nil
  | _, _, .cons h r => .cons (Rep.mono s h) (RepF.mono s r)
theorem RepK.mono (s : Same G G') : ∀ {v : List (Key × V)} {d : List (Key × Dt)}, RepK K G v d → RepK K G' v d
  | _, _, .nil => .nil
  | _, _, .cons h r => .cons (Rep.mono s h) (RepK.mono s r)
theorem RepT.mono (s : Same G G') : ∀ {v : List (List Key × V)} {d : List (List Key × Dt)}, RepT K G v d → RepT K G' v d
  | _, _, .nil => .nil
  | _, _, .cons h r => .cons (Rep.mono s h) (RepT.mono s r)
theorem RepS.mono (s : Same G G') : ∀ {v : List (Option V)} {d : List (Option Dt)}, RepS K G v d → RepS K G' v d
  | _, _, .nil => .nil
  | _, _, .no r => .no (RepS.mono s r)
  | _, _, .yes h r => .yes (Rep.mono s h) (RepS.mono s r)
theorem RepX.mono (s : Same G G') : ∀ {v : Option Addr} {d : List (Str × Dt)}, RepX K G v d → RepX K G' v d
  | _, _, .none => .none
  | _, _, .some h r => .some (s _ _ h) (RepF.mono s r)
end
theorem Reps.length {vs : List V} {ds : List Dt} (r : Reps K G vs ds) : vs.length = ds.length := by
  induction ds generalizing vs with
  | nil => cases r; rfl
  | cons d ds ih => cases r with | cons h t => simp [ih t]
theorem Reps.get {vs : List V} {ds : List Dt} (r : Reps K G vs ds) {i : Nat} {d : Dt} (h : ds[i]? = some d) : ∃ v, vs[i]? = some v ∧ Rep K G v d := by
  induction ds generalizing vs i with
  | nil => simp at h
  | cons e ds ih =>
    cases r with
    | cons h1 t =>
      cases i with
      | zero => simp at h; subst h; exact ⟨_, rfl, h1⟩
      | succ i => simpa using ih t (by simpa using h)
theorem Reps.get' {vs : List V} {ds : List Dt} (r : Reps K G vs ds) {i : Nat} {v : V} (h : vs[i]? = some v) : ∃ d, ds[i]? = some d ∧ Rep K G v d := by
  induction ds generalizing vs i with
  | nil => cases r; simp at h
  | cons e ds ih =>
    cases r with
    | cons h1 t =>
      cases i with
      | zero => simp at h; subst h; exact ⟨_, rfl, h1⟩
      | succ i => simpa using ih t (by simpa using h)
theorem Reps.append {vs us : List V} {ds es : List Dt} (r : Reps K G vs ds) (q : Reps K G us es) : Reps K G (vs ++ us) (ds ++ es) := by
  induction ds generalizing vs with
  | nil => cases r; exact q
  | cons e ds ih => cases r with | cons h1 t => exact .cons h1 (ih t)
theorem Reps.drop {vs : List V} {ds : List Dt} (n : Nat) (r : Reps K G vs ds) : Reps K G (vs.drop n) (ds.drop n) := by
  induction n generalizing vs ds with
  | zero => exact r
  | succ n ih => cases r with
    | nil => exact .nil
    | cons h t => exact ih t
theorem Reps.take {vs : List V} {ds : List Dt} (n : Nat) (r : Reps K G vs ds) : Reps K G (vs.take n) (ds.take n) := by
  induction n generalizing vs ds with
  | zero => exact .nil
  | succ n ih => cases r with
    | nil => exact .nil
    | cons h t => exact .cons h (ih t)
theorem Reps.set {vs : List V} {ds : List Dt} {v : V} {d : Dt} (i : Nat) (h : Rep K G v d) (r : Reps K G vs ds) : Reps K G (vs.set i v) (ds.set i d) := by
  induction i generalizing vs ds with
  | zero => cases r with
    | nil => exact .nil
    | cons _ t => exact .cons h t
  | succ n ih => cases r with
    | nil => exact .nil
    | cons q t => exact .cons q (ih t)
theorem Reps.reverse {vs : List V} {ds : List Dt} (r : Reps K G vs ds) : Reps K G vs.reverse ds.reverse := by
  induction ds generalizing vs with
  | nil => cases r; exact .nil
  | cons e ds ih => cases r with | cons h1 t => rw [List.reverse_cons, List.reverse_cons]; exact (ih t).append (.cons h1 .nil)
theorem RepF.look {vs : List (Str × V)} {ds : List (Str × Dt)} (r : RepF K G vs ds) {f : Str} {d : Dt} (h : ds.lookup f = some d) : ∃ v, vs.lookup f = some v ∧ Rep K G v d := by
  induction ds generalizing vs with
  | nil => simp at h
  | cons e ds ih =>
    cases r with
    | @cons g v vs d' ds h1 t =>
      rw [List.lookup_cons] at h ⊢
      cases q : (f == g) with
      | true => rw [q] at h; cases h; exact ⟨v, rfl, h1⟩
      | false => rw [q] at h; exact ih t h
theorem RepF.none {vs : List (Str × V)} {ds : List (Str × Dt)} (r : RepF K G vs ds) {f : Str} (h : ds.lookup f = Option.none) : vs.lookup f = Option.none := by
  induction ds generalizing vs with
  | nil => cases r; rfl
  | cons e ds ih =>
    cases r with
    | @cons g v vs d' ds h1 t =>
      rw [List.lookup_cons] at h ⊢
      cases q : (f == g) with
      | true => rw [q] at h; cases h
      | false => rw [q] at h; exact ih t h
theorem RepF.length {vs : List (Str × V)} {ds : List (Str × Dt)} (r : RepF K G vs ds) : vs.length = ds.length := by
  induction ds generalizing vs with
  | nil => cases r; rfl
  | cons d ds ih => cases r with | cons h t => simp [ih t]
end
def TabG (G : Hp) (ps : Array Value) (q : Str) : Prop := TriplesOk ps.toList ∧ ∀ (p : Pos) (u : Value), codeAmong p ps.toList = some u → ∃ z, u = .ref z ∧ G z = some (LamX.CodeO z q)
theorem TabG.mono {G G' : Hp} {ps : Array Value} {q : Str} (s : Same G G') (h : TabG G ps q) : TabG G' ps q := ⟨h.1, fun p u e => by
  obtain ⟨z, e1, e2⟩ := h.2 p u e
  exact ⟨z, e1, s _ _ e2⟩⟩
def MutT (o : Option HO) : Prop := Mut o ∨ ∃ ps, o = some (.tbl ps)
theorem MutT.no {o : HO} (h : ¬ Mut (some o)) (n : ∀ ps, o ≠ .tbl ps) : ¬ MutT (some o) := fun z => z.elim h fun ⟨ps, e⟩ => n ps (Option.some.inj e)
theorem MutT.of {o : Option HO} (h : Mut o) : MutT o := .inl h
inductive Sl where
  | fr (d : Dt)
  | ol (a : Addr) (ds : List Dt)
  | os (a : Addr) (φ : List Dt → Prop)
  | oK (a : Addr) (kvs : List (Key × Dt)) | oT (a : Addr) (kvs : List (List Key × Dt))
  | oo (a C : Addr) (fs : List (Str × Sl))
  | ex (a C : Addr) (d : Option Addr) (fs : List (Str × Dt))
  | tb (s : Sl) (p : Addr) (q : Str)
mutual
def Sl.fp : Sl → List Addr
  | .fr _ => []
  | .ol a _ => [a]
  | .os a _ => [a]
  | .oK a _ => [a]
  | .oT a _ => [a]
  | .oo a _ fs => a :: fpF fs
  | .ex _ _ _ _ => []
  | .tb s p _ => p :: s.fp
def fpF : List (Str × Sl) → List Addr
  | [] => []
  | (_, s) :: r => s.fp ++ fpF r
end
mutual
inductive Own (K : PySem.W.Frag) (G H : Hp) : V → Sl → Prop
  | fr {v : V} {d : Dt} : Rep K G v d → Own K G H v (.fr d)
  | ol {a : Addr} {xs : List V} {ds : List Dt} : H a = some (.lst xs) → Reps K G xs ds → Own K G H (.ref a) (.ol a ds)
  | os {a : Addr} {xs : List V} {ds : List Dt} {φ : List Dt → Prop} : H a = some (.lst xs) → Reps K G xs ds → φ ds → Own K G H (.ref a) (.os a φ)
  | oK {a : Addr} {xs : List (Key × V)} {ds : List (Key × Dt)} : H a = some (.dK xs) → RepK K G xs ds → Own K G H (.ref a) (.oK a ds)
  | oT {a : Addr} {xs : List (List Key × V)} {ds : List (List Key × Dt)} : H a = some (.dT xs) → RepT K G xs ds → Own K G H (.ref a) (.oT a ds)
  | oo {a C dx : Addr} {fs : List (Str × V)} {fds : List (Str × Sl)} : H a = some (.ins C dx fs) → OwnF K G H fs fds → Own K G H (.ref a) (.oo a C fds)
  | ex {a C : Addr} {d : Option Addr} {fds : List (Str × Dt)} : RepX K G d fds → Own K G H (.ref a) (.ex a C d fds)
  | tb {v : V} {s : Sl} {p : Addr} {q : Str} {ps : Array Value} : H p = some (.tbl ps) → TabG G ps q → Own K G H v s → Own K G H v (.tb s p q)
inductive OwnF (K : PySem.W.Frag) (G H : Hp) : List (Str × V) → List (Str × Sl) → Prop
  | nil : OwnF K G H [] []
  | cons {f : Str} {v : V} {vs : List (Str × V)} {s : Sl} {ss : List (Str × Sl)} : Own K G H v s → OwnF K G H vs ss → OwnF K G H ((f, v) :: vs) ((f, s) :: ss)
end
section
variable {K : PySem.W.Frag} {G G' H H' : Hp}
mutual
theorem Own.mono (g : Same G G') : ∀ {v : V} {s : Sl}, (∀ a ∈ s.fp, ∀ o, H a = some o → H' a = some o) → Own K G H v s → Own K G' H' v s
  | _, _, _, .fr r => .fr (r.mono g)
  | _, _, k, .ol h r => .ol (k _ (by simp [Sl.fp]) _ h) (r.mono g)
  | _, _, k, .os h r p => .os (k _ (by simp [Sl.fp]) _ h) (r.mono g) p
  | _, _, k, .oK h r => .oK (k _ (by simp [Sl.fp]) _ h) (r.mono g)
  | _, _, k, .oT h r => .oT (k _ (by simp [Sl.fp]) _ h) (r.mono g)
  | _, _, k, .oo h r => .oo (k _ (by simp [Sl.fp]) _ h) (OwnF.mono g (fun a ha o e => k a (by simp [Sl.fp, ha]) o e) r)
  | _, _, k, .ex r => .ex (r.mono g)
  | _, _, k, .tb h c r => .tb (k _ (by simp [Sl.fp]) _ h) (c.mono g) (Own.mono g (fun a ha o e => k a (by simp [Sl.fp, ha]) o e) r)
theorem OwnF.mono (g : Same G G') : ∀ {v : List (Str × V)} {s : List (Str × Sl)}, (∀ a ∈ fpF s, ∀ o, H a = some o → H' a = some o) → OwnF K G H v s → OwnF K G' H' v s
  | _, _, _, .nil => .nil
  | _, _, k, .cons h r => .cons (Own.mono g (fun a ha o e => k a (by simp [fpF, ha]) o e) h) (OwnF.mono g (fun a ha o e => k a (by simp [fpF, ha]) o e) r)
end
mutual
theorem Own.there : ∀ {v : V} {s : Sl}, Own K G H v s → ∀ a ∈ s.fp, H a ≠ none
  | _, _, .fr r => fun a ha => by simp [Sl.fp] at ha
  | _, _, .ol h r => fun a ha => by simp [Sl.fp] at ha; subst ha; rw [h]; simp
  | _, _, .os h r p => fun a ha => by simp [Sl.fp] at ha; subst ha; rw [h]; simp
  | _, _, .oK h r => fun a ha => by simp [Sl.fp] at ha; subst ha; rw [h]; simp
  | _, _, .oT h r => fun a ha => by simp [Sl.fp] at ha; subst ha; rw [h]; simp
  | _, _, .oo h r => fun a ha => by
    simp only [Sl.fp, List.mem_cons] at ha
    rcases ha with rfl | ha
    · rw [h]; simp
    · exact OwnF.there r a ha
  | _, _, .ex r => fun a ha => by simp [Sl.fp] at ha
  | _, _, .tb h c r => fun a ha => by
    simp only [Sl.fp, List.mem_cons] at ha
    rcases ha with rfl | ha
    · rw [h]; simp
    · exact Own.there r a ha
theorem OwnF.there : ∀ {v : List (Str × V)} {s : List (Str × Sl)}, OwnF K G H v s → ∀ a ∈ fpF s, H a ≠ none
  | _, _, .nil => fun a ha => by simp [fpF] at ha
  | _, _, .cons h r => fun a ha => by
    simp only [fpF, List.mem_append] at ha
    rcases ha with ha | ha
    · exact Own.there h a ha
    · exact OwnF.there r a ha
end
mutual
theorem Own.muts : ∀ {v : V} {s : Sl}, Own K G H v s → ∀ a ∈ s.fp, ∃ o, H a = some o ∧ MutT (some o)
  | _, _, .fr r => fun a ha => by simp [Sl.fp] at ha
  | _, _, .ol h r => fun a ha => by simp [Sl.fp] at ha; subst ha; exact ⟨_, h, .inl trivial⟩
  | _, _, .os h r p => fun a ha => by simp [Sl.fp] at ha; subst ha; exact ⟨_, h, .inl trivial⟩
  | _, _, .oK h r => fun a ha => by simp [Sl.fp] at ha; subst ha; exact ⟨_, h, .inl trivial⟩
  | _, _, .oT h r => fun a ha => by simp [Sl.fp] at ha; subst ha; exact ⟨_, h, .inl trivial⟩
  | _, _, .oo h r => fun a ha => by
    simp only [Sl.fp, List.mem_cons] at ha
    rcases ha with rfl | ha
    · exact ⟨_, h, .inl trivial⟩
    · exact OwnF.muts r a ha
  | _, _, .ex r => fun a ha => by simp [Sl.fp] at ha
  | _, _, .tb h c r => fun a ha => by
    simp only [Sl.fp, List.mem_cons] at ha
    rcases ha with rfl | ha
    · exact ⟨_, h, .inr ⟨_, rfl⟩⟩
    · exact Own.muts r a ha
theorem OwnF.muts : ∀ {v : List (Str × V)} {s : List (Str × Sl)}, OwnF K G H v s → ∀ a ∈ fpF s, ∃ o, H a = some o ∧ MutT (some o)
  | _, _, .nil => fun a ha => by simp [fpF] at ha
  | _, _, .cons h r => fun a ha => by
    simp only [fpF, List.mem_append] at ha
    rcases ha with ha | ha
    · exact Own.muts h a ha
    · exact OwnF.muts r a ha
end
end
abbrev Gm := List (Option Sl)
def fpO : Option Sl → List Addr
  | none => []
  | some s => s.fp
def fps : Gm → List Addr
  | [] => []
  | s :: r => fpO s ++ fps r
inductive Slots (K : PySem.W.Frag) (G H : Hp) : St → Gm → Prop
  | nil : Slots K G H [] []
  | no {x : Option V} {σ : St} {Γ : Gm} : Slots K G H σ Γ → Slots K G H (x :: σ) (none :: Γ)
  | yes {v : V} {s : Sl} {σ : St} {Γ : Gm} : Own K G H v s → Slots K G H σ Γ → Slots K G H (some v :: σ) (some s :: Γ)
structure Sta (K : PySem.W.Frag) (O G H : Hp) (σ : St) (Γ : Gm) : Prop where
  g : Same G H
  o : Same O H
  d : ∀ a, O a ≠ none → G a = none
  sl : Slots K G H σ Γ
  nd : (fps Γ).Nodup
  ng : ∀ a ∈ fps Γ, G a = none
  no : ∀ a ∈ fps Γ, O a = none
  om : ∀ a o, O a = some o → MutT (some o)
section
variable {K : PySem.W.Frag} {O G G' H H' : Hp} {σ : St} {Γ : Gm}
theorem mem_fps : ∀ {Γ : Gm} {i : Nat} {s : Sl}, Γ[i]? = some (some s) → ∀ a ∈ s.fp, a ∈ fps Γ
  | [], i, s, h, a, ha => by simp at h
  | x :: r, 0, s, h, a, ha => by simp at h; subst h; simp [fps, fpO, ha]
  | x :: r, i + 1, s, h, a, ha => by simp only [fps, List.mem_append]; exact .inr (mem_fps (by simpa using h) a ha)
theorem Slots.mono (g : Same G G') : ∀ {σ : St} {Γ : Gm}, (∀ a ∈ fps Γ, ∀ o, H a = some o → H' a = some o) → Slots K G H σ Γ → Slots K G' H' σ Γ
  | _, _, _, .nil => .nil
  | _, _, k, .no r => .no (Slots.mono g (fun a ha => k a (by simp [fps, ha])) r)
  | _, _, k, .yes h r => .yes (h.mono g fun a ha => k a (by simp [fps, fpO, ha])) (Slots.mono g (fun a ha => k a (by simp [fps, ha])) r)
theorem Slots.get : ∀ {σ : St} {Γ : Gm} {i : Nat} {s : Sl}, Slots K G H σ Γ → Γ[i]? = some (some s) → ∃ v, σ[i]? = some (some v) ∧ Own K G H v s
  | _, _, i, s, .nil, h => by simp at h
  | _, _, 0, s, .no r, h => by simp at h
  | _, _, i + 1, s, .no r, h => by simpa using r.get (i := i) (by simpa using h)
  | _, _, 0, s, .yes q r, h => by simp at h; subst h; exact ⟨_, rfl, q⟩
  | _, _, i + 1, s, .yes q r, h => by simpa using r.get (i := i) (by simpa using h)
theorem Slots.len : ∀ {σ : St} {Γ : Gm}, Slots K G H σ Γ → σ.length = Γ.length
  | _, _, .nil => rfl
  | _, _, .no r => by simp [r.len]
  | _, _, .yes q r => by simp [r.len]
theorem Slots.set {v : V} {s : Sl} (h : Own K G H v s) : ∀ {σ : St} {Γ : Gm} (i : Nat), Slots K G H σ Γ → Slots K G H (σ.set i (some v)) (Γ.set i (some s))
  | _, _, _, .nil => .nil
  | _, _, 0, .no r => .yes h r
  | _, _, i + 1, .no r => .no (Slots.set h i r)
  | _, _, 0, .yes q r => .yes h r
  | _, _, i + 1, .yes q r => .yes q (Slots.set h i r)
theorem Slots.forget : ∀ {σ : St} {Γ : Gm} (i : Nat) (x : Option V), Slots K G H σ Γ → Slots K G H (σ.set i x) (Γ.set i none)
  | _, _, _, _, .nil => .nil
  | _, _, 0, _, .no r => .no r
  | _, _, i + 1, x, .no r => .no (Slots.forget i x r)
  | _, _, 0, _, .yes q r => .no r
  | _, _, i + 1, x, .yes q r => .yes q (Slots.forget i x r)
theorem fps_set_sub {s : Option Sl} : ∀ {Γ : Gm} (i : Nat), ∀ a ∈ fps (Γ.set i s), a ∈ fpO s ∨ a ∈ fps Γ
  | [], i, a, h => by simp [fps] at h
  | x :: r, 0, a, h => by
    simp only [List.set_cons_zero, fps, List.mem_append] at h ⊢
    rcases h with h | h
    · exact .inl h
    · exact .inr (.inr h)
  | x :: r, i + 1, a, h => by
    simp only [List.set_cons_succ, fps, List.mem_append] at h ⊢
    rcases h with h | h
    · exact .inr (.inl h)
    · rcases fps_set_sub i a h with q | q
      · exact .inl q
      · exact .inr (.inr q)
theorem fps_set_nd {s : Option Sl} : ∀ {Γ : Gm} (i : Nat), (fpO s ++ fps Γ).Nodup → (fps (Γ.set i s)).Nodup
  | [], i, h => by simp [fps]
  | x :: r, 0, h => by
    simp only [List.set_cons_zero, fps]
    rw [List.nodup_append] at h ⊢
    obtain ⟨h1, h2, h3⟩ := h
    simp only [fps] at h2 h3
    rw [List.nodup_append] at h2
    exact ⟨h1, h2.2.1, fun a ha b hb => h3 a ha b (List.mem_append_right _ hb)⟩
  | x :: r, i + 1, h => by
    simp only [List.set_cons_succ, fps]
    rw [List.nodup_append] at h
    obtain ⟨h1, h2, h3⟩ := h
    simp only [fps] at h2 h3
    rw [List.nodup_append] at h2
    obtain ⟨k1, k2, k3⟩ := h2
    have ih := fps_set_nd (s := s) (Γ := r) i (by rw [List.nodup_append]; exact ⟨h1, k2, fun a ha b hb => h3 a ha b (List.mem_append_right _ hb)⟩)
    rw [List.nodup_append]
    refine ⟨k1, ih, fun a ha b hb => ?_⟩
    rcases fps_set_sub i b hb with q | q
    · exact fun z => h3 b q a (List.mem_append_left _ ha) z.symm
    · exact k3 a ha b q
theorem Sta.put {v : V} {s : Sl} (S : Sta K O G H (some v :: σ) (some s :: Γ)) (i : Nat) : Sta K O G H (σ.set i (some v)) (Γ.set i (some s)) := by
  obtain ⟨g, o, d, sl, nd, ng, no, om⟩ := S
  cases sl with
  | yes q r =>
    simp only [fps] at nd ng no
    refine ⟨g, o, d, Slots.set q i r, fps_set_nd i nd, fun a ha => ?_, fun a ha => ?_, om⟩
    · rcases fps_set_sub i a ha with z | z
      · exact ng a (List.mem_append_left _ z)
      · exact ng a (List.mem_append_right _ z)
    · rcases fps_set_sub i a ha with z | z
      · exact no a (List.mem_append_left _ z)
      · exact no a (List.mem_append_right _ z)
theorem Sta.tail {x : Option V} {y : Option Sl} (S : Sta K O G H (x :: σ) (y :: Γ)) : Sta K O G H σ Γ := by
  obtain ⟨g, o, d, sl, nd, ng, no, om⟩ := S
  simp only [fps] at nd ng no
  have sl' : Slots K G H σ Γ := by cases sl <;> assumption
  exact ⟨g, o, d, sl', (List.nodup_append.mp nd).2.1, fun a ha => ng a (List.mem_append_right _ ha), fun a ha => no a (List.mem_append_right _ ha), om⟩
theorem Sta.head {v : V} {s : Sl} (S : Sta K O G H (some v :: σ) (some s :: Γ)) : Own K G H v s := by
  cases S.sl; assumption
theorem Sta.push {v : V} {s : Sl} (S : Sta K O G H σ Γ) (h : Own K G H v s) (n : s.fp.Nodup) (hg : ∀ a ∈ s.fp, G a = none) (ho : ∀ a ∈ s.fp, O a = none) (hf : ∀ a ∈ s.fp, a ∉ fps Γ) :
    Sta K O G H (some v :: σ) (some s :: Γ) := by
  refine ⟨S.g, S.o, S.d, .yes h S.sl, ?_, fun a ha => ?_, fun a ha => ?_, S.om⟩
  · simp only [fps, fpO]
    rw [List.nodup_append]
    exact ⟨n, S.nd, fun a ha b hb z => hf a ha (z ▸ hb)⟩
  · simp only [fps, fpO, List.mem_append] at ha
    rcases ha with z | z
    · exact hg a z
    · exact S.ng a z
  · simp only [fps, fpO, List.mem_append] at ha
    rcases ha with z | z
    · exact ho a z
    · exact S.no a z
theorem Sta.pushF {v : V} {d : Dt} (S : Sta K O G H σ Γ) (h : Rep K G v d) : Sta K O G H (some v :: σ) (some (.fr d) :: Γ) :=
  S.push (.fr h) (by simp [Sl.fp]) (by simp [Sl.fp]) (by simp [Sl.fp]) (by simp [Sl.fp])
theorem Sta.putF {v : V} {d : Dt} (S : Sta K O G H σ Γ) (h : Rep K G v d) (i : Nat) : Sta K O G H (σ.set i (some v)) (Γ.set i (some (.fr d))) := (S.pushF h).put i
theorem Sta.get {i : Nat} {s : Sl} (S : Sta K O G H σ Γ) (h : Γ[i]? = some (some s)) : ∃ v, σ[i]? = some (some v) ∧ Own K G H v s := S.sl.get h
theorem Sta.getF {i : Nat} {d : Dt} (S : Sta K O G H σ Γ) (h : Γ[i]? = some (some (.fr d))) : ∃ v, σ[i]? = some (some v) ∧ Rep K G v d := by
  obtain ⟨v, e, q⟩ := S.get h
  cases q with | fr r => exact ⟨v, e, r⟩
theorem Sta.there (S : Sta K O G H σ Γ) : ∀ a ∈ fps Γ, H a ≠ none := by
  have h : ∀ {σ : St} {Γ : Gm}, Slots K G H σ Γ → ∀ a ∈ fps Γ, H a ≠ none := by
    intro σ Γ s
    induction s with
    | nil => intro a ha; simp [fps] at ha
    | no r ih => intro a ha; simp only [fps, fpO, List.nil_append] at ha; exact ih a ha
    | yes q r ih =>
      intro a ha
      simp only [fps, fpO, List.mem_append] at ha
      rcases ha with z | z
      · exact q.there a z
      · exact ih a z
  exact h S.sl
theorem Sta.muts (S : Sta K O G H σ Γ) : ∀ a ∈ fps Γ, ∃ o, H a = some o ∧ MutT (some o) := by
  have h : ∀ {σ : St} {Γ : Gm}, Slots K G H σ Γ → ∀ a ∈ fps Γ, ∃ o, H a = some o ∧ MutT (some o) := by
    intro σ Γ s
    induction s with
    | nil => intro a ha; simp [fps] at ha
    | no r ih => intro a ha; simp only [fps, fpO, List.nil_append] at ha; exact ih a ha
    | yes q r ih =>
      intro a ha
      simp only [fps, fpO, List.mem_append] at ha
      rcases ha with z | z
      · exact q.muts a z
      · exact ih a z
  exact h S.sl
theorem Sta.forget (S : Sta K O G H σ Γ) (i : Nat) (x : Option V) : Sta K O G H (σ.set i x) (Γ.set i none) := by
  refine ⟨S.g, S.o, S.d, S.sl.forget i x, fps_set_nd i (by simpa [fpO] using S.nd), fun a ha => ?_, fun a ha => ?_, S.om⟩
  · rcases fps_set_sub i a ha with z | z
    · simp [fpO] at z
    · exact S.ng a z
  · rcases fps_set_sub i a ha with z | z
    · simp [fpO] at z
    · exact S.no a z
structure Ext (G H G' H' : Hp) : Prop where
  g : Same G G'
  h : Same H H'
  s : Same G' H'
  f : ∀ a, H a ≠ none → G a = none → G' a = none ∨ ¬ MutT (H a)
theorem Ext.refl (h : Same G H) : Ext G H G H := ⟨Same.refl _, Same.refl _, h, fun _ _ q => .inl q⟩
theorem Ext.f1 (e : Ext G H G' H') {a : Addr} {o : HO} (h : H a = some o) (m : MutT (some o)) (q : G a = none) : G' a = none := by
  rcases e.f a (by rw [h]; simp) q with z | z
  · exact z
  · rw [h] at z; exact absurd m z
theorem Ext.trans {G2 H2 : Hp} (a : Ext G H G' H') (b : Ext G' H' G2 H2) : Ext G H G2 H2 :=
  ⟨a.g.trans b.g, a.h.trans b.h, b.s, fun c h q => by
    rcases a.f c h q with z | z
    · rcases b.f c (fun z => h (a.h.free z)) z with y | y
      · exact .inl y
      · cases e : H c with
        | none => exact absurd e h
        | some o => rw [a.h c o e] at y; exact .inr y
    · exact .inr z⟩
theorem Sta.ext (S : Sta K O G H σ Γ) (e : Ext G H G' H') : Sta K O G' H' σ Γ := by
  refine ⟨e.s, S.o.trans e.h, fun a h => ?_, S.sl.mono e.g fun a _ o h => e.h a o h, S.nd, fun a ha => ?_, S.no, S.om⟩
  · cases q : O a with
    | none => exact absurd q h
    | some o => exact e.f1 (S.o a o q) (S.om a o q) (S.d a h)
  · obtain ⟨o, h, m⟩ := S.muts a ha
    exact e.f1 h m (S.ng a ha)
theorem Ext.new {p : Addr} {ob : HO} (h : Same G H) (n : H p = none) : Ext G H (upd G p ob) (upd H p ob) := by
  have ng : G p = none := h.free n
  refine ⟨fun b o q => ?_, fun b o q => ?_, fun b o q => ?_, fun a q z => ?_⟩
  · rw [upd_ne (ne_of_none q ng)]; exact q
  · rw [upd_ne (ne_of_none q n)]; exact q
  · by_cases hb : b = p
    · subst hb; rw [upd_same] at q ⊢; exact q
    · rw [upd_ne hb] at q ⊢; exact h b o q
  · by_cases hb : a = p
    · subst hb; exact absurd n q
    · rw [upd_ne hb]; exact .inl z
theorem Ext.raw {p : Addr} {ob : HO} (h : Same G H) (n : H p = none) : Ext G H G (upd H p ob) := by
  refine ⟨Same.refl _, fun b o q => ?_, fun b o q => ?_, fun a q z => .inl z⟩
  · rw [upd_ne (ne_of_none q n)]; exact q
  · have := h b o q
    rw [upd_ne (ne_of_none this n)]; exact this
end
end DL
namespace DL
open PySem PySem.Spec L2
abbrev XP := Addr → List (Str × Dt) → Gm → Prop
def XOk (K : PySem.W.Frag) (W : WX) (O G : Hp) (σ : St) (X : XP) : Prop :=
  ∀ (C : Addr) (d : Option Addr) (fs : List (Str × Dt)) (G2 H2 : Hp) (Γ2 : Gm), Same G G2 → Sta K O G2 H2 σ Γ2 → RepX K G2 d fs → X C fs Γ2 → W (.ref C) d σ H2
def Ev (K : PySem.W.Frag) (W : WX) (te : TE) (Γ : Gm) (P : Dt → Gm → Prop) (X : XP) : Prop :=
  ∀ (O G H : Hp) (σ : St) (Q : VK), Sta K O G H σ Γ →
    (∀ (v : V) (G2 H2 : Hp) (Γ2 : Gm) (d : Dt), Same G G2 → Sta K O G2 H2 σ Γ2 → Rep K G2 v d → P d Γ2 → Q v H2) → XOk K W O G σ X → te σ H Q
def EvO (K : PySem.W.Frag) (W : WX) (te : TE) (Γ : Gm) (P : Sl → Gm → Prop) (X : XP) : Prop :=
  ∀ (O G H : Hp) (σ : St) (Q : VK), Sta K O G H σ Γ →
    (∀ (v : V) (G2 H2 : Hp) (Γ2 : Gm) (s : Sl), Same G G2 → Sta K O G2 H2 (some v :: σ) (some s :: Γ2) → P s Γ2 → Q v H2) → XOk K W O G σ X → te σ H Q
def EvT (K : PySem.W.Frag) (W : WX) (tt : TT) (Γ : Gm) (P : Bool → Gm → Prop) (X : XP) : Prop :=
  ∀ (O G H : Hp) (σ : St) (Q : Bool → Hp → Prop), Sta K O G H σ Γ →
    (∀ (b : Bool) (G2 H2 : Hp) (Γ2 : Gm), Same G G2 → Sta K O G2 H2 σ Γ2 → P b Γ2 → Q b H2) → XOk K W O G σ X → tt σ H Q
def EvA (K : PySem.W.Frag) (W : WX) (ta : TA) (Γ : Gm) (P : List Dt → Gm → Prop) (X : XP) : Prop :=
  ∀ (O G H : Hp) (σ : St) (Q : List V → Hp → Prop), Sta K O G H σ Γ →
    (∀ (vs : List V) (G2 H2 : Hp) (Γ2 : Gm) (ds : List Dt), Same G G2 → Sta K O G2 H2 σ Γ2 → Reps K G2 vs ds → P ds Γ2 → Q vs H2) → XOk K W O G σ X → ta σ H Q
def EvB (K : PySem.W.Frag) (W : WX) (i : Nat) (ta : TA) (Γ : Gm) (P : List Dt → List Dt → Gm → Prop) (X : XP) : Prop :=
  ∀ (O G H : Hp) (σ : St) (Q : List V → Hp → Prop), Sta K O G H σ Γ →
    (∀ (vs us : List V) (v : V) (G2 H2 : Hp) (Γ2 : Gm) (ds es : List Dt), Same G G2 → Sta K O G2 H2 σ Γ2 → Reps K G2 vs ds → σ[i]? = some (some v) → Reps K G2 us es → P ds es Γ2 → Q (vs ++ v :: us) H2) → XOk K W O G σ X → ta σ H Q
structure Po where
  nx : Gm → Prop
  rt : Sl → Gm → Prop
  xc : XP
  bk : Gm → Prop := fun _ => False
  ct : Gm → Prop := fun _ => False
def Go (K : PySem.W.Frag) (W : WX) (t : TS) (Γ : Gm) (P : Po) : Prop :=
  ∀ (O G H : Hp) (σ : St) (D : Ends), Sta K O G H σ Γ →
    (∀ (G2 H2 : Hp) (σ2 : St) (Γ2 : Gm), Same G G2 → Sta K O G2 H2 σ2 Γ2 → P.nx Γ2 → D.nx σ2 H2) →
    (∀ (v : V) (G2 H2 : Hp) (σ2 : St) (Γ2 : Gm) (s : Sl), Same G G2 → Sta K O G2 H2 (some v :: σ2) (some s :: Γ2) → P.rt s Γ2 → D.rt v H2) →
    (∀ (G2 H2 : Hp) (σ2 : St) (Γ2 : Gm), Same G G2 → Sta K O G2 H2 σ2 Γ2 → P.bk Γ2 → D.bk σ2 H2) →
    (∀ (G2 H2 : Hp) (σ2 : St) (Γ2 : Gm), Same G G2 → Sta K O G2 H2 σ2 Γ2 → P.ct Γ2 → D.ct σ2 H2) →
    (∀ σ2, XOk K W O G σ2 P.xc) → t D σ H
def GoG (K : PySem.W.Frag) (W : WX) (g : TG) (d : Dt) (Γ : Gm) (P : Gm → Prop) (X : XP) : Prop :=
  ∀ (O G H : Hp) (σ : St) (v : V) (Q : St → Hp → Prop), Sta K O G H σ Γ → Rep K G v d →
    (∀ (G2 H2 : Hp) (σ2 : St) (Γ2 : Gm), Same G G2 → Sta K O G2 H2 σ2 Γ2 → P Γ2 → Q σ2 H2) → (∀ σ2, XOk K W O G σ2 X) → g v σ H Q
section
variable {K : PySem.W.Frag} {W : WX} {Γ : Gm} {X : XP} {P : Dt → Gm → Prop} {te ta tb : TE} {i : Nat}
theorem XOk.mono {O G G2 : Hp} {σ : St} (s : Same G G2) (x : XOk K W O G σ X) : XOk K W O G2 σ X := fun C d fs G3 H3 Γ3 s3 => x C d fs G3 H3 Γ3 (s.trans s3)
theorem Ev.imp {P' : Dt → Gm → Prop} (h : Ev K W te Γ P X) (k : ∀ d Γ2, P d Γ2 → P' d Γ2) : Ev K W te Γ P' X := fun O G H σ Q S q x => h O G H σ Q S (fun v G2 H2 Γ2 d s S2 r p => q v G2 H2 Γ2 d s S2 r (k d Γ2 p)) x
theorem EvT.imp {t : TT} {P P' : Bool → Gm → Prop} (h : EvT K W t Γ P X) (k : ∀ d Γ2, P d Γ2 → P' d Γ2) : EvT K W t Γ P' X := fun O G H σ Q S q x => h O G H σ Q S (fun v G2 H2 Γ2 s S2 p => q v G2 H2 Γ2 s S2 (k v Γ2 p)) x
theorem EvO.imp {P P' : Sl → Gm → Prop} (h : EvO K W te Γ P X) (k : ∀ d Γ2, P d Γ2 → P' d Γ2) : EvO K W te Γ P' X := fun O G H σ Q S q x => h O G H σ Q S (fun v G2 H2 Γ2 d s S2 p => q v G2 H2 Γ2 d s S2 (k d Γ2 p)) x
theorem Go.imp {t : TS} {P P' : Po} (h : Go K W t Γ P) (k1 : ∀ Γ2, P.nx Γ2 → P'.nx Γ2) (k2 : ∀ s Γ2, P.rt s Γ2 → P'.rt s Γ2) (k3 : ∀ C fs Γ2, P.xc C fs Γ2 → P'.xc C fs Γ2) (k4 : ∀ Γ2, P.bk Γ2 → P'.bk Γ2) (k5 : ∀ Γ2, P.ct Γ2 → P'.ct Γ2) : Go K W t Γ P' :=
  fun O G H σ D S a b c d e => h O G H σ D S (fun G2 H2 σ2 Γ2 s S2 p => a G2 H2 σ2 Γ2 s S2 (k1 _ p)) (fun v G2 H2 σ2 Γ2 z s S2 p => b v G2 H2 σ2 Γ2 z s S2 (k2 _ _ p)) (fun G2 H2 σ2 Γ2 s S2 p => c G2 H2 σ2 Γ2 s S2 (k4 _ p)) (fun G2 H2 σ2 Γ2 s S2 p => d G2 H2 σ2 Γ2 s S2 (k5 _ p))
    (fun σ2 C dd fs G2 H2 Γ2 s S2 r p => e σ2 C dd fs G2 H2 Γ2 s S2 r (k3 _ _ _ p))
theorem ev_var {d : Dt} (h : Γ[i]? = some (some (.fr d))) (p : P d Γ) : Ev K W (tVar i) Γ P X := fun O G H σ Q S q _ => by
  obtain ⟨v, e, r⟩ := S.getF h
  exact ⟨v, e, q v G H Γ d (Same.refl _) S r p⟩
def cD : V → Dt
  | .non => .non
  | .bl b => .bl b
  | .int i => .int i
  | .str x => .str x
  | .ty n => .ty n
  | .ref a => .ref a
  | .byt _ => .non
  | .flt _ => .non
def cOk : V → Bool
  | .byt _ => false
  | .flt _ => false
  | _ => true
theorem rep_c {G : Hp} : ∀ {v : V}, cOk v = true → Rep K G v (cD v)
  | .non, _ => .non
  | .bl b, _ => .bl b
  | .int i, _ => .int i
  | .str x, _ => .str x
  | .ty n, _ => .ty n
  | .ref a, _ => .ref a
theorem ev_c {v : V} (p : P (cD v) Γ) (h : cOk v = true := by rfl) : Ev K W (tC v) Γ P X := fun O G H σ Q S q _ => q v G H Γ _ (Same.refl _) S (rep_c h) p
inductive Frz : Sl → Dt → Prop
  | fr (d : Dt) : Frz (.fr d) d
  | ol (a : Addr) (ds : List Dt) : Frz (.ol a ds) (.lst ds)
theorem same_frz {G H : Hp} {a : Addr} {o : HO} (g : Same G H) (h : H a = some o) (n : G a = none) : Same G (upd G a o) ∧ Same (upd G a o) H := by
  refine ⟨fun b u q => ?_, fun b u q => ?_⟩
  · rw [upd_ne (ne_of_none q n)]; exact q
  · by_cases hb : b = a
    · subst hb; rw [upd_same] at q; cases q; exact h
    · rw [upd_ne hb] at q; exact g b u q
theorem Sta.freeze1 {O G H : Hp} {σ : St} {v : V} {s : Sl} {d : Dt} (S : Sta K O G H (some v :: σ) (some s :: Γ)) (f : Frz s d) :
    ∃ G2, Same G G2 ∧ Sta K O G2 H σ Γ ∧ Rep K G2 v d := by
  have main : ∀ {a : Addr} {o : HO}, s.fp = [a] → H a = some o → ∃ G2, G2 = upd G a o ∧ Same G G2 ∧ Sta K O G2 H σ Γ := fun {a o} hf ha => by
    have na : G a = none := S.ng a (by simp [fps, fpO, hf])
    have oa : O a = none := S.no a (by simp [fps, fpO, hf])
    obtain ⟨s1, s2⟩ := same_frz S.g ha na
    have T := S.tail
    have nd := S.nd
    simp only [fps, fpO, hf] at nd
    have nf : a ∉ fps Γ := fun z => by
      have := (List.nodup_append.mp nd).2.2 a (by simp) a z
      exact this rfl
    refine ⟨_, rfl, s1, s2, T.o, fun b hb => ?_, T.sl.mono s1 fun _ _ _ q => q, T.nd, fun b hb => ?_, T.no, T.om⟩
    · by_cases e : b = a
      · subst e; exact absurd oa hb
      · rw [upd_ne e]; exact T.d b hb
    · by_cases e : b = a
      · subst e; exact absurd hb nf
      · rw [upd_ne e]; exact T.ng b hb
  cases f with
  | fr =>
    have h := S.head
    cases h with | fr r => exact ⟨G, Same.refl _, S.tail, r⟩
  | ol a ds =>
    have h := S.head
    cases h with
    | ol ha r =>
      obtain ⟨G2, e, s1, T⟩ := main rfl ha
      exact ⟨G2, s1, T, .lst (by rw [e]; exact upd_same) (r.mono s1)⟩
theorem ev_frz (h : EvO K W te Γ (fun s Γ2 => ∃ d, Frz s d ∧ P d Γ2) X) : Ev K W te Γ P X := fun O G H σ Q S q x =>
  h O G H σ Q S (fun v G2 H2 Γ2 s s1 S2 ⟨d, f, p⟩ => by
    obtain ⟨G3, s2, S3, r⟩ := S2.freeze1 f
    exact q v G3 H2 Γ2 d (s1.trans s2) S3 r p) x
theorem evo_of {P : Sl → Gm → Prop} (h : Ev K W te Γ (fun d Γ2 => P (.fr d) Γ2) X) : EvO K W te Γ P X := fun O G H σ Q S q x =>
  h O G H σ Q S (fun v G2 H2 Γ2 d s1 S2 r p => q v G2 H2 Γ2 (.fr d) s1 (S2.pushF r) p) x
theorem evo_move {P : Sl → Gm → Prop} {s : Sl} (h : Γ[i]? = some (some s)) (p : P s (Γ.set i none)) : EvO K W (tVar i) Γ P X := fun O G H σ Q S q _ => by
  obtain ⟨v, e, r⟩ := S.get h
  refine ⟨v, e, q v G H (Γ.set i none) s (Same.refl _) ?_ p⟩
  have il : i < Γ.length := by
    rcases Nat.lt_or_ge i Γ.length with z | z
    · exact z
    · rw [List.getElem?_eq_none z] at h; cases h
  have S2 := S.forget i (some v)
  have es : σ.set i (some v) = σ := by
    apply List.ext_getElem?
    intro j
    rw [List.getElem?_set]
    by_cases hj : i = j
    · subst hj
      rw [if_pos rfl, e]
      have : i < σ.length := by rw [S.sl.len]; exact il
      rw [if_pos this]
    · rw [if_neg hj]
  rw [es] at S2
  have sub : ∀ {Γ : Gm} {i : Nat}, Γ[i]? = some (some s) → (fps Γ).Nodup → s.fp.Nodup ∧ ∀ a ∈ s.fp, a ∉ fps (Γ.set i none) := by
    intro Γ
    induction Γ with
    | nil => intro i h; simp at h
    | cons y r ih =>
      intro i h nd
      simp only [fps] at nd
      obtain ⟨n1, n2, n3⟩ := List.nodup_append.mp nd
      cases i with
      | zero =>
        simp at h; subst h
        refine ⟨n1, fun a ha z => ?_⟩
        simp only [List.set_cons_zero, fps, fpO, List.nil_append] at z
        exact n3 a ha a z rfl
      | succ i =>
        obtain ⟨m1, m2⟩ := ih (by simpa using h) n2
        refine ⟨m1, fun a ha z => ?_⟩
        simp only [List.set_cons_succ, fps, List.mem_append] at z
        rcases z with z | z
        · exact n3 a z a (mem_fps (by simpa using h) a ha) rfl
        · exact m2 a ha z
  obtain ⟨m1, m2⟩ := sub h S.nd
  exact S2.push r m1 (fun a ha => S.ng a (mem_fps h a ha)) (fun a ha => S.no a (mem_fps h a ha)) m2
def RD (K : PySem.W.Frag) (r : R2) (ρ : Dt → Dt → (Dt → Prop) → Prop) : Prop :=
  ∀ (G H : Hp) (x y : V) (dx dy : Dt) (R : Dt → Prop) (Q : VK), Same G H → Rep K G x dx → Rep K G y dy → ρ dx dy R →
    (∀ (v : V) (G2 H2 : Hp) (d : Dt), Ext G H G2 H2 → Rep K G2 v d → R d → Q v H2) → r x y H Q
def RD1 (K : PySem.W.Frag) (r : V → Hp → VK → Prop) (ρ : Dt → (Dt → Prop) → Prop) : Prop :=
  ∀ (G H : Hp) (x : V) (dx : Dt) (R : Dt → Prop) (Q : VK), Same G H → Rep K G x dx → ρ dx R →
    (∀ (v : V) (G2 H2 : Hp) (d : Dt), Ext G H G2 H2 → Rep K G2 v d → R d → Q v H2) → r x H Q
def RDC (K : PySem.W.Frag) (r : List V → Hp → VK → Prop) (ρ : List Dt → (Dt → Prop) → Prop) : Prop :=
  ∀ (G H : Hp) (xs : List V) (ds : List Dt) (R : Dt → Prop) (Q : VK), Same G H → Reps K G xs ds → ρ ds R →
    (∀ (v : V) (G2 H2 : Hp) (d : Dt), Ext G H G2 H2 → Rep K G2 v d → R d → Q v H2) → r xs H Q
theorem ev_op {r : R2} {ρ : Dt → Dt → (Dt → Prop) → Prop} (hr : RD K r ρ) (h : Ev K W ta Γ (fun x Γ1 => Ev K W tb Γ1 (fun y Γ2 => ρ x y fun z => P z Γ2) X) X) : Ev K W (tOp r ta tb) Γ P X := fun O G H σ Q S q x =>
  h O G H σ _ S (fun v1 G1 H1 Γ1 d1 s1 S1 r1 h1 => h1 O G1 H1 σ _ S1 (fun v2 G2 H2 Γ2 d2 s2 S2 r2 h2 =>
    hr G2 H2 v1 v2 d1 d2 _ Q S2.g (r1.mono s2) r2 h2 fun v G3 H3 d e r3 p => q v G3 H3 Γ2 d (s1.trans (s2.trans e.g)) (S2.ext e) r3 p) (x.mono s1)) x
theorem ev_un {r : V → Hp → VK → Prop} {ρ : Dt → (Dt → Prop) → Prop} (hr : RD1 K r ρ) (h : Ev K W ta Γ (fun x Γ1 => ρ x fun z => P z Γ1) X) : Ev K W (tUn r ta) Γ P X := fun O G H σ Q S q x =>
  h O G H σ _ S (fun v1 G1 H1 Γ1 d1 s1 S1 r1 h1 => hr G1 H1 v1 d1 _ Q S1.g r1 h1 fun v G3 H3 d e r3 p => q v G3 H3 Γ1 d (s1.trans e.g) (S1.ext e) r3 p) x
theorem ev_cb {r : List V → Hp → VK → Prop} {ρ : List Dt → (Dt → Prop) → Prop} {t : TA} (hr : RDC K r ρ) (h : EvA K W t Γ (fun ds Γ1 => ρ ds fun z => P z Γ1) X) : Ev K W (tCB r t) Γ P X := fun O G H σ Q S q x =>
  h O G H σ _ S (fun vs G1 H1 Γ1 ds s1 S1 r1 h1 => hr G1 H1 vs ds _ Q S1.g r1 h1 fun v G3 H3 d e r3 p => q v G3 H3 Γ1 d (s1.trans e.g) (S1.ext e) r3 p) x
variable {t tr : TA}
theorem ea_nil {P : List Dt → Gm → Prop} (p : P [] Γ) : EvA K W tNil Γ P X := fun O G H σ Q S q _ => q [] G H Γ [] (Same.refl _) S .nil p
theorem ea_cons {P : List Dt → Gm → Prop} (h : Ev K W te Γ (fun d Γ1 => EvA K W tr Γ1 (fun ds Γ2 => P (d :: ds) Γ2) X) X) : EvA K W (tCons te tr) Γ P X := fun O G H σ Q S q x =>
  h O G H σ _ S (fun v1 G1 H1 Γ1 d1 s1 S1 r1 h1 => h1 O G1 H1 σ _ S1 (fun vs G2 H2 Γ2 ds s2 S2 r2 p => q (v1 :: vs) G2 H2 Γ2 (d1 :: ds) (s1.trans s2) S2 (.cons (r1.mono s2) r2) p) (x.mono s1)) x
theorem eb_cons {P : List Dt → List Dt → Gm → Prop} (h : Ev K W te Γ (fun d Γ1 => EvB K W i tr Γ1 (fun ds es Γ2 => P (d :: ds) es Γ2) X) X) : EvB K W i (tCons te tr) Γ P X := fun O G H σ Q S q x =>
  h O G H σ _ S (fun v1 G1 H1 Γ1 d1 s1 S1 r1 h1 => h1 O G1 H1 σ _ S1 (fun vs us v G2 H2 Γ2 ds es s2 S2 r2 hv r3 p => q (v1 :: vs) us v G2 H2 Γ2 (d1 :: ds) es (s1.trans s2) S2 (.cons (r1.mono s2) r2) hv r3 p) (x.mono s1)) x
theorem eb_here {P : List Dt → List Dt → Gm → Prop} {s : Sl} (hi : Γ[i]? = some (some s)) (h : EvA K W tr Γ (fun es Γ2 => P [] es Γ2) X) : EvB K W i (tCons (tVar i) tr) Γ P X := fun O G H σ Q S q x => by
  obtain ⟨v, e, _⟩ := S.get hi
  exact ⟨v, e, h O G H σ _ S (fun us G2 H2 Γ2 es s2 S2 r2 p => q [] us v G2 H2 Γ2 [] es s2 S2 .nil e r2 p) x⟩
variable {tt tu : TT} {PB : Bool → Gm → Prop}
theorem et_test (h : Ev K W te Γ (fun d Γ1 => ∃ b, d = .bl b ∧ PB b Γ1) X) : EvT K W (tTest te) Γ PB X := fun O G H σ Q S q x =>
  h O G H σ _ S (fun v G1 H1 Γ1 d s1 S1 r ⟨b, e, p⟩ => by subst e; cases r; exact ⟨b, rfl, q b G1 H1 Γ1 s1 S1 p⟩) x
theorem et_B (h : Ev K W te Γ (fun d Γ1 => ∃ b, d = .bl b ∧ PB b Γ1) X) : EvT K W (tB te) Γ PB X := fun O G H σ Q S q x =>
  h O G H σ _ S (fun v G1 H1 Γ1 d s1 S1 r ⟨b, e, p⟩ => by subst e; cases r; exact ⟨b, rfl, q b G1 H1 Γ1 s1 S1 p⟩) x
theorem et_and (h : EvT K W tt Γ (fun b Γ1 => (b = true → EvT K W tu Γ1 PB X) ∧ (b = false → PB false Γ1)) X) : EvT K W (tAnd tt tu) Γ PB X := fun O G H σ Q S q x =>
  h O G H σ _ S (fun b G1 H1 Γ1 s1 S1 ⟨p1, p2⟩ => by
    cases b with
    | true => exact iteT (p1 rfl O G1 H1 σ Q S1 (fun b G2 H2 Γ2 s2 S2 p => q b G2 H2 Γ2 (s1.trans s2) S2 p) (x.mono s1))
    | false => exact iteF (q false G1 H1 Γ1 s1 S1 (p2 rfl))) x
theorem et_or (h : EvT K W tt Γ (fun b Γ1 => (b = false → EvT K W tu Γ1 PB X) ∧ (b = true → PB true Γ1)) X) : EvT K W (tOr tt tu) Γ PB X := fun O G H σ Q S q x =>
  h O G H σ _ S (fun b G1 H1 Γ1 s1 S1 ⟨p1, p2⟩ => by
    cases b with
    | false => exact iteF (p1 rfl O G1 H1 σ Q S1 (fun b G2 H2 Γ2 s2 S2 p => q b G2 H2 Γ2 (s1.trans s2) S2 p) (x.mono s1))
    | true => exact iteT (q true G1 H1 Γ1 s1 S1 (p2 rfl))) x
theorem et_not (h : EvT K W tt Γ (fun b Γ1 => PB (!b) Γ1) X) : EvT K W (tNot tt) Γ PB X := fun O G H σ Q S q x =>
  h O G H σ _ S (fun b G1 H1 Γ1 s1 S1 p => q (!b) G1 H1 Γ1 s1 S1 p) x
theorem ev_andV (h : Ev K W ta Γ (fun d Γ1 => ∃ b, d = .bl b ∧ (b = true → Ev K W tb Γ1 P X) ∧ (b = false → P (.bl false) Γ1)) X) : Ev K W (tAndV ta tb) Γ P X := fun O G H σ Q S q x =>
  h O G H σ _ S (fun v G1 H1 Γ1 d s1 S1 r ⟨b, e, p1, p2⟩ => by
    subst e; cases r
    refine ⟨b, rfl, ?_⟩
    cases b with
    | true => exact iteT (p1 rfl O G1 H1 σ Q S1 (fun b G2 H2 Γ2 d s2 S2 r p => q b G2 H2 Γ2 d (s1.trans s2) S2 r p) (x.mono s1))
    | false => exact iteF (q (.bl false) G1 H1 Γ1 _ s1 S1 (.bl false) (p2 rfl))) x
theorem ev_orV (h : Ev K W ta Γ (fun d Γ1 => ∃ b, d = .bl b ∧ (b = false → Ev K W tb Γ1 P X) ∧ (b = true → P (.bl true) Γ1)) X) : Ev K W (tOrV ta tb) Γ P X := fun O G H σ Q S q x =>
  h O G H σ _ S (fun v G1 H1 Γ1 d s1 S1 r ⟨b, e, p1, p2⟩ => by
    subst e; cases r
    refine ⟨b, rfl, ?_⟩
    cases b with
    | false => exact iteF (p1 rfl O G1 H1 σ Q S1 (fun b G2 H2 Γ2 d s2 S2 r p => q b G2 H2 Γ2 d (s1.trans s2) S2 r p) (x.mono s1))
    | true => exact iteT (q (.bl true) G1 H1 Γ1 _ s1 S1 (.bl true) (p2 rfl))) x
theorem ev_notV (h : Ev K W ta Γ (fun d Γ1 => ∃ b, d = .bl b ∧ P (.bl (!b)) Γ1) X) : Ev K W (tNotV ta) Γ P X := fun O G H σ Q S q x =>
  h O G H σ _ S (fun v G1 H1 Γ1 d s1 S1 r ⟨b, e, p⟩ => by
    subst e; cases r
    exact ⟨b, rfl, q (.bl (!b)) G1 H1 Γ1 _ s1 S1 (.bl _) p⟩) x
theorem ev_if (h : EvT K W tt Γ (fun b Γ1 => (b = true → Ev K W ta Γ1 P X) ∧ (b = false → Ev K W tb Γ1 P X)) X) : Ev K W (tIf tt ta tb) Γ P X := fun O G H σ Q S q x =>
  h O G H σ _ S (fun b G1 H1 Γ1 s1 S1 ⟨p1, p2⟩ => by
    cases b with
    | true => exact iteT (p1 rfl O G1 H1 σ Q S1 (fun b G2 H2 Γ2 d s2 S2 r p => q b G2 H2 Γ2 d (s1.trans s2) S2 r p) (x.mono s1))
    | false => exact iteF (p2 rfl O G1 H1 σ Q S1 (fun b G2 H2 Γ2 d s2 S2 r p => q b G2 H2 Γ2 d (s1.trans s2) S2 r p) (x.mono s1))) x
theorem Rep.newT {G H : Hp} {p : Addr} {vs : List V} {ds : List Dt} (g : Same G H) (n : H p = none) (r : Reps K G vs ds) : Rep K (upd G p (.tup vs)) (.ref p) (.tup ds) := .tup upd_same (r.mono (Ext.new g n).g)
theorem Rep.newL {G H : Hp} {p : Addr} {vs : List V} {ds : List Dt} (g : Same G H) (n : H p = none) (r : Reps K G vs ds) : Rep K (upd G p (.lst vs)) (.ref p) (.lst ds) := .lst upd_same (r.mono (Ext.new g n).g)
theorem ev_tup (h : EvA K W t Γ (fun ds Γ1 => ds.length ≤ 1000000 ∧ P (.tup ds) Γ1) X) : Ev K W (tTup t) Γ P X := fun O G H σ Q S q x =>
  h O G H σ _ S (fun vs G1 H1 Γ1 ds s1 S1 r ⟨l, p⟩ => ⟨by rw [r.length]; exact Nat.le_trans l (by decide), fun a na => q (.ref a) _ _ Γ1 (.tup ds) (s1.trans (Ext.new S1.g na).g) (S1.ext (Ext.new S1.g na)) (Rep.newT S1.g na r) p⟩) x
theorem ev_lst (h : EvA K W t Γ (fun ds Γ1 => ds.length ≤ 1000000 ∧ P (.lst ds) Γ1) X) : Ev K W (tLst t) Γ P X := fun O G H σ Q S q x =>
  h O G H σ _ S (fun vs G1 H1 Γ1 ds s1 S1 r ⟨l, p⟩ => ⟨by rw [r.length]; exact Nat.le_trans l (by decide), fun a na => q (.ref a) _ _ Γ1 (.lst ds) (s1.trans (Ext.new S1.g na).g) (S1.ext (Ext.new S1.g na)) (Rep.newL S1.g na r) p⟩) x
theorem Sta.own1 {O G H : Hp} {σ : St} {p : Addr} {ob : HO} {s : Sl} (S : Sta K O G H σ Γ) (n : H p = none) (hf : s.fp = [p]) (h : Own K G (upd H p ob) (.ref p) s) : Sta K O G (upd H p ob) (some (.ref p) :: σ) (some s :: Γ) := by
  have S2 := S.ext (Ext.raw (ob := ob) S.g n)
  refine S2.push h (by rw [hf]; simp) (fun a ha => ?_) (fun a ha => ?_) (fun a ha z => ?_)
  · rw [hf] at ha; simp at ha; subst ha; exact S.g.free n
  · rw [hf] at ha; simp at ha; subst ha; exact S.o.free n
  · rw [hf] at ha; simp at ha; subst ha; exact S.there _ z n
theorem evo_lst {P : Sl → Gm → Prop} (h : EvA K W t Γ (fun ds Γ1 => ds.length ≤ 1000000 ∧ ∀ a, P (.ol a ds) Γ1) X) : EvO K W (tLst t) Γ P X := fun O G H σ Q S q x =>
  h O G H σ _ S (fun vs G1 H1 Γ1 ds s1 S1 r ⟨l, p⟩ => ⟨by rw [r.length]; exact Nat.le_trans l (by decide), fun a na => q (.ref a) G1 _ Γ1 (.ol a ds) s1 (S1.own1 na rfl (.ol upd_same r)) (p a)⟩) x
variable {PP : Po} {t1 t2 : TS} {g : TG}
theorem go_seq (h : Go K W t1 Γ { PP with nx := fun Γ1 => Go K W t2 Γ1 PP }) : Go K W (tSeq t1 t2) Γ PP := fun O G H σ D S a b c d e =>
  h O G H σ _ S (fun G2 H2 σ2 Γ2 s S2 p => p O G2 H2 σ2 D S2 (fun G3 H3 σ3 Γ3 s3 S3 p3 => a G3 H3 σ3 Γ3 (s.trans s3) S3 p3) (fun v G3 H3 σ3 Γ3 z s3 S3 p3 => b v G3 H3 σ3 Γ3 z (s.trans s3) S3 p3) (fun G3 H3 σ3 Γ3 s3 S3 p3 => c G3 H3 σ3 Γ3 (s.trans s3) S3 p3)
    (fun G3 H3 σ3 Γ3 s3 S3 p3 => d G3 H3 σ3 Γ3 (s.trans s3) S3 p3) fun σ3 => (e σ3).mono s) b c d e
theorem go_next (h : PP.nx Γ) : Go K W tNext Γ PP := fun O G H σ D S a b c d e => a G H σ Γ (Same.refl _) S h
theorem go_break (h : PP.bk Γ) : Go K W tBreak Γ PP := fun O G H σ D S a b c d e => c G H σ Γ (Same.refl _) S h
theorem go_cont (h : PP.ct Γ) : Go K W tCont Γ PP := fun O G H σ D S a b c d e => d G H σ Γ (Same.refl _) S h
theorem go_if (h : EvT K W tt Γ (fun b Γ1 => (b = true → Go K W t1 Γ1 PP) ∧ (b = false → Go K W t2 Γ1 PP)) PP.xc) : Go K W (tIfS tt t1 t2) Γ PP := fun O G H σ D S a b c d e =>
  h O G H σ _ S (fun bb G2 H2 Γ2 s S2 ⟨p1, p2⟩ => by
    have go : ∀ {t : TS}, Go K W t Γ2 PP → t D σ H2 := fun p => p O G2 H2 σ D S2 (fun G3 H3 σ3 Γ3 s3 S3 p3 => a G3 H3 σ3 Γ3 (s.trans s3) S3 p3) (fun v G3 H3 σ3 Γ3 z s3 S3 p3 => b v G3 H3 σ3 Γ3 z (s.trans s3) S3 p3) (fun G3 H3 σ3 Γ3 s3 S3 p3 => c G3 H3 σ3 Γ3 (s.trans s3) S3 p3)
      (fun G3 H3 σ3 Γ3 s3 S3 p3 => d G3 H3 σ3 Γ3 (s.trans s3) S3 p3) fun σ3 => (e σ3).mono s
    cases bb with
    | true => exact iteT (go (p1 rfl))
    | false => exact iteF (go (p2 rfl))) (e σ)
theorem go_set (h : EvO K W te Γ (fun s Γ1 => PP.nx (Γ1.set i (some s))) PP.xc) : Go K W (tAsg te (gName i)) Γ PP := fun O G H σ D S a b c d e =>
  h O G H σ _ S (fun v G2 H2 Γ2 s s1 S2 p => a G2 H2 _ _ s1 (S2.put i) p) (e σ)
theorem go_setF (h : Ev K W te Γ (fun d Γ1 => PP.nx (Γ1.set i (some (.fr d)))) PP.xc) : Go K W (tAsg te (gName i)) Γ PP := go_set (evo_of h)
theorem go_asg (h : Ev K W te Γ (fun d Γ1 => GoG K W g d Γ1 PP.nx PP.xc) PP.xc) : Go K W (tAsg te g) Γ PP := fun O G H σ D S a b c d e =>
  h O G H σ _ S (fun v G2 H2 Γ2 dd s1 S2 r p => p O G2 H2 σ v _ S2 r (fun G3 H3 σ3 Γ3 s3 S3 p3 => a G3 H3 σ3 Γ3 (s1.trans s3) S3 p3) fun σ2 => (e σ2).mono s1) (e σ)
theorem go_drop (h : EvO K W te Γ (fun _ Γ1 => PP.nx Γ1) PP.xc) : Go K W (tDrop te) Γ PP := fun O G H σ D S a b c d e =>
  h O G H σ _ S (fun v G2 H2 Γ2 s s1 S2 p => a G2 H2 σ Γ2 s1 S2.tail p) (e σ)
theorem go_ret (h : EvO K W te Γ (fun s Γ1 => PP.rt s Γ1) PP.xc) : Go K W (tRet te) Γ PP := fun O G H σ D S a b c d e =>
  h O G H σ _ S (fun v G2 H2 Γ2 s s1 S2 p => b v G2 H2 σ Γ2 s s1 S2 p) (e σ)
theorem go_retN (h : PP.rt (.fr .non) Γ) : Go K W tRetN Γ PP := fun O G H σ D S a b c d e => b .non G H σ Γ (.fr .non) (Same.refl _) (S.pushF .non) h
theorem gg_name {d : Dt} {P : Gm → Prop} (h : P (Γ.set i (some (.fr d)))) : GoG K W (gName i) d Γ P X := fun O G H σ v Q S r q _ => q G H _ _ (Same.refl _) (S.putF r i) h
def GoGs (K : PySem.W.Frag) (W : WX) (g : TGs) (ds : List Dt) (Γ : Gm) (P : Gm → Prop) (X : XP) : Prop :=
  ∀ (O G H : Hp) (σ : St) (vs : List V) (Q : St → Hp → Prop), Sta K O G H σ Γ → Reps K G vs ds →
    (∀ (G2 H2 : Hp) (σ2 : St) (Γ2 : Gm), Same G G2 → Sta K O G2 H2 σ2 Γ2 → P Γ2 → Q σ2 H2) → (∀ σ2, XOk K W O G σ2 X) → g vs σ H Q
theorem gs_nil {P : Gm → Prop} (h : P Γ) : GoGs K W gNil [] Γ P X := fun O G H σ vs Q S r q _ => by
  cases r
  exact ⟨rfl, q G H σ Γ (Same.refl _) S h⟩
theorem gs_cons {d : Dt} {ds : List Dt} {gr : TGs} {P : Gm → Prop} (h : GoG K W g d Γ (fun Γ1 => GoGs K W gr ds Γ1 P X) X) : GoGs K W (gCons g gr) (d :: ds) Γ P X := fun O G H σ vs Q S r q e => by
  cases r with
  | @cons v vs _ _ r1 r2 =>
    exact ⟨v, vs, rfl, h O G H σ v _ S r1 (fun G2 H2 σ2 Γ2 s2 S2 p => p O G2 H2 σ2 vs Q S2 (r2.mono s2) (fun G3 H3 σ3 Γ3 s3 S3 p3 => q G3 H3 σ3 Γ3 (s2.trans s3) S3 p3) fun σ3 => (e σ3).mono s2) e⟩
theorem gg_tup {d : Dt} {ds : List Dt} {n : Nat} {gr : TGs} {P : Gm → Prop} (hd : d = .tup ds) (hn : ds.length = n) (h : GoGs K W gr ds Γ P X) : GoG K W (gTup K n gr) d Γ P X := fun O G H σ v Q S r q e => by
  subst hd
  cases r with
  | @tup a xs _ ha rs => exact ⟨a, xs, rfl, SqT.of (S.g _ _ ha), by rw [rs.length]; exact hn, h O G H σ xs Q S rs q e⟩
end
end DL
namespace PySem
namespace ER
open PySem.W PySem.Calls PyProof.Rows PySem.HandSPX PySem.Builtin PySem.Builtin.ObjectAttr
section
variable {prog : Program} {w : World} {A : Around} {E : Value → Shared → Prop} {h : Heap} {g : Array GenState} {d : Drawn} {t : Nat} {os : OsState}
variable {nm q : Str} {C N : Addr} {bs bm : List Value} {hdct : Bool} {sn : List Str} {sub : List Value} {ab : Bool} {col : Option Bool} {dd : Option Addr} {k0 k1 k2 k3 k5 : Option Value}
theorem callWith_m0 {M : Model} {s : Shared} {pos : Pos} {u x : Addr} {i : String} {first : List Value} {args : List (Bool × Sem Value)} {Q : Value → Shared → Prop} (hplain : args.any (·.1) = false)
    (h : wpAny M A (evalArgs (.ref u) true args []) (fun a s₁ => s₁.heap.get? u = some (kxs_mw i x) ∧ wpAny M A (call (.ref u) (first ++ a.pos) a.kw) Q E s₁) E s) : wpAny M A (callWith pos (.ref u) first args []) Q E s := by
  unfold callWith
  refine wpAny_bind (wpAny_holding (wpAny_mono h (fun a s₁ h₁ => wpAny_bind (wpAny_standAt ?_)) fun _ _ x => x))
  obtain ⟨ho, hcall⟩ := h₁
  simp only [hplain, List.any_nil, Bool.or_false]
  refine wpAny_bind (m := keeperOf (.ref u)) ?_
  unfold keeperOf
  refine wpAny_bind (wpAny_load ho ?_)
  simp only [kxs_mw, show (Value.type "method-wrapper" != Value.type "method") = true by decide, show (Value.type "method-wrapper" == Value.type "builtin_function_or_method" || Value.type "method-wrapper" == Value.type "method-wrapper") = true by decide, if_true]
  refine wpAny_pure ?_
  exact wpAny_bind (wpAny_mono hcall (fun r s₂ hr => wpAny_bind (wpAny_holding (wpAny_point (wpAny_pure hr)))) fun _ _ x => x)
theorem callWith_mw {M : Model} {s : Shared} {pos : Pos} {u x : Addr} {i : String} {first : List Value} {env : Env} {e : Expr} {rest : List Expr} {Q : Value → Shared → Prop}
    (h : wpAny M A (spliced (backTo pos (starEach (e :: rest) env))) (fun vs s₁ => s₁.heap.get? u = some (kxs_mw i x) ∧ wpAny M A (call (.ref u) (first ++ vs)) Q E s₁) E s)
    (he : starEach (e :: rest) env = (false, eval e env) :: starEach rest env := by rfl) (hplain : (backTo pos (starEach rest env)).any (·.1) = false := by rfl) :
    wpAny M A (callWith pos (.ref u) first (backTo pos (starEach (e :: rest) env)) []) Q E s := by
  rw [he] at h ⊢
  refine callWith_m0 (x := x) (i := i) (by show (false || (backTo pos (starEach rest env)).any (·.1)) = false; rw [hplain]; rfl) ?_
  exact evalArgs_plain h
theorem call_mw {u e t0 : Addr} {rest : List Value} {Q : Value → Shared → Prop}
    (hC : h.get? C = some (excClassObj nm q C N bs bm hdct sn sub ab col dd k0 k1 k2 k3 k5 "ValueError.__new__")) (he : h.get? e = some (excO C t0)) (hu : h.get? u = some (kxs_mw "ValueError.__init__" e)) (hrest : rest.length ≤ sizeLine)
    (hq : ∀ h' t1, (∀ b o, b ≠ e → h.get? b = some o → h'.get? b = some o) → h'.get? e = some (excO C t1) → Q .none ⟨h', g, d, t, os⟩) :
    wpAny (model prog w) A (call (.ref u) rest) Q E ⟨h, g, d, t, os⟩ := by
  refine wpAny_call (codeAny_of_tree ?_)
  show wpAny _ A.in1 (callAny (.ref u) ⟨rest, []⟩) _ _ _
  simp only [callAny]
  refine wpAny_bind (wpAny_load hu ?_)
  simp only [kxs_mw, show (Value.type "method-wrapper" == Value.type "method" || Value.type "method-wrapper" == Value.type "builtin_function_or_method" || Value.type "method-wrapper" == Value.type "method-wrapper") = true by decide, if_true]
  refine W.KFB.if_so (by decide) ?_
  refine wpAny_bind (ESX.check_bound F.excBase_ValueError hC he rfl ?_)
  refine wpAny_bind (wpAny_pure (wpAny_pure ?_))
  refine ⟨Code.quiet_builtin _ (by decide +kernel), codeAny_builtin F.excBase_ValueError.initEntry ?_⟩
  rw [Around.under_plainId F.excBase_ValueError.init.plain _]
  wp_walk
  refine hq _ h.objs.size (fun b o hb ho => ?_) ?_
  · rw [Heap.get?_update_other _ _ (Ne.symm hb)]
    exact Heap.get?_push_of_some _ ho
  · rw [Heap.get?_update_self _ (Heap.get?_push_of_some _ he) rfl]
    rfl
end
section
variable {prog : Program} {w : World} {A : Around} {E : Value → Shared → Prop} {R : Result → Shared → Prop} {hp : Heap} {g : Array GenState} {d : Drawn} {t : Nat} {os : OsState}
theorem osa_old {K : W.Frag} {name : Str} {tk : Tok} {v : Value} {x C dx : Addr} {fv : Array Value} {cd : ClassData} {m0 : Str → Option Value} {nl : List Str}
    (X : K.In hp) (hx : hp.get? x = some { cls := .ref C, dict := some dx, data := .fields fv }) (hns : hp.Ns1 dx m0) (hw : Within m0 nl) (hz : nl.length ≤ 1000) (hcd : W.clsIn K C = some cd) (hm : refsVE cd.mro = true) (hh : cd.hasDict = true)
    (ha : W.findIn K (.ref C) name = some none)
    (hq : ∀ h' tk', (∀ b o, b ≠ dx → hp.get? b = some o → h'.get? b = some o) → h'.Ns1 dx (fun y => if y = name then some v else m0 y) → R (.ok (.ret .none)) ⟨h', g, d, tk', os⟩) :
    codeAny (model prog w) A (.call (.builtin "object.__setattr__") ⟨[.ref x, .str name tk, v], []⟩) R ⟨hp, g, d, t, os⟩ := by
  obtain ⟨oD, esD, epD, hoD, hdD, _⟩ := hns.count hw
  have I : W.InstAt hp x { cls := .ref C, dict := some dx, data := .fields fv } C (some oD) := ⟨hx, rfl, rfl, hoD⟩
  have SF := F.store_object
  have ne := refsVE_ne hm
  have hob : cd.mro.contains (.type "object") = true := (refsVE_contains "object" _ hm).trans (by decide +kernel)
  have sub : W.Looks (model prog w) hp (isInstance (.ref x) (.type "object")) true := I.type.andThen (W.looks_mroIn X (by unfold W.mroIn; rw [hcd, Option.bind_some, if_neg (by rw [ne]; decide), hob]))
  refine codeAny_call_builtin SF.slot.plain SF.entry (@W.check_slot (model prog w) _ _ ⟨hp, g, d, t, os⟩ "object.__setattr__" "object" "__setattr__" (.ref x) [.str name tk, v] [] _ SF.kind SF.split sub (SF.args (.ref x) (.str name tk) v) ?_)
  have hmr : W.Looks (model prog w) hp (mroOf (.ref C)) cd.mro := (W.looks_clsIn X hcd).andThen .now
  have L3 : W.Looks (model prog w) hp (storeTaker? none) none := .now
  have hcls : W.Looks (model prog w) hp (classData C) cd := W.looks_clsIn X hcd
  rw [W.osa_eq, refuse_eq]
  refine wpAny_bind (wpAny_bind (I.type.at (wpAny_bind (hmr.at ?_))))
  rw [refsVE_pass _ _ hm]
  refine wpAny_pure (wpAny_bind (I.type.at (wpAny_bind ((W.looks_findIn X ha).at (wpAny_bind (L3.at ?_))))))
  show wpAny _ _ (storeInOwnDict (.ref x) (.ref C) (.str name tk) name v false) _ _ _
  obtain ⟨nm, bs, mro, ns, qn, hd, sn, sb, ab, col, del⟩ := cd
  dsimp only at hh
  subst hh
  unfold storeInOwnDict ownDictForStores
  repeat (first | with_reducible refine ESX.store_in_old hns hw hz ?_ | with_reducible refine wpAny_loadPart_at hx ?_ | with_reducible refine hcls.at ?_ | wp_step)
  intro h' tk' hn' hs
  exact hq h' tk' (fun b o hb ho => (hs.2 b hb).trans ho) hn'
end
def eCall (msg : Str) (p0 p1 p2 p3 p4 : Pos) : Expr := .Call (.Attribute (.Call (.Name "super" p0) [] [] p1) "__init__" p2) [.Constant (.str msg) 0 p3] [] p4
def eSet (f : Str) (p0 p1 p2 p3 : Pos) : Stmt := .Assign [.Attribute (.Name "self" p0) f p1] (.Name f p2) p3
def eArgs (a : Pos) (fs : List (Str × Pos)) : Arguments := { posonlyargs := [], args := { arg := "self", annotation := none, pos := a } :: fs.map fun f => { arg := f.1, annotation := none, pos := f.2 }, vararg := none, kwonlyargs := [], kw_defaults := [], kwarg := none, defaults := [] }
def eScope (fs : List Str) : Scope := { kind := .function, names := (PySem.Str.ofString "self", .local) :: fs.map (fun f => (f, NameKind.local)) ++ [(PySem.Str.ofString "__class__", .free), (PySem.Str.ofString "super", .globalImplicit)], isGenerator := false, isCoroutine := false, more := [] }
def nmz (fs : List (Str × Pos)) : List Str := fs.map fun f => f.1
structure ErrT (prog : Program) (K : Frag) (mg : Str → Option Value) (x : Str) (fs : List Str) (C fI : Addr) : Prop where
  gC : mg x = some (.ref C)
  cls : ∃ nm q N bs bm sn sub ab col dd k0 k1 k2 k3 k5, K.lookup C = some (excClassObj nm q C N bs bm true sn sub ab col dd k0 k1 k2 k3 k5 "ValueError.__new__") ∧ refsVE bm = true ∧
    alongIn K "__init__" ((Value.ref C :: bm).dropWhile (· != .ref C) |>.drop 1) = some (some (.builtin "ValueError.__init__"))
  sa : findIn K (.ref C) "__setattr__" = some (some (.builtin "object.__setattr__"))
  ga : findIn K (.ref C) "__getattribute__" = some (some (.builtin "BaseException.__getattribute__"))
  gg : findIn K (.ref C) "__getattr__" = some none
  noN : ∀ f ∈ fs, findIn K (.ref C) f = some none
  iC : findIn K (.ref C) "__init__" = some (some (.ref fI))
  tC : typeIn K (.ref fI) = some (.type "function")
  kC : keepIn K (.ref C) = true
  exC : subIn K (.ref C) (.type "BaseException") = some true
  tyC : typeIn K (.ref C) = some (.type "type")
  hdC : hasDictIn K C = true
  sup : mg "super" = none
  top : (prog.main.scope.names.lookup ("super" : Str)).isSome = false
  opq : nsIn K cStatics "thirdparty.any" = some none
structure InitT (prog : Program) (K : Frag) (qual : Str) (a : Pos) (fs : List (Str × Pos)) (body : List Stmt) (C fI : Addr) : Prop where
  fn : ∃ (oc : Value) (od : Option Addr) (doc pm : Value) (an : Option Addr) (ct : Value) (osl : Array (Option Value)) (cc cda : Addr) (cl ccl : Value) (cld cdd : Option Addr) (csl ccs : Array (Option Value)) (vs : Array Value) (tf : Tok),
    K.lookup fI = some ⟨oc, od, .func (fnX "__init__" qual (eArgs a fs) body (eScope (nmz fs)) [("__class__", cc)] .none .none doc pm an (.ref cda) ct), osl⟩ ∧ codeIn K (.ref cda) qual = true ∧
    K.lookup cc = some ⟨cl, cld, .cell (some (.ref C)), csl⟩ ∧ K.lookup cda = some ⟨ccl, cdd, .fields vs, ccs⟩ ∧ vs[2]? = some (.str prog.main.file tf)
structure CallT (msg : Str) (p0 p1 p2 p3 p4 p5 : Pos) : Prop where
  sw : ∀ env : Env, swapsWith (eCall msg p0 p1 p2 p3 p4) none p5.line env = pure false
  ev : ∀ env : Env, ∃ pl : Sem Bool, eval (eCall msg p0 p1 p2 p3 p4) env = (do
      let ov ← attributeBase (.Call (.Name "super" p0) [] [] p1) "__init__" env (eval (.Call (.Name "super" p0) [] [] p1) env)
      standAt p2.atName
      let (f, first) ← holding [ov] (getMethod ov "__init__" pl)
      callWith p4 f first (backTo p4 (starEach [.Constant (.str msg) 0 p3] env)) [])
structure InitEnd (h h' : Heap) (x C dx t1 : Addr) (m : Str → Option Value) : Prop where
  keep : ∀ b o, b ≠ x → h.get? b = some o → h'.get? b = some o
  obj : h'.get? x = some { cls := .ref C, dict := some dx, data := .fields #[.ref t1, .none, .none, .none, .bool false, .none] }
  dbig : h.objs.size ≤ dx
  dne : dx ≠ x
  ns : h'.Ns1 dx m
structure Made (h h' : Heap) (e C d : Addr) (m : Str → Option Value) : Prop where
  keep : ∀ b o, h.get? b = some o → h'.get? b = some o
  new : h.objs.size ≤ e
  obj : ∃ oe vs, h'.get? e = some oe ∧ oe.cls = .ref C ∧ oe.dict = some d ∧ oe.data = .fields vs ∧ vs[1]? = some .none
  dbig : h.objs.size ≤ d
  dne : d ≠ e
  ns : h'.Ns1 d m
section
variable {prog : Program} {w : World} {A : Around} {E : Value → Shared → Prop} {R : Result → Shared → Prop} {s : Shared} {K : Frag} {mg : Str → Option Value} {C fI : Addr} {x qual : Str}
theorem one_size (v : Value) : [v].length ≤ sizeLine := by
  rw [sizeLine_eq]
  exact (by decide : 1 ≤ 16777216)
theorem kept_but {h h' : Heap} {x : Addr} (X : K.In h) (hx : K.lookup x = none) (k : ∀ b o, b ≠ x → h.get? b = some o → h'.get? b = some o) : K.In h' := fun a o e =>
  k a o (fun z => by rw [z, hx] at e; cases e) (X a o e)
theorem super_call {fs : List Str} {a : Pos} {fps : List (Str × Pos)} {body : List Stmt} {msg : Str} {p0 p1 p2 p3 p4 p5 : Pos} {xx t0 L : Addr} {m : Str → Option Value} {Q : Flow → Shared → Prop} {bd : List Stmt}
    {oc : Value} {od : Option Addr} {doc pm : Value} {an : Option Addr} {ct : Value} {osl : Array (Option Value)} {cc cda : Addr} {cl ccl : Value} {cld cdd : Option Addr} {csl ccs : Array (Option Value)} {vs : Array Value} {tf : Tok}
    (T : ErrT prog K mg x fs C fI) (CT : CallT msg p0 p1 p2 p3 p4 p5)
    (lk : K.lookup fI = some ⟨oc, od, .func (fnX "__init__" qual (eArgs a fps) body (eScope (nmz fps)) [("__class__", cc)] .none .none doc pm an (.ref cda) ct), osl⟩)
    (hcell : K.lookup cc = some ⟨cl, cld, .cell (some (.ref C)), csl⟩) (hcode : K.lookup cda = some ⟨ccl, cdd, .fields vs, ccs⟩) (hvs : vs[2]? = some (.str prog.main.file tf))
    (X : K.In s.heap) (hg : s.heap.Ns mainGlobals mg) (hb : ∃ mb, s.heap.Ns builtinsNs mb ∧ ∀ y : Str, y ≠ "__name__" → mb y = bootBuiltins y)
    (hL : s.heap.Ns L m) (hself : m "self" = some (.ref xx)) (hx : s.heap.get? xx = some (excO C t0)) (hnx : K.lookup xx = none)
    (hks : (eScope (nmz fps)).names.lookup ("super" : Str) = some .globalImplicit) (hkc : (eScope (nmz fps)).names.lookup ("__class__" : Str) = some .free) (hka : (eScope (nmz fps)).names.lookup ("self" : Str) = some .local)
    (hq : ∀ h' tk t1, (∀ b o, b ≠ xx → s.heap.get? b = some o → h'.get? b = some o) → h'.get? xx = some (excO C t1) → Q .next { s with heap := h', toks := tk }) :
    _root_.PySem.wpAt (model prog w) A (.func bd (ksEnv qual (eScope (nmz fps)) L fI (.ref cda) cc)) (exec (.Expr (eCall msg p0 p1 p2 p3 p4) p5) (ksEnv qual (eScope (nmz fps)) L fI (.ref cda) cc)) Q E s := by
  obtain ⟨nm, q, N, bs, bm, sn, sub, ab, col, dd, k0, k1, k2, k3, k5, hC, hbm, hal⟩ := T.cls
  have hcl : clsIn K C = some { name := nm, bases := bs, mro := .ref C :: bm, ns := N, qualname := q, hasDict := true, slotNames := sn, subclasses := sub, abstract := ab, collection := col, hasDel := false } := by unfold clsIn; rw [hC] <;> rfl
  obtain ⟨mb, hbn, hbb⟩ := hb
  obtain ⟨hh, g, d, t, os⟩ := s
  have X' : K.In hh := X
  refine ks_wpAt_Expr_any ?_ rfl (CT.sw _)
  obtain ⟨pl, ev⟩ := CT.ev (ksEnv qual (eScope (nmz fps)) L fI (.ref cda) cc)
  refine ks_wpAt_MethodCall (pl := pl) ?_ ev
  have hCo := X' _ _ hC
  have hsubC : mroIn K C (.ref C) = some true := by
    unfold mroIn
    rw [hcl, Option.bind_some]
    simp
  have hsubV : mroIn K C (.type "ValueError") = some true := by
    unfold mroIn
    rw [hcl, Option.bind_some]
    have z : (Value.ref C :: bm).contains (.type "ValueError") = true := (refsVE_contains "ValueError" (Value.ref C :: bm) hbm).trans (by decide +kernel)
    rw [if_neg (show ¬ ((Value.ref C :: bm).isEmpty = true) from Bool.false_ne_true), z]
  have I : InstAt hh xx (excO C t0) C none := ⟨hx, rfl, rfl, trivial⟩
  have hxC : xx ≠ C := fun z => by rw [z, hC] at hnx; cases hnx
  refine ks_wpAt_super_base (ar := { arg := "self", annotation := none, pos := a }) (env := ksEnv qual (eScope (nmz fps)) L fI (.ref cda) cc) (attr := "__init__") hks hkc (by decide +kernel) rfl (X' _ _ lk) rfl rfl rfl (X' _ _ hcode) rfl hvs (by simp) T.top ?_
  refine ks_loadName_global rfl hks (loadGlobal_builtin (env := ksEnv qual (eScope (nmz fps)) L fI (.ref cda) cc) hg T.sup hbn ((hbb _ (by decide +kernel)).trans (by first | boot_by_name | rfl | kernel_rfl)) ⟨rfl, ?_⟩)
  refine wpAny_loadName_free rfl hkc rfl ⟨_, X' _ _ hcell, rfl⟩ ?_
  refine wpAny_loadName_local rfl hka hL hself ?_
  refine ks_wpAny_isType_cls hCo rfl ⟨rfl, ?_⟩
  refine ks_wpAny_call_super hCo rfl hx rfl (fun c e => nomatch e) (looks_mroIn X' hsubC) fun h1 e1 kk1 => ?_
  have X1 : K.In h1 := X'.keeps kk1
  have x1 := kk1 _ _ hx
  have I1 : InstAt h1 xx (excO C t0) C none := ⟨x1, rfl, rfl, trivial⟩
  refine kxs_getMethod kxs_ValueError e1 (looks_opaque X1 T.opq) (l₀ := Value.ref C :: bm) ((looks_clsIn X1 hcl).andThen .now) rfl X1 hal (I1.type.andThen (looks_mroIn X1 hsubV)) hxC (by decide +kernel) ?_
  refine callWith_mw (x := xx) (i := "ValueError.__init__") ?_
  refine spliced_cons ?_
  refine wpAny_Constant_str (pos := p3) (k := 0) ?_
  refine spliced_nil ⟨?_, ?_⟩
  · exact Heap.get?_push_at rfl rfl
  refine call_mw (h := h1.push (kxs_mw "ValueError.__init__" xx)) (e := xx) (t0 := t0) (Heap.get?_push_of_some _ (kk1 _ _ hCo)) (Heap.get?_push_of_some _ x1) (Heap.get?_push_at rfl rfl) (one_size _) fun h' t1 k' hx' => ?_
  exact hq h' _ t1 (fun b o hb ho => k' b o hb (Heap.get?_push_of_some _ (kk1 b o ho))) hx'
end
end ER
end PySem
namespace PySem
namespace ER
open PySem.W PySem.Calls PyProof.Rows PySem.HandSPX
structure Mker (prog : Program) (K : Frag) (mg : Str → Option Value) (C : Addr) (fs : List Str) : Prop where
  made : ∀ (w : World) (A : Around) (R : Result → Shared → Prop) (s : Shared) (vs : List Value), vs.length = fs.length → K.In s.heap → s.heap.NoLimit → s.heap.Ns mainGlobals mg → (∃ mb, s.heap.Ns builtinsNs mb ∧ ∀ y : Str, y ≠ "__name__" → mb y = bootBuiltins y) → A.depth + 1 < recursionLimit →
    (∀ h' tk e d m, Made s.heap h' e C d m → (∀ y, m y = (fs.zip vs).lookup y) → R (.ok (.ret (.ref e))) { s with heap := h', toks := tk }) → codeAny (model prog w) A (.call (.ref C) ⟨vs, []⟩) R s
section
variable {prog : Program} {w : World} {A : Around} {E : Value → Shared → Prop} {R : Result → Shared → Prop} {s : Shared} {K : Frag} {mg : Str → Option Value} {C fI : Addr} {x qual : Str}
theorem ldS {M : Model} {s : Shared} {name : Str} {scope : Scope} {L a : Addr} {cd : Value} {cc : Addr} {m : Str → Option Value} {x : Str} {pos : Pos} {v : Value} {Q : Value → Shared → Prop} (hn : s.heap.Ns L m) (hv : m x = some v) (h : Q v s)
    (hk : scope.kind = .function) (hl : scope.names.lookup x = some .local) (hd : (x == ("__debug__" : Str)) = false) :
    wpAny M A (eval (.Name x pos) (ksEnv name scope L a cd cc)) Q E s := wpAny_Name (wpAny_loadName_local hk hl hn hv h) hd
theorem made_of {fs : List Str} (T : ErrT prog K mg x fs C fI)
    (init : ∀ (w : World) (A : Around) (R : Result → Shared → Prop) (s : Shared) (vs : List Value) (xx t0 : Addr), vs.length = fs.length → K.In s.heap → s.heap.NoLimit → s.heap.Ns mainGlobals mg → (∃ mb, s.heap.Ns builtinsNs mb ∧ ∀ y : Str, y ≠ "__name__" → mb y = bootBuiltins y) → A.depth < recursionLimit →
      s.heap.get? xx = some (excO C t0) → K.lookup xx = none →
      (∀ h' tk dx t1 m, InitEnd s.heap h' xx C dx t1 m → (∀ y, m y = (fs.zip vs).lookup y) → R (.ok (.ret .none)) { s with heap := h', toks := tk }) → codeAny (model prog w) A (.call (.ref fI) ⟨.ref xx :: vs, []⟩) R s)
    (hz : fs.length ≤ 1000) : Mker prog K mg C fs := ⟨by
  intro w A R s vs hl X hlim hg hb hroom hq
  obtain ⟨nm, q, N, bs, bm, sn, sub, ab, col, dd, k0, k1, k2, k3, k5, hC, hbm, _⟩ := T.cls
  obtain ⟨hp, g, dr, tk, os⟩ := s
  have k : ∀ b o, hp.get? b = some o → ((hp.push (kdv_tup vs)).push (excO C hp.objs.size)).get? b = some o := fun b o e => Heap.get?_push_of_some _ (Heap.get?_push_of_some _ e)
  have hget : ((hp.push (kdv_tup vs)).push (excO C hp.objs.size)).get? (hp.objs.size + 1) = some (excO C hp.objs.size) := by heap_get
  have hnx : K.lookup (hp.objs.size + 1) = none := by
    cases e : K.lookup (hp.objs.size + 1) with
    | none => rfl
    | some o =>
      have z : hp.get? (hp.objs.size + 1) = some o := X _ _ e
      exact absurd (Nat.lt_of_succ_lt (Heap.lt_size z)) (Nat.lt_irrefl _)
  have hvs : vs.length ≤ sizeLine := by rw [hl]; exact Nat.le_trans hz (by decide)
  refine call_own F.excBase_ValueError (fun X => refsVE_contains X bm hbm) (X _ _ hC) (looks_findIn X T.iC) (fun self => bind_fn X self T.tC) hvs ?_
  refine init w _ _ ⟨(hp.push (kdv_tup vs)).push (excO C hp.objs.size), g, dr, tk, os⟩ vs (hp.objs.size + 1) hp.objs.size hl (X.keeps k) (hlim.keeps k) (hg.keeps k) ?_ ?_ hget hnx fun h' tk' dx t1 m ⟨k', hx, dn, dne, hns⟩ hm => ?_
  · obtain ⟨mb, h1, h2⟩ := hb
    exact ⟨mb, h1.keeps k, h2⟩
  · show A.depth + 1 < recursionLimit
    exact hroom
  · have old : ∀ b o, hp.get? b = some o → h'.get? b = some o := fun b o e => k' b o (Nat.ne_of_lt (Nat.lt_succ_of_lt (Heap.lt_size e))) (k b o e)
    have z : hp.objs.size + 1 + 1 ≤ dx := by
      first
        | (simpa only [Heap.size_push] using dn)
        | exact dn
        | (have q := dn; rw [Heap.size_push, Heap.size_push] at q; exact q)
    exact ⟨rfl, hq h' tk' (hp.objs.size + 1) dx m ⟨old, Nat.le_succ _, ⟨_, _, hx, rfl, rfl, rfl, rfl⟩, Nat.le_trans (Nat.le_trans (Nat.le_succ _) (Nat.le_succ _)) z, dne, hns⟩ hm⟩⟩
theorem lk_ne {α : Type} {a b : Str} {v : α} {l : List (Str × α)} (h : a ≠ b) : List.lookup a ((b, v) :: l) = List.lookup a l := by
  rw [List.lookup_cons]
  have : (a == b) = false := by simpa using h
  rw [this]
theorem lk_eq {α : Type} {a : Str} {v : α} {l : List (Str × α)} : List.lookup a ((a, v) :: l) = some v := by
  rw [List.lookup_cons]
  have : (a == a) = true := by simp
  rw [this]
theorem maker1 {f : Str} {a pf : Pos} {msg : Str} {p0 p1 p2 p3 p4 p5 r0 r1 r2 r3 : Pos} (T : ErrT prog K mg x [f] C fI) (CT : CallT msg p0 p1 p2 p3 p4 p5)
    (IT : InitT prog K qual a [(f, pf)] [.Expr (eCall msg p0 p1 p2 p3 p4) p5, eSet f r0 r1 r2 r3] C fI)
    (hbind : ∀ (cc : Addr) (doc pm : Value) (an : Option Addr) (cdv ct u v : Value), bindArgs (fnX "__init__" qual (eArgs a [(f, pf)]) [.Expr (eCall msg p0 p1 p2 p3 p4) p5, eSet f r0 r1 r2 r3] (eScope [f]) [("__class__", cc)] .none .none doc pm an cdv ct) ⟨[u, v], []⟩ = pure ([("self", u), (f, v)] : List (Str × Value)))
    (n0 : f ≠ "self") (n1 : f ≠ "__class__") (n2 : f ≠ "super") (nd : (f == ("__debug__" : Str)) = false) : Mker prog K mg C [f] := by
  have ks : (eScope [f]).names.lookup ("super" : Str) = some .globalImplicit := by
    show List.lookup ("super" : Str) (("self", NameKind.local) :: (f, NameKind.local) :: ("__class__", NameKind.free) :: ("super", NameKind.globalImplicit) :: []) = _
    rw [lk_ne (by decide +kernel), lk_ne (Ne.symm n2), lk_ne (by decide +kernel), lk_eq]
  have kc : (eScope [f]).names.lookup ("__class__" : Str) = some .free := by
    show List.lookup ("__class__" : Str) (("self", NameKind.local) :: (f, NameKind.local) :: ("__class__", NameKind.free) :: ("super", NameKind.globalImplicit) :: []) = _
    rw [lk_ne (by decide +kernel), lk_ne (Ne.symm n1), lk_eq]
  have ka : (eScope [f]).names.lookup ("self" : Str) = some .local := by
    show List.lookup ("self" : Str) (("self", NameKind.local) :: (f, NameKind.local) :: ("__class__", NameKind.free) :: ("super", NameKind.globalImplicit) :: []) = _
    rw [lk_eq]
  have kf : (eScope [f]).names.lookup f = some .local := by
    show List.lookup f (("self", NameKind.local) :: (f, NameKind.local) :: ("__class__", NameKind.free) :: ("super", NameKind.globalImplicit) :: []) = _
    rw [lk_ne n0, lk_eq]
  refine made_of T ?_ (by simp)
  intro w A R s vs xx t0 hl X hlim hg hb hroom hx hnx hq
  obtain ⟨v, rfl⟩ : ∃ v, vs = [v] := by
    cases vs with
    | nil => simp at hl
    | cons v r => cases r with
      | nil => exact ⟨v, rfl⟩
      | cons _ _ => simp at hl
  obtain ⟨oc, od, doc, pm, an, ct, osl, cc, cda, cl, ccl, cld, cdd, csl, ccs, ws, tf, lk, hcd, hcell, hcode, hvs⟩ := IT.fn
  obtain ⟨nm, q, N, bs, bm, sn, sub, ab, col, dd, k0, k1, k2, k3, k5, hC, hbm, hal⟩ := T.cls
  have hcl : clsIn K C = some { name := nm, bases := bs, mro := .ref C :: bm, ns := N, qualname := q, hasDict := true, slotNames := sn, subclasses := sub, abstract := ab, collection := col, hasDel := false } := by unfold clsIn; rw [hC] <;> rfl
  refine ks_codeAny_call_defAt (binds := [("self", .ref xx), (f, v)]) hroom (X _ _ lk) rfl hlim (codeRec_of X hcd) rfl (BindsTo.of_eq (by exact hbind _ _ _ _ _ _ _ _)) ?_ ?_ (fun h₀ hns k₀ => ?_)
  · intro y hy
    have hy' : y ∈ ([("self", NameKind.local), (f, NameKind.local), ("__class__", NameKind.free), ("super", NameKind.globalImplicit)] : List (Str × NameKind)) := hy
    simp only [List.mem_cons, List.not_mem_nil, or_false] at hy'
    rcases hy' with rfl | rfl | rfl | rfl <;> (intro z; cases z)
  · intro y hy
    simp only [List.mem_cons, List.not_mem_nil, or_false] at hy
    rcases hy with rfl | rfl
    · exact ka
    · exact kf
  · have hs0 : (fun y => List.lookup y ([("self", Value.ref xx), (f, v)] : List (Str × Value)).reverse) "self" = some (.ref xx) := by
      show List.lookup ("self" : Str) [(f, v), ("self", Value.ref xx)] = _
      rw [lk_ne (Ne.symm n0), lk_eq]
    have hs1 : (fun y => List.lookup y ([("self", Value.ref xx), (f, v)] : List (Str × Value)).reverse) f = some v := by
      show List.lookup f [(f, v), ("self", Value.ref xx)] = _
      rw [lk_eq]
    have hxL : s.heap.objs.size ≠ xx := Nat.ne_of_gt (Heap.lt_size hx)
    refine ks_wpAt_execs_cons ?_
    refine super_call (s := { s with heap := h₀, toks := _ }) (fps := [(f, pf)]) T CT lk hcell hcode hvs (X.keeps k₀) (hg.keeps k₀) (by obtain ⟨mb, h1, h2⟩ := hb; exact ⟨mb, h1.keeps k₀, h2⟩) hns hs0 (k₀ _ _ hx) hnx ks kc ka fun h1 tk1 t1 kk1 hx1 => ?_
    have hL1 : h1.Ns s.heap.objs.size _ := hns.at fun o e => kk1 _ o hxL e
    have X1 : K.In h1 := kept_but (X.keeps k₀) hnx kk1
    show _root_.PySem.wpAt _ _ _ _ _ _ _
    refine ks_wpAt_execs_cons ?_
    refine ks_wpAt_Assign_Attr (wpAt_of_wpAny ?_)
    refine ldS (v := v) hL1 hs1 (ldS (v := .ref xx) hL1 hs0 ?_ rfl ka (by decide +kernel)) rfl kf nd
    refine set_plain X1 (ox := excO C t1) (od := none) ⟨hx1, rfl, rfl, trivial⟩ T.sa ?_
    refine exc_osa X1 hx1 hcl (show refsVE (.ref C :: bm) = true from hbm) rfl (T.noN f (by simp)) (fun h₃ tk₃ dx k₃ dn dne hx₃ hn₃ => ?_)
    show _root_.PySem.wpAt _ _ _ _ _ _ _
    refine wpAt_of_wpAny (wpAny_execs_nil ?_)
    have z : s.heap.objs.size ≤ dx := by
      have z1 : s.heap.objs.size < h1.objs.size := hL1.lt
      exact Nat.le_of_lt (Nat.lt_of_lt_of_le z1 dn)
    refine hq h₃ tk₃ dx t1 _ ⟨fun b o hb e => k₃ b o hb (kk1 b o hb (k₀ b o e)), hx₃, z, dne, hn₃⟩ fun y => ?_
    show (if y = f then some v else none) = List.lookup y [(f, v)]
    by_cases hy : y = f
    · subst hy; rw [if_pos rfl, lk_eq]
    · rw [if_neg hy, lk_ne hy]; rfl
theorem maker2 {f e : Str} {a pf pe : Pos} {msg : Str} {p0 p1 p2 p3 p4 p5 r0 r1 r2 r3 u0 u1 u2 u3 : Pos} (T : ErrT prog K mg x [f, e] C fI) (CT : CallT msg p0 p1 p2 p3 p4 p5)
    (IT : InitT prog K qual a [(f, pf), (e, pe)] [.Expr (eCall msg p0 p1 p2 p3 p4) p5, eSet f r0 r1 r2 r3, eSet e u0 u1 u2 u3] C fI)
    (hbind : ∀ (cc : Addr) (doc pm : Value) (an : Option Addr) (cdv ct u v y : Value), bindArgs (fnX "__init__" qual (eArgs a [(f, pf), (e, pe)]) [.Expr (eCall msg p0 p1 p2 p3 p4) p5, eSet f r0 r1 r2 r3, eSet e u0 u1 u2 u3] (eScope [f, e]) [("__class__", cc)] .none .none doc pm an cdv ct) ⟨[u, v, y], []⟩ = pure ([("self", u), (f, v), (e, y)] : List (Str × Value)))
    (n0 : f ≠ "self") (n1 : f ≠ "__class__") (n2 : f ≠ "super") (nd : (f == ("__debug__" : Str)) = false) (m0 : e ≠ "self") (m1 : e ≠ "__class__") (m2 : e ≠ "super") (md : (e == ("__debug__" : Str)) = false) (ne : f ≠ e) : Mker prog K mg C [f, e] := by
  have ks : (eScope [f, e]).names.lookup ("super" : Str) = some .globalImplicit := by
    show List.lookup ("super" : Str) (("self", NameKind.local) :: (f, NameKind.local) :: (e, NameKind.local) :: ("__class__", NameKind.free) :: ("super", NameKind.globalImplicit) :: []) = _
    rw [lk_ne (by decide +kernel), lk_ne (Ne.symm n2), lk_ne (Ne.symm m2), lk_ne (by decide +kernel), lk_eq]
  have kc : (eScope [f, e]).names.lookup ("__class__" : Str) = some .free := by
    show List.lookup ("__class__" : Str) (("self", NameKind.local) :: (f, NameKind.local) :: (e, NameKind.local) :: ("__class__", NameKind.free) :: ("super", NameKind.globalImplicit) :: []) = _
    rw [lk_ne (by decide +kernel), lk_ne (Ne.symm n1), lk_ne (Ne.symm m1), lk_eq]
  have ka : (eScope [f, e]).names.lookup ("self" : Str) = some .local := by
    show List.lookup ("self" : Str) (("self", NameKind.local) :: (f, NameKind.local) :: (e, NameKind.local) :: ("__class__", NameKind.free) :: ("super", NameKind.globalImplicit) :: []) = _
    rw [lk_eq]
  have kf : (eScope [f, e]).names.lookup f = some .local := by
    show List.lookup f (("self", NameKind.local) :: (f, NameKind.local) :: (e, NameKind.local) :: ("__class__", NameKind.free) :: ("super", NameKind.globalImplicit) :: []) = _
    rw [lk_ne n0, lk_eq]
  have ke : (eScope [f, e]).names.lookup e = some .local := by
    show List.lookup e (("self", NameKind.local) :: (f, NameKind.local) :: (e, NameKind.local) :: ("__class__", NameKind.free) :: ("super", NameKind.globalImplicit) :: []) = _
    rw [lk_ne m0, lk_ne (Ne.symm ne), lk_eq]
  refine made_of T ?_ (by simp)
  intro w A R s vs xx t0 hl X hlim hg hb hroom hx hnx hq
  obtain ⟨v, v2, rfl⟩ : ∃ v v2, vs = [v, v2] := by
    match vs, hl with
    | [v, v2], _ => exact ⟨v, v2, rfl⟩
  obtain ⟨oc, od, doc, pm, an, ct, osl, cc, cda, cl, ccl, cld, cdd, csl, ccs, ws, tf, lk, hcd, hcell, hcode, hvs⟩ := IT.fn
  obtain ⟨nm, q, N, bs, bm, sn, sub, ab, col, dd, k0, k1, k2, k3, k5, hC, hbm, hal⟩ := T.cls
  have hcl : clsIn K C = some { name := nm, bases := bs, mro := .ref C :: bm, ns := N, qualname := q, hasDict := true, slotNames := sn, subclasses := sub, abstract := ab, collection := col, hasDel := false } := by unfold clsIn; rw [hC] <;> rfl
  refine ks_codeAny_call_defAt (binds := [("self", .ref xx), (f, v), (e, v2)]) hroom (X _ _ lk) rfl hlim (codeRec_of X hcd) rfl (BindsTo.of_eq (by exact hbind _ _ _ _ _ _ _ _ _)) ?_ ?_ (fun h₀ hns k₀ => ?_)
  · intro y hy
    have hy' : y ∈ ([("self", NameKind.local), (f, NameKind.local), (e, NameKind.local), ("__class__", NameKind.free), ("super", NameKind.globalImplicit)] : List (Str × NameKind)) := hy
    simp only [List.mem_cons, List.not_mem_nil, or_false] at hy'
    rcases hy' with rfl | rfl | rfl | rfl | rfl <;> (intro z; cases z)
  · intro y hy
    simp only [List.mem_cons, List.not_mem_nil, or_false] at hy
    rcases hy with rfl | rfl | rfl
    · exact ka
    · exact kf
    · exact ke
  · have hs0 : (fun y => List.lookup y ([("self", Value.ref xx), (f, v), (e, v2)] : List (Str × Value)).reverse) "self" = some (.ref xx) := by
      show List.lookup ("self" : Str) [(e, v2), (f, v), ("self", Value.ref xx)] = _
      rw [lk_ne (Ne.symm m0), lk_ne (Ne.symm n0), lk_eq]
    have hs1 : (fun y => List.lookup y ([("self", Value.ref xx), (f, v), (e, v2)] : List (Str × Value)).reverse) f = some v := by
      show List.lookup f [(e, v2), (f, v), ("self", Value.ref xx)] = _
      rw [lk_ne ne, lk_eq]
    have hs2 : (fun y => List.lookup y ([("self", Value.ref xx), (f, v), (e, v2)] : List (Str × Value)).reverse) e = some v2 := by
      show List.lookup e [(e, v2), (f, v), ("self", Value.ref xx)] = _
      rw [lk_eq]
    have hxL : s.heap.objs.size ≠ xx := Nat.ne_of_gt (Heap.lt_size hx)
    refine ks_wpAt_execs_cons ?_
    refine super_call (s := { s with heap := h₀, toks := _ }) (fps := [(f, pf), (e, pe)]) T CT lk hcell hcode hvs (X.keeps k₀) (hg.keeps k₀) (by obtain ⟨mb, h1, h2⟩ := hb; exact ⟨mb, h1.keeps k₀, h2⟩) hns hs0 (k₀ _ _ hx) hnx ks kc ka fun h1 tk1 t1 kk1 hx1 => ?_
    have hL1 : h1.Ns s.heap.objs.size _ := hns.at fun o q => kk1 _ o hxL q
    have X1 : K.In h1 := kept_but (X.keeps k₀) hnx kk1
    show _root_.PySem.wpAt _ _ _ _ _ _ _
    refine ks_wpAt_execs_cons ?_
    refine ks_wpAt_Assign_Attr (wpAt_of_wpAny ?_)
    refine ldS (v := v) hL1 hs1 (ldS (v := .ref xx) hL1 hs0 ?_ rfl ka (by decide +kernel)) rfl kf nd
    refine set_plain X1 (ox := excO C t1) (od := none) ⟨hx1, rfl, rfl, trivial⟩ T.sa ?_
    refine exc_osa X1 hx1 hcl (show refsVE (.ref C :: bm) = true from hbm) rfl (T.noN f (by simp)) (fun h₃ tk₃ dx k₃ dn dne hx₃ hn₃ => ?_)
    have X3 : K.In h₃ := kept_but X1 hnx k₃
    have hL3 : h₃.Ns s.heap.objs.size _ := hL1.at fun o q => k₃ _ o hxL q
    show _root_.PySem.wpAt _ _ _ _ _ _ _
    refine ks_wpAt_execs_cons ?_
    refine ks_wpAt_Assign_Attr (wpAt_of_wpAny ?_)
    refine ldS (v := v2) hL3 hs2 (ldS (v := .ref xx) hL3 hs0 ?_ rfl ka (by decide +kernel)) rfl ke md
    obtain ⟨oD, hoD⟩ : ∃ oD, h₃.get? dx = some oD := by obtain ⟨o, _, _, h, _⟩ := hn₃; exact ⟨o, h⟩
    refine set_plain X3 (od := some oD) ⟨hx₃, rfl, rfl, hoD⟩ T.sa ?_
    have hwi : Within (fun y => if y = f then some v else none) [f] := fun y hy => by
      by_cases q : y = f
      · rw [q]; exact List.mem_singleton.mpr rfl
      · exact absurd (if_neg q) hy
    refine osa_old X3 hx₃ hn₃ hwi (by simp) hcl (show refsVE (.ref C :: bm) = true from hbm) rfl (T.noN e (by simp)) (fun h₄ tk₄ k₄ hn₄ => ?_)
    have ndx : xx ≠ dx := Ne.symm dne
    show _root_.PySem.wpAt _ _ _ _ _ _ _
    refine wpAt_of_wpAny (wpAny_execs_nil ?_)
    have zlt : s.heap.objs.size < dx := by
      have z1 : s.heap.objs.size < h1.objs.size := hL1.lt
      exact Nat.lt_of_lt_of_le z1 dn
    have nold : ∀ b o, s.heap.get? b = some o → b ≠ dx := fun b o q => Nat.ne_of_lt (Nat.lt_trans (Heap.lt_size q) zlt)
    refine hq h₄ tk₄ dx t1 _ ⟨fun b o hb q => k₄ b o (nold b o q) (k₃ b o hb (kk1 b o hb (k₀ b o q))), k₄ _ _ ndx hx₃, Nat.le_of_lt zlt, dne, hn₄⟩ fun y => ?_
    show (if y = e then some v2 else if y = f then some v else none) = List.lookup y [(f, v), (e, v2)]
    by_cases hy : y = e
    · subst hy; rw [if_pos rfl, lk_ne (Ne.symm ne), lk_eq]
    · rw [if_neg hy]
      by_cases hz : y = f
      · subst hz; rw [if_pos rfl, lk_eq]
      · rw [if_neg hz, lk_ne hz, lk_ne hy]; rfl
end
end ER
end PySem
namespace DL
open PySem PySem.Spec L2
def tMkE (C : Addr) (fs : List Str) (ta : TA) : St → Hp → XK → Prop := fun σ H Q => ta σ H fun vs H1 => vs.length = fs.length ∧ ∀ d, H1 d = none → Q (.ref C) (some d) (upd H1 d (.xd (fs.zip vs)))
theorem relO_zip (f : Str) : ∀ {fs : List Str} {vs : List V} {us : List Value}, Vals vs us → RelO (List.lookup f (fs.zip vs)) (List.lookup f (fs.zip us))
  | [], _, _, _ => by simp [RelO]
  | _ :: _, _, _, .nil => by simp [RelO]
  | g :: fs, _, _, .cons r t => by
    rw [List.zip_cons_cons, List.zip_cons_cons, List.lookup_cons, List.lookup_cons]
    cases q : (f == g) with
    | true => exact r
    | false => exact relO_zip f t
section
variable {X : Cx} {C : Addr} {fs : List Str}
theorem pmk_err {x : Str} {e : Expr} {es : List Expr} {ta : TA} {p pos : Pos} {k : Nat} (M : PySem.ER.Mker X.prog X.K X.mg C fs) (gC : X.mg x = some (.ref C)) (kC : PySem.W.keepIn X.K (.ref C) = true) (rC : Raises X (.ref C)) (hr : Room k X.A) (ha : PA X (e :: es) ta) (hg : Gl X x)
    (hd : (x == ("__debug__" : Str)) = false := by decide) (he : starEach (e :: es) X.env = (false, eval e X.env) :: starEach es X.env := by rfl) (hpl : (backTo pos (starEach es X.env)).any (·.1) = false := by rfl) :
    PMk X (.Call (.Name x p) (e :: es) [] pos) (tMkE C fs ta) := by
  intro pins s σ H Q I h
  refine PySem.wpAny_Call_Name_kw (ld_glob I hg gC ?_ hd)
  refine PySem.W.callWith_K (h₀ := X.base) I.ok.mod.kin kC (thn (ha.run pos pins s σ H _ I h) fun us s1 hh => ?_) he hpl
  obtain ⟨vs, H1, I1, r1, hl, q1⟩ := hh
  refine ⟨I1.kIn, ?_⟩
  show wpAny _ _ (call (.ref C) us) _ _ _
  have hlim := I1.nolimit
  have hgn : s1.heap.Ns mainGlobals X.mg := I1.ok.mod.glob.keeps I1.bk
  have hbn : ∃ mb, s1.heap.Ns builtinsNs mb ∧ ∀ y : Str, y ≠ "__name__" → mb y = bootBuiltins y := by
    obtain ⟨mb, h1, h2⟩ := I1.ok.mod.blt
    exact ⟨mb, h1.keeps I1.bk, h2⟩
  obtain ⟨hp, g, dr, tk, os⟩ := s1
  refine wpAny_call (M.made X.w X.A _ ⟨hp, g, dr, tk, os⟩ us (by rw [← r1.length]; exact hl) I1.kIn hlim hgn hbn (by have := hr.dp; omega) fun h' tk' e' d m Md hm => ?_)
  show MkP X pins σ Q (.ref e') ⟨h', g, dr, tk', os⟩
  obtain ⟨oe, fv, hoe, hc, hd', hdat, h1⟩ := Md.obj
  obtain ⟨G', g1, g2⟩ := restrict h' fun b => decide (b ≠ e')
  have gk : ∀ b, b ≠ e' → G'.get? b = h'.get? b := fun b hb => g1 b (decide_eq_true hb)
  have ge : G'.get? e' = none := g2 e' (by simp)
  have old : ∀ b o, hp.get? b = some o → G'.get? b = some o := fun b o q => (gk b (Nat.ne_of_lt (Nat.lt_of_lt_of_le (Heap.lt_size q) Md.new))).trans (Md.keep b o q)
  have ob : ObjOk X.prog X.w (upd H1 d (.xd (fs.zip vs))) G' d (.xd (fs.zip vs)) :=
    ⟨_, Md.ns.at (fun o q => (gk d Md.dne).trans q), fun f => by rw [hm f]; exact relO_zip f r1⟩
  have J : Inv X pins σ (upd H1 d (.xd (fs.zip vs))) ⟨G', g, dr, tk', os⟩ := I1.laid (t' := tk') old Md.dbig ob
  refine ⟨e', oe, fv, ⟨G', g, dr, tk', os⟩, _, .ref C, some d, rfl, J, fun b o q => ?_, ge, hoe, ⟨hc, hd'⟩, hdat, h1, ?_, rfl, I1.bare, rC, q1 d (I1.hok.fresh Md.dbig)⟩
  · by_cases hb : b = e'
    · have q' : G'.get? b = some o := q
      rw [hb, ge] at q'; cases q'
    · exact (gk b hb).symm.trans q
  · rw [upd_ne (Ne.symm Md.dne)]
    exact I1.hok.fresh Md.new
def tRaiseE (C : Addr) (fs : List Str) (W : WX) (ta : TA) : TS := fun _ σ H => tMkE C fs ta σ H fun cls d H' => W cls d σ H'
structure ErrC (X : Cx) (x : Str) (C : Addr) (fs : List Str) : Prop where
  mker : PySem.ER.Mker X.prog X.K X.mg C fs
  gC : X.mg x = some (.ref C)
  kC : PySem.W.keepIn X.K (.ref C) = true
  rC : Raises X (.ref C)
theorem ps_raiseE {x : Str} {e : Expr} {es : List Expr} {ta : TA} {W : WX} {p pos pos2 : Pos} {k : Nat} (hc : X.calm = true) (M : ErrC X x C fs) (hr : Room k X.A) (tk : Takes X W) (ha : PA X (e :: es) ta) (hg : Gl X x := by rfl)
    (hd : (x == ("__debug__" : Str)) = false := by decide) (he : starEach (e :: es) X.env = (false, eval e X.env) :: starEach es X.env := by rfl) (hpl : (backTo pos (starEach es X.env)).any (·.1) = false := by rfl) :
    PS X (.Raise (some (.Call (.Name x p) (e :: es) [] pos)) none pos2) (tRaiseE C fs W ta) := ps_raise hc tk (pmk_err M.mker M.gC M.kC M.rC hr ha hg hd he hpl)
end
section
variable {K : PySem.W.Frag} {W : WX} {Γ : Gm} {X : XP} {te ta tb : TE} {i : Nat} {PP : Po}
theorem repF_zip {G : Hp} : ∀ {fs : List Str} {vs : List V} {ds : List Dt}, Reps K G vs ds → RepF K G (fs.zip vs) (fs.zip ds)
  | [], _, _, _ => by simpa using RepF.nil
  | _ :: _, _, _, .nil => by simpa using RepF.nil
  | f :: fs, _, _, .cons r t => by rw [List.zip_cons_cons, List.zip_cons_cons]; exact .cons r (repF_zip t)
theorem go_raise {C : Addr} {fs : List Str} {t : TA} (h : EvA K W t Γ (fun ds Γ1 => ds.length = fs.length ∧ PP.xc C (fs.zip ds) Γ1) PP.xc) : Go K W (tRaiseE C fs W t) Γ PP := fun O G H σ D S a b c d e =>
  h O G H σ _ S (fun vs G2 H2 Γ2 ds s1 S2 r ⟨l, p⟩ => ⟨by rw [r.length]; exact l, fun dd nd => by
    have ex := Ext.new (ob := .xd (fs.zip vs)) S2.g nd
    exact e σ C (some dd) _ _ _ Γ2 (s1.trans ex.g) (S2.ext ex) (.some upd_same ((repF_zip r).mono ex.g)) p⟩) (e σ)
abbrev DSp := List Sl → (Sl → List Sl → Prop) → (Addr → List (Str × Dt) → List Sl → Prop) → Prop
abbrev sms (vs : List V) : St := vs.map some
abbrev sls (as : List Sl) : Gm := as.map some
def spD (K : PySem.W.Frag) (S : DSp) : Sp := fun vs H Q E => ∃ (O G : Hp) (args : List Sl) (R : Sl → List Sl → Prop) (Y : Addr → List (Str × Dt) → List Sl → Prop), Sta K O G H (sms vs) (sls args) ∧ S args R Y ∧
  (∀ (v : V) (G2 H2 : Hp) (res : Sl) (args' : List Sl), Same G G2 → Sta K O G2 H2 (some v :: sms vs) (some res :: sls args') → R res args' → Q v H2) ∧
  (∀ (C : Addr) (d : Option Addr) (fs : List (Str × Dt)) (G2 H2 : Hp) (args' : List Sl), Same G G2 → Sta K O G2 H2 (sms vs) (sls args') → RepX K G2 d fs → Y C fs args' → E (.ref C) d H2)
theorem fps_fr (ds : List Dt) : fps (sls (ds.map .fr)) = [] := by
  induction ds with
  | nil => rfl
  | cons d ds ih => simpa [fps, fpO, Sl.fp] using ih
theorem slots_fr {G H : Hp} : ∀ {vs : List V} {ds : List Dt}, Reps K G vs ds → Slots K G H (sms vs) (sls (ds.map .fr))
  | _, _, .nil => .nil
  | _, _, .cons r t => .yes (.fr r) (slots_fr t)
def forn (O H : Hp) (as : List Addr) : Hp := fun a => if a ∈ as then H a else O a
theorem forn_in {O H : Hp} {as : List Addr} {a : Addr} (h : a ∈ as) : forn O H as a = H a := if_pos h
theorem forn_out {O H : Hp} {as : List Addr} {a : Addr} (h : a ∉ as) : forn O H as a = O a := if_neg h
theorem Sta.fornM {O G H : Hp} {σ : St} {Γ2 : Gm} (S : Sta K O G H σ Γ) (h : ∀ a ∈ fps Γ2, a ∈ fps Γ) : ∀ a o, forn O H (fps Γ2) a = some o → MutT (some o) := fun a o q => by
  by_cases ha : a ∈ fps Γ2
  · rw [forn_in ha] at q
    obtain ⟨o', h1, h2⟩ := S.muts a (h a ha)
    rw [q] at h1; cases h1; exact h2
  · rw [forn_out ha] at q; exact S.om a o q
theorem Sta.back {O G G2 H H2 : Hp} {σ : St} (S : Sta K O G H σ Γ) (s2 : Same G G2) (g : Same G2 H2) (o : Same (forn O H (fps Γ)) H2) (d : ∀ a, forn O H (fps Γ) a ≠ none → G2 a = none) : Sta K O G2 H2 σ Γ := by
  refine ⟨g, fun a u q => ?_, fun a q => ?_, S.sl.mono s2 fun a ha u q => ?_, S.nd, fun a ha => ?_, S.no, S.om⟩
  · refine o a u ?_
    rw [forn_out fun z => by rw [S.no a z] at q; cases q]
    exact q
  · refine d a ?_
    rw [forn_out fun z => q (S.no a z)]
    exact q
  · refine o a u ?_
    rw [forn_in ha]
    exact q
  · refine d a ?_
    rw [forn_in ha]
    exact S.there a ha
theorem Sta.entry0 {O G H : Hp} {σ : St} {vs : List V} {ds : List Dt} (S : Sta K O G H σ Γ) (r : Reps K G vs ds) : Sta K (forn O H (fps Γ)) G H (sms vs) (sls (ds.map .fr)) := by
  refine ⟨S.g, fun a u q => ?_, fun a q => ?_, slots_fr r, by rw [fps_fr]; simp, fun a ha => by rw [fps_fr] at ha; simp at ha, fun a ha => by rw [fps_fr] at ha; simp at ha, S.fornM fun _ h => h⟩
  · by_cases ha : a ∈ fps Γ
    · rw [forn_in ha] at q; exact q
    · rw [forn_out ha] at q; exact S.o a u q
  · by_cases ha : a ∈ fps Γ
    · exact S.ng a ha
    · rw [forn_out ha] at q; exact S.d a q
theorem evo_call0 {S : DSp} {t : TA} {P : Sl → Gm → Prop} (h : EvA K W t Γ (fun ds Γ1 => S (ds.map .fr) (fun res _ => P res Γ1) (fun C fs _ => X C fs Γ1)) X) : EvO K W (tCallS (spD K S) (WE W) t) Γ P X := fun O G H σ Q S0 q x =>
  h O G H σ _ S0 (fun vs G1 H1 Γ1 ds s1 S1 r hS => by
    refine ⟨forn O H1 (fps Γ1), G1, ds.map .fr, _, _, S1.entry0 r, hS, fun v G2 H2 res args' s2 S2 p => ?_, fun C d fs G2 H2 args' s2 S2 rx p => ?_⟩
    · have T := S1.back s2 S2.g S2.o S2.d
      have nd := S2.nd
      simp only [fps, fpO] at nd
      have mem : ∀ a ∈ res.fp, a ∈ fps (some res :: sls args') := fun a ha => by simp [fps, fpO, ha]
      refine q v G2 H2 Γ1 res (s1.trans s2) (T.push S2.head (List.nodup_append.mp nd).1 (fun a ha => S2.ng a (mem a ha)) (fun a ha => ?_) (fun a ha z => ?_)) p
      · have n := S2.no a (mem a ha)
        by_cases hf : a ∈ fps Γ1
        · exact S1.no a hf
        · rw [forn_out hf] at n; exact n
      · have n := S2.no a (mem a ha)
        rw [forn_in z] at n
        exact S1.there a z n
    · exact x C d fs G2 H2 Γ1 (s1.trans s2) (S1.back s2 S2.g S2.o S2.d) rx p) x
theorem fps_part : ∀ {Γ : Gm} {i : Nat} {s : Sl}, Γ[i]? = some (some s) → (fps Γ).Nodup → s.fp.Nodup ∧ ∀ a ∈ s.fp, a ∉ fps (Γ.set i none)
  | [], i, s, h, _ => by simp at h
  | y :: r, 0, s, h, nd => by
    simp at h; subst h
    simp only [fps, fpO] at nd
    obtain ⟨n1, n2, n3⟩ := List.nodup_append.mp nd
    refine ⟨n1, fun a ha z => ?_⟩
    simp only [List.set_cons_zero, fps, fpO, List.nil_append] at z
    exact n3 a ha a z rfl
  | y :: r, i + 1, s, h, nd => by
    simp only [fps] at nd
    obtain ⟨n1, n2, n3⟩ := List.nodup_append.mp nd
    obtain ⟨m1, m2⟩ := fps_part (Γ := r) (i := i) (by simpa using h) n2
    refine ⟨m1, fun a ha z => ?_⟩
    simp only [List.set_cons_succ, fps, List.mem_append] at z
    rcases z with z | z
    · exact n3 a z a (mem_fps (Γ := r) (i := i) (by simpa using h) a ha) rfl
    · exact m2 a ha z
theorem fps_one (ds es : List Dt) (s : Sl) : fps (sls (ds.map .fr ++ s :: es.map .fr)) = s.fp := by
  induction ds with
  | nil => simpa [fps, fpO] using fps_fr es
  | cons d ds ih => simpa [fps, fpO, Sl.fp] using ih
theorem slots_one {G H : Hp} {v : V} {us : List V} {es : List Dt} {s : Sl} (h : Own K G H v s) (r2 : Reps K G us es) : ∀ {vs : List V} {ds : List Dt}, Reps K G vs ds → Slots K G H (sms (vs ++ v :: us)) (sls (ds.map .fr ++ s :: es.map .fr))
  | _, _, .nil => .yes h (slots_fr r2)
  | _, _, .cons r t => .yes (.fr r) (slots_one h r2 t)
theorem slots_mid {G H : Hp} {v : V} {us : List V} {es : List Dt} {s : Sl} : ∀ {vs : List V} {ds : List Dt}, vs.length = ds.length → Slots K G H (sms (vs ++ v :: us)) (sls (ds.map .fr ++ s :: es.map .fr)) → Own K G H v s
  | [], [], _, h => by cases h; assumption
  | [], _ :: _, hl, _ => by simp at hl
  | _ :: _, [], hl, _ => by simp at hl
  | _ :: vs, _ :: ds, hl, h => by
    cases h with
    | yes _ r => exact slots_mid (vs := vs) (ds := ds) (by simpa using hl) r
theorem evo_call1 {S : DSp} {t : TA} {P : Sl → Gm → Prop} (h : EvB K W i t Γ (fun ds es Γ1 => ∃ s, Γ1[i]? = some (some s) ∧ S (ds.map .fr ++ s :: es.map .fr) (fun res args' => ∃ s', args' = ds.map .fr ++ s' :: es.map .fr ∧ P res (Γ1.set i (some s')))
    (fun C fs args' => ∃ s', args' = ds.map .fr ++ s' :: es.map .fr ∧ X C fs (Γ1.set i (some s')))) X) : EvO K W (tCallS (spD K S) (WE W) t) Γ P X := fun O G H σ Q S0 q x =>
  h O G H σ _ S0 (fun vs us v G1 H1 Γ1 ds es s1 S1 r1 hv r2 ⟨s, hs, hS⟩ => by
    obtain ⟨v', ev, ow⟩ := S1.get hs
    rw [hv] at ev
    obtain rfl : v = v' := Option.some.inj (Option.some.inj ev)
    obtain ⟨m1, m2⟩ := fps_part hs S1.nd
    have Sf : Sta K O G1 H1 (σ.set i (some v)) (Γ1.set i none) := S1.forget i (some v)
    have es' : σ.set i (some v) = σ := by
      apply List.ext_getElem?
      intro j
      rw [List.getElem?_set]
      by_cases hj : i = j
      · subst hj
        rw [if_pos rfl, hv]
        have : i < σ.length := by
          rcases Nat.lt_or_ge i σ.length with z | z
          · exact z
          · rw [List.getElem?_eq_none z] at hv; cases hv
        rw [if_pos this]
      · rw [if_neg hj]
    rw [es'] at Sf
    have ent : Sta K (forn O H1 (fps (Γ1.set i none))) G1 H1 (sms (vs ++ v :: us)) (sls (ds.map .fr ++ s :: es.map .fr)) := by
      refine ⟨S1.g, fun a u z => ?_, fun a z => ?_, slots_one ow r2 r1, by rw [fps_one]; exact m1, fun a ha => ?_, fun a ha => ?_, S1.fornM fun a h => (fps_set_sub i a h).elim (fun z => by simp [fpO] at z) id⟩
      · by_cases ha : a ∈ fps (Γ1.set i none)
        · rw [forn_in ha] at z; exact z
        · rw [forn_out ha] at z; exact S1.o a u z
      · by_cases ha : a ∈ fps (Γ1.set i none)
        · exact Sf.ng a ha
        · rw [forn_out ha] at z; exact S1.d a z
      · rw [fps_one] at ha; exact S1.ng a (mem_fps hs a ha)
      · rw [fps_one] at ha
        rw [forn_out (m2 a ha)]
        exact S1.no a (mem_fps hs a ha)
    have fin : ∀ {G2 H2 : Hp} {s' : Sl}, Same G1 G2 → Same G2 H2 → Same (forn O H1 (fps (Γ1.set i none))) H2 → (∀ a, forn O H1 (fps (Γ1.set i none)) a ≠ none → G2 a = none) → Own K G2 H2 v s' → s'.fp.Nodup → (∀ a ∈ s'.fp, G2 a = none) → (∀ a ∈ s'.fp, forn O H1 (fps (Γ1.set i none)) a = none) →
        Sta K O G2 H2 σ (Γ1.set i (some s')) := fun {G2 H2 s'} s2 g o d ow' nd ng no => by
      have T := Sf.back s2 g o d
      have T2 := (T.push ow' nd ng (fun a ha => ?_) (fun a ha z => ?_)).put i
      · rw [es', List.set_set] at T2
        exact T2
      · have n := no a ha
        by_cases hf : a ∈ fps (Γ1.set i none)
        · exact Sf.no a hf
        · rw [forn_out hf] at n; exact n
      · have n := no a ha
        rw [forn_in z] at n
        exact Sf.there a z n
    refine ⟨forn O H1 (fps (Γ1.set i none)), G1, _, _, _, ent, hS, fun u G2 H2 res args' s2 S2 ⟨s', ea, p⟩ => ?_, fun C d fs G2 H2 args' s2 S2 rx ⟨s', ea, p⟩ => ?_⟩
    · subst ea
      have St := S2.tail
      have ow2 := slots_mid r1.length St.sl
      have nds := St.nd
      rw [fps_one] at nds
      have ngs := St.ng
      rw [fps_one] at ngs
      have nos := St.no
      rw [fps_one] at nos
      have T := fin s2 S2.g S2.o S2.d ow2 nds ngs nos
      have nd := S2.nd
      simp only [fps, fpO] at nd
      rw [fps_one] at nd
      obtain ⟨n1, n2, n3⟩ := List.nodup_append.mp nd
      have mem : ∀ a ∈ res.fp, a ∈ fps (some res :: sls (ds.map .fr ++ s' :: es.map .fr)) := fun a ha => by simp [fps, fpO, ha]
      refine q u G2 H2 _ res (s1.trans s2) (T.push S2.head n1 (fun a ha => S2.ng a (mem a ha)) (fun a ha => ?_) (fun a ha z => ?_)) p
      · have n := S2.no a (mem a ha)
        by_cases hf : a ∈ fps (Γ1.set i none)
        · exact Sf.no a hf
        · rw [forn_out hf] at n; exact n
      · have e2 : Γ1.set i (some s') = (Γ1.set i none).set i (some s') := by rw [List.set_set]
        rw [e2] at z
        rcases fps_set_sub i a z with z | z
        · exact n3 a ha a z rfl
        · have n := S2.no a (mem a ha)
          rw [forn_in z] at n
          exact Sf.there a z n
    · subst ea
      have ow2 := slots_mid r1.length S2.sl
      have nds := S2.nd
      rw [fps_one] at nds
      have ngs := S2.ng
      rw [fps_one] at ngs
      have nos := S2.no
      rw [fps_one] at nos
      exact x C d fs G2 H2 _ (s1.trans s2) (fin s2 S2.g S2.o S2.d ow2 nds ngs nos) rx p) x
def adr : Sl → Option Addr
  | .ol a _ => some a
  | .os a _ => some a
  | .oK a _ => some a
  | .oT a _ => some a
  | .oo a _ _ => some a
  | _ => none
theorem Own.adr {G H : Hp} {v : V} {s : Sl} {a : Addr} (h : Own K G H v s) (e : DL.adr s = some a) : v = .ref a := by
  cases h <;> simp [DL.adr] at e <;> subst e <;> rfl
inductive Back : List Sl → Gm → List Sl → Prop
  | nil {Γ : Gm} : Back [] Γ []
  | fr {d : Dt} {as as' : List Sl} {x : Option Sl} {Γ : Gm} : Back as Γ as' → Back (.fr d :: as) (x :: Γ) (.fr d :: as')
  | pack {a : Addr} {ds : List Dt} {φ : List Dt → Prop} {as as' : List Sl} {Γ : Gm} : φ ds → Back as Γ as' → Back (.os a φ :: as) (some (.ol a ds) :: Γ) (.os a φ :: as')
  | own {s s' : Sl} {a : Addr} {as as' : List Sl} {Γ : Gm} : adr s = some a → adr s' = some a → Back as Γ as' → Back (s :: as) (some s' :: Γ) (s' :: as')
  | tb {d : Dt} {p : Addr} {q : Str} {as as' : List Sl} {x : Option Sl} {Γ : Gm} : Back as Γ as' → Back (.tb (.fr d) p q :: as) (x :: Γ) (.fr d :: as')
theorem Back.slots {G H G2 H2 : Hp} (s2 : Same G G2) : ∀ {vs : List V} {args args' : List Sl} {σ2 : St} {Γ2 : Gm}, Back args Γ2 args' → Slots K G H (sms vs) (sls args) → Slots K G2 H2 σ2 Γ2 → Slots K G2 H2 (sms vs) (sls args') ∧ (fps (sls args')).Sublist (fps Γ2)
  | [], _, _, _, _, .nil, .nil, _ => ⟨.nil, by simp [fps]⟩
  | _ :: _, _, _, _, _, @Back.fr _ _ _ _ Γ' b, .yes o r, q => by
    have q' : ∃ σ3, Slots K G2 H2 σ3 Γ' := by cases q with
      | no r => exact ⟨_, r⟩
      | yes _ r => exact ⟨_, r⟩
    obtain ⟨σ3, q3⟩ := q'
    obtain ⟨h1, h2⟩ := b.slots s2 r q3
    cases o with
    | fr rr =>
      refine ⟨.yes (.fr (rr.mono s2)) h1, ?_⟩
      simp only [fps, fpO, Sl.fp, List.map_cons, List.nil_append]
      exact h2.trans (List.sublist_append_right _ _)
  | _ :: _, _, _, _, _, @Back.tb _ _ _ _ _ _ Γ' b, .yes o r, q => by
    have q' : ∃ σ3, Slots K G2 H2 σ3 Γ' := by cases q with
      | no r => exact ⟨_, r⟩
      | yes _ r => exact ⟨_, r⟩
    obtain ⟨σ3, q3⟩ := q'
    obtain ⟨h1, h2⟩ := b.slots s2 r q3
    cases o with
    | tb _ _ o1 =>
      cases o1 with
      | fr rr =>
        refine ⟨.yes (.fr (rr.mono s2)) h1, ?_⟩
        simp only [fps, fpO, Sl.fp, List.map_cons, List.nil_append]
        exact h2.trans (List.sublist_append_right _ _)
  | _ :: _, _, _, _, _, .pack hp b, .yes o r, .yes o2 r2 => by
    obtain ⟨h1, h2⟩ := b.slots s2 r r2
    have z1 := o.adr rfl
    have z2 := o2.adr rfl
    subst z1 z2
    cases o2 with
    | ol hh rr =>
      refine ⟨.yes (.os hh rr hp) h1, ?_⟩
      simp only [fps, fpO, List.map_cons, Sl.fp]
      exact (List.Sublist.refl _).append h2
  | _ :: _, _, _, _, _, .own e1 e2 b, .yes o r, .yes o2 r2 => by
    obtain ⟨h1, h2⟩ := b.slots s2 r r2
    have z1 := o.adr e1
    have z2 := o2.adr e2
    subst z1 z2
    refine ⟨.yes o2 h1, ?_⟩
    simp only [fps, fpO, List.map_cons]
    exact (List.Sublist.refl _).append h2
theorem Back.sta {O G H G2 H2 : Hp} {vs : List V} {args args' : List Sl} {σ2 : St} {Γ2 : Gm} (b : Back args Γ2 args') (S : Sta K O G H (sms vs) (sls args)) (s2 : Same G G2) (S2 : Sta K O G2 H2 σ2 Γ2) : Sta K O G2 H2 (sms vs) (sls args') := by
  obtain ⟨h1, h2⟩ := b.slots s2 S.sl S2.sl
  exact ⟨S2.g, S2.o, S2.d, h1, h2.nodup S2.nd, fun a ha => S2.ng a (h2.subset ha), fun a ha => S2.no a (h2.subset ha), S2.om⟩
theorem Back.sta1 {O G H G2 H2 : Hp} {vs : List V} {args args' : List Sl} {σ2 : St} {Γ2 : Gm} {v : V} {s : Sl} (b : Back args Γ2 args') (S : Sta K O G H (sms vs) (sls args)) (s2 : Same G G2) (S2 : Sta K O G2 H2 (some v :: σ2) (some s :: Γ2)) : Sta K O G2 H2 (some v :: sms vs) (some s :: sls args') := by
  obtain ⟨h1, h2⟩ := b.slots s2 S.sl S2.tail.sl
  have h3 : (fps (some s :: sls args')).Sublist (fps (some s :: Γ2)) := by simp only [fps]; exact (List.Sublist.refl _).append h2
  exact ⟨S2.g, S2.o, S2.d, .yes S2.head h1, h3.nodup S2.nd, fun a ha => S2.ng a (h3.subset ha), fun a ha => S2.no a (h3.subset ha), S2.om⟩
def poOf (args : List Sl) (R : Sl → List Sl → Prop) (Y : Addr → List (Str × Dt) → List Sl → Prop) : Po where
  nx := fun Γ2 => ∃ args', Back args Γ2 args' ∧ R (.fr .non) args'
  rt := fun s Γ2 => ∃ args', Back args Γ2 args' ∧ R s args'
  xc := fun C fs Γ2 => ∃ args', Back args Γ2 args' ∧ Y C fs args'
theorem slots_more {G H : Hp} {n : Nat} : ∀ {σ : St} {Γ : Gm}, Slots K G H σ Γ → Slots K G H (σ ++ List.replicate n none) (Γ ++ List.replicate n none)
  | _, _, .nil => by
    induction n with
    | zero => exact .nil
    | succ n ih => exact .no ih
  | _, _, .no r => .no (slots_more r)
  | _, _, .yes o r => .yes o (slots_more r)
theorem fps_more {n : Nat} : ∀ {Γ : Gm}, fps (Γ ++ List.replicate n none) = fps Γ
  | [] => by
    induction n with
    | zero => rfl
    | succ n ih => simpa [List.replicate_succ, fps, fpO] using ih
  | x :: r => by simp only [List.cons_append, fps]; rw [fps_more]
theorem Sta.more {O G H : Hp} {σ : St} (S : Sta K O G H σ Γ) (n : Nat) : Sta K O G H (σ ++ List.replicate n none) (Γ ++ List.replicate n none) :=
  ⟨S.g, S.o, S.d, slots_more S.sl, by rw [fps_more]; exact S.nd, fun a ha => S.ng a (by rw [fps_more] at ha; exact ha), fun a ha => S.no a (by rw [fps_more] at ha; exact ha), S.om⟩
def gm0 (n : Nat) (args : List Sl) : Gm := sls args ++ List.replicate (n - args.length) none
end
section
variable {P : Program} {w : World} {K : PySem.W.Frag} {mg : Str → Option Value} {base : Heap}
theorem fn_d {x qual : Str} {st : Stmt} {f : Addr} {fd : FuncData} {N ps : List Str} {k : Nat} {S : DSp} (F : Fun K x qual st f fd) (Sc : FnScope N ps (defScope st)) (len : ∀ args R Y, S args R Y → args.length = ps.length)
    (hbody : ∀ (cdv : Value) (A : Around) (outer : List Env) (s : Shared) (H : Hp) (E : XK), Room k (A.deeper (PyProof.Rows.envOfC qual (defScope st) s.heap.objs.size f cdv)) →
      ∃ t, PSs (cxOf (L2.CX P w) P w K mg base N qual (defScope st) f cdv A outer s H E) (defBody st) t ∧ ∀ args R Y, S args R Y → Go K (fun c d _ H => E c d H) t (gm0 N.length args) (poOf args R Y)) :
    FnOk P w K mg base (L2.CX P w) (k + 1) f fd ps (spD K S) := by
  refine F.okX Sc (fun vs H Q E h => ?_) (fun cdv A outer s H vs Q E hr h => ?_)
  · obtain ⟨O, G, args, R, Y, St, hS, _, _⟩ := h
    have l1 := len _ _ _ hS
    have l2 := St.sl.len
    simp at l2
    omega
  · obtain ⟨t, ht, go⟩ := hbody cdv A outer s H E hr
    refine ⟨t, ht, ?_⟩
    obtain ⟨O, G, args, R, Y, St, hS, hQ, hE⟩ := h
    have l2 : vs.length = args.length := by have := St.sl.len; simpa using this
    have St' := St.more (N.length - args.length)
    have e : L2.start N vs = sms vs ++ List.replicate (N.length - args.length) none := by unfold L2.start; rw [l2]
    rw [e]
    refine go args R Y hS O G H _ _ St' ?_ ?_ ?_ ?_ ?_
    · intro G2 H2 σ2 Γ2 s2 S2 ⟨args', b, p⟩
      exact hQ .non G2 H2 (.fr .non) args' s2 ((b.sta St s2 S2).pushF .non) p
    · intro v G2 H2 σ2 Γ2 z s2 S2 ⟨args', b, p⟩
      exact hQ v G2 H2 z args' s2 (b.sta1 St s2 S2) p
    · intro G2 H2 σ2 Γ2 s2 S2 p; exact p.elim
    · intro G2 H2 σ2 Γ2 s2 S2 p; exact p.elim
    · intro σ2 C d fs G2 H2 Γ2 s2 S2 r ⟨args', b, p⟩
      exact hE C d fs G2 H2 args' s2 (b.sta St s2 S2) r p
end
end DL
namespace L2
open PySem PySem.Spec PyProof.Rows
def rDG : R2 := fun x y H Q => ∃ a v, x = .ref a ∧ DGet H a y (some v) ∧ Q v H
def rDI (neg : Bool) : R2 := fun y x H Q => ∃ a o, x = .ref a ∧ DGet H a y o ∧ Q (.bl (o.isSome ^^ neg)) H
def rDL : List V → Hp → VK → Prop := fun xs H Q => ∃ a, xs = [.ref a] ∧ ((∃ kvs : List (Key × V), Rd H a (.dK kvs) ∧ Q (.int kvs.length) H) ∨ ∃ kvs : List (List Key × V), Rd H a (.dT kvs) ∧ Q (.int kvs.length) H)
def rDS : V → V → V → Hp → (Hp → Prop) → Prop := fun o i v H Q => ∃ a H', o = .ref a ∧ DPut H a i v H' ∧ Q H'
section
variable {X : Cx}
theorem ix_dict (hu : X.A.units + 1 < cLine) : IxR X rDG := by
  intro value slice pins s σ H x y v u Q I rx ry h hs
  obtain ⟨a, z, rfl, g, q⟩ := h
  obtain rfl : v = Value.ref a := rx
  have hT := dict_typeIs I g
  have h2 := d_getItem (E := X.xe) (Q := EP X pins σ Q) hu I g ry fun w' s3 I3 rw' => ⟨z, H, I3, rw', q⟩
  unfold subscriptTail
  refine wpAny_bind ?_
  rw [getitemInPython_of_ne hT.not_modules]
  refine wpAny_bind (wpAny_specialOf hT PySem.F.slot_dict_getitem.lookup ?_)
  have fin : wpAny (model X.prog X.w) X.A (subscripted slice false (.ref a) u) (fun r s₃ => wpAny (model X.prog X.w) X.A (letTemporaryGo value (.ref a) r >>= fun _ => pure r) (EP X pins σ Q) X.xe s₃) X.xe s := by
    rw [hs]
    exact wpAny_operating (wpAny_mono h2 (fun r s₃ h₃ => wpAny_bind (wpAny_letTemporaryGo (wpAny_pure h₃))) fun _ _ x => x)
  first
    | exact wpAny_pure (wpAny_bind fin)
    | (refine wpAny_pure ?_; simpa using fin)
    | exact wpAny_bind fin
theorem call_len_dict2 : CallR X (.builtin "len") rDL := by
  intro pins s σ H xs us Q I r h
  obtain ⟨a, rfl, h⟩ := h
  obtain ⟨u, rfl, ru⟩ := vals1 r
  cases ru
  rcases h with ⟨kvs, ha, q⟩ | ⟨kvs, ha, q⟩
  · exact d_len I ha fun t s' I' => ⟨.int kvs.length, H, I', ⟨t, rfl⟩, q⟩
  · obtain ⟨z, hd, ys, rel, dd⟩ := dt_rd I.hok ha
    have hl : kvs.length = ys.length := Paired.length rel
    refine call_len_dictH hd dd (by rw [← hl]; rw [sizeLine_eq] at z; omega) ?_
    rw [← hl]
    exact ⟨.int ((kvs.length : Nat) : Int), H, I.tok _, ⟨_, rfl⟩, q⟩
theorem set_dict (hu : X.A.units + 1 < cLine) : PSet X rDS := by
  intro pins s σ H o i v ov iv u Q I ro ri rv h
  obtain ⟨a, H', rfl, g, q⟩ := h
  obtain rfl : ov = Value.ref a := ro
  exact d_setItem hu I g ri rv fun s' I' => ⟨H', I', q⟩
theorem PSet.or {t t' : TSet} (h : PSet X t) (h' : PSet X t') : PSet X (fun o i v H Q => t o i v H Q ∨ t' o i v H Q) := by
  intro pins s σ H o i v ov iv u Q I ro ri rv q
  rcases q with q | q
  · exact h pins s σ H o i v ov iv u Q I ro ri rv q
  · exact h' pins s σ H o i v ov iv u Q I ro ri rv q
inductive Pins : Hp → (Hp → Prop) → Prop
  | done {H : Hp} {Q : Hp → Prop} : Q H → Pins H Q
  | pin {H : Hp} {Q : Hp → Prop} (d : Addr) (u : HO) : H d = some u → Mut (some u) → (∀ od, Pins (upd H d (.frz od u)) Q) → Pins H Q
theorem Inv.pins {pins : List (Addr × Obj)} {σ : St} {s : Shared} {H : Hp} {Q : Hp → Prop} (h : Pins H Q) (I : Inv X pins σ H s) : ∃ H', Inv X pins σ H' s ∧ Q H' := by
  induction h with
  | done q => exact ⟨_, I, q⟩
  | pin d u hd mu _ ih =>
    obtain ⟨od, I1⟩ := I.lock hd mu
    exact ih od I1
def tPin (t : TE) : TE := fun σ H Q => t σ H fun v H1 => Pins H1 (Q v)
theorem mkPin {e : Expr} {t : TE} (h : PE X e t) : PE X e (tPin t) := by
  refine ⟨fun pins s σ H Q I hw => ?_⟩
  refine thn (h.run pins s σ H _ I hw) fun v s1 ⟨x, H1, I1, r, q⟩ => ?_
  obtain ⟨H2, I2, q2⟩ := I1.pins q
  exact ⟨x, H2, I2, r, q2⟩
inductive LkS (t : Ends → Hp → Prop) : Ends → Hp → Prop
  | run {D : Ends} {H : Hp} : t D H → LkS t D H
  | lock {D : Ends} {H : Hp} (d : Addr) (u : HO) : H d = some u → Mut (some u) → (∀ od, LkS t ⟨fun σ' H' => H' d = some (.frz od u) ∧ D.nx σ' (upd H' d u), fun v H' => H' d = some (.frz od u) ∧ D.rt v (upd H' d u), fun σ' H' => H' d = some (.frz od u) ∧ D.bk σ' (upd H' d u), fun σ' H' => H' d = some (.frz od u) ∧ D.ct σ' (upd H' d u)⟩ (upd H d (.frz od u))) → LkS t D H
def tLkS (t : TS) : TS := fun D σ H => LkS (fun D H => t D σ H) D H
theorem mkLkS {st : Stmt} {t : TS} (h : PS X st t) : PS X st (tLkS t) := by
  refine ⟨fun pins s σ H D I hw => ?_⟩
  have go : ∀ {D : Ends} {H : Hp}, LkS (fun D H => t D σ H) D H → Inv X pins σ H s → _ := fun {D H} hw => by
    induction hw with
    | run hw => exact fun I => h.run pins s σ _ _ I hw
    | lock d u hd mu _ ih =>
      intro I
      obtain ⟨od, I1⟩ := I.lock hd mu
      refine thn (ih od I1) fun f s1 q => ?_
      cases f with
      | next => obtain ⟨σ', H', I2, e, q⟩ := q; exact ⟨σ', _, I2.unlock e (I.nofrz hd mu), q⟩
      | brk => obtain ⟨σ', H', I2, e, q⟩ := q; exact ⟨σ', _, I2.unlock e (I.nofrz hd mu), q⟩
      | cont => obtain ⟨σ', H', I2, e, q⟩ := q; exact ⟨σ', _, I2.unlock e (I.nofrz hd mu), q⟩
      | ret v => obtain ⟨x, σ', H', I2, r, e, q⟩ := q; exact ⟨x, σ', _, I2.unlock e (I.nofrz hd mu), r, q⟩
  exact go hw I
end
end L2
namespace DL
open PySem PySem.Spec L2
section
variable {κ β : Type} [DecidableEq κ]
def vA (kvs : List (κ × β)) (k : κ) : Option β := (kvs.find? fun kv => decide (kv.1 = k)).map (·.2)
def pA (kvs : List (κ × β)) (k : κ) (v : β) : List (κ × β) :=
  if (kvs.any fun kv => decide (kv.1 = k)) = true then kvs.map (fun kv => if kv.1 = k then (kv.1, v) else kv) else kvs ++ [(k, v)]
theorem vA_nil {k : κ} : vA ([] : List (κ × β)) k = none := rfl
theorem vA_cons {p : κ × β} {r : List (κ × β)} {k : κ} : vA (p :: r) k = if p.1 = k then some p.2 else vA r k := by
  unfold vA
  rw [List.find?_cons]
  by_cases e : p.1 = k
  · rw [if_pos e, decide_eq_true e]; rfl
  · rw [if_neg e, decide_eq_false e]
theorem vA_any (k : κ) : ∀ kvs : List (κ × β), (kvs.any fun kv => decide (kv.1 = k)) = (vA kvs k).isSome
  | [] => rfl
  | p :: r => by
    rw [List.any_cons, vA_cons]
    by_cases e : p.1 = k
    · rw [if_pos e, decide_eq_true e]; rfl
    · rw [if_neg e, decide_eq_false e, Bool.false_or]; exact vA_any k r
theorem vA_put (kvs : List (κ × β)) (k j : κ) (y : β) : vA (pA kvs k y) j = if j = k then some y else vA kvs j := by
  have m : ∀ kvs : List (κ × β), vA (kvs.map fun kv => if kv.1 = k then (kv.1, y) else kv) j = (vA kvs j).map fun x => if j = k then y else x := by
    intro kvs
    induction kvs with
    | nil => rfl
    | cons p r ih =>
      rw [List.map_cons, vA_cons, vA_cons, ih]
      by_cases h : p.1 = k
      · rw [if_pos h]
        by_cases e : p.1 = j
        · rw [if_pos e, if_pos e, Option.map_some, if_pos (e.symm.trans h)]
        · rw [if_neg e, if_neg e]
      · rw [if_neg h]
        by_cases e : p.1 = j
        · rw [if_pos e, if_pos e, Option.map_some, if_neg (fun z => h (e.trans z))]
        · rw [if_neg e, if_neg e]
  have n : ∀ kvs : List (κ × β), vA kvs k = none → vA (kvs ++ [(k, y)]) j = if j = k then some y else vA kvs j := by
    intro kvs
    induction kvs with
    | nil =>
      intro _
      rw [List.nil_append, vA_cons, vA_nil]
      by_cases e : k = j
      · rw [if_pos e, if_pos e.symm]
      · rw [if_neg e, if_neg (fun z => e z.symm)]
    | cons p r ih =>
      intro hn
      rw [vA_cons] at hn
      by_cases h : p.1 = k
      · rw [if_pos h] at hn; cases hn
      · rw [if_neg h] at hn
        rw [List.cons_append, vA_cons, vA_cons, ih hn]
        by_cases e : p.1 = j
        · rw [if_pos e, if_pos e, if_neg (fun z => h (e.trans z))]
        · rw [if_neg e, if_neg e]
  unfold pA
  by_cases a : (kvs.any fun kv => decide (kv.1 = k)) = true
  · rw [if_pos a, m]
    rw [vA_any] at a
    by_cases e : j = k
    · obtain ⟨x, hx⟩ := Option.isSome_iff_exists.mp a
      rw [if_pos e, e, hx, Option.map_some, if_pos rfl]
    · rw [if_neg e]
      cases vA kvs j with
      | none => rfl
      | some x => rw [Option.map_some, if_neg e]
  · rw [if_neg a]
    refine n kvs ?_
    rw [vA_any] at a
    cases q : vA kvs k with
    | none => rfl
    | some x => rw [q] at a; exact (a rfl).elim
theorem pA_new {kvs : List (κ × β)} {k : κ} (v : β) (h : vA kvs k = none) : pA kvs k v = kvs ++ [(k, v)] := by
  unfold pA
  rw [vA_any, h]
  exact if_neg (by simp)
theorem pA_len (kvs : List (κ × β)) (k : κ) (v : β) : (pA kvs k v).length ≤ kvs.length + 1 := by
  unfold pA
  split
  · rw [List.length_map]; omega
  · rw [List.length_append, List.length_cons, List.length_nil]; omega
theorem vA_mem {kvs : List (κ × β)} {k : κ} {v : β} (h : vA kvs k = some v) : (k, v) ∈ kvs := by
  induction kvs with
  | nil => cases h
  | cons p r ih =>
    rw [vA_cons] at h
    by_cases e : p.1 = k
    · rw [if_pos e] at h; cases h; rw [← e]; exact List.mem_cons_self ..
    · rw [if_neg e] at h; exact List.mem_cons_of_mem _ (ih h)
theorem vA_none {kvs : List (κ × β)} {k : κ} : vA kvs k = none ↔ k ∉ kvs.map (·.1) := by
  induction kvs with
  | nil => simp [vA]
  | cons p r ih =>
    rw [vA_cons, List.map_cons, List.mem_cons]
    by_cases e : p.1 = k
    · rw [if_pos e]; simp [e]
    · rw [if_neg e, ih]
      constructor
      · intro h z; rcases z with z | z
        · exact e z.symm
        · exact h z
      · intro h z; exact h (.inr z)
theorem vA_of {kvs : List (κ × β)} {k : κ} {v : β} (nd : (kvs.map (·.1)).Nodup) (h : (k, v) ∈ kvs) : vA kvs k = some v := by
  induction kvs with
  | nil => cases h
  | cons p r ih =>
    rw [List.map_cons, List.nodup_cons] at nd
    rw [vA_cons]
    rcases List.mem_cons.mp h with h | h
    · rw [← h, if_pos rfl]
    · rw [if_neg (fun e => nd.1 (by rw [e]; exact List.mem_map.mpr ⟨_, h, rfl⟩)), ih nd.2 h]
end
def kD : Key → Dt
  | .inl i => .int i
  | .inr s => .str s
abbrev kDs (k : List Key) : Dt := .tup (k.map kD)
section
variable {K : PySem.W.Frag} {G H : Hp}
theorem rep_kD (k : Key) : Rep K G (kV k) (kD k) := by
  cases k with
  | inl i => exact .int i
  | inr x => exact .str x
theorem kD_inj {v : V} {k : Key} (r : Rep K G v (kD k)) : v = kV k := by
  cases k with
  | inl i => cases r; rfl
  | inr x => cases r; rfl
theorem reps_kD {vs : List V} {k : List Key} (r : Reps K G vs (k.map kD)) : vs = k.map kV := by
  induction k generalizing vs with
  | nil => cases r; rfl
  | cons x k ih => cases r with | cons h t => rw [kD_inj h, ih t]; rfl
theorem reps_kV : ∀ k : List Key, Reps K G (k.map kV) (k.map kD)
  | [] => .nil
  | x :: k => .cons (rep_kD x) (reps_kV k)
theorem RepK.get {xs : List (Key × V)} {ds : List (Key × Dt)} (r : RepK K G xs ds) (k : Key) : (∀ d, vA ds k = some d → ∃ v, valV xs k = some v ∧ Rep K G v d) ∧ (vA ds k = none → valV xs k = none) := by
  induction ds generalizing xs with
  | nil => cases r; exact ⟨fun d h => (by cases h), fun _ => rfl⟩
  | cons p ds ih =>
    cases r with
    | @cons f v vs d' _ h t =>
      rw [vA_cons]
      by_cases e : f = k
      · rw [if_pos e]
        exact ⟨fun d q => by cases q; exact ⟨v, valV_pos (p := (f, v)) e, h⟩, fun q => by cases q⟩
      · rw [if_neg e]
        have z : valV ((f, v) :: vs) k = valV vs k := valV_neg (p := (f, v)) e
        rw [z]
        exact ih t
theorem RepT.get {xs : List (List Key × V)} {ds : List (List Key × Dt)} (r : RepT K G xs ds) (k : List Key) : (∀ d, vA ds k = some d → ∃ v, valV xs k = some v ∧ Rep K G v d) ∧ (vA ds k = none → valV xs k = none) := by
  induction ds generalizing xs with
  | nil => cases r; exact ⟨fun d h => (by cases h), fun _ => rfl⟩
  | cons p ds ih =>
    cases r with
    | @cons f v vs d' _ h t =>
      rw [vA_cons]
      by_cases e : f = k
      · rw [if_pos e]
        exact ⟨fun d q => by cases q; exact ⟨v, valV_pos (p := (f, v)) e, h⟩, fun q => by cases q⟩
      · rw [if_neg e]
        have z : valV ((f, v) :: vs) k = valV vs k := valV_neg (p := (f, v)) e
        rw [z]
        exact ih t
theorem RepK.length {xs : List (Key × V)} {ds : List (Key × Dt)} (r : RepK K G xs ds) : xs.length = ds.length := by
  induction ds generalizing xs with
  | nil => cases r; rfl
  | cons d ds ih => cases r with | cons h t => simp [ih t]
theorem RepT.length {xs : List (List Key × V)} {ds : List (List Key × Dt)} (r : RepT K G xs ds) : xs.length = ds.length := by
  induction ds generalizing xs with
  | nil => cases r; rfl
  | cons d ds ih => cases r with | cons h t => simp [ih t]
theorem RepK.any {xs : List (Key × V)} {ds : List (Key × Dt)} (r : RepK K G xs ds) (k : Key) : (xs.any fun kv => decide (kv.1 = k)) = ds.any fun kv => decide (kv.1 = k) := by
  induction ds generalizing xs with
  | nil => cases r; rfl
  | cons d ds ih => cases r with | cons h t => rw [List.any_cons, List.any_cons, ih t]
theorem RepT.any {xs : List (List Key × V)} {ds : List (List Key × Dt)} (r : RepT K G xs ds) (k : List Key) : (xs.any fun kv => decide (kv.1 = k)) = ds.any fun kv => decide (kv.1 = k) := by
  induction ds generalizing xs with
  | nil => cases r; rfl
  | cons d ds ih => cases r with | cons h t => rw [List.any_cons, List.any_cons, ih t]
theorem RepK.put {xs : List (Key × V)} {ds : List (Key × Dt)} {v : V} {d : Dt} (r : RepK K G xs ds) (k : Key) (h : Rep K G v d) : RepK K G (putK xs k v) (pA ds k d) := by
  unfold putK pA
  rw [r.any k]
  by_cases e : (ds.any fun kv => decide (kv.1 = k)) = true
  · rw [if_pos e, if_pos e]
    clear e
    induction ds generalizing xs with
    | nil => cases r; exact .nil
    | cons p ds ih =>
      cases r with
      | @cons f v' vs d' _ q t =>
        rw [List.map_cons, List.map_cons]
        by_cases e : f = k
        · rw [if_pos e, if_pos e]; exact .cons h (ih t)
        · rw [if_neg e, if_neg e]; exact .cons q (ih t)
  · rw [if_neg e, if_neg e]
    clear e
    induction ds generalizing xs with
    | nil => cases r; exact .cons h .nil
    | cons p ds ih => cases r with | cons q t => exact .cons q (ih t)
theorem RepT.put {xs : List (List Key × V)} {ds : List (List Key × Dt)} {v : V} {d : Dt} (r : RepT K G xs ds) (k : List Key) (h : Rep K G v d) : RepT K G (putK xs k v) (pA ds k d) := by
  unfold putK pA
  rw [r.any k]
  by_cases e : (ds.any fun kv => decide (kv.1 = k)) = true
  · rw [if_pos e, if_pos e]
    clear e
    induction ds generalizing xs with
    | nil => cases r; exact .nil
    | cons p ds ih =>
      cases r with
      | @cons f v' vs d' _ q t =>
        rw [List.map_cons, List.map_cons]
        by_cases e : f = k
        · rw [if_pos e, if_pos e]; exact .cons h (ih t)
        · rw [if_neg e, if_neg e]; exact .cons q (ih t)
  · rw [if_neg e, if_neg e]
    clear e
    induction ds generalizing xs with
    | nil => cases r; exact .cons h .nil
    | cons p ds ih => cases r with | cons q t => exact .cons q (ih t)
theorem RepK.at {xs : List (Key × V)} {ds : List (Key × Dt)} (r : RepK K G xs ds) {i : Nat} {k : Key} {v : V} (h : xs[i]? = some (k, v)) : ∃ d, ds[i]? = some (k, d) ∧ Rep K G v d := by
  induction ds generalizing xs i with
  | nil => cases r; simp at h
  | cons p ds ih =>
    cases r with
    | cons q t =>
      cases i with
      | zero => simp at h; obtain ⟨rfl, rfl⟩ := h; exact ⟨_, rfl, q⟩
      | succ i => simpa using ih t (by simpa using h)
theorem RepT.at {xs : List (List Key × V)} {ds : List (List Key × Dt)} (r : RepT K G xs ds) {i : Nat} {k : List Key} {v : V} (h : xs[i]? = some (k, v)) : ∃ d, ds[i]? = some (k, d) ∧ Rep K G v d := by
  induction ds generalizing xs i with
  | nil => cases r; simp at h
  | cons p ds ih =>
    cases r with
    | cons q t =>
      cases i with
      | zero => simp at h; obtain ⟨rfl, rfl⟩ := h; exact ⟨_, rfl, q⟩
      | succ i => simpa using ih t (by simpa using h)
theorem dget_K {a : Addr} {xs : List (Key × V)} {ds : List (Key × Dt)} {k : Key} (h : Rd H a (.dK xs)) : DGet H a (kV k) (valV xs k) := .inl ⟨xs, k, h, rfl, rfl⟩
theorem dget_T {a b : Addr} {xs : List (List Key × V)} {k : List Key} (h : Rd H a (.dT xs)) (hb : H b = some (.tup (k.map kV))) : DGet H a (.ref b) (valV xs k) := .inr ⟨xs, k, b, h, rfl, hb, rfl⟩
theorem isSome_val {α β : Type} {x : Option α} {y : Option β} {P : α → β → Prop} (h1 : ∀ d, y = some d → ∃ v, x = some v ∧ P v d) (h2 : y = none → x = none) : x.isSome = y.isSome := by
  cases y with
  | none => rw [h2 rfl]; rfl
  | some d => obtain ⟨v, e, _⟩ := h1 d rfl; rw [e]; rfl
end
end DL
namespace L2
open PySem PySem.Spec PyProof.Rows
def iSeq (K : PySem.W.Frag) (tl : TE) : TI := fun σ H R => tl σ H fun x H1 => (∃ a, x = .ref a ∧ (∃ xs, SqL K H1 a xs) ∧ R (Itl K a) H1) ∨ (∃ a, x = .ref a ∧ (∃ xs, SqT K H1 a xs) ∧ R (Itt K a) H1) ∨ (∃ z, x = .str z ∧ R (Its z) H1) ∨ ∃ d o, x = .ref d ∧ ((∃ kvs, H1 d = some (.frz o (.dK kvs)) ∧ R (Itk d o kvs) H1) ∨ ∃ kvs, H1 d = some (.frz o (.dT kvs)) ∧ R (Itkt d o kvs) H1)
theorem pi_seq {X : Cx} {tg l : Expr} {tl : TE} (hl : PE X l tl) : PI X tg l (iSeq X.K tl) := by
  refine ⟨fun pins s σ H R I h => ?_⟩
  refine thn (hl.run pins s σ H _ I h) fun v s1 ⟨x, H1, I1, r1, q1⟩ => ?_
  rcases q1 with ⟨a, e, ⟨xs, hq⟩, q⟩ | ⟨a, e, ⟨xs, hq⟩, q⟩ | ⟨z, e, q⟩ | ⟨d, o, e, q⟩
  · subst e
    cases r1
    obtain ⟨its, rv, p, hz⟩ := I1.list hq
    refine wpAny_pyIter_list p.isList ?_
    refine ⟨s1.heap.objs.size, [s1.heap.objs.size], _, _, H1, rfl, I1.kept (t' := s1.toks) fun b o e => Heap.get?_push_of_some _ e, turn_list a _, ⟨_, Heap.get?_push_size _ rfl, rfl, rfl⟩, fun b hb => ?_, q⟩
    have e : b = s1.heap.objs.size := by simpa using hb
    subst e
    exact I1.fpOk (Nat.le_refl _) (I1.hok.fresh (Nat.le_refl _))
  · subst e
    cases r1
    obtain ⟨its, rv, p, hz⟩ := I1.tuple hq
    refine wpAny_pyIter_tuple (show s1.heap.IsTuple a its.toArray from p) ?_
    refine ⟨s1.heap.objs.size, [s1.heap.objs.size], _, _, H1, rfl, I1.kept (t' := s1.toks) fun b o e => Heap.get?_push_of_some _ e, turn_tuple a _, ⟨_, Heap.get?_push_size _ rfl, rfl, rfl⟩, fun b hb => ?_, q⟩
    have e : b = s1.heap.objs.size := by simpa using hb
    subst e
    exact I1.fpOk (Nat.le_refl _) (I1.hok.fresh (Nat.le_refl _))
  · subst e
    obtain ⟨t, rfl⟩ := r1
    cases ha : z.cps.all (· < 128)
    · exact wpAny_pyIter_wide ha (pi_one (tk := s1.toks) I1 _ (turn_str _ z t "str_iterator" (.inr rfl)) ⟨_, Heap.get?_push_size _ rfl, rfl, rfl⟩ q)
    · exact wpAny_pyIter_ascii ha (pi_one (tk := s1.toks) I1 _ (turn_str _ z t "str_ascii_iterator" (.inl rfl)) ⟨_, Heap.get?_push_size _ rfl, rfl, rfl⟩ q)
  · subst e
    obtain rfl : v = Value.ref d := r1
    rcases q with ⟨kvs, hd, q⟩ | ⟨kvs, hd, q⟩
    · obtain ⟨hs, hgd, hx, es, ep, vs, hdt, hsz, kv, hm⟩ := I1.frzK hd
      refine iter_keys hs hgd hx hdt (pi_one (tk := s1.toks) I1 _ (turn_keys _ hdt) ⟨_, Heap.get?_push_size _ rfl, rfl, ?_⟩ q)
      rw [hsz] <;> rfl
    · obtain ⟨hs, hgd, hx, es, ep, hdt, hsz, ent⟩ := I1.frzT hd
      refine iter_keys hs hgd hx hdt (pi_one (tk := s1.toks) I1 _ (turn_keysT _ hdt) ⟨_, Heap.get?_push_size _ rfl, rfl, ?_⟩ q)
      rw [hsz] <;> rfl
end L2
namespace DL
open PySem PySem.Spec L2
section
variable {K : PySem.W.Frag} {W : WX} {Γ : Gm} {X : XP} {te ta tb : TE} {i : Nat} {PP : Po} {g : TG} {tbd : TS}
inductive SeqD : Dt → List Dt → Prop
  | lst (ds : List Dt) : SeqD (.lst ds) ds
  | tup (ds : List Dt) : SeqD (.tup ds) ds
  | scr (ns : List Int) : SeqD (.scr ns) (ns.map .int)
  | str (z : Str) : SeqD (.str z) (z.cps.toList.map fun c => .str ⟨#[c]⟩)
  | dK (kvs : List (Key × Dt)) : SeqD (.dK kvs) (kvs.map fun p => kD p.1)
  | dT (kvs : List (List Key × Dt)) : SeqD (.dT kvs) (kvs.map fun p => kDs p.1)
theorem ext_tup {G H : Hp} {q : Addr} {xs : List V} (g : Same G H) (h : H q = some (.tup xs)) : ∃ G', Ext G H G' H ∧ G' q = some (.tup xs) := by
  cases e : G q with
  | some o =>
    have := g q o e
    rw [h] at this
    cases this
    exact ⟨G, Ext.refl g, e⟩
  | none =>
    refine ⟨upd G q (.tup xs), ⟨fun b o z => ?_, Same.refl _, fun b o z => ?_, fun b z1 z2 => ?_⟩, upd_same⟩
    · rw [upd_ne (ne_of_none z e)]; exact z
    · by_cases hb : b = q
      · subst hb; rw [upd_same] at z; cases z; exact h
      · rw [upd_ne hb] at z; exact g b o z
    · by_cases hb : b = q
      · subst hb; right; rw [h]; exact MutT.no (fun z => z) fun ps e => by cases e
      · left; rw [upd_ne hb]; exact z2
theorem item_K {G2 H2 H3 : Hp} {kvs : List (Key × V)} {ds : List (Key × Dt)} {k : Nat} {x : Dt} {v : V} (rs : RepK K G2 kvs ds) (g2 : Same G2 H2) (hx : (ds.map fun p => kD p.1)[k]? = some x) (y : H3 = H2 ∧ ∃ k' v', kvs[k]? = some (k', v') ∧ v = kV k') : ∃ G4, Ext G2 H2 G4 H3 ∧ Rep K G4 v x := by
  obtain ⟨rfl, k', v', hk, rfl⟩ := y
  obtain ⟨d, hd, _⟩ := rs.at hk
  rw [List.getElem?_map, hd] at hx
  cases hx
  exact ⟨G2, Ext.refl g2, rep_kD k'⟩
theorem item_T {G2 H2 H3 : Hp} {kvs : List (List Key × V)} {ds : List (List Key × Dt)} {k : Nat} {x : Dt} {v : V} (rs : RepT K G2 kvs ds) (g2 : Same G2 H2) (hx : (ds.map fun p => kDs p.1)[k]? = some x) (y : H3 = H2 ∧ ∃ (k' : List Key) (v' : V) (q : Addr), kvs[k]? = some (k', v') ∧ v = .ref q ∧ H2 q = some (.tup (k'.map kV))) : ∃ G4, Ext G2 H2 G4 H3 ∧ Rep K G4 v x := by
  obtain ⟨rfl, k', v', q, hk, rfl, hq⟩ := y
  obtain ⟨d, hd, _⟩ := rs.at hk
  rw [List.getElem?_map, hd] at hx
  cases hx
  obtain ⟨G4, ex, h4⟩ := ext_tup g2 hq
  exact ⟨G4, ex, .tup h4 (reps_kV k')⟩
abbrev turnPo (PP : Po) (N : Gm → Prop) : Po := { PP with nx := N, ct := N, bk := PP.nx }
theorem go_walk {O G H : Hp} {σ : St} {D : Ends} {J : It} {n : Nat} {GG : Hp → Prop} {Y : Nat → Hp → V → Hp → Prop} (w : Walk J n GG Y) (xs : List Dt) (hn : n = xs.length) (S : Sta K O G H σ Γ) (hG : ∀ H', Same G H' → GG H')
    (hY : ∀ k x v G1 H1 H2, k < n → xs[k]? = some x → Same G G1 → Same G1 H1 → Y k H1 v H2 → ∃ G2, Ext G1 H1 G2 H2 ∧ Rep K G2 v x)
    (a : ∀ (G2 H2 : Hp) (σ2 : St) (Γ2 : Gm), Same G G2 → Sta K O G2 H2 σ2 Γ2 → PP.nx Γ2 → D.nx σ2 H2) (b : ∀ (v : V) (G2 H2 : Hp) (σ2 : St) (Γ2 : Gm) (s : Sl), Same G G2 → Sta K O G2 H2 (some v :: σ2) (some s :: Γ2) → PP.rt s Γ2 → D.rt v H2) (e : ∀ σ2, XOk K W O G σ2 PP.xc)
    (I : Nat → Gm → Prop) (h0 : I 0 Γ) (hs : ∀ k x Γ2, xs[k]? = some x → I k Γ2 → GoG K W g x Γ2 (fun Γ3 => Go K W tbd Γ3 (turnPo PP (I (k + 1)))) PP.xc) (hd : ∀ Γ2, I xs.length Γ2 → PP.nx Γ2) :
    ∃ W : Nat → Nat → St → Hp → Prop, (∃ m, W 0 m σ H) ∧ ∀ i m σ H, W i m σ H →
      (J.stop i H ∧ D.nx σ H) ∨ (J.go i H ∧ ∃ N : St → Hp → Prop, (∀ σ' H', N σ' H' → ∃ m', m' < m ∧ W (i + 1) m' σ' H') ∧ ∀ x H', J.yld i H x H' → g x σ H' fun σ2 H2 => tbd { D with nx := N, ct := N, bk := D.nx } σ2 H2) := by
  refine for_it w (fun k σ2 H2 => ∃ G2 Γ2, Same G G2 ∧ Sta K O G2 H2 σ2 Γ2 ∧ I k Γ2) ⟨G, Γ, Same.refl _, S, h0⟩ (fun k σ2 H2 _ ⟨G2, Γ2, s2, S2, _⟩ => hG H2 (s2.trans S2.g)) ?_ ?_
  · intro k v σ2 H2 H3 hk ⟨G2, Γ2, s2, S2, p⟩ y
    have hx : xs[k]? = some (xs[k]'(by omega)) := by simp
    obtain ⟨G3, ex, r⟩ := hY k _ v G2 H2 H3 hk hx s2 S2.g y
    refine hs k _ Γ2 hx p O G3 H3 σ2 v _ (S2.ext ex) r (fun G4 H4 σ4 Γ4 s4 S4 p4 => ?_) fun σ5 => (e σ5).mono (s2.trans ex.g)
    have s24 : Same G G4 := s2.trans (ex.g.trans s4)
    exact p4 O G4 H4 σ4 _ S4 (fun G5 H5 σ5 Γ5 s5 S5 p5 => ⟨G5, Γ5, s24.trans s5, S5, p5⟩) (fun v G5 H5 σ5 Γ5 z s5 S5 p5 => b v G5 H5 σ5 Γ5 z (s24.trans s5) S5 p5) (fun G5 H5 σ5 Γ5 s5 S5 p5 => a G5 H5 σ5 Γ5 (s24.trans s5) S5 p5)
      (fun G5 H5 σ5 Γ5 s5 S5 p5 => ⟨G5, Γ5, s24.trans s5, S5, p5⟩) fun σ5 => (e σ5).mono s24
  · intro σ2 H2 ⟨G2, Γ2, s2, S2, p⟩
    exact a G2 H2 σ2 Γ2 s2 S2 (hd Γ2 (by rw [← hn]; exact p))
theorem ev_xf {a C : Addr} {d : Option Addr} {fs : List (Str × Dt)} {f : Str} {y : Dt} {P : Dt → Gm → Prop} (h : Γ[i]? = some (some (.ex a C d fs))) (hf : fs.lookup f = some y) (p : P y Γ) : Ev K W (tXf a (.ref C) d C f (tVar i)) Γ P X := fun O G H σ Q S q _ => by
  obtain ⟨v, e, o⟩ := S.get h
  cases o with
  | ex r =>
    cases r with
    | none => simp at hf
    | @some dd fsv _ hd rf =>
      obtain ⟨u, hu, ru⟩ := rf.look hf
      exact ⟨_, e, rfl, rfl, dd, fsv, u, rfl, S.g _ _ hd, hu, q u G H Γ y (Same.refl _) S ru p⟩
end
end DL
namespace L2
open PySem PySem.Spec PyProof.Rows
section
variable {X : Cx}
def rAddP (K : PySem.W.Frag) : R2 := fun x y H Q => rI0 (fun i j => .int (i + j)) x y H Q ∨ (∃ i j, x = .str i ∧ y = .str j ∧ i.length + j.length ≤ sizeLine ∧ Q (.str (i ++ j)) H) ∨ rCat x y H Q ∨ rCatA K x y H Q
theorem op_addP : OpR X (binaryOp .Add) (rAddP X.K) := op_add.or (op_add_str.or (op_cat.or op_catA))
def rSubP : R2 := rI0 fun i j => .int (i - j)
def rMulP : R2 := rI CMul fun i j => .int (i * j)
theorem op_mulP : OpR X (binaryOp .Mult) rMulP := op_mul
def rFdivP : R2 := rI CDiv fun i j => .int (i / j)
theorem op_fdivP : OpR X (binaryOp .FloorDiv) rFdivP := op_fdiv
def rModP : R2 := rI (fun _ j => 0 < j) fun i j => .int (i % j)
theorem op_modP : OpR X (binaryOp .Mod) rModP := op_mod
def rPowP : R2 := rI CPow fun i j => .int (i ^ j.toNat)
theorem op_powP : OpR X (binaryOp .Pow) rPowP := op_pow
def rLtP : R2 := rI0 fun i j => .bl (decide (i < j))
def rLeP : R2 := rI0 fun i j => .bl (decide (i ≤ j))
def rGtP : R2 := rI0 fun i j => .bl (decide (j < i))
def rGeP : R2 := rI0 fun i j => .bl (decide (j ≤ i))
theorem op_ltP : OpR X (compareOp .Lt) rLtP := op_lt
theorem op_gtP : OpR X (compareOp .Gt) rGtP := op_gt
theorem op_geP : OpR X (compareOp .GtE) rGeP := op_ge
def rEqP (K : PySem.W.Frag) : R2 := fun x y H Q => rEq x y H Q ∨ rEqD K x y H Q
def rNeP (K : PySem.W.Frag) : R2 := fun x y H Q => rNe x y H Q ∨ rNeD K x y H Q
theorem op_eqP (hu : X.A.units + 64 < cLine) : OpR X (compareOp .Eq) (rEqP X.K) := op_eq.or (op_eqD hu)
theorem op_neP (hu : X.A.units + 64 < cLine) : OpR X (compareOp .NotEq) (rNeP X.K) := op_ne.or (op_neD hu)
def rIsP : R2 := fun x y H Q => y = .non ∧ Q (.bl (decide (x = .non))) H
def rIsntP : R2 := fun x y H Q => y = .non ∧ Q (.bl (!decide (x = .non))) H
theorem op_isntP : OpR X (compareOp .IsNot) rIsntP := op_notN
def rInP (K : PySem.W.Frag) : R2 := fun x y H Q => (∃ (c : Nat) (z : Str), x = .str ⟨#[c]⟩ ∧ y = .str z ∧ Q (.bl (decide (c ∈ z.cps.toList))) H) ∨ rIn K false x y H Q ∨ rDI false x y H Q
def rNotInP (K : PySem.W.Frag) : R2 := fun x y H Q => (∃ (c : Nat) (z : Str), x = .str ⟨#[c]⟩ ∧ y = .str z ∧ Q (.bl (!decide (c ∈ z.cps.toList))) H) ∨ rIn K true x y H Q ∨ rDI true x y H Q
def rIxP (K : PySem.W.Frag) : R2 := fun x y H Q => rIx K x y H Q ∨ rDG x y H Q
theorem ix_P (hu : X.A.units + 1 < cLine) : IxR X (rIxP X.K) := ix_seq.or (ix_dict hu)
def rSlP (K : PySem.W.Frag) : V → Option Int → Option Int → Hp → VK → Prop := fun x lo hi H Q => rSlL K x lo hi H Q ∨ rSlA K x lo hi H Q ∨ rSlS x lo hi H Q
theorem sl_P : SlR X (rSlP X.K) := sl_list.or (sl_tupA.or sl_str)
def rLenP (K : PySem.W.Frag) : List V → Hp → VK → Prop := fun xs H Q => (∃ x n, xs = [x] ∧ LenV K x H n ∧ Q (.int n) H) ∨ rDL xs H Q
theorem call_lenP : CallR X (.builtin "len") (rLenP X.K) := call_len.or call_len_dict2
def rAbsP : List V → Hp → VK → Prop := fun xs H Q => ∃ i, xs = [.int i] ∧ Q (.int (if i < 0 then -i else i)) H
theorem call_absP : CallR X (.builtin "abs") rAbsP := call_abs
def rMaxP : List V → Hp → VK → Prop := fun xs H Q => ∃ i j, xs = [.int i, .int j] ∧ Q (.int (if j > i then j else i)) H
def rMinP : List V → Hp → VK → Prop := fun xs H Q => ∃ i j, xs = [.int i, .int j] ∧ Q (.int (if j < i then j else i)) H
def rIntP : List V → Hp → VK → Prop := fun xs H Q => ((∃ i, xs = [.int i] ∧ Q (.int i) H) ∨ ∃ k, xs = [.bl k] ∧ Q (.int (if k then 1 else 0)) H) ∨ (∃ a n, xs = [.str a] ∧ PySem.intText? a = some n ∧ a.length ≤ 640 ∧ Q (.int n) H)
theorem call_intP : CallR X (.type "int") rIntP := call_int1.or call_int_str
def rStrP : List V → Hp → VK → Prop := fun xs H Q => ∃ i, xs = [.int i] ∧ i.natAbs.log2 < 1920 ∧ Q (.str (toString i)) H
def rListP (K : PySem.W.Frag) : List V → Hp → VK → Prop := fun xs H Q => ∃ p ys, xs = [.ref p] ∧ (SqL K H p ys ∨ SqT K H p ys) ∧ ∀ l, H l = none → Q (.ref l) (upd H l (.lst ys))
def rTupleP (K : PySem.W.Frag) : List V → Hp → VK → Prop := fun xs H Q => ∃ p ys, xs = [.ref p] ∧ ((SqL K H p ys ∧ ∀ l, H l = none → Q (.ref l) (upd H l (.tup ys))) ∨ (SqT K H p ys ∧ Q (.ref p) H))
end
end L2
namespace DL
open PySem PySem.Spec L2
def dI (C : Int → Int → Prop) (g : Int → Int → Dt) : Dt → Dt → (Dt → Prop) → Prop := fun x y R => ∃ i j, x = .int i ∧ y = .int j ∧ C i j ∧ R (g i j)
def dI0 (g : Int → Int → Dt) : Dt → Dt → (Dt → Prop) → Prop := fun x y R => ∃ i j, x = .int i ∧ y = .int j ∧ R (g i j)
def dAdd : Dt → Dt → (Dt → Prop) → Prop
  | .int i, .int j, R => R (.int (i + j))
  | .str x, .str y, R => x.length + y.length ≤ sizeLine ∧ R (.str (x ++ y))
  | .lst a, .lst b, R => a.length + b.length ≤ 1000000 ∧ R (.lst (a ++ b))
  | .tup a, .tup b, R => a.length + b.length ≤ 1000000 ∧ R (.tup (a ++ b))
  | _, _, _ => False
mutual
def Dt.py : Dt → Option PyData
  | .non => some .none
  | .bl b => some (.bool b)
  | .int i => some (.int i)
  | .str x => some (.str x)
  | .lst xs => (pyL xs).map .list
  | .tup xs => (pyL xs).map .tuple
  | _ => none
def pyL : List Dt → Option (List PyData)
  | [] => some []
  | x :: xs => match x.py, pyL xs with
    | some p, some ps => some (p :: ps)
    | _, _ => none
end
def eqS : Dt → Dt → Option Bool
  | .int i, .int j => some (decide (i = j))
  | .str i, .str j => some (decide (i = j))
  | .bl i, .bl j => some (decide (i = j))
  | .non, .non => some true
  | .non, .int _ | .int _, .non | .non, .bl _ | .bl _, .non | .non, .str _ | .str _, .non => some false
  | .int _, .str _ | .str _, .int _ | .bl _, .str _ | .str _, .bl _ => some false
  | _, _ => none
def dEq (x y : Dt) (R : Dt → Prop) : Prop := (∃ b, eqS x y = some b ∧ R (.bl b)) ∨ ∃ p q, x.py = some p ∧ y.py = some q ∧ SeqAt.shaped p = true ∧ SeqAt.shaped q = true ∧ R (.bl (PyData.eqv p q))
def dNe (x y : Dt) (R : Dt → Prop) : Prop := (∃ b, eqS x y = some b ∧ R (.bl (!b))) ∨ ∃ p q, x.py = some p ∧ y.py = some q ∧ SeqAt.shaped p = true ∧ SeqAt.shaped q = true ∧ R (.bl (!PyData.eqv p q))
def isNon : Dt → Bool
  | .non => true
  | _ => false
def dIs (x y : Dt) (R : Dt → Prop) : Prop := y = .non ∧ R (.bl (isNon x))
def dIsnt (x y : Dt) (R : Dt → Prop) : Prop := y = .non ∧ R (.bl (!isNon x))
def flatD : Dt → Bool
  | .non => true
  | .bl _ => true
  | .int _ => true
  | .str _ => true
  | _ => false
def toV : Dt → V
  | .bl b => .bl b
  | .int i => .int i
  | .str x => .str x
  | _ => .non
def dIn (neg : Bool) : Dt → Dt → (Dt → Prop) → Prop
  | x, .str z, R => ∃ c, x = .str ⟨#[c]⟩ ∧ R (.bl (neg ^^ decide (c ∈ z.cps.toList)))
  | x, .lst ds, R => flatD x = true ∧ ds.all flatD = true ∧ R (.bl (neg ^^ inV (toV x) (ds.map toV)))
  | x, .tup ds, R => flatD x = true ∧ ds.all flatD = true ∧ R (.bl (neg ^^ inV (toV x) (ds.map toV)))
  | x, .dK kvs, R => ∃ k, x = kD k ∧ R (.bl ((vA kvs k).isSome ^^ neg))
  | x, .dT kvs, R => ∃ k, x = kDs k ∧ R (.bl ((vA kvs k).isSome ^^ neg))
  | _, _, _ => False
def dIx : Dt → Dt → (Dt → Prop) → Prop
  | .lst ds, y, R => ∃ j v, y = .int j ∧ atI ds j = some v ∧ R v
  | .tup ds, y, R => ∃ j v, y = .int j ∧ atI ds j = some v ∧ R v
  | .scr ns, y, R => ∃ j v, y = .int j ∧ atI ns j = some v ∧ R (.int v)
  | .str z, y, R => ∃ j c, y = .int j ∧ z.length ≤ sizeLine ∧ atI z.cps.toList j = some c ∧ R (.str ⟨#[c]⟩)
  | .dK kvs, y, R => ∃ k v, y = kD k ∧ vA kvs k = some v ∧ R v
  | .dT kvs, y, R => ∃ k v, y = kDs k ∧ vA kvs k = some v ∧ R v
  | _, _, _ => False
def cutD (xs : List Dt) (lo hi : Option Int) : List Dt := (xs.drop (HT.sIx xs.length 0 lo)).take (HT.sIx xs.length xs.length hi - HT.sIx xs.length 0 lo)
def dSl : Dt → Option Int → Option Int → (Dt → Prop) → Prop
  | .lst ds, lo, hi, R => R (.lst (cutD ds lo hi))
  | .tup ds, lo, hi, R => R (.tup (cutD ds lo hi))
  | .str z, lo, hi, R => z.length ≤ sizeLine ∧ R (.str (cutS z lo hi))
  | _, _, _, _ => False
def dLen : List Dt → (Dt → Prop) → Prop
  | [.lst ds], R => R (.int ds.length)
  | [.tup ds], R => R (.int ds.length)
  | [.scr ns], R => R (.int ns.length)
  | [.str z], R => z.length ≤ sizeLine ∧ R (.int z.length)
  | [.dK kvs], R => R (.int kvs.length)
  | [.dT kvs], R => R (.int kvs.length)
  | _, _ => False
def dAbs (ds : List Dt) (R : Dt → Prop) : Prop := ∃ i, ds = [.int i] ∧ R (.int (if i < 0 then -i else i))
def dMax (ds : List Dt) (R : Dt → Prop) : Prop := ∃ i j, ds = [.int i, .int j] ∧ R (.int (if j > i then j else i))
def dMin (ds : List Dt) (R : Dt → Prop) : Prop := ∃ i j, ds = [.int i, .int j] ∧ R (.int (if j < i then j else i))
def dInt : List Dt → (Dt → Prop) → Prop
  | [.int i], R => R (.int i)
  | [.bl b], R => R (.int (if b then 1 else 0))
  | [.str z], R => ∃ n, PySem.intText? z = some n ∧ z.length ≤ 640 ∧ R (.int n)
  | _, _ => False
def dStr (ds : List Dt) (R : Dt → Prop) : Prop := ∃ i, ds = [.int i] ∧ i.natAbs.log2 < 1920 ∧ R (.str (toString i))
def dList : List Dt → (Dt → Prop) → Prop
  | [.lst ds], R => R (.lst ds)
  | [.tup ds], R => R (.lst ds)
  | _, _ => False
def dTuple : List Dt → (Dt → Prop) → Prop
  | [.lst ds], R => R (.tup ds)
  | [.tup ds], R => R (.tup ds)
  | _, _ => False
section
variable {K : PySem.W.Frag}
theorem rd_I {C : Int → Int → Prop} {g : Int → Int → V} {g' : Int → Int → Dt} (hg : ∀ i j G, Rep K G (g i j) (g' i j)) : RD K (rI C g) (dI C g') := fun G H x y dx dy R Q s rx ry ⟨i, j, ex, ey, c, p⟩ q => by
  subst ex ey; cases rx; cases ry
  exact ⟨i, j, rfl, rfl, c, q _ G H _ (Ext.refl s) (hg i j G) p⟩
theorem rd_I0 {g : Int → Int → V} {g' : Int → Int → Dt} (hg : ∀ i j G, Rep K G (g i j) (g' i j)) : RD K (rI0 g) (dI0 g') := fun G H x y dx dy R Q s rx ry ⟨i, j, ex, ey, p⟩ q => by
  subst ex ey; cases rx; cases ry
  exact ⟨i, j, rfl, rfl, q _ G H _ (Ext.refl s) (hg i j G) p⟩
theorem rd_sub : RD K rSubP (dI0 fun i j => .int (i - j)) := rd_I0 fun _ _ _ => .int _
theorem rd_mul : RD K rMulP (dI CMul fun i j => .int (i * j)) := rd_I fun _ _ _ => .int _
theorem rd_fdiv : RD K rFdivP (dI CDiv fun i j => .int (i / j)) := rd_I fun _ _ _ => .int _
theorem rd_mod : RD K rModP (dI (fun _ j => 0 < j) fun i j => .int (i % j)) := rd_I fun _ _ _ => .int _
theorem rd_pow : RD K rPowP (dI CPow fun i j => .int (i ^ j.toNat)) := rd_I fun _ _ _ => .int _
theorem rd_lt : RD K rLtP (dI0 fun i j => .bl (decide (i < j))) := rd_I0 fun _ _ _ => .bl _
theorem rd_le : RD K rLeP (dI0 fun i j => .bl (decide (i ≤ j))) := rd_I0 fun _ _ _ => .bl _
theorem rd_gt : RD K rGtP (dI0 fun i j => .bl (decide (j < i))) := rd_I0 fun _ _ _ => .bl _
theorem rd_ge : RD K rGeP (dI0 fun i j => .bl (decide (j ≤ i))) := rd_I0 fun _ _ _ => .bl _
theorem big_ok {n : Nat} (h : n ≤ 1000000) : n ≤ sizeLine := Nat.le_trans h (by decide)
theorem rd_add : RD K (rAddP K) dAdd := fun G H x y dx dy R Q s rx ry h q => by
  unfold dAdd at h
  split at h
  · cases rx; cases ry
    exact .inl ⟨_, _, rfl, rfl, q _ G H _ (Ext.refl s) (.int _) h⟩
  · cases rx; cases ry
    obtain ⟨l, p⟩ := h
    exact .inr (.inl ⟨_, _, rfl, rfl, l, q _ G H _ (Ext.refl s) (.str _) p⟩)
  · obtain ⟨l, p⟩ := h
    cases rx with
    | lst h1 r1 =>
    cases ry with
    | lst h2 r2 =>
    refine .inr (.inr (.inl ⟨_, _, _, _, rfl, rfl, s _ _ h1, s _ _ h2, by rw [r1.length, r2.length]; exact big_ok l, fun a na => ?_⟩))
    exact q _ _ _ _ (Ext.new s na) (Rep.newL s na (r1.append r2)) p
  · obtain ⟨l, p⟩ := h
    cases rx with
    | @tup a1 xs1 ds1 h1 r1 =>
    cases ry with
    | @tup a2 xs2 ds2 h2 r2 =>
    refine .inr (.inr (.inr ⟨_, _, _, _, rfl, rfl, SqT.of (s _ _ h1), SqT.of (s _ _ h2), by rw [r1.length, r2.length]; exact big_ok l, fun e => ?_, fun _ e => ?_, fun _ _ a na => ?_⟩))
    · subst e; cases r1
      exact q _ G H _ (Ext.refl s) (.tup h2 r2) p
    · subst e; cases r2
      rw [List.append_nil] at p
      exact q _ G H _ (Ext.refl s) (.tup h1 r1) p
    · exact q _ _ _ _ (Ext.new s na) (Rep.newT s na (r1.append r2)) p
  · exact h.elim
mutual
theorem rep_dp {G H : Hp} (s : Same G H) : ∀ {v : V} {d : Dt} {p : PyData}, Rep K G v d → d.py = some p → Dp K H v p
  | _, _, _, .non, h => by simp [Dt.py] at h; subst h; exact .non
  | _, _, _, .bl b, h => by simp [Dt.py] at h; subst h; exact .bl b
  | _, _, _, .int i, h => by simp [Dt.py] at h; subst h; exact .int i
  | _, _, _, .str x, h => by simp [Dt.py] at h; subst h; exact .str x
  | _, _, _, .ty _, h => by simp [Dt.py] at h
  | _, _, _, .ref _, h => by simp [Dt.py] at h
  | _, _, _, .lst ha r, h => by
    simp only [Dt.py, Option.map_eq_some_iff] at h
    obtain ⟨ps, e, rfl⟩ := h
    exact .lst (SqL.of (s _ _ ha)) (reps_dp s r e)
  | _, _, _, .tup ha r, h => by
    simp only [Dt.py, Option.map_eq_some_iff] at h
    obtain ⟨ps, e, rfl⟩ := h
    exact .tup (SqT.of (s _ _ ha)) (reps_dp s r e)
  | _, _, _, .scr _, h => by simp [Dt.py] at h
  | _, _, _, .obj _ _, h => by simp [Dt.py] at h
  | _, _, _, .dK _ _, h => by simp [Dt.py] at h
  | _, _, _, .dT _ _, h => by simp [Dt.py] at h
  | _, _, _, .exc _ _, h => by simp [Dt.py] at h
  | _, _, _, .at_ _, h => by simp [Dt.py] at h
theorem reps_dp {G H : Hp} (s : Same G H) : ∀ {v : List V} {d : List Dt} {p : List PyData}, Reps K G v d → pyL d = some p → DpAll K H v p
  | _, _, _, .nil, h => by simp [pyL] at h; subst h; exact .nil
  | _, _, _, .cons (d := d) (ds := ds) r1 r2, h => by
    simp only [pyL] at h
    cases e1 : d.py with
    | none => rw [e1] at h; cases h
    | some p1 =>
      cases e2 : pyL ds with
      | none => rw [e1, e2] at h; cases h
      | some p2 => rw [e1, e2] at h; cases h; exact .cons (rep_dp s r1 e1) (reps_dp s r2 e2)
end
theorem eqS_ok {G : Hp} {x y : V} {dx dy : Dt} {b : Bool} (rx : Rep K G x dx) (ry : Rep K G y dy) (h : eqS dx dy = some b) : scal x y = true ∧ decide (x = y) = b := by
  cases rx <;> cases ry <;> simp [eqS] at h <;> subst h <;> simp [scal]
theorem rd_eq : RD K (rEqP K) dEq := fun G H x y dx dy R Q s rx ry h q => by
  rcases h with ⟨b, e, p⟩ | ⟨p', q', e1, e2, s1, s2, p⟩
  · obtain ⟨h1, h2⟩ := eqS_ok rx ry e
    exact .inl ⟨h1, by rw [h2]; exact q _ G H _ (Ext.refl s) (.bl b) p⟩
  · exact .inr ⟨p', q', rep_dp s rx e1, rep_dp s ry e2, s1, s2, q _ G H _ (Ext.refl s) (.bl _) p⟩
theorem rd_ne : RD K (rNeP K) dNe := fun G H x y dx dy R Q s rx ry h q => by
  rcases h with ⟨b, e, p⟩ | ⟨p', q', e1, e2, s1, s2, p⟩
  · obtain ⟨h1, h2⟩ := eqS_ok rx ry e
    exact .inl ⟨h1, by rw [h2]; exact q _ G H _ (Ext.refl s) (.bl _) p⟩
  · exact .inr ⟨p', q', rep_dp s rx e1, rep_dp s ry e2, s1, s2, q _ G H _ (Ext.refl s) (.bl _) p⟩
theorem non_ok {G : Hp} {x : V} {dx : Dt} (rx : Rep K G x dx) : decide (x = .non) = isNon dx := by
  cases rx <;> simp [isNon]
theorem rd_is : RD K rIsP dIs := fun G H x y dx dy R Q s rx ry ⟨e, p⟩ q => by
  subst e; cases ry
  exact ⟨rfl, by rw [non_ok rx]; exact q _ G H _ (Ext.refl s) (.bl _) p⟩
theorem rd_isnt : RD K rIsntP dIsnt := fun G H x y dx dy R Q s rx ry ⟨e, p⟩ q => by
  subst e; cases ry
  exact ⟨rfl, by rw [non_ok rx]; exact q _ G H _ (Ext.refl s) (.bl _) p⟩
theorem flat_ok {G : Hp} {x : V} {dx : Dt} (rx : Rep K G x dx) (h : flatD dx = true) : flatV x = true ∧ toV dx = x := by
  cases rx <;> simp [flatD] at h <;> exact ⟨rfl, rfl⟩
theorem flats_ok {G : Hp} : ∀ {xs : List V} {ds : List Dt}, Reps K G xs ds → ds.all flatD = true → xs.all flatV = true ∧ ds.map toV = xs
  | _, _, .nil, _ => ⟨rfl, rfl⟩
  | _, _, .cons r t, h => by
    rw [List.all_cons, Bool.and_eq_true] at h
    obtain ⟨h1, h2⟩ := flat_ok r h.1
    obtain ⟨h3, h4⟩ := flats_ok t h.2
    exact ⟨by rw [List.all_cons, h1, h3]; rfl, by rw [List.map_cons, h2, h4]⟩
theorem rd_in : RD K (rInP K) (dIn false) := fun G H x y dx dy R Q s rx ry h q => by
  unfold dIn at h
  split at h
  · obtain ⟨c, e, p⟩ := h
    subst e; cases rx; cases ry
    exact .inl ⟨c, _, rfl, rfl, q _ G H _ (Ext.refl s) (.bl _) (by simpa using p)⟩
  · obtain ⟨f1, f2, p⟩ := h
    cases ry with
    | lst ha r =>
      obtain ⟨h1, h2⟩ := flat_ok rx f1
      obtain ⟨h3, h4⟩ := flats_ok r f2
      rw [h2, h4] at p
      exact .inr (.inl ⟨_, _, rfl, .inl (SqL.of (s _ _ ha)), h1, h3, q _ G H _ (Ext.refl s) (.bl _) (by simpa using p)⟩)
  · obtain ⟨f1, f2, p⟩ := h
    cases ry with
    | tup ha r =>
      obtain ⟨h1, h2⟩ := flat_ok rx f1
      obtain ⟨h3, h4⟩ := flats_ok r f2
      rw [h2, h4] at p
      exact .inr (.inl ⟨_, _, rfl, .inr (SqT.of (s _ _ ha)), h1, h3, q _ G H _ (Ext.refl s) (.bl _) (by simpa using p)⟩)
  · obtain ⟨k, e, p⟩ := h
    subst e
    cases ry with
    | @dK a ob xs _ ha r =>
      obtain ⟨g1, g2⟩ := r.get k
      rw [kD_inj rx]
      refine .inr (.inr ⟨a, _, rfl, dget_K (ds := []) (.inr ⟨_, s _ _ ha⟩), ?_⟩)
      rw [isSome_val g1 g2]
      exact q _ G H _ (Ext.refl s) (.bl _) p
  · obtain ⟨k, e, p⟩ := h
    subst e
    cases ry with
    | @dT a ob xs _ ha r =>
      obtain ⟨g1, g2⟩ := r.get k
      cases rx with
      | @tup b ys _ hb rb =>
        rw [reps_kD rb] at hb
        refine .inr (.inr ⟨a, _, rfl, dget_T (.inr ⟨_, s _ _ ha⟩) (s _ _ hb), ?_⟩)
        rw [isSome_val g1 g2]
        exact q _ G H _ (Ext.refl s) (.bl _) p
  · exact h.elim
theorem rd_notIn : RD K (rNotInP K) (dIn true) := fun G H x y dx dy R Q s rx ry h q => by
  unfold dIn at h
  split at h
  · obtain ⟨c, e, p⟩ := h
    subst e; cases rx; cases ry
    exact .inl ⟨c, _, rfl, rfl, q _ G H _ (Ext.refl s) (.bl _) (by simpa using p)⟩
  · obtain ⟨f1, f2, p⟩ := h
    cases ry with
    | lst ha r =>
      obtain ⟨h1, h2⟩ := flat_ok rx f1
      obtain ⟨h3, h4⟩ := flats_ok r f2
      rw [h2, h4] at p
      exact .inr (.inl ⟨_, _, rfl, .inl (SqL.of (s _ _ ha)), h1, h3, q _ G H _ (Ext.refl s) (.bl _) (by simpa using p)⟩)
  · obtain ⟨f1, f2, p⟩ := h
    cases ry with
    | tup ha r =>
      obtain ⟨h1, h2⟩ := flat_ok rx f1
      obtain ⟨h3, h4⟩ := flats_ok r f2
      rw [h2, h4] at p
      exact .inr (.inl ⟨_, _, rfl, .inr (SqT.of (s _ _ ha)), h1, h3, q _ G H _ (Ext.refl s) (.bl _) (by simpa using p)⟩)
  · obtain ⟨k, e, p⟩ := h
    subst e
    cases ry with
    | @dK a ob xs _ ha r =>
      obtain ⟨g1, g2⟩ := r.get k
      rw [kD_inj rx]
      refine .inr (.inr ⟨a, _, rfl, dget_K (ds := []) (.inr ⟨_, s _ _ ha⟩), ?_⟩)
      rw [isSome_val g1 g2]
      exact q _ G H _ (Ext.refl s) (.bl _) p
  · obtain ⟨k, e, p⟩ := h
    subst e
    cases ry with
    | @dT a ob xs _ ha r =>
      obtain ⟨g1, g2⟩ := r.get k
      cases rx with
      | @tup b ys _ hb rb =>
        rw [reps_kD rb] at hb
        refine .inr (.inr ⟨a, _, rfl, dget_T (.inr ⟨_, s _ _ ha⟩) (s _ _ hb), ?_⟩)
        rw [isSome_val g1 g2]
        exact q _ G H _ (Ext.refl s) (.bl _) p
  · exact h.elim
theorem atI_rep {G : Hp} {xs : List V} {ds : List Dt} {j : Int} {d : Dt} (r : Reps K G xs ds) (h : atI ds j = some d) : ∃ v, atI xs j = some v ∧ Rep K G v d := by
  unfold atI at h ⊢
  rw [r.length]
  cases e : ixN ds.length j with
  | none => rw [e] at h; cases h
  | some k =>
    rw [e] at h
    exact r.get (i := k) h
theorem rd_ix : RD K (rIxP K) dIx := fun G H x y dx dy R Q s rx ry h q => by
  unfold dIx at h
  split at h
  · obtain ⟨j, d, e, ha, p⟩ := h
    subst e; cases ry
    cases rx with
    | lst hh r =>
      obtain ⟨v, hv, rv⟩ := atI_rep r ha
      exact .inl (.inl ⟨_, _, _, v, rfl, rfl, SqL.of (s _ _ hh), hv, q _ G H _ (Ext.refl s) rv p⟩)
  · obtain ⟨j, d, e, ha, p⟩ := h
    subst e; cases ry
    cases rx with
    | tup hh r =>
      obtain ⟨v, hv, rv⟩ := atI_rep r ha
      exact .inl (.inr (.inl ⟨_, _, _, v, rfl, rfl, SqT.of (s _ _ hh), hv, q _ G H _ (Ext.refl s) rv p⟩))
  · obtain ⟨j, d, e, ha, p⟩ := h
    subst e; cases ry
    cases rx with
    | scr hh =>
      refine .inl (.inl ⟨_, _, _, .int d, rfl, rfl, s.seq hh, ?_, q _ G H _ (Ext.refl s) (.int d) p⟩)
      unfold atI at ha ⊢
      rw [List.length_map]
      cases e : ixN _ j with
      | none => rw [e] at ha; cases ha
      | some k =>
        rw [e] at ha
        show (List.map V.int _)[k]? = _
        rw [List.getElem?_map]
        have ha' : (some k).bind (fun j => (_ : List Int)[j]?) = some d := ha
        rw [Option.bind_some] at ha'
        rw [ha']; rfl
  · obtain ⟨j, c, e, l, ha, p⟩ := h
    subst e; cases ry; cases rx
    exact .inl (.inr (.inr ⟨_, _, c, rfl, rfl, l, ha, q _ G H _ (Ext.refl s) (.str _) p⟩))
  · obtain ⟨k, d, e, hv, p⟩ := h
    subst e
    cases rx with
    | @dK a ob xs _ ha r =>
      obtain ⟨v, ev, rv⟩ := (r.get k).1 d hv
      rw [kD_inj ry]
      exact .inr ⟨a, v, rfl, by rw [← ev]; exact dget_K (ds := []) (.inr ⟨_, s _ _ ha⟩), q _ G H _ (Ext.refl s) rv p⟩
  · obtain ⟨k, d, e, hv, p⟩ := h
    subst e
    cases rx with
    | @dT a ob xs _ ha r =>
      obtain ⟨v, ev, rv⟩ := (r.get k).1 d hv
      cases ry with
      | @tup b ys _ hb rb =>
        rw [reps_kD rb] at hb
        exact .inr ⟨a, v, rfl, by rw [← ev]; exact dget_T (.inr ⟨_, s _ _ ha⟩) (s _ _ hb), q _ G H _ (Ext.refl s) rv p⟩
  · exact h.elim
theorem cut_rep {G : Hp} {xs : List V} {ds : List Dt} (r : Reps K G xs ds) (lo hi : Option Int) : Reps K G (cutV xs lo hi) (cutD ds lo hi) := by
  unfold cutV cutD
  rw [r.length]
  exact (r.drop _).take _
theorem cut_whole {G : Hp} {xs : List V} {ds : List Dt} {lo hi : Option Int} (r : Reps K G xs ds) (e : HT.sIx xs.length 0 lo = 0 ∧ HT.sIx xs.length xs.length hi = xs.length) : Reps K G xs (cutD ds lo hi) := by
  have c := cut_rep r lo hi
  unfold cutV at c
  rw [e.1, e.2, Nat.sub_zero, List.drop_zero, List.take_length] at c
  exact c
theorem rdc_len : RDC K (rLenP K) dLen := fun G H xs ds R Q s r h q => by
  unfold dLen at h
  split at h
  · cases r with
    | cons r1 r2 => cases r2; cases r1 with
      | lst ha rr => exact .inl ⟨_, _, rfl, .inl ⟨_, SqL.of (s _ _ ha), rfl⟩, q _ G H _ (Ext.refl s) (.int _) (by rw [rr.length]; exact h)⟩
  · cases r with
    | cons r1 r2 => cases r2; cases r1 with
      | tup ha rr => exact .inl ⟨_, _, rfl, .inr ⟨_, SqT.of (s _ _ ha), rfl⟩, q _ G H _ (Ext.refl s) (.int _) (by rw [rr.length]; exact h)⟩
  · cases r with
    | cons r1 r2 => cases r2; cases r1 with
      | scr ha => exact .inl ⟨_, _, rfl, .inl ⟨_, s.seq ha, rfl⟩, q _ G H _ (Ext.refl s) (.int _) (by rw [List.length_map]; exact h)⟩
  · obtain ⟨l, p⟩ := h
    cases r with
    | cons r1 r2 => cases r2; cases r1; exact .inl ⟨_, _, rfl, ⟨l, rfl⟩, q _ G H _ (Ext.refl s) (.int _) p⟩
  · cases r with
    | cons r1 r2 => cases r2; cases r1 with
      | dK ha rr => exact .inr ⟨_, rfl, .inl ⟨_, .inr ⟨_, s _ _ ha⟩, q _ G H _ (Ext.refl s) (.int _) (by rw [rr.length]; exact h)⟩⟩
  · cases r with
    | cons r1 r2 => cases r2; cases r1 with
      | dT ha rr => exact .inr ⟨_, rfl, .inr ⟨_, .inr ⟨_, s _ _ ha⟩, q _ G H _ (Ext.refl s) (.int _) (by rw [rr.length]; exact h)⟩⟩
  · exact h.elim
theorem rdc_abs : RDC K rAbsP dAbs := fun G H xs ds R Q s r ⟨i, e, p⟩ q => by
  subst e
  cases r with
  | cons r1 r2 => cases r1; cases r2; exact ⟨i, rfl, q _ G H _ (Ext.refl s) (.int _) p⟩
theorem rdc_max : RDC K rMaxP dMax := fun G H xs ds R Q s r ⟨i, j, e, p⟩ q => by
  subst e
  cases r with
  | cons r1 r2 => cases r2 with
    | cons r2 r3 => cases r1; cases r2; cases r3; exact ⟨i, j, rfl, q _ G H _ (Ext.refl s) (.int _) p⟩
theorem rdc_min : RDC K rMinP dMin := fun G H xs ds R Q s r ⟨i, j, e, p⟩ q => by
  subst e
  cases r with
  | cons r1 r2 => cases r2 with
    | cons r2 r3 => cases r1; cases r2; cases r3; exact ⟨i, j, rfl, q _ G H _ (Ext.refl s) (.int _) p⟩
theorem rdc_int : RDC K rIntP dInt := fun G H xs ds R Q s r h q => by
  unfold dInt at h
  split at h
  · cases r with
    | cons r1 r2 => cases r1; cases r2; exact .inl (.inl ⟨_, rfl, q _ G H _ (Ext.refl s) (.int _) h⟩)
  · cases r with
    | cons r1 r2 => cases r1; cases r2; exact .inl (.inr ⟨_, rfl, q _ G H _ (Ext.refl s) (.int _) h⟩)
  · obtain ⟨n, e, l, p⟩ := h
    cases r with
    | cons r1 r2 => cases r1; cases r2; exact .inr ⟨_, n, rfl, e, l, q _ G H _ (Ext.refl s) (.int _) p⟩
  · exact h.elim
theorem rdc_str : RDC K rStrP dStr := fun G H xs ds R Q s r ⟨i, e, l, p⟩ q => by
  subst e
  cases r with
  | cons r1 r2 => cases r1; cases r2; exact ⟨i, rfl, l, q _ G H _ (Ext.refl s) (.str _) p⟩
theorem rdc_list : RDC K (rListP K) dList := fun G H xs ds R Q s r h q => by
  unfold dList at h
  split at h
  · cases r with
    | cons r1 r2 => cases r2; cases r1 with
      | lst ha rr => exact ⟨_, _, rfl, .inl (SqL.of (s _ _ ha)), fun a na => q _ _ _ _ (Ext.new s na) (Rep.newL s na rr) h⟩
  · cases r with
    | cons r1 r2 => cases r2; cases r1 with
      | tup ha rr => exact ⟨_, _, rfl, .inr (SqT.of (s _ _ ha)), fun a na => q _ _ _ _ (Ext.new s na) (Rep.newL s na rr) h⟩
  · exact h.elim
theorem rdc_tuple : RDC K (rTupleP K) dTuple := fun G H xs ds R Q s r h q => by
  unfold dTuple at h
  split at h
  · cases r with
    | cons r1 r2 => cases r2; cases r1 with
      | lst ha rr => exact ⟨_, _, rfl, .inl ⟨SqL.of (s _ _ ha), fun a na => q _ _ _ _ (Ext.new s na) (Rep.newT s na rr) h⟩⟩
  · cases r with
    | cons r1 r2 => cases r2; cases r1 with
      | tup ha rr => exact ⟨_, _, rfl, .inr ⟨SqT.of (s _ _ ha), q _ G H _ (Ext.refl s) (.tup ha rr) h⟩⟩
  · exact h.elim
end
section
variable {K : PySem.W.Frag} {W : WX} {Γ : Gm} {X : XP} {P : Dt → Gm → Prop} {te ta tb : TE} {i : Nat} {PP : Po}
def EvP (K : PySem.W.Frag) (W : WX) (tp : TO) (Γ : Gm) (P : Option Int → Gm → Prop) (X : XP) : Prop :=
  ∀ (O G H : Hp) (σ : St) (Q : Option Int → Hp → Prop), Sta K O G H σ Γ →
    (∀ (o : Option Int) (G2 H2 : Hp) (Γ2 : Gm), Same G G2 → Sta K O G2 H2 σ Γ2 → P o Γ2 → Q o H2) → XOk K W O G σ X → tp σ H Q
theorem ep_none {P : Option Int → Gm → Prop} (p : P none Γ) : EvP K W tNoPart Γ P X := fun O G H σ Q S q _ => q none G H Γ (Same.refl _) S p
theorem ep_some {P : Option Int → Gm → Prop} (h : Ev K W te Γ (fun d Γ1 => ∃ j, d = .int j ∧ P (some j) Γ1) X) : EvP K W (tPart te) Γ P X := fun O G H σ Q S q x =>
  h O G H σ _ S (fun v G1 H1 Γ1 d s1 S1 r ⟨j, e, p⟩ => by subst e; cases r; exact ⟨j, rfl, q (some j) G1 H1 Γ1 s1 S1 p⟩) x
theorem ev_sl {lo hi : TO} (h : Ev K W te Γ (fun d Γ1 => EvP K W lo Γ1 (fun l Γ2 => EvP K W hi Γ2 (fun u Γ3 => dSl d l u fun z => P z Γ3) X) X) X) : Ev K W (tSl (rSlP K) te lo hi) Γ P X := fun O G H σ Q S q x =>
  h O G H σ _ S (fun v G1 H1 Γ1 d s1 S1 r h1 => h1 O G1 H1 σ _ S1 (fun l G2 H2 Γ2 s2 S2 h2 => h2 O G2 H2 σ _ S2 (fun u G3 H3 Γ3 s3 S3 h3 => by
    have r3 := (r.mono s2).mono s3
    have s13 := (s1.trans s2).trans s3
    have h3 : dSl d l u fun z => P z Γ3 := h3
    unfold dSl at h3
    split at h3
    · cases r3 with
      | lst ha rr => exact .inl ⟨_, _, rfl, SqL.of (S3.g _ _ ha), fun a na => q _ _ _ Γ3 _ (s13.trans (Ext.new S3.g na).g) (S3.ext (Ext.new S3.g na)) (Rep.newL S3.g na (cut_rep rr _ _)) h3⟩
    · cases r3 with
      | @tup ad xs _ ha rr =>
        refine .inr (.inl ⟨_, _, rfl, SqT.of (S3.g _ _ ha), fun e => ?_, fun _ a na => q _ _ _ Γ3 _ (s13.trans (Ext.new S3.g na).g) (S3.ext (Ext.new S3.g na)) (Rep.newT S3.g na (cut_rep rr _ _)) h3⟩)
        exact q _ G3 H3 Γ3 _ s13 S3 (.tup ha (cut_whole rr e)) h3
    · cases r3
      exact .inr (.inr ⟨_, rfl, h3.1, q _ G3 H3 Γ3 _ s13 S3 (.str _) h3.2⟩)
    · exact h3.elim) ((x.mono s1).mono s2)) (x.mono s1)) x
theorem ev_ixO {a : Addr} {ds : List Dt} (h : Ev K W te Γ (fun y Γ1 => ∃ a ds j v, Γ1[i]? = some (some (.ol a ds)) ∧ y = .int j ∧ atI ds j = some v ∧ P v Γ1) X) (hi : Γ[i]? = some (some (.ol a ds))) : Ev K W (tOp (rIxP K) (tVar i) te) Γ P X := fun O G H σ Q S q x => by
  obtain ⟨v0, e0, o0⟩ := S.get hi
  refine ⟨v0, e0, h O G H σ _ S (fun v G1 H1 Γ1 d s1 S1 r ⟨a, ds, j, u, hg, ey, ha, p⟩ => ?_) x⟩
  obtain ⟨v1, e1, o1⟩ := S1.get hg
  rw [e0] at e1
  obtain rfl : v0 = v1 := Option.some.inj (Option.some.inj e1)
  subst ey; cases r
  cases o1 with
  | ol hh rr =>
    obtain ⟨w, hw, rw'⟩ := atI_rep rr ha
    exact .inl (.inl ⟨_, _, _, w, rfl, rfl, SqL.of hh, hw, q w G1 H1 Γ1 u s1 S1 rw' p⟩)
theorem ev_lenO {a : Addr} {ds : List Dt} (hi : Γ[i]? = some (some (.ol a ds))) (p : P (.int ds.length) Γ) : Ev K W (tCB (rLenP K) (tCons (tVar i) tNil)) Γ P X := fun O G H σ Q S q x => by
  obtain ⟨v0, e0, o0⟩ := S.get hi
  cases o0 with
  | ol hh rr => exact ⟨_, e0, .inl ⟨_, _, rfl, .inl ⟨_, SqL.of hh, rfl⟩, q _ G H Γ _ (Same.refl _) S (.int _) (by rw [rr.length]; exact p)⟩⟩
theorem Sta.mutL {O G H : Hp} {σ : St} {a : Addr} {ds es : List Dt} {ys : List V} (S : Sta K O G H σ Γ) (hi : Γ[i]? = some (some (.ol a ds))) (r : Reps K G ys es) : Sta K O G (upd H a (.lst ys)) σ (Γ.set i (some (.ol a es))) := by
  obtain ⟨v, e, o⟩ := S.get hi
  have ev : v = .ref a := o.adr rfl
  subst ev
  have ma : a ∈ fps Γ := mem_fps hi a (by simp [Sl.fp])
  have ga := S.ng a ma
  have oa := S.no a ma
  obtain ⟨m1, m2⟩ := fps_part hi S.nd
  have na : a ∉ fps (Γ.set i none) := m2 a (by simp [Sl.fp])
  have il : i < σ.length := by
    rcases Nat.lt_or_ge i σ.length with z | z
    · exact z
    · rw [List.getElem?_eq_none z] at e; cases e
  have Sf := S.forget i (some (.ref a))
  have es' : σ.set i (some (.ref a)) = σ := by
    apply List.ext_getElem?
    intro j
    rw [List.getElem?_set]
    by_cases hj : i = j
    · subst hj; rw [if_pos rfl, e, if_pos il]
    · rw [if_neg hj]
  rw [es'] at Sf
  have T : Sta K O G (upd H a (.lst ys)) σ (Γ.set i none) := by
    refine ⟨fun b u q => ?_, fun b u q => ?_, Sf.d, Sf.sl.mono (Same.refl _) fun b hb u q => ?_, Sf.nd, Sf.ng, Sf.no, Sf.om⟩
    · rw [upd_ne (ne_of_none q ga)]; exact S.g b u q
    · rw [upd_ne (ne_of_none q oa)]; exact S.o b u q
    · rw [upd_ne (fun z : b = a => na (by rw [← z]; exact hb))]; exact q
  have T2 := (T.push (v := .ref a) (s := .ol a es) (.ol upd_same r) (by simp [Sl.fp]) (fun b hb => by simp [Sl.fp] at hb; subst hb; exact ga) (fun b hb => by simp [Sl.fp] at hb; subst hb; exact oa) (fun b hb => by simp [Sl.fp] at hb; subst hb; exact na)).put i
  rw [es', List.set_set] at T2
  exact T2
theorem go_setO {ti : TE} {a0 : Addr} {ds0 : List Dt} (h : Ev K W te Γ (fun v Γ1 => ∃ a ds, Γ1[i]? = some (some (.ol a ds)) ∧ Ev K W ti Γ1 (fun y Γ2 => ∃ a ds k j, Γ2[i]? = some (some (.ol a ds)) ∧ y = .int k ∧ ixN ds.length k = some j ∧ PP.nx (Γ2.set i (some (.ol a (ds.set j v))))) PP.xc) PP.xc) :
    Go K W (tAsg te (gSub (tVar i) ti rSetL)) Γ PP := fun O G H σ D S a b c d e =>
  h O G H σ _ S (fun v G1 H1 Γ1 dv s1 S1 r ⟨a1, ds1, hg1, h1⟩ => by
    obtain ⟨v1, e1, o1⟩ := S1.get hg1
    have z1 := o1.adr rfl
    subst z1
    refine ⟨_, e1, h1 O G1 H1 σ _ S1 (fun u G2 H2 Γ2 dy s2 S2 r2 ⟨a2, ds2, k, j, hg2, ey, hj, p⟩ => ?_) ((e σ).mono s1)⟩
    obtain ⟨v2, e2, o2⟩ := S2.get hg2
    rw [e1] at e2
    obtain rfl : V.ref a1 = v2 := Option.some.inj (Option.some.inj e2)
    have z2 := o2.adr rfl
    cases z2
    subst ey; cases r2
    cases o2 with
    | ol hh rr =>
      refine ⟨_, _, k, j, rfl, rfl, hh, by rw [rr.length]; exact hj, ?_⟩
      exact a G2 _ σ _ (s1.trans s2) (S2.mutL hg2 (rr.set j (r.mono s2))) p) (e σ)
theorem go_append {a0 : Addr} {ds0 : List Dt} (hi : Γ[i]? = some (some (.ol a0 ds0))) (h : Ev K W te Γ (fun v Γ1 => ∃ a ds, Γ1[i]? = some (some (.ol a ds)) ∧ ds.length < 1000000 ∧ PP.nx (Γ1.set i (some (.ol a (ds ++ [v]))))) PP.xc) :
    Go K W (tDrop (tBM K "list" rAppend (tVar i) (tCons te tNil))) Γ PP := fun O G H σ D S a b c d e => by
  obtain ⟨v0, e0, o0⟩ := S.get hi
  have z0 := o0.adr rfl
  subst z0
  cases o0 with
  | ol hh0 rr0 =>
  refine ⟨_, e0, .inl ⟨rfl, _, SqL.of hh0⟩, h O G H σ _ S (fun v G1 H1 Γ1 dv s1 S1 r ⟨a1, ds1, hg, hl, p⟩ => ?_) (e σ)⟩
  obtain ⟨v1, e1, o1⟩ := S1.get hg
  rw [e0] at e1
  obtain rfl := Option.some.inj (Option.some.inj e1)
  have z1 := o1.adr rfl
  cases z1
  cases o1 with
  | ol hh rr =>
    refine ⟨_, _, _, rfl, rfl, hh, by rw [rr.length]; exact Nat.lt_of_lt_of_le hl (by decide), ?_⟩
    exact a G1 _ σ _ s1 (S1.mutL hg (rr.append (.cons r .nil))) p
theorem go_extend {a0 : Addr} {ds0 : List Dt} (hi : Γ[i]? = some (some (.ol a0 ds0))) (h : Ev K W te Γ (fun v Γ1 => ∃ a ds es, v = .lst es ∧ Γ1[i]? = some (some (.ol a ds)) ∧ ds.length + es.length ≤ 1000000 ∧ PP.nx (Γ1.set i (some (.ol a (ds ++ es))))) PP.xc) :
    Go K W (tDrop (tBM K "list" rExtend (tVar i) (tCons te tNil))) Γ PP := fun O G H σ D S a b c d e => by
  obtain ⟨v0, e0, o0⟩ := S.get hi
  have z0 := o0.adr rfl
  subst z0
  cases o0 with
  | ol hh0 rr0 =>
  refine ⟨_, e0, .inl ⟨rfl, _, SqL.of hh0⟩, h O G H σ _ S (fun v G1 H1 Γ1 dv s1 S1 r ⟨a1, ds1, es, ev, hg, hl, p⟩ => ?_) (e σ)⟩
  subst ev
  obtain ⟨v1, e1, o1⟩ := S1.get hg
  rw [e0] at e1
  obtain rfl := Option.some.inj (Option.some.inj e1)
  have z1 := o1.adr rfl
  cases z1
  cases o1 with
  | ol hh rr =>
    cases r with
    | lst hb rb =>
      refine ⟨_, _, _, _, rfl, rfl, hh, S1.g _ _ hb, by rw [rr.length, rb.length]; exact big_ok hl, ?_⟩
      exact a G1 _ σ _ s1 (S1.mutL hg (rr.append rb)) p
theorem Sta.unpack {O G H : Hp} {σ : St} {a : Addr} {φ : List Dt → Prop} (S : Sta K O G H σ Γ) (hi : Γ[i]? = some (some (.os a φ))) : ∃ ds, φ ds ∧ Sta K O G H σ (Γ.set i (some (.ol a ds))) := by
  obtain ⟨v, e, o⟩ := S.get hi
  cases o with
  | @os a xs ds _ hh rr hp =>
    refine ⟨ds, hp, ?_⟩
    obtain ⟨m1, m2⟩ := fps_part hi S.nd
    have il : i < σ.length := by
      rcases Nat.lt_or_ge i σ.length with z | z
      · exact z
      · rw [List.getElem?_eq_none z] at e; cases e
    have Sf := S.forget i (some (.ref a))
    have es' : σ.set i (some (.ref a)) = σ := by
      apply List.ext_getElem?
      intro j
      rw [List.getElem?_set]
      by_cases hj : i = j
      · subst hj; rw [if_pos rfl, e, if_pos il]
      · rw [if_neg hj]
    rw [es'] at Sf
    have ma : a ∈ fps Γ := mem_fps hi a (by simp [Sl.fp])
    have T2 := (Sf.push (v := .ref a) (s := .ol a ds) (.ol hh rr) (by simp [Sl.fp]) (fun b hb => by simp [Sl.fp] at hb; subst hb; exact S.ng _ ma) (fun b hb => by simp [Sl.fp] at hb; subst hb; exact S.no _ ma) (fun b hb => by simp [Sl.fp] at hb; subst hb; exact m2 _ (by simp [Sl.fp]))).put i
    rw [es', List.set_set] at T2
    exact T2
theorem go_unpack {t : TS} {a : Addr} {φ : List Dt → Prop} (hi : Γ[i]? = some (some (.os a φ))) (h : ∀ ds, φ ds → Go K W t (Γ.set i (some (.ol a ds))) PP) : Go K W t Γ PP := fun O G H σ D S => by
  obtain ⟨ds, hp, S2⟩ := S.unpack hi
  exact h ds hp O G H σ D S2
end
end DL
namespace L2
open PySem PySem.Spec PyProof.Rows
theorem Inv.track {X : Cx} {pins : List (Addr × Obj)} {σ : St} {H : Hp} {s : Shared} {a C : Addr} {d : Option Addr} {oe : Obj} {vs : Array Value} (I : Inv X pins σ H s) (ha : s.heap.get? a = some oe) (hz : Zc (.ref C) d oe) (hd : oe.data = .fields vs) (na : H a = none)
    (n0 : X.s_0.heap.get? a = none) (nL : a ≠ X.env.locals) (nC : ∀ x c, X.env.cells.lookup x = some c → c ≠ a) (nP : ∀ p ∈ X.pn ++ pins, p.1 ≠ a) : Inv X pins σ (upd H a (DL.ExK C d a)) s := by
  have b0 : ∀ b o, X.s_0.heap.get? b = some o → b ≠ a := fun b o e z => by rw [z, n0] at e; cases e
  have keep : ∀ b o, H b = some o → upd H a (DL.ExK C d a) b = some o := fun b o e => by rw [upd_ne (ne_of_none e na)]; exact e
  refine ⟨I.ok, I.os, I.bare, ⟨I.base.keep, I.base.slot, fun b o e n hx => ?_, I.base.there, fun b xs e => keep _ _ (I.base.tups b xs e), fun b o u e => keep _ _ (I.base.frzs b o u e), fun b ps e => ?_⟩, I.loc, I.cell, ?_, fun x c e => ?_, fun p hp => ?_, fun b o e => ?_, I.len⟩
  · rw [upd_ne (b0 b o e)]; exact I.base.free b o e n hx
  · obtain ⟨m, e⟩ := I.base.tbls b ps e
    exact ⟨m, keep _ _ e⟩
  · rw [upd_ne (Ne.symm nL)]; exact I.free
  · rw [upd_ne (nC x c e)]; exact I.freeC x c e
  · obtain ⟨e1, e2, e3⟩ := I.pin p hp
    exact ⟨e1, by rw [upd_ne (nP p hp)]; exact e2, e3⟩
  · by_cases hb : b = a
    · subst hb
      rw [upd_same] at e
      cases e
      exact ⟨⟨oe, vs, ha, hz, hd⟩, ⟨oe, ha⟩, fun h1 h2 ⟨o, v, e1, r⟩ k => ⟨o, v, k o e1, r⟩⟩
    · rw [upd_ne hb] at e
      exact (I.hok b o e).stay (fun c v _ q => q) (fun c q => keep _ _ q) fun c xs q => keep _ _ q
structure Hdl where
  c : Value
  i : Option Nat
  ts : Addr → Value → Option Addr → TS
def slotOff (i : Option Nat) (σ : St) : St := match i with
  | none => σ
  | some i => σ.set i none
def slotOn (i : Option Nat) (a : Addr) (σ : St) : St := match i with
  | none => σ
  | some i => σ.set i (some (.ref a))
def trkE (cls : Value) (d : Option Addr) (a : Addr) (H : Hp) : Hp := match cls with
  | .ref C => upd H a (DL.ExK C d a)
  | _ => H
def wHds (K : PySem.W.Frag) (Wout : WX) (D : Ends) : List Hdl → WX
  | [] => Wout
  | h :: r => fun cls d σ H => ∃ b, PySem.W.exmOne K cls h.c = some b ∧ (b = true → ∀ a, H a = none → h.ts a cls d { nx := fun σ' H' => H' a = none → D.nx (slotOff h.i σ') (trkE cls d a H'), rt := fun v H' => H' a = none → D.rt v (trkE cls d a H'), bk := fun σ' H' => H' a = none → D.bk (slotOff h.i σ') (trkE cls d a H'), ct := fun σ' H' => H' a = none → D.ct (slotOff h.i σ') (trkE cls d a H') } (slotOn h.i a σ) H) ∧
    (b = false → wHds K Wout D r cls d σ H)
def tTry (K : PySem.W.Frag) (Wout : WX) (l : List Hdl) (tb : WX → TS) : TS := fun D σ H => tb (wHds K Wout D l) D σ H
inductive HdlOk (X : Cx) : List ExceptHandler → List Hdl → Prop
  | nil : HdlOk X [] []
  | cons {x : Str} {c : Value} {ts : Addr → Value → Option Addr → TS} {b₀ : Stmt} {suite : List Stmt} {np pos' : Pos} {hds : List ExceptHandler} {l : List Hdl} (hc : Names X x c)
      (hsu : ∀ (a : Addr) (oe : Obj) (cls : Value) (d : Option Addr) (pn : List (Addr × Obj)), Zc cls d oe → (∃ vs, oe.data = .fields vs) → PSs (X.suite a ((a, oe) :: pn)) (b₀ :: suite) (ts a cls d)) (r : HdlOk X hds l) :
      HdlOk X (.ExceptHandler (some (.Name x np)) none (b₀ :: suite) pos' :: hds) (⟨c, none, ts⟩ :: l)
  | named {x n : Str} {i : Nat} {c : Value} {ts : Addr → Value → Option Addr → TS} {b₀ : Stmt} {suite : List Stmt} {np pos' : Pos} {hds : List ExceptHandler} {l : List Hdl} (hc : Names X x c) (hi : X.N[i]? = some n) (hln : X.env.kindOf n = some .local)
      (hsu : ∀ (a : Addr) (oe : Obj) (cls : Value) (d : Option Addr) (pn : List (Addr × Obj)), Zc cls d oe → (∃ vs, oe.data = .fields vs) → PSs (X.suite a ((a, oe) :: pn)) (b₀ :: suite) (ts a cls d)) (r : HdlOk X hds l) :
      HdlOk X (.ExceptHandler (some (.Name x np)) (some n) (b₀ :: suite) pos' :: hds) (⟨c, some i, ts⟩ :: l)
section
variable {X : Cx} {body : List Stmt} {h₀ : ExceptHandler} {hds : List ExceptHandler} {l : List Hdl} {pos : Pos} {tb : WX → TS} {Wout : WX}
theorem ps_try_h (hex : X.ex = []) (hs : X.stack = X.env :: X.outer) (hf : X.env.frame = some X.env.locals) (hN : X.N.Nodup) (tk : Takes X Wout)
    (hb : ∀ (W : WX) (pn : List (Addr × Obj)) (xe : Value → Shared → Prop), Takes (X.tr pn xe) W → PassesOwn (model X.prog X.w) X.A X.env xe → PSs (X.tr pn xe) body (tb W))
    (hh : HdlOk X (h₀ :: hds) l) : PS X (.Try body (h₀ :: hds) [] [] pos) (tTry X.K Wout l tb) := by
  refine ⟨fun pins s σ H D I h => ?_⟩
  have ok := I.ok
  have hfr : X.A.frames = some (X.env :: X.outer) := by rw [ok.frames, hs]
  refine wpAny_Try_except ?_
  refine wpAny_mono ((hb (wHds X.K Wout D l) (X.pn ++ pins) (fun e s₁ => wpAny (model X.prog X.w) X.A (noteFrame e X.env) (fun _ s₂ => wpAny (model X.prog X.w) X.A (setFlight e none) (fun _ s₃ =>
    wpAny (model X.prog X.w) X.A (handleBy e X.env (h₀ :: hds)) (SP X pins D) X.xe s₃) X.xe s₂) X.xe s₁) (fun u s' xx => ?_) PassesOwn.looking).run [] s σ H D (I.toTry _) h) (fun f s1 hsp => ?_) (fun e s1 he => he)
  · -- the catch
    obtain ⟨a, B, sI, pins', σ', H', cls, d, rfl, J', nb, up, sky, na, os, ag, w⟩ := xx
    have J : Inv X pins σ' H' sI := J'.ofTry ok
    have sky' : Sky B (X.env :: X.outer) a (Zc cls d) X.env.locals s'.heap := by rw [← hs]; exact sky
    show wpAny (model X.prog X.w) X.A (noteFrame (.ref a) X.env) _ _ _
    refine Sky.land Zc.steady hfr hf sky' fun h3 fl3 up3 => ?_
    have J3 : Inv X pins σ' H' { s' with heap := h3 } := J.landed nb fl3.1 (up.trans up3) os ag
    obtain ⟨oe3, vs3, he3, hz3, hd3⟩ := fl3.there
    have notFr : ∀ {h : Heap} {o : Obj} {vs : Array Value}, h.FunFrames B (X.env :: X.outer) → h.get? a = some o → o.data = .fields vs → a ∉ frs (X.env :: X.outer) := fun {h o vs} ff e dd hm => by
      obtain ⟨_, o', e', hnf⟩ := ff.mem hm
      rw [e] at e'; cases e'
      exact hnf _ dd
    have nfr := notFr fl3.2.2.1 he3 hd3
    have nL : a ≠ X.env.locals := fun z => nfr (List.mem_filterMap.mpr ⟨X.env, List.mem_cons_self, by rw [hf, z]⟩)
    have nF : a ∉ X.fs := fun hm => by
      obtain ⟨e, he, q⟩ := List.mem_filterMap.mp hm
      exact nfr (List.mem_filterMap.mpr ⟨e, List.mem_cons_of_mem _ he, q⟩)
    have S3 := J3.suite he3 hd3 na nL nF
    have nB : B.get? a = none := fl3.2.1
    have nI : sI.heap.get? a = none := by
      cases e : sI.heap.get? a with
      | none => rfl
      | some o =>
        have z := nb a o e (by rw [hs]; exact nfr)
        rw [nB] at z; cases z
    have n0 : X.s_0.heap.get? a = none := by
      cases e : X.s_0.heap.get? a with
      | none => rfl
      | some o =>
        obtain ⟨o', z⟩ := J.base.there a o e (by rw [hex]; exact fun z => nomatch z)
        rw [nI] at z; cases z
    have nC : ∀ x c, X.env.cells.lookup x = some c → c ≠ a := fun x c e z => by
      obtain ⟨v, o, ho, _⟩ := J.cell x c e
      rw [z, nI] at ho; cases ho
    have nP : ∀ p ∈ X.pn ++ pins, p.1 ≠ a := fun p hp z => by
      obtain ⟨e, _⟩ := J.pin p hp
      rw [z, nI] at e; cases e
    have fin : ∀ {oe : Obj} {vs : Array Value} {σ6 : St} {H6 : Hp} {s6 : Shared}, Zc cls d oe → oe.data = .fields vs → Inv X ((a, oe) :: pins) σ6 H6 s6 → Inv X pins σ6 (trkE cls d a H6) s6 := fun {oe vs σ6 H6 s6} hz hd I6 => by
      obtain ⟨e1, e2, _⟩ := I6.pin (a, oe) (List.mem_append_right _ List.mem_cons_self)
      have I7 : Inv X pins σ6 H6 s6 := I6.pins_of fun p hp => I6.pin p (List.mem_append_right _ (List.mem_cons_of_mem _ hp))
      unfold trkE
      cases cls with
      | ref C => exact I7.track e1 hz hd e2 n0 nL nC nP
      | _ => exact I7
    have gone : ∀ {oe : Obj} {σ6 : St} {H6 : Hp} {s6 : Shared}, Inv X ((a, oe) :: pins) σ6 H6 s6 → H6 a = none := fun I6 => (I6.pin _ (List.mem_append_right _ List.mem_cons_self)).2.1
    have keepP : ∀ {oe : Obj} {σ6 : St} {H6 : Hp} {s6 : Shared}, Inv (X.suite a ((a, oe) :: (X.pn ++ pins))) [] σ6 H6 s6 → Inv X ((a, oe) :: pins) σ6 H6 s6 := fun {oe σ6 H6 s6} S6 =>
      (S6.unsuite ok).pins_of fun p hp => by
        refine S6.pin p ?_
        rcases List.mem_cons.mp hp with rfl | hp
        · exact List.mem_append_left _ List.mem_cons_self
        · exact List.mem_append_left _ (List.mem_cons_of_mem _ (List.mem_append_right _ hp))
    have test : ∀ {x : Str} {c : Value} {np : Pos}, Names X x c → ∀ {Q : Value → Shared → Prop} {E : Value → Shared → Prop}, Q c { s' with heap := h3 } → wpAny (model X.prog X.w) (X.A.mark (some (.ref a))) (eval (.Name x np) X.env) Q E { s' with heap := h3 } := fun {x c np} hc {Q E} q => by
      obtain ⟨hg, hdbg, hm | ⟨hm, hv, hnn⟩⟩ := hc
      · exact ld_glob (X := X.suite a ((a, oe3) :: (X.pn ++ pins))) S3 hg hm q hdbg
      · exact ld_blt (X := X.suite a ((a, oe3) :: (X.pn ++ pins))) S3 hg hm hv q hnn hdbg
    have LT : PySem.W.Looks (model X.prog X.w) h3 (typeOf (.ref a)) cls := fun A Q E s k q => wpAny_typeOf_ref (k _ _ he3) (by rw [hz3.1]; exact q)
    have go : ∀ {hds' : List ExceptHandler} {l' : List Hdl}, HdlOk X hds' l' → wHds X.K Wout D l' cls d σ' H' →
        wpAny (model X.prog X.w) X.A (handleBy (.ref a) X.env hds') (SP X pins D) X.xe { s' with heap := h3 } := by
      intro hds' l' hk
      induction hk with
      | nil =>
        intro w
        refine wpAny_handleBy_nil ?_
        obtain ⟨k1, k2, k3, oe, vs, T, oT, ts', he, hz, hd, h1, hr⟩ := id fl3
        unfold PySem.passOn
        refine wpAny_bind (wpAny_field he hd h1 ?_)
        rw [if_neg (show ¬ ((Value.ref T == Value.none) = true) from by simp)]
        have fin : wpAny (model X.prog X.w) X.A (setFlight (.ref a) X.env.frame) (fun _ s4 => wpAny (model X.prog X.w) X.A (throw (.ref a) : Sem Flow) (SP X pins D) X.xe s4) X.xe { s' with heap := h3 } := by
          rw [hf]
          refine HandSPX.setFlight_upZ fl3 fun h4 hh4 up4 => wpAny_throw (tk _ _ ?_)
          exact ⟨a, B, sI, pins, σ', H', cls, d, rfl, J, nb, (up.trans up3).trans up4, .inr (.inr (by rw [hs]; exact hh4)), na, os, ag, w⟩
        first
          | exact wpAny_bind (wpAny_pure (wpAny_bind fin))
          | exact wpAny_bind fin
      | @cons x c ts b₀ suite np pos' hds2 l2 hc hsu r ih =>
        intro w
        obtain ⟨b, hb1, hyes, hno⟩ := w
        refine wpAny_handleBy_cons (codeAny_handlers_test ?_) (by intro q; cases q)
        have LM := PySem.W.exm_one (M := model X.prog X.w) (J3.kIn) LT hb1
        refine test hc (LM.here ?_)
        cases b with
        | true =>
          refine codeAny_handlers_suite ?_
          refine HandSPX.lands_againZ fl3 fun h4 fl4 up4 => ?_
          have J4 : Inv X pins σ' H' { s' with heap := h4 } := J.landed nb fl4.1 ((up.trans up3).trans up4) os ag
          obtain ⟨oe4, vs4, he4, hz4, hd4⟩ := fl4.there
          have S4 := J4.suite he4 hd4 na nL nF
          refine wpAny_mono ((hsu a oe4 cls d (X.pn ++ pins) hz4 ⟨_, hd4⟩).run [] _ _ H' _ S4 (hyes rfl a na)) (fun f s6 hsp => ?_) (fun _ _ z => False.elim z)
          cases f with
          | next =>
            obtain ⟨σ6, H6, S6, q6⟩ := hsp
            exact ⟨_, _, fin hz4 hd4 (keepP S6), q6 (gone (keepP S6))⟩
          | brk =>
            obtain ⟨σ6, H6, S6, q6⟩ := hsp
            exact ⟨_, _, fin hz4 hd4 (keepP S6), q6 (gone (keepP S6))⟩
          | cont =>
            obtain ⟨σ6, H6, S6, q6⟩ := hsp
            exact ⟨_, _, fin hz4 hd4 (keepP S6), q6 (gone (keepP S6))⟩
          | ret u =>
            obtain ⟨v6, σ6, H6, S6, r6, q6⟩ := hsp
            exact ⟨_, _, _, fin hz4 hd4 (keepP S6), r6, q6 (gone (keepP S6))⟩
        | false =>
          show wpAny _ X.A (handleBy (.ref a) X.env hds2) _ _ _
          exact ih (hno rfl)
      | @named x n i c ts b₀ suite np pos' hds2 l2 hc hi hln hsu r ih =>
        intro w
        obtain ⟨b, hb1, hyes, hno⟩ := w
        have hloc : Loc X.env.scope n := .inl hln
        refine wpAny_handleBy_cons (codeAny_handlers_test ?_) (by intro q; cases q)
        have LM := PySem.W.exm_one (M := model X.prog X.w) (J3.kIn) LT hb1
        refine test hc (LM.here ?_)
        cases b with
        | true =>
          refine codeAny_handlers_suite_as ?_
          refine HandSPX.lands_againZ fl3 fun h4 fl4 up4 => ?_
          have J4 : Inv X pins σ' H' { s' with heap := h4 } := J.landed nb fl4.1 ((up.trans up3).trans up4) os ag
          obtain ⟨oe4, vs4, he4, hz4, hd4⟩ := fl4.there
          have S4 := J4.suite he4 hd4 na nL nF
          refine store_ok (X := X.suite a ((a, oe4) :: (X.pn ++ pins))) (v := .ref a) S4 hN hi hloc rfl (fun s5 S5 => ?_) (.inr hln)
          refine wpAny_mono ((hsu a oe4 cls d (X.pn ++ pins) hz4 ⟨_, hd4⟩).run [] s5 _ H' _ S5 (hyes rfl a na)) (fun f s6 hsp => ?_) (fun _ _ z => False.elim z)
          have end_ : ∀ {σ6 : St} {H6 : Hp} {Q : Shared → Prop}, Inv (X.suite a ((a, oe4) :: (X.pn ++ pins))) [] σ6 H6 s6 → (∀ s7, Inv X pins (σ6.set i none) (trkE cls d a H6) s7 → Q s7) →
              wpAny (model X.prog X.w) X.A (do bindName X.env n .none; unbindBehindTheSuite X.env n pos') (fun _ s7 => Q s7) X.xe s6 := fun {σ6 H6 Q} S6 hq => gone_ok (keepP S6) hN hi hln fun s7 I7 => hq s7 (fin hz4 hd4 I7)
          cases f with
          | next =>
            obtain ⟨σ6, H6, S6, q6⟩ := hsp
            exact end_ S6 fun s7 J7 => ⟨_, _, J7, q6 (gone (keepP S6))⟩
          | brk =>
            obtain ⟨σ6, H6, S6, q6⟩ := hsp
            exact end_ S6 fun s7 J7 => ⟨_, _, J7, q6 (gone (keepP S6))⟩
          | cont =>
            obtain ⟨σ6, H6, S6, q6⟩ := hsp
            exact end_ S6 fun s7 J7 => ⟨_, _, J7, q6 (gone (keepP S6))⟩
          | ret u =>
            obtain ⟨v6, σ6, H6, S6, r6, q6⟩ := hsp
            exact end_ S6 fun s7 J7 => ⟨_, _, _, J7, r6, q6 (gone (keepP S6))⟩
        | false =>
          show wpAny _ X.A (handleBy (.ref a) X.env hds2) _ _ _
          exact ih (hno rfl)
    exact go hh w
  · cases f with
    | next =>
      obtain ⟨σ', H', J', q⟩ := hsp
      exact wpAny_execs_nil ⟨σ', H', J'.ofTry ok, q⟩
    | brk =>
      obtain ⟨σ', H', J', q⟩ := hsp
      exact ⟨σ', H', J'.ofTry ok, q⟩
    | cont =>
      obtain ⟨σ', H', J', q⟩ := hsp
      exact ⟨σ', H', J'.ofTry ok, q⟩
    | ret u =>
      obtain ⟨v, σ', H', J', r, q⟩ := hsp
      exact ⟨v, σ', H', J'.ofTry ok, r, q⟩
end
def rIsiE (K : PySem.W.Frag) : List V → Hp → VK → Prop := fun xs H Q => ∃ (a C : Addr) (d : Option Addr) (c : V) (u : Value) (b : Bool), xs = [.ref a, c] ∧ H a = some (DL.ExK C d a) ∧ (d = none ∨ ∃ dd fs, d = some dd ∧ H dd = some (.xd fs)) ∧ ClsV c u ∧ ExcC K C ∧ PySem.W.kitOne K (.ref C) u = some b ∧ Q (.bl b) H
theorem exk_inst {X : Cx} {pins : List (Addr × Obj)} {σ : St} {H : Hp} {s : Shared} {a C : Addr} {d : Option Addr} (I : Inv X pins σ H s) (ha : H a = some (DL.ExK C d a)) (hd : d = none ∨ ∃ dd fs, d = some dd ∧ H dd = some (.xd fs)) :
    ∃ oe od, PySem.W.InstAt s.heap a oe C od := by
  obtain ⟨⟨oe, vs, h1, h2, h3⟩, _, _⟩ := I.hok a _ ha
  rcases hd with rfl | ⟨dd, fs, rfl, hx⟩
  · refine ⟨oe, none, h1, h2.1, by unfold PySem.W.notCls; rw [h3] <;> rfl, ?_⟩
    rw [h2.2]; trivial
  · obtain ⟨mA, hns, hr⟩ := I.hok dd _ hx
    obtain ⟨od, ho, hl⟩ := lookIn_ns hns
    exact ⟨oe, some od, h1, h2.1, by unfold PySem.W.notCls; rw [h3] <;> rfl, by rw [h2.2]; exact ho⟩
theorem call_isiE {X : Cx} : CallR X (.builtin "isinstance") (rIsiE X.K) := by
  intro pins s σ H xs us Q I r h
  obtain ⟨a, C, d, c, u, b, rfl, ha, hd, k, f, e, q⟩ := h
  obtain ⟨u1, u2, rfl, r1, r2⟩ := vals2 r
  have e2 := k.eq r2
  subst e2
  cases (show u1 = Value.ref a from r1)
  obtain ⟨oe, od, J⟩ := exk_inst I ha hd
  refine PySem.W.kia_one (PySem.W.kitx_exc ?_ f.hg f.hk f.hs f.ha f.hn f.ht f.hm) I.kIn J e (fun z => nomatch z) fun tk => ⟨.bl b, H, I.tok tk, rfl, q⟩
  obtain ⟨cd, hc, _⟩ := PySem.W.any_some f.hd
  rw [hc]; rfl
def rIsiP (K : PySem.W.Frag) : List V → Hp → VK → Prop := fun xs H Q => rIsi K xs H Q ∨ rIsiE K xs H Q
theorem call_isiP {X : Cx} : CallR X (.builtin "isinstance") (rIsiP X.K) := call_isi.or call_isiE
def tFldP (K : PySem.W.Frag) (ta : TE) (f : Str) : TE := fun σ H Q => ta σ H fun x H1 => (∃ a C dx fs v, x = .ref a ∧ H1 a = some (.ins C dx fs) ∧ Cls K C ∧ NoAttr K C f ∧ fs.lookup f = some v ∧ Q v H1) ∨
  (∃ a C dd fs v, x = .ref a ∧ H1 a = some (DL.ExK C (some dd) a) ∧ H1 dd = some (.xd fs) ∧ XfC K C ∧ PySem.W.findIn K (.ref C) f = some none ∧ fs.lookup f = some v ∧ Q v H1)
theorem pe_fldP {X : Cx} {e : Expr} {f : Str} {pos : Pos} {ta : TE} (he : PE X e ta) (hb : attributeBase e f X.env (eval e X.env) = eval e X.env := by rfl) : PE X (.Attribute e f pos) (tFldP X.K ta f) := by
  refine ⟨fun pins s σ H Q I h => ?_⟩
  refine attr_of hb (thn (he.run pins s σ H _ I h) fun u s1 hh => ?_)
  obtain ⟨x, H1, I1, rx, hh⟩ := hh
  rcases hh with ⟨a, C, dx, fs, v, ex, ea, hc, hn, l, q⟩ | ⟨a, C, dd, fs, v, ex, ea, ed, T, hno, l, q⟩
  · subst ex
    obtain rfl : u = Value.ref a := rx
    exact getattr_ok I1 ea hc hn l fun w s2 I2 rw' => ⟨v, H1, I2, rw', q⟩
  · subst ex
    obtain rfl : u = Value.ref a := rx
    obtain ⟨⟨oe, vs, h1, h2, h3⟩, _, _⟩ := I1.hok a _ ea
    obtain ⟨mA, hns, hr⟩ := I1.hok dd _ ed
    obtain ⟨od, ho, hl⟩ := lookIn_ns hns
    obtain ⟨w, hw, rw'⟩ := RelO.some_of (v := v) (o := mA f) (by rw [← l]; exact hr f)
    have J : PySem.W.InstAt s1.heap a oe C (some od) := ⟨h1, h2.1, by unfold PySem.W.notCls; rw [h3] <;> rfl, by rw [h2.2]; exact ho⟩
    exact HandSPX.exc_get I1.kIn J T.ga T.gg T.exC (PySem.W.findObj_own T.hdC hno rfl (by rw [hl, hw])) (handed_of rw') ⟨v, H1, I1.tok _, rw', q⟩
end L2
namespace DL
open PySem PySem.Spec L2
section
variable {K : PySem.W.Frag} {W : WX} {Γ : Gm} {X : XP} {te ta tb : TE} {i : Nat} {PP : Po} {g : TG} {tbd : TS}
def gOff (i : Option Nat) (Γ : Gm) : Gm := match i with
  | none => Γ
  | some i => Γ.set i none
def gOn (i : Option Nat) (a C : Addr) (d : Option Addr) (fs : List (Str × Dt)) (Γ : Gm) : Gm := match i with
  | none => Γ
  | some i => Γ.set i (some (.ex a C d fs))
def fixS : Sl → Sl
  | .ex _ C _ fs => .fr (.exc C fs)
  | s => s
def fixE : Gm → Gm
  | [] => []
  | none :: r => none :: fixE r
  | some s :: r => some (fixS s) :: fixE r
def exOk (a C : Addr) (d : Option Addr) : Sl → Prop
  | .ex a' C' d' _ => a' = a ∧ C' = C ∧ d' = d
  | _ => True
def ExAll (a C : Addr) (d : Option Addr) : Gm → Prop
  | [] => True
  | none :: r => ExAll a C d r
  | some s :: r => exOk a C d s ∧ ExAll a C d r
theorem fp_fix (s : Sl) : (fixS s).fp = s.fp := by cases s <;> rfl
theorem fps_fix : ∀ Γ : Gm, fps (fixE Γ) = fps Γ
  | [] => rfl
  | none :: r => by simp only [fixE, fps]; rw [fps_fix r]
  | some s :: r => by simp only [fixE, fps, fpO]; rw [fps_fix r, fp_fix]
theorem slots_fix {G H : Hp} {a C : Addr} {d : Option Addr} (ha : G a = some (ExK C d a)) : ∀ {σ : St} {Γ : Gm}, Slots K G H σ Γ → ExAll a C d Γ → Slots K G H σ (fixE Γ)
  | _, _, .nil, _ => .nil
  | _, _, .no r, h => .no (slots_fix ha r h)
  | _, _, .yes o r, ⟨h1, h2⟩ => by
    refine .yes ?_ (slots_fix ha r h2)
    cases o with
    | ex rx =>
      obtain ⟨rfl, rfl, rfl⟩ := h1
      exact .fr (.exc ha rx)
    | fr r => exact .fr r
    | ol x y => exact .ol x y
    | os x y z => exact .os x y z
    | oK x y => exact .oK x y
    | oT x y => exact .oT x y
    | oo x y => exact .oo x y
    | tb x y z => exact .tb x y z
theorem sta_fix {O G H : Hp} {σ : St} {a C : Addr} {d : Option Addr} (S : Sta K O G H σ Γ) (na : H a = none) (h : ExAll a C d Γ) : ∃ G2, Same G G2 ∧ Sta K O G2 (upd H a (ExK C d a)) σ (fixE Γ) := by
  have ex := Ext.new (ob := ExK C d a) S.g na
  have S2 := S.ext ex
  exact ⟨_, ex.g, S2.g, S2.o, S2.d, slots_fix upd_same S2.sl h, by rw [fps_fix]; exact S2.nd, fun b hb => S2.ng b (by rw [fps_fix] at hb; exact hb), fun b hb => S2.no b (by rw [fps_fix] at hb; exact hb), S2.om⟩
def Hds (K : PySem.W.Frag) (PP : Po) : List Hdl → XP
  | [] => PP.xc
  | h :: r => fun C fs Γ => ∃ b, PySem.W.exmOne K (.ref C) h.c = some b ∧ (b = true → ∀ a d, Go K (fun _ _ _ _ => False) (h.ts a (.ref C) d) (gOn h.i a C d fs Γ)
      { nx := fun Γ2 => ExAll a C d (gOff h.i Γ2) ∧ PP.nx (fixE (gOff h.i Γ2)), rt := fun s Γ2 => ExAll a C d (some s :: Γ2) ∧ PP.rt (fixS s) (fixE Γ2), xc := fun _ _ _ => False,
        bk := fun Γ2 => ExAll a C d (gOff h.i Γ2) ∧ PP.bk (fixE (gOff h.i Γ2)), ct := fun Γ2 => ExAll a C d (gOff h.i Γ2) ∧ PP.ct (fixE (gOff h.i Γ2)) }) ∧ (b = false → Hds K PP r C fs Γ)
theorem sta_off {O G H : Hp} {σ : St} {j : Option Nat} (S : Sta K O G H σ Γ) : Sta K O G H (slotOff j σ) (gOff j Γ) := by
  cases j with
  | none => exact S
  | some j => exact S.forget j none
theorem sta_on {O G H : Hp} {σ : St} {j : Option Nat} {a C : Addr} {d : Option Addr} {fs : List (Str × Dt)} (S : Sta K O G H σ Γ) (r : RepX K G d fs) : Sta K O G H (slotOn j a σ) (gOn j a C d fs Γ) := by
  cases j with
  | none => exact S
  | some j => exact (S.push (v := .ref a) (s := .ex a C d fs) (.ex r) (by simp [Sl.fp]) (by simp [Sl.fp]) (by simp [Sl.fp]) (by simp [Sl.fp])).put j
theorem go_try {tt : WX → TS} {l : List Hdl} (h : ∀ W', Go K W' (tt W') Γ { PP with xc := Hds K PP l }) : Go K W (tTry K W l tt) Γ PP := fun O G H σ D S a b c d e => by
  refine h (wHds K W D l) O G H σ D S a b c d fun σ2 => ?_
  have go : ∀ (l : List Hdl), XOk K (wHds K W D l) O G σ2 (Hds K PP l) := by
    intro l
    induction l with
    | nil => exact e σ2
    | cons hd r ih =>
      intro C dd fs G2 H2 Γ2 s2 S2 rx ⟨bb, e1, p1, p2⟩
      refine ⟨bb, e1, fun hb ad na => ?_, fun hb => ih C dd fs G2 H2 Γ2 s2 S2 rx (p2 hb)⟩
      refine p1 hb ad dd O G2 H2 _ _ (sta_on S2 rx) (fun G3 H3 σ3 Γ3 s3 S3 ⟨p3, p4⟩ n3 => ?_) (fun v G3 H3 σ3 Γ3 z s3 S3 ⟨p3, p4⟩ n3 => ?_) (fun G3 H3 σ3 Γ3 s3 S3 ⟨p3, p4⟩ n3 => ?_) (fun G3 H3 σ3 Γ3 s3 S3 ⟨p3, p4⟩ n3 => ?_) ?_
      · obtain ⟨G4, s4, S4⟩ := sta_fix (sta_off S3) n3 p3
        exact a G4 _ _ _ (s2.trans (s3.trans s4)) S4 p4
      · obtain ⟨G4, s4, S4⟩ := sta_fix S3 n3 p3
        exact b v G4 _ σ3 _ _ (s2.trans (s3.trans s4)) S4 p4
      · obtain ⟨G4, s4, S4⟩ := sta_fix (sta_off S3) n3 p3
        exact c G4 _ _ _ (s2.trans (s3.trans s4)) S4 p4
      · obtain ⟨G4, s4, S4⟩ := sta_fix (sta_off S3) n3 p3
        exact d G4 _ _ _ (s2.trans (s3.trans s4)) S4 p4
      · intro σ3 C3 d3 fs3 G3 H3 Γ3 s3 S3 r3 p3
        exact p3.elim
  exact go l
inductive ClsD : Dt → Value → Prop
  | ty (n : String) : ClsD (.ty n) (.type n)
  | own (C : Addr) : ClsD (.ref C) (.ref C)
structure InsF (K : PySem.W.Frag) (C : Addr) : Prop where
  cl : Cls K C
  ha : PySem.W.findIn K (.ref C) "__class__" = some (some (.builtin "object.__class__"))
  hn : PySem.W.specialIn K (.builtin "object.__class__") "__get__" = some (some (.builtin "getset_descriptor.__get__"))
  ht : PySem.W.takesIn K (.builtin "object.__class__") = some true
  hm : PySem.W.mroIn K C (.type "object") = some true
inductive TyD (K : PySem.W.Frag) : Dt → Value → Prop
  | non : TyD K .non (.type "NoneType")
  | bl (b : Bool) : TyD K (.bl b) (.type "bool")
  | int (i : Int) : TyD K (.int i) (.type "int")
  | str (x : Str) : TyD K (.str x) (.type "str")
  | lst (ds : List Dt) : TyD K (.lst ds) (.type "list")
  | tup (ds : List Dt) : TyD K (.tup ds) (.type "tuple")
  | dK (ds : List (Key × Dt)) : TyD K (.dK ds) (.type "dict")
  | obj {C : Addr} {fs : List (Str × Dt)} (f : InsF K C) : TyD K (.obj C fs) (.ref C)
  | exc {C : Addr} {fs : List (Str × Dt)} (f : ExcC K C) : TyD K (.exc C fs) (.ref C)
def dIsi (K : PySem.W.Frag) (ds : List Dt) (R : Dt → Prop) : Prop := ∃ x c t u b, ds = [x, c] ∧ ClsD c u ∧ TyD K x t ∧ PySem.W.kitOne K t u = some b ∧ R (.bl b)
theorem rdc_isi : RDC K (rIsiP K) (dIsi K) := fun G H xs ds R Q s r ⟨x, c, t, u, b, e, hc, ht, hk, p⟩ q => by
  subst e
  cases r with
  | cons r1 r2 => cases r2 with
    | @cons cv _ _ _ r2 r3 =>
    cases r3
    have hc' : ClsV cv u ∧ True := by
      cases hc with
      | ty n => cases r2; exact ⟨.ty n, trivial⟩
      | own C => cases r2; exact ⟨.own C, trivial⟩
    have fin : ∀ {v : V}, TyX K H v t → Rep K G v x → rIsiP K [v, cv] H Q := fun {v} ty _ => .inl ⟨v, cv, t, u, b, rfl, hc'.1, ty, hk, q _ G H _ (Ext.refl s) (.bl b) p⟩
    cases ht with
    | non => cases r1; exact fin (.base .non) .non
    | bl b => cases r1; exact fin (.base (.bl b)) (.bl b)
    | int i => cases r1; exact fin (.base (.int i)) (.int i)
    | str z => cases r1; exact fin (.base (.str z)) (.str z)
    | lst ds => cases r1 with
      | lst ha rr => exact fin (.base (.lst (s _ _ ha))) (.lst ha rr)
    | tup ds => cases r1 with
      | tup ha rr => exact fin (.base (.tup (s _ _ ha))) (.tup ha rr)
    | dK ds => cases r1 with
      | dK ha rr => exact fin (.fDict (s _ _ ha)) (.dK ha rr)
    | obj f => cases r1 with
      | obj ha rr => exact fin (.base (.ins (s _ _ ha) f.cl f.ha f.hn f.ht f.hm)) (.obj ha rr)
    | exc f => cases r1 with
      | exc ha rx =>
        refine .inr ⟨_, _, _, _, u, b, rfl, s _ _ ha, ?_, hc'.1, f, hk, q _ G H _ (Ext.refl s) (.bl b) p⟩
        cases rx with
        | none => exact .inl rfl
        | some hd _ => exact .inr ⟨_, _, rfl, s _ _ hd⟩
theorem ev_fld {f : Str} {P : Dt → Gm → Prop} (h : Ev K W te Γ (fun d Γ1 => (∃ C fs y, d = .obj C fs ∧ Cls K C ∧ NoAttr K C f ∧ fs.lookup f = some y ∧ P y Γ1) ∨ (∃ C fs y, d = .exc C fs ∧ XfC K C ∧ PySem.W.findIn K (.ref C) f = some none ∧ fs.lookup f = some y ∧ P y Γ1)) X) : Ev K W (tFldP K te f) Γ P X := fun O G H σ Q S q x =>
  h O G H σ _ S (fun v G1 H1 Γ1 d s1 S1 r hh => by
    rcases hh with ⟨C, fs, y, e, hc, hn, hl, p⟩ | ⟨C, fs, y, e, hc, hn, hl, p⟩
    · subst e
      cases r with
      | obj ha rf =>
        obtain ⟨u, hu, ru⟩ := rf.look hl
        exact .inl ⟨_, _, _, _, u, rfl, S1.g _ _ ha, hc, hn, hu, q u G1 H1 Γ1 y s1 S1 ru p⟩
    · subst e
      cases r with
      | exc ha rx =>
        cases rx with
        | none => simp at hl
        | some hd rf =>
          obtain ⟨u, hu, ru⟩ := rf.look hl
          exact .inr ⟨_, _, _, _, u, rfl, S1.g _ _ ha, S1.g _ _ hd, hc, hn, hu, q u G1 H1 Γ1 y s1 S1 ru p⟩) x
end
end DL
namespace DL
open PySem PySem.Spec L2
section
variable {X : Cx} {x : Str} {ps : List Str} {k j : Nat} {S : DSp} {W : WX} {e : Expr} {es : List Expr} {t : TA} {p pos : Pos}
end
def fun_of {K : PySem.W.Frag} {x qual : Str} {st : Stmt} {f : Addr} {fd : FuncData} (F : FunD K x qual (defArgs st) (defBody st) (defScope st) [] [] f fd) : Fun K x qual st f fd := by
  obtain ⟨oc, od, dV, kV, doc, pm, an, cdv, ct, osl, e, l, c, d, _⟩ := F.ex
  rcases d with ⟨_, rfl⟩ | ⟨z, _⟩
  · exact ⟨⟨oc, od, kV, doc, pm, an, cdv, ct, osl, e, l, c⟩, F.kp⟩
  · exact absurd rfl z
structure EDef where
  x : Str
  qual : Str
  params : Arguments
  body : List Stmt
  scope : Scope
  fs : List Str
abbrev FnE : Type := Option (Str × Str × Arguments × FuncBody × Scope × Addr × Addr)
def fnE (K : PySem.W.Frag) (x : Str) : FnE := match K.lookup (He.ma K (He.ga K x) "__init__") with
  | some ⟨_, _, .func fd, _⟩ => some (fd.name, fd.qualname, fd.params, fd.body, fd.scope, fd.globals, fd.builtins)
  | _ => none
def EDef.val (d : EDef) : FnE := some ("__init__", d.qual, d.params, .stmts d.body, d.scope, mainGlobals, builtinsNs)
def clsB (K : PySem.W.Frag) (C : Addr) : Bool := match K.lookup C with
  | some ⟨.type "type", _, .cls cd, sl⟩ => (match cd.mro, sl.toList with
    | .ref C' :: bm, [_, _, _, _, some (.builtin n), _] => C' == C && n == "ValueError.__new__" && !cd.hasDel && cd.hasDict && HandSPX.refsVE bm && He.eqO (PySem.W.alongIn K "__init__" bm) (some (some (.builtin "ValueError.__init__")))
    | _, _ => false)
  | _ => false
theorem clsB_ok {K : PySem.W.Frag} {C : Addr} (q : clsB K C = true) : ∃ nm qn N bs bm sn sub ab col dd k0 k1 k2 k3 k5, K.lookup C = some (excClassObj nm qn C N bs bm true sn sub ab col dd k0 k1 k2 k3 k5 "ValueError.__new__") ∧ HandSPX.refsVE bm = true ∧
    PySem.W.alongIn K "__init__" ((Value.ref C :: bm).dropWhile (· != .ref C) |>.drop 1) = some (some (.builtin "ValueError.__init__")) := by
  unfold clsB at q
  split at q
  · rename_i dd cd sl ho
    split at q
    · rename_i C' bm k0 k1 k2 k3 n k5 hm hs
      simp only [Bool.and_eq_true, beq_iff_eq, Bool.not_eq_true'] at q
      obtain ⟨⟨⟨⟨⟨rfl, rfl⟩, hdel⟩, hdct⟩, hr⟩, hal⟩ := q
      obtain ⟨nm, bs, mro, ns, qn, hd, sn, sub, ab, col, del⟩ := cd
      dsimp only at hm hdel hdct
      subst hm hdel hdct
      have hsl : sl = #[k0, k1, k2, k3, some (.builtin "ValueError.__new__"), k5] := by
        obtain ⟨l⟩ := sl
        simp only at hs
        rw [hs]
      subst hsl
      exact ⟨nm, qn, ns, bs, bm, sn, sub, ab, col, dd, k0, k1, k2, k3, k5, ho, hr, by rw [ESX.drop_own]; exact He.eqO_ok hal⟩
    · cases q
  · cases q
def initB (file : Str) (K : PySem.W.Frag) (C fI : Addr) (qual : Str) : Bool := match K.lookup fI with
  | some ⟨_, _, .func fd, _⟩ => (match fd.closure, fd.code, fd.defaults, fd.kwdefaults with
    | [(n, cc)], .ref cda, .none, .none => decide (n = "__class__") && PySem.W.codeIn K (.ref cda) qual && (match K.lookup cc with
        | some ⟨_, _, .cell (some (.ref D)), _⟩ => D == C
        | _ => false) && (match K.lookup cda with
        | some ⟨_, _, .fields vs, _⟩ => (match (vs : Array Value)[2]? with
          | some (Value.str f _) => decide (f = file)
          | _ => false)
        | _ => false)
    | _, _, _, _ => false)
  | _ => false
theorem init_ok {prog : Program} {K : PySem.W.Frag} {x qual : Str} {a : Pos} {fps : List (Str × Pos)} {body : List Stmt} {C : Addr}
    (e : fnE K x = (some ("__init__", qual, ER.eArgs a fps, FuncBody.stmts body, ER.eScope (ER.nmz fps), mainGlobals, builtinsNs) : FnE)) (q : initB prog.main.file K C (He.ma K (He.ga K x) "__init__") qual = true) : ER.InitT prog K qual a fps body C (He.ma K (He.ga K x) "__init__") := by
  unfold fnE at e
  unfold initB at q
  cases lk : K.lookup (He.ma K (He.ga K x) "__init__") with
  | none => rw [lk] at e; cases e
  | some o =>
    obtain ⟨oc, od, dt, osl⟩ := o
    rw [lk] at e q
    cases dt with
    | func fd =>
      obtain ⟨n1, n2, n3, n4, n5, n6, n7, n8, n9, n10, n11, n12, n13, n14, n15⟩ := fd
      have e2 : (some (n1, n2, n3, n4, n5, n6, n15) : FnE) = (some ("__init__", qual, ER.eArgs a fps, FuncBody.stmts body, ER.eScope (ER.nmz fps), mainGlobals, builtinsNs) : FnE) := e
      simp only [Option.some.injEq, Prod.mk.injEq] at e2
      obtain ⟨h1, h2, h3, h4, h5, h6, h7⟩ := e2
      subst h1 h2 h3 h4 h5 h6 h7
      dsimp only at q
      split at q
      · rename_i n cc cda
        simp only [Bool.and_eq_true, decide_eq_true_eq] at q
        obtain ⟨⟨⟨rfl, q2⟩, q3⟩, q4⟩ := q
        split at q3
        · rename_i c1 c2 D c4 hcell
          have : D = C := by simpa using q3
          subst this
          split at q4
          · rename_i e1 e2 vs e4 hcode
            split at q4
            · rename_i f tf hv
              have : f = prog.main.file := by simpa using q4
              subst this
              exact ⟨_, _, _, _, _, _, _, _, _, _, _, _, _, _, _, _, _, lk, q2, hcell, hcode, hv⟩
            · cases q4
          · cases q4
        · cases q3
      · cases q
    | _ => cases e
def errB (prog : Program) (K : PySem.W.Frag) (x qual : Str) (fs : List Str) : Bool :=
  let C := He.ga K x
  let fI := He.ma K C "__init__"
  He.eqO (PySem.W.nsIn K mainGlobals x) (some (some (.ref C))) && (clsB K C && (He.eqO (PySem.W.findIn K (.ref C) "__setattr__") (some (some (.builtin "object.__setattr__"))) && (He.eqO (PySem.W.findIn K (.ref C) "__getattribute__") (some (some (.builtin "BaseException.__getattribute__"))) &&
  (He.eqO (PySem.W.findIn K (.ref C) "__getattr__") (some none) && ((fs.all fun f => He.eqO (PySem.W.findIn K (.ref C) f) (some none)) && (He.eqO (PySem.W.findIn K (.ref C) "__init__") (some (some (.ref fI))) && (decide (PySem.W.typeIn K (.ref fI) = some (.type "function")) &&
  (PySem.W.keepIn K (.ref C) && (decide (PySem.W.subIn K (.ref C) (.type "BaseException") = some true) && (decide (PySem.W.typeIn K (.ref C) = some (.type "type")) && (PySem.W.hasDictIn K C && (He.eqO (PySem.W.nsIn K mainGlobals "super") (some none) &&
  (!(prog.main.scope.names.lookup ("super" : Str)).isSome && (He.eqO (PySem.W.nsIn K cStatics "thirdparty.any") (some none) && initB prog.main.file K C fI qual))))))))))))))
theorem err_ok {prog : Program} {K : PySem.W.Frag} {h : Heap} {mg : Str → Option Value} {x qual : Str} {fs : List Str} (X : K.In h) (G : h.Ns mainGlobals mg) (q : errB prog K x qual fs = true) :
    ER.ErrT prog K mg x fs (He.ga K x) (He.ma K (He.ga K x) "__init__") ∧ initB prog.main.file K (He.ga K x) (He.ma K (He.ga K x) "__init__") qual = true := by
  unfold errB at q
  simp only [Bool.and_eq_true, List.all_eq_true, decide_eq_true_eq, Bool.not_eq_true'] at q
  obtain ⟨q1, q2, q3, q4, q5, q6, q7, q8, q9, q10, q11, q12, q13, q14, q15, q16⟩ := q
  exact ⟨⟨PySem.W.mg_of X G (He.eqO_ok q1), clsB_ok q2, He.eqO_ok q3, He.eqO_ok q4, He.eqO_ok q5, fun f hf => He.eqO_ok (q6 f hf), He.eqO_ok q7, q8, q9, q10, q11, q12, PySem.W.mg_none_of X G (He.eqO_ok q13), q14, He.eqO_ok q15⟩, q16⟩
structure ErrK (prog : Program) (K : PySem.W.Frag) (mg : Str → Option Value) (x : Str) (C : Addr) (fs : List Str) : Prop where
  mker : ER.Mker prog K mg C fs
  gC : mg x = some (.ref C)
  kC : PySem.W.keepIn K (.ref C) = true
  exC : PySem.W.subIn K (.ref C) (.type "BaseException") = some true
  tyC : PySem.W.typeIn K (.ref C) = some (.type "type")
  xf : XfC K C
  no : ∀ f ∈ fs, PySem.W.findIn K (.ref C) f = some none
theorem ErrK.at {X : Cx} {x : Str} {C : Addr} {fs : List Str} (E : ErrK X.prog X.K X.mg x C fs) : ErrC X x C fs := ⟨E.mker, E.gC, E.kC, raises_own E.exC E.tyC⟩
theorem errK_of {prog : Program} {K : PySem.W.Frag} {mg : Str → Option Value} {x : Str} {fs : List Str} {C fI : Addr} (T : ER.ErrT prog K mg x fs C fI) (M : ER.Mker prog K mg C fs) : ErrK prog K mg x C fs :=
  ⟨M, T.gC, T.kC, T.exC, T.tyC, ⟨T.ga, T.gg, T.exC, T.hdC⟩, T.noN⟩
def insFB (K : PySem.W.Frag) (C : Addr) : Bool :=
  PySem.W.plainGet K C Str.empty && (PySem.W.hasDictIn K C && (PySem.W.plainOver K C && (He.eqO (PySem.W.findIn K (.ref C) "__setattr__") (some (some (.builtin "object.__setattr__"))) &&
  (He.eqO (PySem.W.findIn K (.ref C) "__class__") (some (some (.builtin "object.__class__"))) && (He.eqO (PySem.W.specialIn K (.builtin "object.__class__") "__get__") (some (some (.builtin "getset_descriptor.__get__"))) && (decide (PySem.W.takesIn K (.builtin "object.__class__") = some true) && decide (PySem.W.mroIn K C (.type "object") = some true)))))))
theorem insFB_ok {K : PySem.W.Frag} {C : Addr} (q : insFB K C = true) : InsF K C := by
  unfold insFB at q
  simp only [Bool.and_eq_true, decide_eq_true_eq] at q
  obtain ⟨q1, q2, q3, q4, q5, q6, q7, q8⟩ := q
  exact ⟨⟨q1, q2, q3, He.eqO_ok q4⟩, He.eqO_ok q5, He.eqO_ok q6, q7, q8⟩
abbrev AlX : Type := Bool × List He.FnW × List FnE
def obsX (prog : Program) (fx : PySem.W.Frag → Bool) (fa : List He.Fa) (fn : List He.DefD) (en : List EDef) (K : PySem.W.Frag) : AlX :=
  (fx K && ((fa.all fun f => f.ok K) && ((fn.all fun d => d.ok K) && en.all fun d => errB prog K d.x d.qual d.fs)), fn.map fun d => He.fnW K d.at_, en.map fun d => fnE K d.x)
def valsD : List He.DefD → List He.FnW
  | [] => []
  | d :: r => d.val :: valsD r
def valsE : List EDef → List FnE
  | [] => []
  | d :: r => d.val :: valsE r
theorem valsD_eq : ∀ l : List He.DefD, valsD l = l.map He.DefD.val
  | [] => rfl
  | d :: r => by rw [valsD, valsD_eq r]; rfl
theorem valsE_eq : ∀ l : List EDef, valsE l = l.map EDef.val
  | [] => rfl
  | d :: r => by rw [valsE, valsE_eq r]; rfl
def valX (fn : List He.DefD) (en : List EDef) : AlX := (true, valsD fn, valsE en)
def SaysX (prog : Program) (fx : PySem.W.Frag → Bool) (fa : List He.Fa) (fn : List He.DefD) (en : List EDef) (K : PySem.W.Frag) : Prop := obsX prog fx fa fn en K = valX fn en
section
variable {prog : Program} {fx : PySem.W.Frag → Bool} {fa : List He.Fa} {fn : List He.DefD} {en : List EDef} {K : PySem.W.Frag}
theorem SaysX.parts (c : SaysX prog fx fa fn en K) : fx K = true ∧ (fa.all fun f => f.ok K) = true ∧ (fn.all fun d => d.ok K) = true ∧ (en.all fun d => errB prog K d.x d.qual d.fs) = true := by
  have z : (fx K && ((fa.all fun f => f.ok K) && ((fn.all fun d => d.ok K) && en.all fun d => errB prog K d.x d.qual d.fs))) = true := congrArg (fun z : AlX => z.1) c
  rw [Bool.and_eq_true, Bool.and_eq_true, Bool.and_eq_true] at z
  exact z
theorem SaysX.own (c : SaysX prog fx fa fn en K) : fx K = true := c.parts.1
theorem SaysX.fact (c : SaysX prog fx fa fn en K) (i : Nat) {f : He.Fa} (h : fa[i]? = some f := by rfl) : f.ok K = true := List.all_eq_true.mp c.parts.2.1 f (List.mem_of_getElem? h)
theorem SaysX.def_ (c : SaysX prog fx fa fn en K) (i : Nat) {d : He.DefD} (h : fn[i]? = some d := by rfl) : ∃ fd, FunD K d.name d.qual d.params d.body d.scope (d.dvs K) (d.kws K) (He.fAd K d.at_) fd := by
  have e : fn.map (fun d => He.fnW K d.at_) = fn.map He.DefD.val := (congrArg (fun z : AlX => z.2.1) c).trans (valsD_eq fn)
  have e2 : (fn.map fun d => He.fnW K d.at_)[i]? = (fn.map He.DefD.val)[i]? := by rw [e]
  rw [List.getElem?_map, List.getElem?_map, h] at e2
  exact He.DefD.funD (Option.some.inj e2) (List.all_eq_true.mp c.parts.2.2.1 d (List.mem_of_getElem? h))
theorem SaysX.err (c : SaysX prog fx fa fn en K) (i : Nat) {d : EDef} (h : en[i]? = some d := by rfl) : fnE K d.x = d.val ∧ errB prog K d.x d.qual d.fs = true := by
  have e : en.map (fun d => fnE K d.x) = en.map EDef.val := (congrArg (fun z : AlX => z.2.2) c).trans (valsE_eq en)
  have e2 : (en.map fun d => fnE K d.x)[i]? = (en.map EDef.val)[i]? := by rw [e]
  rw [List.getElem?_map, List.getElem?_map, h] at e2
  exact ⟨Option.some.inj e2, List.all_eq_true.mp c.parts.2.2.2 d (List.mem_of_getElem? h)⟩
end
theorem cx_none {P : Program} {w : World} {H : Hp} {s : Shared} {e : Value} {s' : Shared} (h : L2.CX P w [] H s (fun _ _ _ => False) e s') : False := by
  obtain ⟨_, _, _, _, _, _, _, _, _, _, _, _, z⟩ := h
  exact z
end DL
namespace L2
open PySem PySem.Spec
def tAsgO (te : TE) (g : TG) : TS := tAsg te g
def tRetO (te : TE) : TS := tRet te
def tCall1 (_ : Nat) := @tCallS
end L2
namespace DL
open PySem PySem.Spec L2
section
variable {K : PySem.W.Frag} {W : WX} {Γ : Gm} {X : XP} {P : Dt → Gm → Prop} {te ta tb : TE} {i : Nat} {PP : Po} {R : Dt → Prop}
theorem Sta.frzAt {O G H : Hp} {σ : St} {s : Sl} {d : Dt} (S : Sta K O G H σ Γ) (hi : Γ[i]? = some (some s)) (f : Frz s d) : ∃ G2, Same G G2 ∧ Sta K O G2 H σ (Γ.set i (some (.fr d))) := by
  obtain ⟨v, e, o⟩ := S.get hi
  obtain ⟨m1, m2⟩ := fps_part hi S.nd
  have il : i < σ.length := by
    rcases Nat.lt_or_ge i σ.length with z | z
    · exact z
    · rw [List.getElem?_eq_none z] at e; cases e
  have Sf := S.forget i (some v)
  have es : σ.set i (some v) = σ := by
    apply List.ext_getElem?
    intro j
    rw [List.getElem?_set]
    by_cases hj : i = j
    · subst hj; rw [if_pos rfl, e, if_pos il]
    · rw [if_neg hj]
  rw [es] at Sf
  have Sp := Sf.push o m1 (fun a ha => S.ng a (mem_fps hi a ha)) (fun a ha => S.no a (mem_fps hi a ha)) m2
  obtain ⟨G2, s2, S2, r⟩ := Sp.freeze1 f
  have S3 := (S2.pushF r).put i
  rw [es, List.set_set] at S3
  exact ⟨G2, s2, S3⟩
theorem ev_varF {s : Sl} {d : Dt} (h : Γ[i]? = some (some s)) (f : Frz s d) (p : P d (Γ.set i (some (.fr d)))) : Ev K W (tVar i) Γ P X := fun O G H σ Q S q _ => by
  obtain ⟨G2, s2, S2⟩ := S.frzAt h f
  have il : i < Γ.length := by
    rcases Nat.lt_or_ge i Γ.length with z | z
    · exact z
    · rw [List.getElem?_eq_none z] at h; cases h
  obtain ⟨v, e, r⟩ := S2.getF (i := i) (d := d) (by rw [List.getElem?_set_self il])
  exact ⟨v, e, q v G2 H _ d s2 S2 r p⟩
theorem evo_pack {P : Sl → Gm → Prop} (φ : List Dt → Prop) (h : EvO K W te Γ (fun s Γ1 => ∃ a ds, s = .ol a ds ∧ φ ds ∧ P (.os a φ) Γ1) X) : EvO K W te Γ P X := fun O G H σ Q S q x =>
  h O G H σ _ S (fun v G2 H2 Γ2 s s1 S2 ⟨a, ds, e, hp, p⟩ => by
    subst e
    refine q v G2 H2 Γ2 (.os a φ) s1 ?_ p
    have hd := S2.head
    refine ⟨S2.g, S2.o, S2.d, ?_, S2.nd, S2.ng, S2.no, S2.om⟩
    cases hd with
    | ol h1 h2 => exact .yes (.os h1 h2 hp) S2.tail.sl) x
theorem go_mid {t1 t2 : TS} (M : Gm → Prop) (h1 : Go K W t1 Γ { PP with nx := M }) (h2 : ∀ Γ1, M Γ1 → Go K W t2 Γ1 PP) : Go K W (tSeq t1 t2) Γ PP :=
  go_seq (h1.imp (fun _ p => h2 _ p) (fun _ _ p => p) (fun _ _ _ p => p) (fun _ p => p) (fun _ p => p))
theorem l_addI {i j : Int} (h : R (.int (i + j))) : dAdd (.int i) (.int j) R := h
theorem l_eqI {i j : Int} (h : R (.bl (decide (i = j)))) : dEq (.int i) (.int j) R := .inl ⟨_, rfl, h⟩
theorem l_eqS {i j : Str} (h : R (.bl (decide (i = j)))) : dEq (.str i) (.str j) R := .inl ⟨_, rfl, h⟩
theorem l_eqB {i j : Bool} (h : R (.bl (decide (i = j)))) : dEq (.bl i) (.bl j) R := .inl ⟨_, rfl, h⟩
theorem l_neI {i j : Int} (h : R (.bl (!decide (i = j)))) : dNe (.int i) (.int j) R := .inl ⟨_, rfl, h⟩
theorem l_neS {i j : Str} (h : R (.bl (!decide (i = j)))) : dNe (.str i) (.str j) R := .inl ⟨_, rfl, h⟩
theorem l_neB {i j : Bool} (h : R (.bl (!decide (i = j)))) : dNe (.bl i) (.bl j) R := .inl ⟨_, rfl, h⟩
theorem l_eqX {x y : Dt} {b : Bool} (e : eqS x y = some b) (h : R (.bl b)) : dEq x y R := .inl ⟨_, e, h⟩
theorem l_neX {x y : Dt} {b : Bool} (e : eqS x y = some b) (h : R (.bl (!b))) : dNe x y R := .inl ⟨_, e, h⟩
theorem l_isN (h : R (.bl true)) : dIs .non .non R := ⟨rfl, h⟩
theorem l_isnN (h : R (.bl false)) : dIsnt .non .non R := ⟨rfl, h⟩
theorem l_lenL {ds : List Dt} (h : R (.int ds.length)) : dLen [.lst ds] R := h
theorem l_lenT {ds : List Dt} (h : R (.int ds.length)) : dLen [.tup ds] R := h
theorem l_lenC {ds : List Int} (h : R (.int ds.length)) : dLen [.scr ds] R := h
theorem l_abs {i : Int} (h : R (.int (if i < 0 then -i else i))) : dAbs [.int i] R := ⟨_, rfl, h⟩
theorem l_max {i j : Int} (h : R (.int (if j > i then j else i))) : dMax [.int i, .int j] R := ⟨_, _, rfl, h⟩
theorem l_min {i j : Int} (h : R (.int (if j < i then j else i))) : dMin [.int i, .int j] R := ⟨_, _, rfl, h⟩
theorem l_intI {i : Int} (h : R (.int i)) : dInt [.int i] R := h
theorem l_intB {b : Bool} (h : R (.int (if b then 1 else 0))) : dInt [.bl b] R := h
theorem l_listL {ds : List Dt} (h : R (.lst ds)) : dList [.lst ds] R := h
theorem l_listT {ds : List Dt} (h : R (.lst ds)) : dList [.tup ds] R := h
theorem l_tupleL {ds : List Dt} (h : R (.tup ds)) : dTuple [.lst ds] R := h
theorem l_tupleT {ds : List Dt} (h : R (.tup ds)) : dTuple [.tup ds] R := h
theorem l_inS {c : Nat} {z : Str} (h : R (.bl (decide (c ∈ z.cps.toList)))) : dIn false (.str ⟨#[c]⟩) (.str z) R := ⟨c, rfl, by simpa using h⟩
theorem l_ninS {c : Nat} {z : Str} (h : R (.bl (!decide (c ∈ z.cps.toList)))) : dIn true (.str ⟨#[c]⟩) (.str z) R := ⟨c, rfl, by simpa using h⟩
theorem l_ixL {ds : List Dt} {j : Int} {v : Dt} (e : atI ds j = some v) (h : R v) : dIx (.lst ds) (.int j) R := ⟨_, _, rfl, e, h⟩
theorem l_ixT {ds : List Dt} {j : Int} {v : Dt} (e : atI ds j = some v) (h : R v) : dIx (.tup ds) (.int j) R := ⟨_, _, rfl, e, h⟩
theorem l_ixC {ds : List Int} {j : Int} {v : Int} (e : atI ds j = some v) (h : R (.int v)) : dIx (.scr ds) (.int j) R := ⟨_, _, rfl, e, h⟩
theorem l_slL {ds : List Dt} {lo hi : Option Int} (h : R (.lst (cutD ds lo hi))) : dSl (.lst ds) lo hi R := h
theorem l_slT {ds : List Dt} {lo hi : Option Int} (h : R (.tup (cutD ds lo hi))) : dSl (.tup ds) lo hi R := h
theorem l_isi {x c : Dt} {t u : Value} {b : Bool} (hc : ClsD c u) (ht : TyD K x t) (hk : PySem.W.kitOne K t u = some b) (h : R (.bl b)) : dIsi K [x, c] R := ⟨_, _, _, _, _, rfl, hc, ht, hk, h⟩
def St4 (ds : List Dt) : Prop := ∃ a b c k : Int, ds = [.int a, .int b, .int c, .int k]
theorem St4.mk (a b c k : Int) : St4 [.int a, .int b, .int c, .int k] := ⟨a, b, c, k, rfl⟩
end
theorem mkO {X : Cx} {s : Stmt} {te : TE} {g : TG} (h : PS X s (tAsg te g)) : PS X s (tAsgO te g) := h
theorem mkR {X : Cx} {s : Stmt} {te : TE} (h : PS X s (tRet te)) : PS X s (tRetO te) := h
theorem mk1 {X : Cx} {e : Expr} (i : Nat) {sp : Sp} {W : WX} {t : TA} (h : PE X e (tCallS sp (WE W) t)) : PE X e (tCall1 i sp (WE W) t) := h
section
variable {K : PySem.W.Frag} {W : WX} {Γ : Gm} {X : XP} {P : Dt → Gm → Prop} {te ta tb : TE} {i : Nat} {PP : Po}
theorem ec1 {S : DSp} {t : TA} {P : Sl → Gm → Prop} (h : EvB K W i t Γ (fun ds es Γ1 => ∃ s, Γ1[i]? = some (some s) ∧ S (ds.map .fr ++ s :: es.map .fr) (fun res args' => ∃ s', args' = ds.map .fr ++ s' :: es.map .fr ∧ P res (Γ1.set i (some s')))
    (fun C fs args' => ∃ s', args' = ds.map .fr ++ s' :: es.map .fr ∧ X C fs (Γ1.set i (some s')))) X) : EvO K W (tCall1 i (spD K S) (WE W) t) Γ P X := evo_call1 h
theorem ev_call0 {S : DSp} {t : TA} (h : EvO K W (tCallS (spD K S) (WE W) t) Γ (fun s Γ2 => ∃ d, Frz s d ∧ P d Γ2) X) : Ev K W (tCallS (spD K S) (WE W) t) Γ P X := ev_frz h
theorem ev_call1 {S : DSp} {t : TA} {j : Nat} (h : EvO K W (tCall1 j (spD K S) (WE W) t) Γ (fun s Γ2 => ∃ d, Frz s d ∧ P d Γ2) X) : Ev K W (tCall1 j (spD K S) (WE W) t) Γ P X := ev_frz h
end
section
variable {K : PySem.W.Frag} {W : WX} {Γ : Gm} {P : Dt → Gm → Prop} {te ta tb : TE} {i : Nat} {nx : Gm → Prop} {rt : Sl → Gm → Prop} {xc : XP} {bk ct : Gm → Prop} {t1 t2 : TS} {tt : TT} {g : TG} {X : XP}
theorem g_seq (h : Go K W t1 Γ ⟨fun Γ1 => Go K W t2 Γ1 ⟨nx, rt, xc, bk, ct⟩, rt, xc, bk, ct⟩) : Go K W (tSeq t1 t2) Γ ⟨nx, rt, xc, bk, ct⟩ := go_seq h
theorem g_mid (M : Gm → Prop) (h1 : Go K W t1 Γ ⟨M, rt, xc, bk, ct⟩) (h2 : ∀ Γ1, M Γ1 → Go K W t2 Γ1 ⟨nx, rt, xc, bk, ct⟩) : Go K W (tSeq t1 t2) Γ ⟨nx, rt, xc, bk, ct⟩ := go_mid M h1 h2
theorem g_next (h : nx Γ) : Go K W tNext Γ ⟨nx, rt, xc, bk, ct⟩ := go_next h
theorem g_break (h : bk Γ) : Go K W tBreak Γ ⟨nx, rt, xc, bk, ct⟩ := go_break h
theorem g_cont (h : ct Γ) : Go K W tCont Γ ⟨nx, rt, xc, bk, ct⟩ := go_cont h
theorem g_if (h : EvT K W tt Γ (fun b Γ1 => (b = true → Go K W t1 Γ1 ⟨nx, rt, xc, bk, ct⟩) ∧ (b = false → Go K W t2 Γ1 ⟨nx, rt, xc, bk, ct⟩)) xc) : Go K W (tIfS tt t1 t2) Γ ⟨nx, rt, xc, bk, ct⟩ := go_if h
theorem g_setF (h : Ev K W te Γ (fun d Γ1 => nx (Γ1.set i (some (.fr d)))) xc) : Go K W (tAsg te (gName i)) Γ ⟨nx, rt, xc, bk, ct⟩ := go_setF h
theorem g_setO (h : EvO K W te Γ (fun s Γ1 => nx (Γ1.set i (some s))) xc) : Go K W (tAsgO te (gName i)) Γ ⟨nx, rt, xc, bk, ct⟩ := go_set h
theorem g_setC {S : DSp} {t : TA} (h : EvO K W (tCallS (spD K S) (WE W) t) Γ (fun s Γ1 => nx (Γ1.set i (some s))) xc) : Go K W (tAsg (tCallS (spD K S) (WE W) t) (gName i)) Γ ⟨nx, rt, xc, bk, ct⟩ := go_set h
theorem g_setC1 {S : DSp} {t : TA} {j : Nat} (h : EvO K W (tCall1 j (spD K S) (WE W) t) Γ (fun s Γ1 => nx (Γ1.set i (some s))) xc) : Go K W (tAsg (tCall1 j (spD K S) (WE W) t) (gName i)) Γ ⟨nx, rt, xc, bk, ct⟩ := go_set h
theorem g_sub {ti : TE} (h : Ev K W te Γ (fun v Γ1 => ∃ a ds, Γ1[i]? = some (some (.ol a ds)) ∧ Ev K W ti Γ1 (fun y Γ2 => ∃ a ds k j, Γ2[i]? = some (some (.ol a ds)) ∧ y = .int k ∧ ixN ds.length k = some j ∧ nx (Γ2.set i (some (.ol a (ds.set j v))))) xc) xc) :
    Go K W (tAsg te (gSub (tVar i) ti rSetL)) Γ ⟨nx, rt, xc, bk, ct⟩ := go_setO (a0 := 0) (ds0 := []) h
theorem g_asg (h : Ev K W te Γ (fun d Γ1 => GoG K W g d Γ1 nx xc) xc) : Go K W (tAsg te g) Γ ⟨nx, rt, xc, bk, ct⟩ := go_asg h
theorem g_drop (h : EvO K W te Γ (fun _ Γ1 => nx Γ1) xc) : Go K W (tDrop te) Γ ⟨nx, rt, xc, bk, ct⟩ := go_drop h
theorem g_append {a0 : Addr} {ds0 : List Dt} (hi : Γ[i]? = some (some (.ol a0 ds0))) (h : Ev K W te Γ (fun v Γ1 => ∃ a ds, Γ1[i]? = some (some (.ol a ds)) ∧ ds.length < 1000000 ∧ nx (Γ1.set i (some (.ol a (ds ++ [v]))))) xc) :
    Go K W (tDrop (tBM K "list" rAppend (tVar i) (tCons te tNil))) Γ ⟨nx, rt, xc, bk, ct⟩ := go_append hi h
theorem g_extend {a0 : Addr} {ds0 : List Dt} (hi : Γ[i]? = some (some (.ol a0 ds0))) (h : Ev K W te Γ (fun v Γ1 => ∃ a ds es, v = .lst es ∧ Γ1[i]? = some (some (.ol a ds)) ∧ ds.length + es.length ≤ 1000000 ∧ nx (Γ1.set i (some (.ol a (ds ++ es))))) xc) :
    Go K W (tDrop (tBM K "list" rExtend (tVar i) (tCons te tNil))) Γ ⟨nx, rt, xc, bk, ct⟩ := go_extend hi h
theorem g_retN (h : rt (.fr .non) Γ) : Go K W tRetN Γ ⟨nx, rt, xc, bk, ct⟩ := go_retN h
theorem g_retO (h : EvO K W te Γ rt xc) : Go K W (tRetO te) Γ ⟨nx, rt, xc, bk, ct⟩ := go_ret h
theorem g_retF (h : Ev K W te Γ (fun d Γ1 => rt (.fr d) Γ1) xc) : Go K W (tRet te) Γ ⟨nx, rt, xc, bk, ct⟩ := go_ret (evo_of h)
theorem g_raise {C : Addr} {fs : List Str} {t : TA} (h : EvA K W t Γ (fun ds Γ1 => ds.length = fs.length ∧ xc C (fs.zip ds) Γ1) xc) : Go K W (tRaiseE C fs W t) Γ ⟨nx, rt, xc, bk, ct⟩ := go_raise h
def HdsX (K : PySem.W.Frag) (nx : Gm → Prop) (rt : Sl → Gm → Prop) (xc : XP) (bk ct : Gm → Prop) : List Hdl → XP := Hds K ⟨nx, rt, xc, bk, ct⟩
theorem g_try {tt : WX → TS} {l : List Hdl} (h : ∀ W', Go K W' (tt W') Γ ⟨nx, rt, HdsX K nx rt xc bk ct l, bk, ct⟩) : Go K W (tTry K W l tt) Γ ⟨nx, rt, xc, bk, ct⟩ := go_try h
theorem hx_yes {C : Addr} {fs : List (Str × Dt)} {h : Hdl} {r : List Hdl} (e : PySem.W.exmOne K (.ref C) h.c = some true) (k : ∀ a d, Go K (fun _ _ _ _ => False) (h.ts a (.ref C) d) (gOn h.i a C d fs Γ)
    ⟨fun Γ2 => ExAll a C d (gOff h.i Γ2) ∧ nx (fixE (gOff h.i Γ2)), fun s Γ2 => ExAll a C d (some s :: Γ2) ∧ rt (fixS s) (fixE Γ2), fun _ _ _ => False, fun Γ2 => ExAll a C d (gOff h.i Γ2) ∧ bk (fixE (gOff h.i Γ2)), fun Γ2 => ExAll a C d (gOff h.i Γ2) ∧ ct (fixE (gOff h.i Γ2))⟩) :
    HdsX K nx rt xc bk ct (h :: r) C fs Γ := ⟨true, e, fun _ => k, fun z => nomatch z⟩
theorem hx_no {C : Addr} {fs : List (Str × Dt)} {h : Hdl} {r : List Hdl} (e : PySem.W.exmOne K (.ref C) h.c = some false) (k : HdsX K nx rt xc bk ct r C fs Γ) : HdsX K nx rt xc bk ct (h :: r) C fs Γ := ⟨false, e, fun z => (nomatch z), fun _ => k⟩
theorem e_int {j : Int} (p : P (.int j) Γ) : Ev K W (tC (.int j)) Γ P X := ev_c p
theorem e_str {j : Str} (p : P (.str j) Γ) : Ev K W (tC (.str j)) Γ P X := ev_c p
theorem e_bl {j : Bool} (p : P (.bl j) Γ) : Ev K W (tC (.bl j)) Γ P X := ev_c p
theorem e_non (p : P .non Γ) : Ev K W (tC .non) Γ P X := ev_c p
theorem e_ty {j : String} (p : P (.ty j) Γ) : Ev K W (tC (.ty j)) Γ P X := ev_c p
theorem e_ref {j : Addr} (p : P (.ref j) Γ) : Ev K W (tC (.ref j)) Γ P X := ev_c p
end
section
variable {R : Dt → Prop}
theorem atI_in {α : Type} {xs : List α} {j : Int} (h1 : 0 ≤ j) (h2 : j < xs.length) : ∃ v, atI xs j = some v ∧ xs[j.toNat]? = some v := by
  have hj : j.toNat < xs.length := by omega
  refine ⟨xs[j.toNat], ?_, by simp⟩
  unfold atI ixN
  have e1 : ¬ j < 0 := by omega
  simp [h1, h2, hj]
theorem x_ixC {ns : List Int} {j : Int} (h1 : 0 ≤ j) (h2 : j < ns.length) (h : ∀ v, R (.int v)) : dIx (.scr ns) (.int j) R := by
  obtain ⟨v, e, _⟩ := atI_in h1 h2
  exact l_ixC e (h v)
end
section
variable {K : PySem.W.Frag} {W : WX} {Γ : Gm} {te : TE} {i : Nat} {nx : Gm → Prop} {rt : Sl → Gm → Prop} {xc : XP} {bk ct : Gm → Prop} {g : TG} {X : XP}
theorem evo_ex {P : Sl → Gm → Prop} {a C : Addr} {d : Option Addr} {fs : List (Str × Dt)} (h : Γ[i]? = some (some (.ex a C d fs))) (p : P (.ex a C d fs) Γ) : EvO K W (tVar i) Γ P X := fun O G H σ Q S q _ => by
  obtain ⟨v, e, r⟩ := S.get h
  exact ⟨v, e, q v G H Γ _ (Same.refl _) (S.push r (by simp [Sl.fp]) (by simp [Sl.fp]) (by simp [Sl.fp]) (by simp [Sl.fp])) p⟩
theorem ex_and {a C : Addr} {d : Option Addr} {Γ : Gm} {Q : Prop} (h : ExAll a C d Γ) (q : Q) : ExAll a C d Γ ∧ Q := ⟨h, q⟩
theorem own_at {l : List Bool} (h : l.all id = true) (i : Nat) {b : Bool} (e : l[i]? = some b := by rfl) : b = true := by
  rw [List.all_eq_true] at h
  exact h b (List.mem_of_getElem? e)
end
section
theorem app_len (x y : Str) : (x ++ y).length = x.length + y.length := by
  show (x ++ y).cps.size = _
  rw [PySem.Str.cps_append, Array.size_append]; rfl
end
class OpC (K : PySem.W.Frag) (r : R2) (ρ : outParam (Dt → Dt → (Dt → Prop) → Prop)) : Prop where
  rd : RD K r ρ
class CbC (K : PySem.W.Frag) (r : List V → Hp → VK → Prop) (ρ : outParam (List Dt → (Dt → Prop) → Prop)) : Prop where
  rd : RDC K r ρ
section
variable {K : PySem.W.Frag} {W : WX} {Γ : Gm} {X : XP} {P : Dt → Gm → Prop} {te ta tb : TE}
instance : OpC K (rAddP K) (dAdd) := ⟨rd_add⟩
instance : OpC K (rSubP) (dI0 fun i j => .int (i - j)) := ⟨rd_sub⟩
instance : OpC K (rMulP) (dI CMul fun i j => .int (i * j)) := ⟨rd_mul⟩
instance : OpC K (rFdivP) (dI CDiv fun i j => .int (i / j)) := ⟨rd_fdiv⟩
instance : OpC K (rModP) (dI (fun _ j => 0 < j) fun i j => .int (i % j)) := ⟨rd_mod⟩
instance : OpC K (rPowP) (dI CPow fun i j => .int (i ^ j.toNat)) := ⟨rd_pow⟩
instance : OpC K (rLtP) (dI0 fun i j => .bl (decide (i < j))) := ⟨rd_lt⟩
instance : OpC K (rLeP) (dI0 fun i j => .bl (decide (i ≤ j))) := ⟨rd_le⟩
instance : OpC K (rGtP) (dI0 fun i j => .bl (decide (j < i))) := ⟨rd_gt⟩
instance : OpC K (rGeP) (dI0 fun i j => .bl (decide (j ≤ i))) := ⟨rd_ge⟩
instance : OpC K (rEqP K) (dEq) := ⟨rd_eq⟩
instance : OpC K (rNeP K) (dNe) := ⟨rd_ne⟩
instance : OpC K (rIsP) (dIs) := ⟨rd_is⟩
instance : OpC K (rIsntP) (dIsnt) := ⟨rd_isnt⟩
instance : OpC K (rInP K) (dIn false) := ⟨rd_in⟩
instance : OpC K (rNotInP K) (dIn true) := ⟨rd_notIn⟩
instance : OpC K (rIxP K) (dIx) := ⟨rd_ix⟩
instance : CbC K (rLenP K) (dLen) := ⟨rdc_len⟩
instance : CbC K (rAbsP) (dAbs) := ⟨rdc_abs⟩
instance : CbC K (rMaxP) (dMax) := ⟨rdc_max⟩
instance : CbC K (rMinP) (dMin) := ⟨rdc_min⟩
instance : CbC K (rIntP) (dInt) := ⟨rdc_int⟩
instance : CbC K (rStrP) (dStr) := ⟨rdc_str⟩
instance : CbC K (rListP K) (dList) := ⟨rdc_list⟩
instance : CbC K (rTupleP K) (dTuple) := ⟨rdc_tuple⟩
instance : CbC K (rIsiP K) (dIsi K) := ⟨rdc_isi⟩
theorem v_op {r : R2} {ρ : Dt → Dt → (Dt → Prop) → Prop} [c : OpC K r ρ] (h : Ev K W ta Γ (fun x Γ1 => Ev K W tb Γ1 (fun y Γ2 => ρ x y fun z => P z Γ2) X) X) : Ev K W (tOp r ta tb) Γ P X := ev_op c.rd h
theorem v_cb {r : List V → Hp → VK → Prop} {ρ : List Dt → (Dt → Prop) → Prop} {t : TA} [c : CbC K r ρ] (h : EvA K W t Γ (fun ds Γ1 => ρ ds fun z => P z Γ1) X) : Ev K W (tCB r t) Γ P X := ev_cb c.rd h
theorem l_I0 {R : Dt → Prop} {g : Int → Int → Dt} {i j : Int} (h : R (g i j)) : dI0 g (.int i) (.int j) R := ⟨_, _, rfl, rfl, h⟩
end
section
variable {X : Cx}
theorem op_addK (K : PySem.W.Frag) (h : X.K = K) : OpR X (binaryOp .Add) (rAddP K) := by subst h; exact op_addP
theorem ix_K (K : PySem.W.Frag) (h : X.K = K) (hu : X.A.units + 64 < cLine) : IxR X (rIxP K) := by subst h; exact ix_P (by omega)
theorem sl_K (K : PySem.W.Frag) (h : X.K = K) : SlR X (rSlP K) := by subst h; exact sl_P
theorem call_lenK (K : PySem.W.Frag) (h : X.K = K) : CallR X (.builtin "len") (rLenP K) := by subst h; exact call_lenP
theorem call_isiK (K : PySem.W.Frag) (h : X.K = K) : CallR X (.builtin "isinstance") (rIsiP K) := by subst h; exact call_isiP
theorem op_eqK (K : PySem.W.Frag) (h : X.K = K) (hu : X.A.units + 64 < cLine) : OpR X (compareOp .Eq) (rEqP K) := by subst h; exact op_eqP hu
theorem op_neK (K : PySem.W.Frag) (h : X.K = K) (hu : X.A.units + 64 < cLine) : OpR X (compareOp .NotEq) (rNeP K) := by subst h; exact op_neP hu
theorem pi_seqK {tg l : Expr} {tl : TE} (K : PySem.W.Frag) (h : X.K = K) (hl : PE X l tl) : PI X tg l (iSeq K tl) := by subst h; exact pi_seq hl
theorem pe_fldK {e : Expr} {f : Str} {pos : Pos} {ta : TE} (K : PySem.W.Frag) (h : X.K = K) (he : PE X e ta) (hb : attributeBase e f X.env (eval e X.env) = eval e X.env := by rfl) : PE X (.Attribute e f pos) (tFldP K ta f) := by subst h; exact pe_fldP he hb
end
class KitC (a c : String) (r : outParam Bool) : Prop where
  kit : ∀ K : PySem.W.Frag, PySem.W.kitOne K (.type a) (.type c) = some r
class TyC (d : Dt) (a : outParam String) : Prop where
  ty : ∀ K : PySem.W.Frag, TyD K d (.type a)
instance : KitC "NoneType" "int" false := ⟨fun K => by kernel_rfl⟩
instance : KitC "NoneType" "str" false := ⟨fun K => by kernel_rfl⟩
instance : KitC "NoneType" "bool" false := ⟨fun K => by kernel_rfl⟩
instance : KitC "NoneType" "list" false := ⟨fun K => by kernel_rfl⟩
instance : KitC "NoneType" "tuple" false := ⟨fun K => by kernel_rfl⟩
instance : KitC "NoneType" "dict" false := ⟨fun K => by kernel_rfl⟩
instance : KitC "bool" "int" true := ⟨fun K => by kernel_rfl⟩
instance : KitC "bool" "str" false := ⟨fun K => by kernel_rfl⟩
instance : KitC "bool" "bool" true := ⟨fun K => by kernel_rfl⟩
instance : KitC "bool" "list" false := ⟨fun K => by kernel_rfl⟩
instance : KitC "bool" "tuple" false := ⟨fun K => by kernel_rfl⟩
instance : KitC "bool" "dict" false := ⟨fun K => by kernel_rfl⟩
instance : KitC "int" "int" true := ⟨fun K => by kernel_rfl⟩
instance : KitC "int" "str" false := ⟨fun K => by kernel_rfl⟩
instance : KitC "int" "bool" false := ⟨fun K => by kernel_rfl⟩
instance : KitC "int" "list" false := ⟨fun K => by kernel_rfl⟩
instance : KitC "int" "tuple" false := ⟨fun K => by kernel_rfl⟩
instance : KitC "int" "dict" false := ⟨fun K => by kernel_rfl⟩
instance : KitC "str" "int" false := ⟨fun K => by kernel_rfl⟩
instance : KitC "str" "str" true := ⟨fun K => by kernel_rfl⟩
instance : KitC "str" "bool" false := ⟨fun K => by kernel_rfl⟩
instance : KitC "str" "list" false := ⟨fun K => by kernel_rfl⟩
instance : KitC "str" "tuple" false := ⟨fun K => by kernel_rfl⟩
instance : KitC "str" "dict" false := ⟨fun K => by kernel_rfl⟩
instance : KitC "list" "int" false := ⟨fun K => by kernel_rfl⟩
instance : KitC "list" "str" false := ⟨fun K => by kernel_rfl⟩
instance : KitC "list" "bool" false := ⟨fun K => by kernel_rfl⟩
instance : KitC "list" "list" true := ⟨fun K => by kernel_rfl⟩
instance : KitC "list" "tuple" false := ⟨fun K => by kernel_rfl⟩
instance : KitC "list" "dict" false := ⟨fun K => by kernel_rfl⟩
instance : KitC "tuple" "int" false := ⟨fun K => by kernel_rfl⟩
instance : KitC "tuple" "str" false := ⟨fun K => by kernel_rfl⟩
instance : KitC "tuple" "bool" false := ⟨fun K => by kernel_rfl⟩
instance : KitC "tuple" "list" false := ⟨fun K => by kernel_rfl⟩
instance : KitC "tuple" "tuple" true := ⟨fun K => by kernel_rfl⟩
instance : KitC "tuple" "dict" false := ⟨fun K => by kernel_rfl⟩
instance : KitC "dict" "int" false := ⟨fun K => by kernel_rfl⟩
instance : KitC "dict" "str" false := ⟨fun K => by kernel_rfl⟩
instance : KitC "dict" "bool" false := ⟨fun K => by kernel_rfl⟩
instance : KitC "dict" "list" false := ⟨fun K => by kernel_rfl⟩
instance : KitC "dict" "tuple" false := ⟨fun K => by kernel_rfl⟩
instance : KitC "dict" "dict" true := ⟨fun K => by kernel_rfl⟩
instance : TyC (.non) "NoneType" := ⟨fun K => .non⟩
instance {b : Bool} : TyC (.bl b) "bool" := ⟨fun K => .bl b⟩
instance {i : Int} : TyC (.int i) "int" := ⟨fun K => .int i⟩
instance {x : Str} : TyC (.str x) "str" := ⟨fun K => .str x⟩
instance {x : List Dt} : TyC (.lst x) "list" := ⟨fun K => .lst x⟩
instance {x : List Dt} : TyC (.tup x) "tuple" := ⟨fun K => .tup x⟩
instance {x : List (Key × Dt)} : TyC (.dK x) "dict" := ⟨fun K => .dK x⟩
theorem x_isi {K : PySem.W.Frag} {R : Dt → Prop} {x : Dt} {a c : String} {r : Bool} [t : TyC x a] [k : KitC a c r] (h : R (.bl r)) : dIsi K [x, .ty c] R := l_isi (.ty c) (t.ty K) (k.kit K) h
theorem x_fldE {K : PySem.W.Frag} {C : Addr} {fs : List (Str × Dt)} {f : Str} {y : Dt} {Q : Dt → Prop} (hc : XfC K C) (hn : PySem.W.findIn K (.ref C) f = some none) (hl : fs.lookup f = some y) (p : Q y) :
    (∃ C' fs' y, Dt.exc C fs = .obj C' fs' ∧ Cls K C' ∧ NoAttr K C' f ∧ fs'.lookup f = some y ∧ Q y) ∨ (∃ C' fs' y, Dt.exc C fs = .exc C' fs' ∧ XfC K C' ∧ PySem.W.findIn K (.ref C') f = some none ∧ fs'.lookup f = some y ∧ Q y) := .inr ⟨_, _, _, rfl, hc, hn, hl, p⟩
theorem x_isE {K : PySem.W.Frag} {R : Dt → Prop} {C D : Addr} {fs : List (Str × Dt)} {b : Bool} (f : ExcC K C) (hk : PySem.W.kitOne K (.ref C) (.ref D) = some b) (h : R (.bl b)) : dIsi K [.exc C fs, .ref D] R := l_isi (.own D) (.exc f) hk h
theorem x_isV {K : PySem.W.Frag} {R : Dt → Prop} {C : Addr} {n : String} {fs : List (Str × Dt)} {b : Bool} (f : ExcC K C) (hk : PySem.W.kitOne K (.ref C) (.type n) = some b) (h : R (.bl b)) : dIsi K [.exc C fs, .ty n] R := l_isi (.ty n) (.exc f) hk h
inductive Fl : Dt → Prop
  | non : Fl .non
  | bl (b : Bool) : Fl (.bl b)
  | int (i : Int) : Fl (.int i)
  | str {z : Str} (h : z.length ≤ 1000) : Fl (.str z)
def isInt : Dt → Bool
  | .int _ => true
  | _ => false
def isStr : Dt → Bool
  | .str _ => true
  | _ => false
def isBl : Dt → Bool
  | .bl _ => true
  | _ => false
def eqStr (s : Str) : Dt → Bool
  | .str z => decide (z = s)
  | _ => false
section
variable {R : Dt → Prop} {K : PySem.W.Frag}
theorem f_eqS {d : Dt} {s : Str} (f : Fl d) (h : R (.bl (eqStr s d))) : dEq d (.str s) R := by
  cases f with
  | non => exact l_eqX rfl h
  | bl b => exact l_eqX rfl h
  | int i => exact l_eqX rfl h
  | str l => exact l_eqS h
theorem f_eqD {d : Dt} (f : Fl d) (h : R (.bl true)) : dEq d d R := by
  cases f with
  | non => exact l_eqX rfl h
  | bl b => exact l_eqX (by simp [eqS]) h
  | int i => exact l_eqX (by simp [eqS]) h
  | str l => exact l_eqX (by simp [eqS]) h
theorem f_neD {d : Dt} (f : Fl d) (h : R (.bl false)) : dNe d d R := by
  cases f with
  | non => exact l_neX (b := true) rfl h
  | bl b => exact l_neX (b := true) (by simp [eqS]) h
  | int i => exact l_neX (b := true) (by simp [eqS]) h
  | str l => exact l_neX (b := true) (by simp [eqS]) h
theorem f_isInt {d : Dt} (f : Fl d) (h : R (.bl (isInt d || isBl d))) : dIsi K [d, .ty "int"] R := by
  cases f with
  | non => exact x_isi h
  | bl b => exact x_isi h
  | int i => exact x_isi h
  | str l => exact x_isi h
theorem f_isBl {d : Dt} (f : Fl d) (h : R (.bl (isBl d))) : dIsi K [d, .ty "bool"] R := by
  cases f with
  | non => exact x_isi h
  | bl b => exact x_isi h
  | int i => exact x_isi h
  | str l => exact x_isi h
theorem f_isStr {d : Dt} (f : Fl d) (h : R (.bl (isStr d))) : dIsi K [d, .ty "str"] R := by
  cases f with
  | non => exact x_isi h
  | bl b => exact x_isi h
  | int i => exact x_isi h
  | str l => exact x_isi h
end
end DL
namespace L2
open PySem PySem.Spec PyProof.Rows
section
variable {X : Cx} {CX : CXT} {k : Nat} {f C : Addr} {fd : FuncData} {ps : List Str} {sp : Sp} {E : St → XK} {x m : Str} {p pos apos : Pos} {e o : Expr} {es : List Expr} {ta : TE} {t : TA}
def tMakeS (C : Addr) (sp : Sp) (E : St → XK) (t : TA) : TE := fun σ H Q => t σ H fun vs H1 =>
  ∀ y dy, H1 y = none → H1 dy = none → dy ≠ y → sp (.ref y :: vs) (upd (upd H1 dy (.own y)) y (.ins C dy [])) (fun v H2 => v = .non ∧ Q (.ref y) H2) (E σ)
end
end L2
namespace DL
open PySem PySem.Spec L2
section
variable {X : Cx} {x m : Str} {ps : List Str} {k j : Nat} {S : DSp} {W : WX} {e o : Expr} {es : List Expr} {t : TA} {ta : TE} {p pos apos : Pos} {C f : Addr}
theorem ps_fldK {value : Expr} {f : Str} {pos' : Pos} {tv : TE} (K : PySem.W.Frag) (h : X.K = K) (ha : PE X o ta) (hv : PE X value tv) (hs : swapsWith value (some (.Attribute o f pos')) pos.line X.env = pure false := by rfl) : PS X (.Assign [.Attribute o f pos'] value pos) (sFld K ta tv f) := by
  subst h
  exact ps_fld ha hv hs
end
section
variable {K : PySem.W.Frag} {W : WX} {Γ : Gm} {X : XP} {P : Dt → Gm → Prop} {te ta tb tv : TE} {i : Nat} {nx : Gm → Prop} {rt : Sl → Gm → Prop} {xc : XP} {bk ct : Gm → Prop}
abbrev frF (fs : List (Str × Dt)) : List (Str × Sl) := fs.map fun p => (p.1, .fr p.2)
def putD (f : Str) (d : Dt) : List (Str × Dt) → List (Str × Dt)
  | [] => [(f, d)]
  | (g, c) :: r => if g = f then (g, d) :: r else (g, c) :: putD f d r
theorem fpF_fr : ∀ fs : List (Str × Dt), fpF (frF fs) = []
  | [] => rfl
  | (f, d) :: r => by
    show (Sl.fr d).fp ++ fpF (frF r) = []
    rw [fpF_fr r]; rfl
theorem ownF_rep {G H : Hp} : ∀ {vs : List (Str × V)} {fs : List (Str × Dt)}, OwnF K G H vs (frF fs) → RepF K G vs fs
  | _, [], .nil => .nil
  | _, (f, d) :: r, .cons (.fr h) t => .cons h (ownF_rep t)
theorem rep_ownF {G H : Hp} : ∀ {vs : List (Str × V)} {fs : List (Str × Dt)}, RepF K G vs fs → OwnF K G H vs (frF fs)
  | _, _, .nil => .nil
  | _, _, .cons h t => .cons (.fr h) (rep_ownF t)
theorem Sta.frz1 {O G H : Hp} {σ : St} {v : V} {s : Sl} {a : Addr} {ob : HO} (S : Sta K O G H (some v :: σ) (some s :: Γ)) (hf : s.fp = [a]) (ha : H a = some ob) : Same G (upd G a ob) ∧ Sta K O (upd G a ob) H σ Γ := by
  have na : G a = none := S.ng a (by simp [fps, fpO, hf])
  have oa : O a = none := S.no a (by simp [fps, fpO, hf])
  obtain ⟨s1, s2⟩ := same_frz S.g ha na
  have T := S.tail
  have nd := S.nd
  simp only [fps, fpO, hf] at nd
  have nf : a ∉ fps Γ := fun z => (List.nodup_append.mp nd).2.2 a (by simp) a z rfl
  refine ⟨s1, s2, T.o, fun b hb => ?_, T.sl.mono s1 fun _ _ _ q => q, T.nd, fun b hb => ?_, T.no, T.om⟩
  · by_cases e : b = a
    · subst e; exact absurd oa hb
    · rw [upd_ne e]; exact T.d b hb
  · by_cases e : b = a
    · subst e; exact absurd hb nf
    · rw [upd_ne e]; exact T.ng b hb
theorem ev_make {S : DSp} {C : Addr} {t : TA} (h : EvA K W t Γ (fun ds Γ1 => ∀ y, S (.oo y C [] :: ds.map .fr) (fun res args' => ∃ fs, res = .fr .non ∧ args' = .oo y C (frF fs) :: ds.map .fr ∧ P (.obj C fs) Γ1) (fun D fs _ => X D fs Γ1)) X) : Ev K W (tMakeS C (spD K S) (WE W) t) Γ P X := fun O G H σ Q S0 q x =>
  h O G H σ _ S0 (fun vs G1 H1 Γ1 ds s1 S1 r hS y dy ny nd ne => by
    have e1 : Ext G1 H1 G1 (upd H1 dy (.own y)) := Ext.raw S1.g nd
    have ny2 : upd H1 dy (.own y) y = none := by rw [upd_ne (Ne.symm ne)]; exact ny
    have e2 : Ext G1 (upd H1 dy (.own y)) G1 (upd (upd H1 dy (.own y)) y (.ins C dy [])) := Ext.raw e1.s ny2
    have S2 := S1.ext (e1.trans e2)
    have Se := S2.entry0 r
    have yf : y ∉ fps Γ1 := fun z => S1.there y z ny
    have Sp := Se.push (v := .ref y) (s := .oo y C []) (.oo upd_same .nil) (by simp [Sl.fp, fpF]) (fun a ha => by
      simp [Sl.fp, fpF] at ha; subst ha; exact S1.g.free ny) (fun a ha => by
      simp [Sl.fp, fpF] at ha; subst ha
      rw [forn_out yf]; exact S1.o.free ny) (fun a ha => by rw [fps_fr]; simp)
    refine ⟨_, G1, .oo y C [] :: ds.map .fr, _, _, Sp, hS y, fun v G2 H2 res args' s2 T2 p => ?_, fun D d fs G2 H2 args' s2 T2 rx p => ?_⟩
    · obtain ⟨fs, er, ea, p⟩ := p
      subst er ea
      have hv := T2.head
      cases hv with
      | fr rv =>
      cases rv
      refine ⟨rfl, ?_⟩
      have Tt := T2.tail
      have oy := Tt.head
      have Tb := S2.back s2 T2.g T2.o T2.d
      have fpy : (Sl.oo y C (frF fs)).fp = [y] := by simp only [Sl.fp]; rw [fpF_fr]
      have Tp := Tb.push oy (by rw [fpy]; simp) (fun a ha => Tt.ng a (by simp only [List.map_cons, fps, fpO, List.mem_append]; exact .inl ha)) (fun a ha => by
        have n := Tt.no a (by simp only [List.map_cons, fps, fpO, List.mem_append]; exact .inl ha)
        by_cases hf : a ∈ fps Γ1
        · exact S1.no a hf
        · rw [forn_out hf] at n; exact n) (fun a ha z => by
        rw [fpy] at ha; simp at ha; subst ha; exact yf z)
      cases oy with
      | @oo _ _ dx fsv _ hy of =>
      obtain ⟨s3, T3⟩ := Tp.frz1 fpy hy
      exact q (.ref y) _ H2 Γ1 (.obj C fs) (s1.trans (s2.trans s3)) T3 (.obj upd_same ((ownF_rep of).mono s3)) p
    · exact x D d fs G2 H2 Γ1 (s1.trans s2) (S2.back s2 T2.g T2.o T2.d) rx p) x
theorem repF_put {G : Hp} {f : Str} {v : V} {d : Dt} (h : Rep K G v d) : ∀ {vs : List (Str × V)} {fs : List (Str × Dt)}, RepF K G vs fs → RepF K G (putF f v vs) (putD f d fs)
  | _, _, .nil => .cons h .nil
  | _, _, .cons (f := g) (vs := r) (ds := r') q t => by
    unfold putF putD
    by_cases e : g = f
    · rw [if_pos e, if_pos e]; exact .cons h t
    · rw [if_neg e, if_neg e]; exact .cons q (repF_put h t)
theorem Sta.mutO {O G H : Hp} {σ : St} {a C dx : Addr} {s : Sl} {fs : List (Str × Dt)} {vs : List (Str × V)} (S : Sta K O G H σ Γ) (hi : Γ[i]? = some (some s)) (hf : s.fp = [a]) (ev : σ[i]? = some (some (.ref a))) (r : RepF K G vs fs) :
    Sta K O G (upd H a (.ins C dx vs)) σ (Γ.set i (some (.oo a C (frF fs)))) := by
  have ma : a ∈ fps Γ := mem_fps hi a (by rw [hf]; simp)
  have ga := S.ng a ma
  have oa := S.no a ma
  obtain ⟨m1, m2⟩ := fps_part hi S.nd
  have na : a ∉ fps (Γ.set i none) := m2 a (by rw [hf]; simp)
  have il : i < σ.length := by
    rcases Nat.lt_or_ge i σ.length with z | z
    · exact z
    · rw [List.getElem?_eq_none z] at ev; cases ev
  have Sf := S.forget i (some (.ref a))
  have es : σ.set i (some (.ref a)) = σ := by
    apply List.ext_getElem?
    intro j
    rw [List.getElem?_set]
    by_cases hj : i = j
    · subst hj; rw [if_pos rfl, ev, if_pos il]
    · rw [if_neg hj]
  rw [es] at Sf
  have T : Sta K O G (upd H a (.ins C dx vs)) σ (Γ.set i none) := by
    refine ⟨fun b u q => ?_, fun b u q => ?_, Sf.d, Sf.sl.mono (Same.refl _) fun b hb u q => ?_, Sf.nd, Sf.ng, Sf.no, Sf.om⟩
    · rw [upd_ne (ne_of_none q ga)]; exact S.g b u q
    · rw [upd_ne (ne_of_none q oa)]; exact S.o b u q
    · rw [upd_ne (fun z : b = a => na (by rw [← z]; exact hb))]; exact q
  have fpa : (Sl.oo a C (frF fs)).fp = [a] := by simp only [Sl.fp]; rw [fpF_fr]
  have T2 := (T.push (v := .ref a) (s := .oo a C (frF fs)) (.oo upd_same (rep_ownF r)) (by rw [fpa]; simp) (fun b hb => by rw [fpa] at hb; simp at hb; subst hb; exact ga) (fun b hb => by rw [fpa] at hb; simp at hb; subst hb; exact oa) (fun b hb => by rw [fpa] at hb; simp at hb; subst hb; exact na)).put i
  rw [es, List.set_set] at T2
  exact T2
theorem g_fld {f : Str} (h : Ev K W tv Γ (fun d Γ1 => ∃ a C fs, Γ1[i]? = some (some (.oo a C (frF fs))) ∧ (Cls K C ∧ NoAttr K C f ∧ fs.length < 1000) ∧ nx (Γ1.set i (some (.oo a C (frF (putD f d fs)))))) xc) : Go K W (sFld K (tVar i) tv f) Γ ⟨nx, rt, xc, bk, ct⟩ := fun O G H σ D S a b c d e =>
  h O G H σ _ S (fun v G1 H1 Γ1 dv s1 S1 r ⟨ad, C, fs, hg, ⟨hc, hn, hl⟩, p⟩ => by
    obtain ⟨u, eu, ou⟩ := S1.get hg
    have z := ou.adr rfl
    subst z
    cases ou with
    | @oo _ _ dx fsv _ hy of =>
    have rf := ownF_rep of
    refine ⟨_, eu, ad, C, dx, fsv, rfl, hy, hc, hn, by rw [rf.length]; exact hl, ?_⟩
    exact a G1 _ σ _ s1 (S1.mutO hg (by simp only [Sl.fp]; rw [fpF_fr]) eu (repF_put r rf)) p) (e σ)
end
end DL
namespace DL
open PySem PySem.Spec L2
def EvI (K : PySem.W.Frag) (W : WX) (wi : TI) (Γ : Gm) (P : List Dt → Gm → Prop) (X : XP) : Prop :=
  ∀ (O G H : Hp) (σ : St) (R : It → Hp → Prop), Sta K O G H σ Γ →
    (∀ (J : It) (G2 H2 : Hp) (Γ2 : Gm) (xs : List Dt) (n : Nat) (GG : Hp → Prop) (Y : Nat → Hp → V → Hp → Prop), Same G G2 → Sta K O G2 H2 σ Γ2 → Walk J n GG Y → n = xs.length → (∀ H', Same G2 H' → GG H') →
      (∀ k x v G3 H3 H4, xs[k]? = some x → Same G2 G3 → Same G3 H3 → Y k H3 v H4 → ∃ G4, DL.Ext G3 H3 G4 H4 ∧ Rep K G4 v x) → P xs Γ2 → R J H2) → XOk K W O G σ X → wi σ H R
section
variable {K : PySem.W.Frag} {W : WX} {Γ : Gm} {X : XP} {te ta tb : TE} {i : Nat} {nx : Gm → Prop} {rt : Sl → Gm → Prop} {xc : XP} {bk ct : Gm → Prop} {g : TG} {tbd : TS} {wi : TI} {PI : List Dt → Gm → Prop}
theorem g_forI (h : EvI K W wi Γ (fun xs Γ1 => ∃ I : Nat → Gm → Prop, I 0 Γ1 ∧ (∀ k x Γ2, xs[k]? = some x → I k Γ2 → GoG K W g x Γ2 (fun Γ3 => Go K W tbd Γ3 ⟨I (k + 1), rt, xc, nx, I (k + 1)⟩) xc) ∧ (∀ Γ2, I xs.length Γ2 → nx Γ2)) xc) :
    Go K W (tFor wi g tbd) Γ ⟨nx, rt, xc, bk, ct⟩ := fun O G H σ D S a b c d e =>
  h O G H σ _ S (fun J G1 H1 Γ1 xs n GG Y s1 S1 w hn hG hY ⟨I, h0, hs, hd⟩ => go_walk (PP := ⟨nx, rt, xc, bk, ct⟩) w xs hn S1 hG (fun k x v G2 H2 H3 _ hx s2 g2 y => hY k x v G2 H2 H3 hx s2 g2 y)
    (fun G2 H2 σ2 Γ2 s2 S2 p => a G2 H2 σ2 Γ2 (s1.trans s2) S2 p) (fun v G2 H2 σ2 Γ2 z s2 S2 p => b v G2 H2 σ2 Γ2 z (s1.trans s2) S2 p) (fun σ2 => (e σ2).mono s1) I h0 hs hd) (e σ)
theorem ei_seq (h : Ev K W te Γ (fun d Γ1 => ∃ xs, SeqD d xs ∧ PI xs Γ1) X) : EvI K W (iSeq K te) Γ PI X := fun O G H σ R S q x =>
  h O G H σ _ S (fun v G1 H1 Γ1 dd s1 S1 r ⟨xs, sq, p⟩ => by
    cases sq with
    | lst ds =>
      cases r with
      | @lst ad vs _ ha rs =>
        refine .inl ⟨ad, rfl, ⟨vs, SqL.of (S1.g _ _ ha)⟩, q _ G1 H1 Γ1 _ _ _ _ s1 S1 (walk_list (K := K) (a := ad) (xs := vs)) rs.length (fun H' s' => SqL.of (s' _ _ ha)) (fun k x v G2 H2 H3 hx s2 g2 y => ?_) p⟩
        obtain ⟨rfl, hv⟩ := y
        obtain ⟨d', hd', rr⟩ := rs.get' hv
        rw [hx] at hd'; cases hd'
        exact ⟨G2, Ext.refl g2, rr.mono s2⟩
    | tup ds =>
      cases r with
      | @tup ad vs _ ha rs =>
        refine .inr (.inl ⟨ad, rfl, ⟨vs, SqT.of (S1.g _ _ ha)⟩, q _ G1 H1 Γ1 _ _ _ _ s1 S1 (walk_tup (K := K) (a := ad) (xs := vs)) rs.length (fun H' s' => SqT.of (s' _ _ ha)) (fun k x v G2 H2 H3 hx s2 g2 y => ?_) p⟩)
        obtain ⟨rfl, hv⟩ := y
        obtain ⟨d', hd', rr⟩ := rs.get' hv
        rw [hx] at hd'; cases hd'
        exact ⟨G2, Ext.refl g2, rr.mono s2⟩
    | scr ns =>
      cases r with
      | @scr ad _ ha =>
        refine .inl ⟨ad, rfl, ⟨_, S1.g.seq ha⟩, q _ G1 H1 Γ1 _ _ _ _ s1 S1 (walk_list (K := K) (a := ad) (xs := ns.map V.int)) (by simp) (fun H' s' => s'.seq ha) (fun k x v G2 H2 H3 hx s2 g2 y => ?_) p⟩
        obtain ⟨rfl, hv⟩ := y
        rw [List.getElem?_map] at hv hx
        cases z : ns[k]? with
        | none => rw [z] at hx; cases hx
        | some n =>
          rw [z] at hx hv
          cases hx; cases hv
          exact ⟨G2, Ext.refl g2, .int n⟩
    | str z =>
      cases r
      refine .inr (.inr (.inl ⟨z, rfl, q _ G1 H1 Γ1 _ _ _ _ s1 S1 (walk_str (z := z)) (by simp) (fun _ _ => trivial) (fun k x v G2 H2 H3 hx s2 g2 y => ?_) p⟩))
      obtain ⟨rfl, c, hc, rfl⟩ := y
      rw [List.getElem?_map] at hx
      have hc' : z.cps.toList[k]? = some c := by simpa using hc
      rw [hc'] at hx
      cases hx
      exact ⟨G2, Ext.refl g2, .str _⟩
    | dK ds =>
      cases r with
      | @dK ad ob vs _ ha rs =>
        exact .inr (.inr (.inr ⟨ad, ob, rfl, .inl ⟨vs, S1.g _ _ ha, q _ G1 H1 Γ1 (ds.map fun p => kD p.1) _ _ _ s1 S1 (walk_keys (d := ad) (o := ob) (kvs := vs)) (by rw [rs.length, List.length_map]) (fun H' s' => s' _ _ ha) (fun k x v G2 H2 H3 hx s2 g2 y => item_K (rs.mono s2) g2 hx y) p⟩⟩))
    | dT ds =>
      cases r with
      | @dT ad ob vs _ ha rs =>
        exact .inr (.inr (.inr ⟨ad, ob, rfl, .inr ⟨vs, S1.g _ _ ha, q _ G1 H1 Γ1 (ds.map fun p => kDs p.1) _ _ _ s1 S1 (walk_keysT (d := ad) (o := ob) (kvs := vs)) (by rw [rs.length, List.length_map]) (fun H' s' => s' _ _ ha) (fun k x v G2 H2 H3 hx s2 g2 y => item_T (rs.mono s2) g2 hx y) p⟩⟩))) x
def rngD (m n : Int) : List Dt := (List.range (n - m).toNat).map fun (k : Nat) => .int (m + (k : Int))
theorem rngD_get {m n : Int} {k : Nat} {x : Dt} (h : (rngD m n)[k]? = some x) : x = .int (m + k) ∧ m + k < n := by
  unfold rngD at h
  rw [List.getElem?_map] at h
  rcases Nat.lt_or_ge k (n - m).toNat with z | z
  · rw [List.getElem?_range z] at h
    cases h
    exact ⟨rfl, by omega⟩
  · rw [List.getElem?_eq_none (by simpa using z)] at h; cases h
theorem rngD_len (m n : Int) : (rngD m n).length = (n - m).toNat := by simp [rngD]
theorem ei_rng2 {t : TA} (h : EvA K W t Γ (fun ds Γ1 => ∃ m n : Int, ds = [.int m, .int n] ∧ (-(2 ^ 62) ≤ m ∧ m < 2 ^ 62 ∧ -(2 ^ 62) ≤ n ∧ n < 2 ^ 62) ∧ PI (rngD m n) Γ1) X) : EvI K W (iRng2 t) Γ PI X := fun O G H σ R S q x =>
  h O G H σ _ S (fun vs G1 H1 Γ1 ds s1 S1 r ⟨m, n, en, l, p⟩ => by
    subst en
    cases r with
    | cons r1 r2 =>
      cases r2 with
      | cons r2 r3 =>
      cases r1; cases r2; cases r3
      refine ⟨m, n, rfl, l, q _ G1 H1 Γ1 _ _ _ _ s1 S1 (walk_range (lo := m) (n := (n - m).toNat)) (rngD_len m n).symm (fun _ _ => trivial) (fun k x v G2 H2 H3 hx s2 g2 y => ?_) p⟩
      obtain ⟨rfl, rfl⟩ := y
      obtain ⟨rfl, _⟩ := rngD_get hx
      exact ⟨G2, Ext.refl g2, .int _⟩) x
theorem ei_rng1 {t : TA} (h : EvA K W t Γ (fun ds Γ1 => ∃ n : Int, ds = [.int n] ∧ (-(2 ^ 62) ≤ n ∧ n < 2 ^ 62) ∧ PI (rngD 0 n) Γ1) X) : EvI K W (iRng1 t) Γ PI X := fun O G H σ R S q x =>
  h O G H σ _ S (fun vs G1 H1 Γ1 ds s1 S1 r ⟨n, en, ⟨l1, l2⟩, p⟩ => by
    subst en
    cases r with
    | cons r1 r2 =>
      cases r1; cases r2
      refine ⟨n, rfl, l1, l2, q _ G1 H1 Γ1 _ _ _ _ s1 S1 (walk_range (lo := 0) (n := n.toNat)) (by rw [rngD_len]; simp) (fun _ _ => trivial) (fun k x v G2 H2 H3 hx s2 g2 y => ?_) p⟩
      obtain ⟨rfl, rfl⟩ := y
      obtain ⟨rfl, _⟩ := rngD_get hx
      exact ⟨G2, Ext.refl g2, .int _⟩) x
end
section
variable {K : PySem.W.Frag} {G H : Hp}
theorem slots_of : ∀ {σ : St} {Γ : Gm}, σ.length = Γ.length → (∀ (i : Nat) (s : Sl), Γ[i]? = some (some s) → ∃ v, σ[i]? = some (some v) ∧ Own K G H v s) → Slots K G H σ Γ
  | [], [], _, _ => .nil
  | [], _ :: _, h, _ => by simp at h
  | _ :: _, [], h, _ => by simp at h
  | x :: σ, none :: Γ, h, k => .no (slots_of (by simpa using h) fun i s e => by simpa using k (i + 1) s (by simpa using e))
  | x :: σ, some y :: Γ, h, k => by
    obtain ⟨v, e, o⟩ := k 0 y rfl
    simp at e
    subst e
    exact .yes o (slots_of (by simpa using h) fun i s e => by simpa using k (i + 1) s (by simpa using e))
def wipeG (Γ : Gm) : List Nat → Gm
  | [] => Γ
  | v :: vs => (wipeG Γ vs).set v none
theorem wipe_get : ∀ {vs : List Nat} {σ : St} {i : Nat} {v : V}, (wipe σ vs)[i]? = some (some v) → σ[i]? = some (some v)
  | [], _, _, _, h => h
  | w :: vs, σ, i, v, h => by
    unfold wipe at h
    rw [List.getElem?_set] at h
    by_cases e : w = i
    · rw [if_pos e] at h
      split at h
      · cases h
      · cases h
    · rw [if_neg e] at h
      exact wipe_get h
theorem sta_unwipe {O : Hp} {σ : St} {Γ : Gm} {vs : List Nat} (S : Sta K O G H (wipe σ vs) Γ) : Sta K O G H σ Γ := by
  refine ⟨S.g, S.o, S.d, slots_of (by rw [← S.sl.len, wipe_length]) fun i s e => ?_, S.nd, S.ng, S.no, S.om⟩
  obtain ⟨v, e, o⟩ := S.get e
  exact ⟨v, wipe_get e, o⟩
theorem sta_wipe {O : Hp} {σ : St} {Γ : Gm} (S : Sta K O G H σ Γ) : ∀ vs : List Nat, Sta K O G H (wipe σ vs) (wipeG Γ vs)
  | [] => S
  | v :: vs => (sta_wipe S vs).forget v none
theorem updM {O : Hp} {D : Addr} {o : HO} (h : ∀ a u, O a = some u → MutT (some u)) (mu : MutT (some o)) : ∀ a u, upd O D o a = some u → MutT (some u) := fun a u q => by
  by_cases e : a = D
  · subst e; rw [upd_same] at q; cases q; exact mu
  · rw [upd_ne e] at q; exact h a u q
theorem Sta.toO {O : Hp} {σ : St} {Γ : Gm} {D : Addr} {o : HO} (S : Sta K O G H σ Γ) (hD : H D = some o) (oD : O D = none) (gD : G D = none) (fD : D ∉ fps Γ) (mu : Mut (some o)) : Sta K (upd O D o) G H σ Γ := by
  refine ⟨S.g, fun a u q => ?_, fun a q => ?_, S.sl, S.nd, S.ng, fun a ha => ?_, updM S.om (.inl mu)⟩
  · by_cases e : a = D
    · subst e; rw [upd_same] at q; cases q; exact hD
    · rw [upd_ne e] at q; exact S.o a u q
  · by_cases e : a = D
    · subst e; exact gD
    · rw [upd_ne e] at q; exact S.d a q
  · rw [upd_ne (fun z : a = D => fD (z ▸ ha))]; exact S.no a ha
theorem Sta.offO {O : Hp} {σ : St} {Γ : Gm} {D : Addr} {o : HO} (S : Sta K (upd O D o) G H σ Γ) (oD : O D = none) : Sta K O G H σ Γ := by
  refine ⟨S.g, fun a u q => S.o a u (by rw [upd_ne (ne_of_none q oD)]; exact q), fun a q => S.d a ?_, S.sl, S.nd, S.ng, fun a ha => ?_, fun a u q => S.om a u (by rw [upd_ne (ne_of_none q oD)]; exact q)⟩
  · by_cases e : a = D
    · subst e; exact absurd oD q
    · rw [upd_ne e]; exact q
  · have n := S.no a ha
    by_cases e : a = D
    · subst e; rw [upd_same] at n; cases n
    · rw [upd_ne e] at n; exact n
theorem Sta.updO {O : Hp} {σ : St} {Γ : Gm} {D : Addr} {o o' : HO} (S : Sta K (upd O D o) G H σ Γ) (mu : Mut (some o')) : Sta K (upd O D o') G (upd H D o') σ Γ := by
  have gD : G D = none := S.d D (by rw [upd_same]; simp)
  have fD : D ∉ fps Γ := fun z => by have n := S.no D z; rw [upd_same] at n; cases n
  refine ⟨fun a u q => ?_, fun a u q => ?_, fun a q => ?_, S.sl.mono (Same.refl _) fun a ha u q => ?_, S.nd, S.ng, fun a ha => ?_, fun a u q => ?om⟩
  · rw [upd_ne (ne_of_none q gD)]; exact S.g a u q
  · by_cases e : a = D
    · subst e; rw [upd_same] at q ⊢; exact q
    · rw [upd_ne e] at q ⊢; exact S.o a u (by rw [upd_ne e]; exact q)
  · by_cases e : a = D
    · subst e; exact gD
    · rw [upd_ne e] at q; exact S.d a (by rw [upd_ne e]; exact q)
  · rw [upd_ne (fun z : a = D => fD (z ▸ ha))]; exact q
  · rw [upd_ne (fun z : a = D => fD (z ▸ ha))]
    have n := S.no a ha
    rw [upd_ne (fun z : a = D => fD (z ▸ ha))] at n
    exact n
  case om =>
    by_cases e : a = D
    · subst e; rw [upd_same] at q; cases q; exact .inl mu
    · rw [upd_ne e] at q; exact S.om a u (by rw [upd_ne e]; exact q)
end
def Wr (g : TG) (vs : List Nat) : Prop := ∀ (v : V) (σ : St) (H : Hp) (Q : St → Hp → Prop), g v σ H Q → g v σ H fun σ2 H2 => wipe σ2 vs = wipe σ vs ∧ Q σ2 H2
def Wrs (g : TGs) (vs : List Nat) : Prop := ∀ (v : List V) (σ : St) (H : Hp) (Q : St → Hp → Prop), g v σ H Q → g v σ H fun σ2 H2 => wipe σ2 vs = wipe σ vs ∧ Q σ2 H2
abbrev WF : WX := fun _ _ _ _ => False
abbrev XF : XP := fun _ _ _ => False
theorem wipe_set {σ : St} {x : Option V} : ∀ {vs : List Nat} {i : Nat}, i ∈ vs → wipe (σ.set i x) vs = wipe σ vs
  | [], _, h => by simp at h
  | w :: vs, i, h => by
    unfold wipe
    by_cases e : i = w
    · subst e
      by_cases m : i ∈ vs
      · rw [wipe_set m]
      · have key : ∀ (us : List Nat), (wipe (σ.set i x) us).set i none = (wipe σ us).set i none := by
          intro us
          induction us with
          | nil => simp [wipe]
          | cons u us ih =>
            unfold wipe
            by_cases q : u = i
            · subst q
              rw [List.set_set, List.set_set]; exact ih
            · rw [List.set_comm _ _ q, ih, List.set_comm _ _ q]
        exact key vs
    · have m : i ∈ vs := by
        rcases List.mem_cons.mp h with z | z
        · exact absurd z e
        · exact z
      rw [wipe_set m]
theorem wipe_in {σ : St} {us : List Nat} : ∀ {vs : List Nat}, (∀ v ∈ vs, v ∈ us) → wipe (wipe σ vs) us = wipe σ us
  | [], _ => rfl
  | v :: vs, h => by
    show wipe ((wipe σ vs).set v none) us = _
    rw [wipe_set (h v (by simp)), wipe_in fun w hw => h w (by simp [hw])]
theorem wr_name {i : Nat} {vs : List Nat} (h : i ∈ vs) : Wr (gName i) vs := fun v σ H Q q => ⟨wipe_set h, q⟩
theorem wrs_nil {vs : List Nat} : Wrs gNil vs := fun v σ H Q ⟨e, q⟩ => ⟨e, rfl, q⟩
def MoG (g : TG) : Prop := ∀ (v : V) (σ : St) (H : Hp) (Q Q' : St → Hp → Prop), (∀ a b, Q a b → Q' a b) → g v σ H Q → g v σ H Q'
def MoGs (g : TGs) : Prop := ∀ (v : List V) (σ : St) (H : Hp) (Q Q' : St → Hp → Prop), (∀ a b, Q a b → Q' a b) → g v σ H Q → g v σ H Q'
theorem mo_name {i : Nat} : MoG (gName i) := fun v σ H Q Q' k q => k _ _ q
theorem mos_nil : MoGs gNil := fun v σ H Q Q' k ⟨e, q⟩ => ⟨e, k _ _ q⟩
theorem mos_cons {g : TG} {r : TGs} (a : MoG g) (b : MoGs r) : MoGs (gCons g r) := fun v σ H Q Q' k ⟨x, y, e, q⟩ => ⟨x, y, e, a _ _ _ _ _ (fun _ _ z => b _ _ _ _ _ k z) q⟩
theorem mo_tup {K : PySem.W.Frag} {n : Nat} {r : TGs} (b : MoGs r) : MoG (gTup K n r) := fun v σ H Q Q' k ⟨a, xs, e, s, l, q⟩ => ⟨a, xs, e, s, l, b _ _ _ _ _ k q⟩
theorem wrs_cons {g : TG} {r : TGs} {vs : List Nat} (m : MoG g) (mr : MoGs r) (a : Wr g vs) (b : Wrs r vs) : Wrs (gCons g r) vs := fun v σ H Q ⟨x, y, e, q⟩ =>
  ⟨x, y, e, m _ _ _ _ _ (fun σ1 H1 ⟨e1, z⟩ => mr _ _ _ _ _ (fun σ2 H2 ⟨e2, w⟩ => ⟨e2.trans e1, w⟩) (b _ _ _ _ z)) (a _ _ _ _ q)⟩
theorem wr_tup {K : PySem.W.Frag} {n : Nat} {r : TGs} {vs : List Nat} (b : Wrs r vs) : Wr (gTup K n r) vs := fun v σ H Q ⟨a, xs, e, s, l, q⟩ => ⟨a, xs, e, s, l, b _ _ _ _ q⟩
section
variable {K : PySem.W.Frag} {W : WX} {Γ : Gm} {X : XP} {te : TE} {tt : TT} {g : TG} {wi : TI} {vs : List Nat}
theorem evo_lc {P : Sl → Gm → Prop} (hw : Wr g vs) (hm : MoG g) (h : EvI K W wi Γ (fun xs Γ1 => ∃ I : Nat → List Dt → Gm → Prop, I 0 [] (wipeG Γ1 vs) ∧
      (∀ k x acc Γ2, xs[k]? = some x → I k acc Γ2 → GoG K WF g x Γ2 (fun Γ3 => EvT K WF tt Γ3 (fun b Γ4 => (b = true → Ev K WF te Γ4 (fun y Γ5 => acc.length < 1000000 ∧ I (k + 1) (acc ++ [y]) (wipeG Γ5 vs)) XF) ∧ (b = false → I (k + 1) acc (wipeG Γ4 vs))) XF) XF) ∧
      (∀ a acc Γ2, I xs.length acc Γ2 → P (.ol a acc) Γ2)) X) : EvO K W (tLc wi g tt te vs) Γ P X := fun O G H σ Q S q x =>
  h O G H σ _ S (fun J G1 H1 Γ1 xs n GG Y s1 S1 w hn hG hY ⟨I, h0, hs, hd⟩ => by
    intro D nD
    have oD : O D = none := S1.o.free nD
    have gD : G1 D = none := S1.g.free nD
    have fD : D ∉ fps Γ1 := fun z => S1.there D z nD
    have xf : ∀ {O' G' : Hp} {σ' : St}, XOk K WF O' G' σ' XF := fun {O' G' σ'} C d fs G2 H2 Γ2 _ _ _ z => z
    refine lc_it w (fun k H' => ∃ (G2 : Hp) (Γ2 : Gm) (acc : List Dt) (av : List V), Same G1 G2 ∧ Sta K (upd O D (.lst av)) G2 H' (wipe σ vs) Γ2 ∧ Reps K G2 av acc ∧ I k acc Γ2) ?_ (fun k H' _ ⟨G2, Γ2, acc, av, s2, S2, _⟩ => hG H' (s2.trans S2.g)) ?_ ?_
    · have T := (S1.ext (Ext.raw (ob := .lst []) S1.g nD)).toO upd_same oD gD fD trivial
      exact ⟨G1, _, [], [], Same.refl _, sta_wipe T vs, .nil, h0⟩
    · rintro k v H2 H3 hk ⟨G2, Γ2, acc, av, s2, S2, ra, p⟩ y
      have hx : xs[k]? = some (xs[k]'(by omega)) := by simp
      obtain ⟨G3, ex, r⟩ := hY k _ v G2 H2 H3 hx s2 S2.g y
      refine hm _ _ _ _ _ (fun σ2 H2 z => (fun (e : wipe σ2 vs = wipe σ vs) => ⟨e, z.2 e⟩) (z.1.trans (wipe_in fun v hv => hv))) (hw v (wipe σ vs) H3 (fun σ2 H2 => wipe σ2 vs = wipe σ vs → tt σ2 H2 fun b H3 => if b = true then te σ2 H3 fun y H4 => ∃ acc, H4 D = some (HO.lst acc) ∧ acc.length < sizeLine ∧
        ∃ (G2 : Hp) (Γ2 : Gm) (acc_1 : List Dt) (av : List V), Same G1 G2 ∧ Sta K (upd O D (HO.lst av)) G2 (upd H4 D (HO.lst (acc ++ [y]))) (wipe σ vs) Γ2 ∧ Reps K G2 av acc_1 ∧ I (k + 1) acc_1 Γ2
        else ∃ (G2 : Hp) (Γ2 : Gm) (acc : List Dt) (av : List V), Same G1 G2 ∧ Sta K (upd O D (HO.lst av)) G2 H3 (wipe σ vs) Γ2 ∧ Reps K G2 av acc ∧ I (k + 1) acc Γ2) ?_)
      refine hs k _ acc Γ2 hx p _ G3 H3 _ v _ (S2.ext ex) r (fun G4 H4 σ4 Γ4 s4 S4 p4 e4 => ?_) fun σ5 => xf
      have r4 : Reps K G4 av acc := (ra.mono ex.g).mono s4
      have s14 : Same G1 G4 := s2.trans (ex.g.trans s4)
      refine p4 _ G4 H4 σ4 _ S4 (fun b G5 H5 Γ5 s5 S5 p5 => ?_) xf
      cases b with
      | false =>
        refine iteF ⟨G5, _, acc, av, s14.trans s5, ?_, r4.mono s5, p5.2 rfl⟩
        have T := sta_wipe S5 vs
        rw [e4] at T
        exact T
      | true =>
        refine iteT (p5.1 rfl _ G5 H5 σ4 _ S5 (fun y G6 H6 Γ6 dy s6 S6 r6 p6 => ?_) xf)
        refine ⟨av, S6.o D _ upd_same, by rw [((r4.mono s5).mono s6).length]; exact Nat.lt_of_lt_of_le p6.1 (by decide), G6, _, acc ++ [dy], av ++ [y], s14.trans (s5.trans s6), ?_, ((r4.mono s5).mono s6).append (.cons r6 .nil), p6.2⟩
        have T := sta_wipe (S6.updO (o' := .lst (av ++ [y])) trivial) vs
        rw [e4] at T
        exact T
    · rintro H2 ⟨G2, Γ2, acc, av, s2, S2, ra, p⟩
      have T := sta_unwipe S2
      have hD : H2 D = some (.lst av) := T.o D _ upd_same
      have gD2 : G2 D = none := T.d D (by rw [upd_same]; simp)
      have fD2 : D ∉ fps Γ2 := fun z => by have n := T.no D z; rw [upd_same] at n; cases n
      refine q (.ref D) G2 H2 Γ2 (.ol D acc) (s1.trans s2) ((T.offO oD).push (.ol hD ra) (by simp [Sl.fp]) ?_ ?_ ?_) (hd D acc Γ2 (by rw [← hn]; exact p))
      · intro b hb; simp [Sl.fp] at hb; subst hb; exact gD2
      · intro b hb; simp [Sl.fp] at hb; subst hb; exact oD
      · intro b hb; simp [Sl.fp] at hb; subst hb; exact fD2) x
end
def Cnt (fs : List (Str × Dt)) (n : Nat) : Prop := fs.length ≤ n
theorem cnt_nil : Cnt [] 0 := Nat.le_refl _
theorem cnt_put {f : Str} {d : Dt} : ∀ {fs : List (Str × Dt)} {n : Nat}, Cnt fs n → Cnt (putD f d fs) (n + 1)
  | [], n, _ => by unfold Cnt putD; simp
  | (g, c) :: r, n, h => by
    unfold Cnt at h
    unfold putD
    by_cases e : g = f
    · rw [if_pos e]; unfold Cnt; simp at h ⊢; omega
    · rw [if_neg e]
      have := cnt_put (f := f) (d := d) (fs := r) (n := n - 1) (by unfold Cnt; simp at h; omega)
      unfold Cnt at this ⊢
      simp at h ⊢
      omega
theorem cnt_lt {fs : List (Str × Dt)} {n : Nat} (h : Cnt fs n) (k : n < 1000) : fs.length < 1000 := Nat.lt_of_le_of_lt h k
section
variable {K : PySem.W.Frag} {W : WX} {Γ : Gm} {X : XP} {P : Dt → Gm → Prop} {tv : TE} {i : Nat} {nx : Gm → Prop} {rt : Sl → Gm → Prop} {xc : XP} {bk ct : Gm → Prop}
theorem g_make {S : DSp} {C : Addr} {t : TA} (h : Ev K W (tMakeS C (spD K S) (WE W) t) Γ (fun _ Γ1 => nx Γ1) xc) : Go K W (tDrop (tMakeS C (spD K S) (WE W) t)) Γ ⟨nx, rt, xc, bk, ct⟩ := go_drop (evo_of h)
theorem x_fldO {C : Addr} {fs : List (Str × Dt)} {f : Str} {y : Dt} {Q : Dt → Prop} (hc : Cls K C) (hn : NoAttr K C f) (hl : fs.lookup f = some y) (p : Q y) :
    (∃ C' fs' y, Dt.obj C fs = .obj C' fs' ∧ Cls K C' ∧ NoAttr K C' f ∧ fs'.lookup f = some y ∧ Q y) ∨ (∃ C' fs' y, Dt.obj C fs = .exc C' fs' ∧ XfC K C' ∧ PySem.W.findIn K (.ref C') f = some none ∧ fs'.lookup f = some y ∧ Q y) := .inl ⟨_, _, _, rfl, hc, hn, hl, p⟩
theorem ev_mk {S : DSp} {C : Addr} {t : TA} (h : EvA K W t Γ (fun ds Γ1 => ∀ y, S (.oo y C (frF []) :: ds.map .fr) (fun res args' => ∃ fs, res = .fr .non ∧ args' = .oo y C (frF fs) :: ds.map .fr ∧ P (.obj C fs) Γ1) (fun D fs _ => X D fs Γ1)) X) : Ev K W (tMakeS C (spD K S) (WE W) t) Γ P X := ev_make h
end
end DL
namespace OX
open PySem PySem.Spec PyProof.Rows PySem.SeqAt
section
variable {prog : Program} {w : World} {A : Around} {E : Value → Shared → Prop} {s : Shared} {K : PySem.W.Frag} {x y C f : Addr} {ox oy : Obj} {od od' : Option Obj}
end
end OX
namespace L2
open PySem PySem.Spec PyProof.Rows
section
variable {X : Cx} {CX : CXT} {k : Nat} {f C : Addr} {fd : FuncData} {ps : List Str} {sp : Sp} {E : St → XK} {pos : Pos} {a b : Expr} {ta tb : TE}
end
end L2
namespace DL
open PySem PySem.Spec L2
section
variable {X : Cx} {ps : List Str} {k j : Nat} {S : DSp} {W : WX} {a b : Expr} {ta tb : TE} {pos : Pos} {C f : Addr}
end
section
variable {K : PySem.W.Frag} {W : WX} {Γ : Gm} {X : XP} {P : Dt → Gm → Prop} {ta tb : TE}
end
theorem kit_self {K : PySem.W.Frag} {C : Addr} : PySem.W.kitOne K (.ref C) (.ref C) = some true := by
  unfold PySem.W.kitOne
  rw [if_pos (by simp)]
theorem x_isO {K : PySem.W.Frag} {R : Dt → Prop} {C : Addr} {fs : List (Str × Dt)} (f : InsF K C) (h : R (.bl true)) : dIsi K [.obj C fs, .ref C] R := l_isi (.own C) (.obj f) kit_self h
end DL
namespace L2
open PySem PySem.Spec
def rNegP : V → Hp → VK → Prop := rU fun i => .int (-i)
theorem un_negP {X : Cx} : UnR X (unaryOp .USub) rNegP := un_neg
end L2
namespace DL
open PySem PySem.Spec L2
inductive Pl : Nat → Dt → Prop
  | non {n : Nat} : Pl n .non
  | bl {n : Nat} (b : Bool) : Pl n (.bl b)
  | int {n : Nat} (i : Int) : Pl n (.int i)
  | str {n : Nat} {x : Str} (h : PyData.strOk x = true) : Pl n (.str x)
  | lst {n : Nat} {xs : List Dt} (h : ∀ d ∈ xs, Pl n d) : Pl (n + 1) (.lst xs)
  | tup {n : Nat} {xs : List Dt} (h : ∀ d ∈ xs, Pl n d) : Pl (n + 1) (.tup xs)
mutual
def eqD : Dt → Dt → Bool
  | .non, .non => true
  | .bl a, .bl b => a == b
  | .bl a, .int j => (if a then 1 else 0) == j
  | .int i, .bl b => i == (if b then 1 else 0)
  | .int i, .int j => i == j
  | .str x, .str y => x == y
  | .lst xs, .lst ys => eqDs xs ys
  | .tup xs, .tup ys => eqDs xs ys
  | _, _ => false
def eqDs : List Dt → List Dt → Bool
  | [], [] => true
  | x :: xs, y :: ys => eqD x y && eqDs xs ys
  | _, _ => false
end
theorem py_list {n : Nat} : ∀ {xs : List Dt}, (∀ d ∈ xs, ∃ p, d.py = some p ∧ p.canLay0 = true ∧ p.depth ≤ n) → ∃ ps, pyL xs = some ps ∧ PyData.canLayAll0 ps = true ∧ PyData.depthAll ps ≤ n
  | [], _ => ⟨[], rfl, rfl, Nat.zero_le _⟩
  | x :: xs, h => by
    obtain ⟨p, e, c, d⟩ := h x (by simp)
    obtain ⟨ps, es, cs, ds⟩ := py_list (xs := xs) fun d hd => h d (by simp [hd])
    refine ⟨p :: ps, by simp only [pyL]; rw [e, es], by simp [PyData.canLayAll0, c, cs], ?_⟩
    simp only [PyData.depthAll]
    omega
theorem Pl.py {n : Nat} {d : Dt} (h : Pl n d) : ∃ p, d.py = some p ∧ p.canLay0 = true ∧ p.depth ≤ n := by
  induction h with
  | non => exact ⟨_, rfl, rfl, Nat.zero_le _⟩
  | bl b => exact ⟨_, rfl, rfl, Nat.zero_le _⟩
  | int i => exact ⟨_, rfl, rfl, Nat.zero_le _⟩
  | str h => exact ⟨_, rfl, h, Nat.zero_le _⟩
  | lst _ ih =>
    obtain ⟨ps, e, c, d⟩ := py_list ih
    exact ⟨.list ps, by simp only [Dt.py]; rw [e]; rfl, c, by simp only [PyData.depth]; omega⟩
  | tup _ ih =>
    obtain ⟨ps, e, c, d⟩ := py_list ih
    exact ⟨.tuple ps, by simp only [Dt.py]; rw [e]; rfl, c, by simp only [PyData.depth]; omega⟩
mutual
theorem eqD_ok : ∀ {x y : Dt} {p q : PyData}, x.py = some p → y.py = some q → PyData.eqv p q = eqD x y
  | .non, y, p, q, h1, h2 => by cases y <;> simp [Dt.py] at h1 h2 <;> first | (obtain ⟨_, _, rfl⟩ := h2; subst h1; simp [PyData.eqv, eqD]) | (subst h1 h2; simp [PyData.eqv, eqD])
  | .bl a, y, p, q, h1, h2 => by cases y <;> simp [Dt.py] at h1 h2 <;> first | (obtain ⟨_, _, rfl⟩ := h2; subst h1; simp [PyData.eqv, eqD]) | (subst h1 h2; simp [PyData.eqv, eqD])
  | .int i, y, p, q, h1, h2 => by cases y <;> simp [Dt.py] at h1 h2 <;> first | (obtain ⟨_, _, rfl⟩ := h2; subst h1; simp [PyData.eqv, eqD]) | (subst h1 h2; simp [PyData.eqv, eqD])
  | .str i, y, p, q, h1, h2 => by cases y <;> simp [Dt.py] at h1 h2 <;> first | (obtain ⟨_, _, rfl⟩ := h2; subst h1; simp [PyData.eqv, eqD]) | (subst h1 h2; simp [PyData.eqv, eqD])
  | .lst xs, y, p, q, h1, h2 => by
    simp [Dt.py] at h1
    obtain ⟨ps, e1, rfl⟩ := h1
    cases y <;> simp [Dt.py] at h2 <;> first
      | (obtain ⟨qs, e2, rfl⟩ := h2; first | (simp only [PyData.eqv, eqD]; exact eqDs_ok e1 e2) | simp [PyData.eqv, eqD])
      | (subst h2; simp [PyData.eqv, eqD])
  | .tup xs, y, p, q, h1, h2 => by
    simp [Dt.py] at h1
    obtain ⟨ps, e1, rfl⟩ := h1
    cases y <;> simp [Dt.py] at h2 <;> first
      | (obtain ⟨qs, e2, rfl⟩ := h2; first | (simp only [PyData.eqv, eqD]; exact eqDs_ok e1 e2) | simp [PyData.eqv, eqD])
      | (subst h2; simp [PyData.eqv, eqD])
  | .ty _, _, _, _, h1, _ => by simp [Dt.py] at h1
  | .ref _, _, _, _, h1, _ => by simp [Dt.py] at h1
  | .scr _, _, _, _, h1, _ => by simp [Dt.py] at h1
  | .obj _ _, _, _, _, h1, _ => by simp [Dt.py] at h1
  | .dK _, _, _, _, h1, _ => by simp [Dt.py] at h1
  | .dT _, _, _, _, h1, _ => by simp [Dt.py] at h1
  | .exc _ _, _, _, _, h1, _ => by simp [Dt.py] at h1
  | .at_ _ _, _, _, _, h1, _ => by simp [Dt.py] at h1
theorem eqDs_ok : ∀ {xs ys : List Dt} {ps qs : List PyData}, pyL xs = some ps → pyL ys = some qs → PyData.eqvAll ps qs = eqDs xs ys
  | [], [], _, _, h1, h2 => by simp [pyL] at h1 h2; subst h1 h2; rfl
  | [], y :: ys, _, _, h1, h2 => by
    simp only [pyL] at h1 h2
    cases h1
    split at h2
    · cases h2; rfl
    · cases h2
  | x :: xs, [], _, _, h1, h2 => by
    simp only [pyL] at h1 h2
    cases h2
    split at h1
    · cases h1; rfl
    · cases h1
  | x :: xs, y :: ys, _, _, h1, h2 => by
    simp only [pyL] at h1 h2
    split at h1
    · rename_i p ps ep eps
      split at h2
      · rename_i q qs eq eqs
        cases h1; cases h2
        simp only [PyData.eqvAll, eqDs]
        rw [eqD_ok ep eq, eqDs_ok eps eqs]
      · cases h2
    · cases h1
end
section
variable {R : Dt → Prop} {x y : Dt}
theorem p_eq {n m : Nat} (hx : Pl n x) (hy : Pl m y) (hn : n ≤ 64) (hm : m ≤ 64) (h : R (.bl (eqD x y))) : dEq x y R := by
  obtain ⟨p, e1, c1, d1⟩ := hx.py
  obtain ⟨q, e2, c2, d2⟩ := hy.py
  refine .inr ⟨p, q, e1, e2, ?_, ?_, by rw [eqD_ok e1 e2]; exact h⟩
  · unfold SeqAt.shaped; rw [c1]; simp; omega
  · unfold SeqAt.shaped; rw [c2]; simp; omega
theorem p_ne {n m : Nat} (hx : Pl n x) (hy : Pl m y) (hn : n ≤ 64) (hm : m ≤ 64) (h : R (.bl (!eqD x y))) : dNe x y R := by
  obtain ⟨p, e1, c1, d1⟩ := hx.py
  obtain ⟨q, e2, c2, d2⟩ := hy.py
  refine .inr ⟨p, q, e1, e2, ?_, ?_, by rw [eqD_ok e1 e2]; exact h⟩
  · unfold SeqAt.shaped; rw [c1]; simp; omega
  · unfold SeqAt.shaped; rw [c2]; simp; omega
end
def dNeg (x : Dt) (R : Dt → Prop) : Prop := ∃ i, x = .int i ∧ R (.int (-i))
theorem rd_neg {K : PySem.W.Frag} : RD1 K rNegP dNeg := fun G H x dx R Q s rx ⟨i, e, p⟩ q => by
  subst e; cases rx
  exact ⟨i, rfl, q _ G H _ (Ext.refl s) (.int _) p⟩
end DL
namespace DL
open PySem PySem.Spec L2
class Wk (g : Prop) (h : outParam Prop) : Prop where
  go : h → g
class At (Γ : Gm) (i : Nat) (s : outParam Sl) : Prop where
  h : Γ[i]? = some (some s)
class SetG (Γ : Gm) (i : Nat) (s : Option Sl) (Γ' : outParam Gm) : Prop where
  h : Γ.set i s = Γ'
class FrzC (s : Sl) (d : outParam Dt) : Prop where
  h : Frz s d
section
variable {Γ Γ1 Γ2 : Gm} {s t : Sl} {x v w : Option Sl} {i j n : Nat}
instance : At (some s :: Γ) 0 s := ⟨rfl⟩
instance [a : At Γ n s] : At (x :: Γ) (n + 1) s := ⟨by simpa using a.h⟩
instance : SetG (x :: Γ) 0 v (v :: Γ) := ⟨rfl⟩
instance [a : SetG Γ n v Γ1] : SetG (x :: Γ) (n + 1) v (x :: Γ1) := ⟨by rw [List.set_cons_succ, a.h]⟩
instance (priority := high) [a : SetG Γ i v Γ1] [b : SetG Γ1 j w Γ2] : SetG (Γ.set i v) j w Γ2 := ⟨by rw [a.h, b.h]⟩
instance {d : Dt} : FrzC (.fr d) d := ⟨.fr d⟩
instance {a : Addr} {ds : List Dt} : FrzC (.ol a ds) (.lst ds) := ⟨.ol a ds⟩
end
def Br (b : Bool) (A B : Prop) : Prop := (b = true → A) ∧ (b = false → B)
def BrP (p A B : Prop) : Prop := (p → A) ∧ (¬ p → B)
def Side (c Q : Prop) : Prop := c ∧ Q
def OwnL (Γ : Gm) (i : Nat) (Q : Addr → List Dt → Prop) : Prop := ∃ a ds, Γ[i]? = some (some (.ol a ds)) ∧ Q a ds
def OwnO (Γ : Gm) (i : Nat) (Q : Addr → Addr → List (Str × Dt) → Prop) : Prop := ∃ a C fs, Γ[i]? = some (some (.oo a C (frF fs))) ∧ Q a C fs
def Fz (s : Sl) (Q : Dt → Prop) : Prop := ∃ d, Frz s d ∧ Q d
def IsB (d : Dt) (Q : Bool → Prop) : Prop := ∃ b, d = .bl b ∧ Q b
def IsI (d : Dt) (Q : Int → Prop) : Prop := ∃ b, d = .int b ∧ Q b
def IsS (d : Dt) (Q : Str → Prop) : Prop := ∃ b, d = .str b ∧ Q b
def IsL (d : Dt) (Q : List Dt → Prop) : Prop := ∃ b, d = .lst b ∧ Q b
def Bk (args : List Sl) (Γ : Gm) (Q : List Sl → Prop) : Prop := ∃ args', Back args Γ args' ∧ Q args'
def Fld (K : PySem.W.Frag) (f : Str) (d : Dt) (Q : Dt → Prop) : Prop := (∃ C fs y, d = .obj C fs ∧ Cls K C ∧ NoAttr K C f ∧ fs.lookup f = some y ∧ Q y) ∨ (∃ C fs y, d = .exc C fs ∧ XfC K C ∧ PySem.W.findIn K (.ref C) f = some none ∧ fs.lookup f = some y ∧ Q y)
def CallS (S : DSp) (ds : List Dt) (R : Sl → Prop) (Y : Addr → List (Str × Dt) → Prop) : Prop := S (ds.map .fr) (fun res _ => R res) (fun C fs _ => Y C fs)
def CallB (S : DSp) (ds es : List Dt) (s : Sl) (R : Sl → Sl → Prop) (Y : Addr → List (Str × Dt) → Sl → Prop) : Prop :=
  S (ds.map .fr ++ s :: es.map .fr) (fun res args' => ∃ s', args' = ds.map .fr ++ s' :: es.map .fr ∧ R res s') (fun C fs args' => ∃ s', args' = ds.map .fr ++ s' :: es.map .fr ∧ Y C fs s')
def CallM (S : DSp) (C : Addr) (ds : List Dt) (R : List (Str × Dt) → Prop) (Y : Addr → List (Str × Dt) → Prop) : Prop :=
  ∀ y, S (.oo y C (frF []) :: ds.map .fr) (fun res args' => ∃ fs, res = .fr .non ∧ args' = .oo y C (frF fs) :: ds.map .fr ∧ R fs) (fun D fs _ => Y D fs)
def SeqQ (d : Dt) (Q : List Dt → Prop) : Prop := ∃ xs, SeqD d xs ∧ Q xs
section
variable {A B Q p : Prop}
theorem Side.mk (a : A) (b : B) : Side A B := ⟨a, b⟩
theorem BrP.mk (a : p → A) (b : ¬ p → B) : BrP p A B := ⟨a, b⟩
theorem Br.mk {b : Bool} (h1 : b = true → A) (h2 : b = false → B) : Br b A B := ⟨h1, h2⟩
instance : Wk (Br true A B) A := ⟨fun h => ⟨fun _ => h, fun z => nomatch z⟩⟩
instance : Wk (Br false A B) B := ⟨fun h => ⟨fun z => (nomatch z), fun _ => h⟩⟩
instance {b : Bool} : Wk (Br (!b) A B) (Br b B A) := ⟨fun h => ⟨fun z => h.2 (by simpa using z), fun z => h.1 (by simpa using z)⟩⟩
instance [Decidable p] : Wk (Br (decide p) A B) (BrP p A B) := ⟨fun h => ⟨fun z => h.1 (of_decide_eq_true z), fun z => h.2 (of_decide_eq_false z)⟩⟩
instance : Wk (BrP (¬ p) A B) (BrP p B A) := ⟨fun h => ⟨fun z => h.2 z, fun z => h.1 (Classical.not_not.mp z)⟩⟩
instance {Γ : Gm} {i : Nat} {a : Addr} {ds : List Dt} {Q : Addr → List Dt → Prop} [h : At Γ i (.ol a ds)] : Wk (OwnL Γ i Q) (Q a ds) := ⟨fun q => ⟨a, ds, h.h, q⟩⟩
instance (priority := high) {Γ Γ' : Gm} {i j : Nat} {v : Option Sl} {Q : Addr → List Dt → Prop} [h : SetG Γ j v Γ'] : Wk (OwnL (Γ.set j v) i Q) (OwnL Γ' i Q) := ⟨fun q => by rw [h.h]; exact q⟩
instance {Γ : Gm} {i : Nat} {a C : Addr} {fs : List (Str × Dt)} {Q : Addr → Addr → List (Str × Dt) → Prop} [h : At Γ i (.oo a C (frF fs))] : Wk (OwnO Γ i Q) (Q a C fs) := ⟨fun q => ⟨a, C, fs, h.h, q⟩⟩
instance (priority := high) {Γ Γ' : Gm} {i j : Nat} {v : Option Sl} {Q : Addr → Addr → List (Str × Dt) → Prop} [h : SetG Γ j v Γ'] : Wk (OwnO (Γ.set j v) i Q) (OwnO Γ' i Q) := ⟨fun q => by rw [h.h]; exact q⟩
instance {s : Sl} {d : Dt} {Q : Dt → Prop} [h : FrzC s d] : Wk (Fz s Q) (Q d) := ⟨fun q => ⟨d, h.h, q⟩⟩
instance {b : Bool} {Q : Bool → Prop} : Wk (IsB (.bl b) Q) (Q b) := ⟨fun q => ⟨b, rfl, q⟩⟩
instance {b : Int} {Q : Int → Prop} : Wk (IsI (.int b) Q) (Q b) := ⟨fun q => ⟨b, rfl, q⟩⟩
instance {b : Str} {Q : Str → Prop} : Wk (IsS (.str b) Q) (Q b) := ⟨fun q => ⟨b, rfl, q⟩⟩
instance {b : List Dt} {Q : List Dt → Prop} : Wk (IsL (.lst b) Q) (Q b) := ⟨fun q => ⟨b, rfl, q⟩⟩
instance {ds : List Dt} {Q : List Dt → Prop} : Wk (SeqQ (.lst ds) Q) (Q ds) := ⟨fun q => ⟨_, .lst ds, q⟩⟩
instance {ds : List Dt} {Q : List Dt → Prop} : Wk (SeqQ (.tup ds) Q) (Q ds) := ⟨fun q => ⟨_, .tup ds, q⟩⟩
instance {ds : List Int} {Q : List Dt → Prop} : Wk (SeqQ (.scr ds) Q) (Q (ds.map .int)) := ⟨fun q => ⟨_, .scr ds, q⟩⟩
instance {z : Str} {Q : List Dt → Prop} : Wk (SeqQ (.str z) Q) (Q (z.cps.toList.map fun c => .str ⟨#[c]⟩)) := ⟨fun q => ⟨_, .str z, q⟩⟩
end
section
variable {K : PySem.W.Frag} {W : WX} {Γ Γ' : Gm} {X : XP} {j : Nat} {v : Option Sl}
instance (priority := 2000) {t : TS} {PP : Po} [h : SetG Γ j v Γ'] : Wk (Go K W t (Γ.set j v) PP) (Go K W t Γ' PP) := ⟨fun q => by rw [h.h]; exact q⟩
instance (priority := 2000) {t : TE} {P : Dt → Gm → Prop} [h : SetG Γ j v Γ'] : Wk (Ev K W t (Γ.set j v) P X) (Ev K W t Γ' P X) := ⟨fun q => by rw [h.h]; exact q⟩
instance (priority := 2000) {t : TE} {P : Sl → Gm → Prop} [h : SetG Γ j v Γ'] : Wk (EvO K W t (Γ.set j v) P X) (EvO K W t Γ' P X) := ⟨fun q => by rw [h.h]; exact q⟩
instance (priority := 2000) {t : TT} {P : Bool → Gm → Prop} [h : SetG Γ j v Γ'] : Wk (EvT K W t (Γ.set j v) P X) (EvT K W t Γ' P X) := ⟨fun q => by rw [h.h]; exact q⟩
instance (priority := 2000) {t : TA} {P : List Dt → Gm → Prop} [h : SetG Γ j v Γ'] : Wk (EvA K W t (Γ.set j v) P X) (EvA K W t Γ' P X) := ⟨fun q => by rw [h.h]; exact q⟩
instance (priority := 2000) {t : TA} {i : Nat} {P : List Dt → List Dt → Gm → Prop} [h : SetG Γ j v Γ'] : Wk (EvB K W i t (Γ.set j v) P X) (EvB K W i t Γ' P X) := ⟨fun q => by rw [h.h]; exact q⟩
instance (priority := 2000) {t : TO} {P : Option Int → Gm → Prop} [h : SetG Γ j v Γ'] : Wk (EvP K W t (Γ.set j v) P X) (EvP K W t Γ' P X) := ⟨fun q => by rw [h.h]; exact q⟩
instance (priority := 2000) {t : TI} {P : List Dt → Gm → Prop} [h : SetG Γ j v Γ'] : Wk (EvI K W t (Γ.set j v) P X) (EvI K W t Γ' P X) := ⟨fun q => by rw [h.h]; exact q⟩
instance (priority := 2000) {t : TG} {d : Dt} {P : Gm → Prop} [h : SetG Γ j v Γ'] : Wk (GoG K W t d (Γ.set j v) P X) (GoG K W t d Γ' P X) := ⟨fun q => by rw [h.h]; exact q⟩
instance (priority := 2000) {t : TGs} {d : List Dt} {P : Gm → Prop} [h : SetG Γ j v Γ'] : Wk (GoGs K W t d (Γ.set j v) P X) (GoGs K W t d Γ' P X) := ⟨fun q => by rw [h.h]; exact q⟩
instance (priority := 2000) {args : List Sl} {Q : List Sl → Prop} [h : SetG Γ j v Γ'] : Wk (Bk args (Γ.set j v) Q) (Bk args Γ' Q) := ⟨fun q => by rw [h.h]; exact q⟩
end
section
variable {K : PySem.W.Frag} {W : WX} {Γ Γ' : Gm} {X : XP} {P : Dt → Gm → Prop} {PO : Sl → Gm → Prop} {PB : Bool → Gm → Prop} {te ta tb ti tv : TE} {tt tu : TT} {t tr : TA} {i j : Nat} {nx : Gm → Prop} {rt : Sl → Gm → Prop} {xc : XP} {bk ct : Gm → Prop} {t1 t2 tbd : TS} {g : TG} {S : DSp} {s : Sl} {C : Addr} {f m : Str} {a : Addr} {ds : List Dt}
instance : Wk (Go K W (tSeq t1 t2) Γ ⟨nx, rt, xc, bk, ct⟩) (Go K W t1 Γ ⟨fun Γ1 => Go K W t2 Γ1 ⟨nx, rt, xc, bk, ct⟩, rt, xc, bk, ct⟩) := ⟨g_seq⟩
instance : Wk (Go K W (tIfS tt t1 t2) Γ ⟨nx, rt, xc, bk, ct⟩) (EvT K W tt Γ (fun b Γ1 => Br b (Go K W t1 Γ1 ⟨nx, rt, xc, bk, ct⟩) (Go K W t2 Γ1 ⟨nx, rt, xc, bk, ct⟩)) xc) := ⟨g_if⟩
instance (priority := low) : Wk (Go K W (tAsg te (gName i)) Γ ⟨nx, rt, xc, bk, ct⟩) (Ev K W te Γ (fun d Γ1 => nx (Γ1.set i (some (.fr d)))) xc) := ⟨g_setF⟩
instance : Wk (Go K W (tAsg (tCallS (spD K S) (WE W) t) (gName i)) Γ ⟨nx, rt, xc, bk, ct⟩) (EvO K W (tCallS (spD K S) (WE W) t) Γ (fun s Γ1 => nx (Γ1.set i (some s))) xc) := ⟨g_setC⟩
instance : Wk (Go K W (tAsg (tCall1 j (spD K S) (WE W) t) (gName i)) Γ ⟨nx, rt, xc, bk, ct⟩) (EvO K W (tCall1 j (spD K S) (WE W) t) Γ (fun s Γ1 => nx (Γ1.set i (some s))) xc) := ⟨g_setC1⟩
instance : Wk (Go K W (tAsgO te (gName i)) Γ ⟨nx, rt, xc, bk, ct⟩) (EvO K W te Γ (fun s Γ1 => nx (Γ1.set i (some s))) xc) := ⟨g_setO⟩
instance : Wk (Go K W (tAsg te (gSub (tVar i) ti rSetL)) Γ ⟨nx, rt, xc, bk, ct⟩) (Ev K W te Γ (fun v Γ1 => OwnL Γ1 i fun _ _ => Ev K W ti Γ1 (fun y Γ2 => IsI y fun k => OwnL Γ2 i fun a ds => ∃ j, ixN ds.length k = some j ∧ nx (Γ2.set i (some (.ol a (ds.set j v))))) xc) xc) :=
  ⟨fun h => g_sub (h.imp fun v Γ1 ⟨a, ds, e, h1⟩ => ⟨a, ds, e, h1.imp fun y Γ2 ⟨k, ey, a, ds, e2, j, hj, p⟩ => ⟨a, ds, k, j, e2, ey, hj, p⟩⟩)⟩
instance (priority := 50) : Wk (Go K W (tAsg te g) Γ ⟨nx, rt, xc, bk, ct⟩) (Ev K W te Γ (fun d Γ1 => GoG K W g d Γ1 nx xc) xc) := ⟨g_asg⟩
instance : Wk (Go K W tNext Γ ⟨nx, rt, xc, bk, ct⟩) (nx Γ) := ⟨g_next⟩
instance : Wk (Go K W tBreak Γ ⟨nx, rt, xc, bk, ct⟩) (bk Γ) := ⟨g_break⟩
instance : Wk (Go K W tCont Γ ⟨nx, rt, xc, bk, ct⟩) (ct Γ) := ⟨g_cont⟩
instance : Wk (Go K W tRetN Γ ⟨nx, rt, xc, bk, ct⟩) (rt (.fr .non) Γ) := ⟨g_retN⟩
instance : Wk (Go K W (tRetO te) Γ ⟨nx, rt, xc, bk, ct⟩) (EvO K W te Γ rt xc) := ⟨g_retO⟩
instance (priority := low) : Wk (Go K W (tRet te) Γ ⟨nx, rt, xc, bk, ct⟩) (Ev K W te Γ (fun d Γ1 => rt (.fr d) Γ1) xc) := ⟨g_retF⟩
instance : Wk (Go K W (tRet (tCallS (spD K S) (WE W) t)) Γ ⟨nx, rt, xc, bk, ct⟩) (EvO K W (tCallS (spD K S) (WE W) t) Γ rt xc) := ⟨fun h => go_ret h⟩
instance : Wk (Go K W (tRet (tCall1 j (spD K S) (WE W) t)) Γ ⟨nx, rt, xc, bk, ct⟩) (EvO K W (tCall1 j (spD K S) (WE W) t) Γ rt xc) := ⟨fun h => go_ret h⟩
instance [q : At Γ i (.ol a ds)] : Wk (Go K W (tDrop (tBM K "list" rAppend (tVar i) (tCons te tNil))) Γ ⟨nx, rt, xc, bk, ct⟩) (Ev K W te Γ (fun v Γ1 => OwnL Γ1 i fun a ds => Side (ds.length < 1000000) (nx (Γ1.set i (some (.ol a (ds ++ [v])))))) xc) :=
  ⟨fun h => g_append q.h (h.imp fun v Γ1 ⟨a, ds, e, l, p⟩ => ⟨a, ds, e, l, p⟩)⟩
instance [q : At Γ i (.ol a ds)] : Wk (Go K W (tDrop (tBM K "list" rExtend (tVar i) (tCons te tNil))) Γ ⟨nx, rt, xc, bk, ct⟩) (Ev K W te Γ (fun v Γ1 => IsL v fun es => OwnL Γ1 i fun a ds => Side (ds.length + es.length ≤ 1000000) (nx (Γ1.set i (some (.ol a (ds ++ es)))))) xc) :=
  ⟨fun h => g_extend q.h (h.imp fun v Γ1 ⟨es, ev, a, ds, e, l, p⟩ => ⟨a, ds, es, ev, e, l, p⟩)⟩
instance : Wk (Go K W (sFld K (tVar i) tv f) Γ ⟨nx, rt, xc, bk, ct⟩) (Ev K W tv Γ (fun d Γ1 => OwnO Γ1 i fun a C fs => Side (Cls K C ∧ NoAttr K C f ∧ fs.length < 1000) (nx (Γ1.set i (some (.oo a C (frF (putD f d fs))))))) xc) :=
  ⟨fun h => g_fld (h.imp fun d Γ1 ⟨a, C, fs, e, l, p⟩ => ⟨a, C, fs, e, l, p⟩)⟩
instance : Wk (Go K W (tDrop (tMakeS C (spD K S) (WE W) t)) Γ ⟨nx, rt, xc, bk, ct⟩) (Ev K W (tMakeS C (spD K S) (WE W) t) Γ (fun _ Γ1 => nx Γ1) xc) := ⟨g_make⟩
instance (priority := low) : Wk (Go K W (tDrop te) Γ ⟨nx, rt, xc, bk, ct⟩) (EvO K W te Γ (fun _ Γ1 => nx Γ1) xc) := ⟨g_drop⟩
instance {fs : List Str} : Wk (Go K W (tRaiseE C fs W t) Γ ⟨nx, rt, xc, bk, ct⟩) (EvA K W t Γ (fun ds Γ1 => Side (ds.length = fs.length) (xc C (fs.zip ds) Γ1)) xc) := ⟨g_raise⟩
instance {l : List Hdl} {tt : WX → TS} : Wk (Go K W (tTry K W l tt) Γ ⟨nx, rt, xc, bk, ct⟩) (∀ W', Go K W' (tt W') Γ ⟨nx, rt, HdsX K nx rt xc bk ct l, bk, ct⟩) := ⟨g_try⟩
instance {d : Dt} [h : At Γ i (.fr d)] : Wk (Ev K W (tVar i) Γ P X) (P d Γ) := ⟨fun p => ev_var h.h p⟩
instance (priority := low) {d : Dt} [h : At Γ i s] [f : FrzC s d] [q : SetG Γ i (some (.fr d)) Γ'] : Wk (Ev K W (tVar i) Γ P X) (P d Γ') := ⟨fun p => ev_varF h.h f.h (by rw [q.h]; exact p)⟩
instance {b : Int} : Wk (Ev K W (tC (.int b)) Γ P X) (P (.int b) Γ) := ⟨e_int⟩
instance {b : Str} : Wk (Ev K W (tC (.str b)) Γ P X) (P (.str b) Γ) := ⟨e_str⟩
instance {b : Bool} : Wk (Ev K W (tC (.bl b)) Γ P X) (P (.bl b) Γ) := ⟨e_bl⟩
instance : Wk (Ev K W (tC .non) Γ P X) (P .non Γ) := ⟨e_non⟩
instance {b : String} : Wk (Ev K W (tC (.ty b)) Γ P X) (P (.ty b) Γ) := ⟨e_ty⟩
instance {b : Addr} : Wk (Ev K W (tC (.ref b)) Γ P X) (P (.ref b) Γ) := ⟨e_ref⟩
instance (priority := low) {r : R2} {ρ : Dt → Dt → (Dt → Prop) → Prop} [c : OpC K r ρ] : Wk (Ev K W (tOp r ta tb) Γ P X) (Ev K W ta Γ (fun x Γ1 => Ev K W tb Γ1 (fun y Γ2 => ρ x y fun z => P z Γ2) X) X) := ⟨fun h => v_op h⟩
instance [q : At Γ i (.ol a ds)] : Wk (Ev K W (tOp (rIxP K) (tVar i) te) Γ P X) (Ev K W te Γ (fun y Γ1 => OwnL Γ1 i fun _ ds => dIx (.lst ds) y fun z => P z Γ1) X) :=
  ⟨fun h => ev_ixO (h.imp fun y Γ1 ⟨a, ds, e, j, v, ey, ha, p⟩ => ⟨a, ds, j, v, e, ey, ha, p⟩) q.h⟩
instance (priority := low) {r : List V → Hp → VK → Prop} {ρ : List Dt → (Dt → Prop) → Prop} [c : CbC K r ρ] : Wk (Ev K W (tCB r t) Γ P X) (EvA K W t Γ (fun ds Γ1 => ρ ds fun z => P z Γ1) X) := ⟨fun h => v_cb h⟩
instance [q : At Γ i (.ol a ds)] : Wk (Ev K W (tCB (rLenP K) (tCons (tVar i) tNil)) Γ P X) (P (.int ds.length) Γ) := ⟨fun h => ev_lenO q.h h⟩
instance : Wk (Ev K W (tCallS (spD K S) (WE W) t) Γ P X) (EvO K W (tCallS (spD K S) (WE W) t) Γ (fun s Γ2 => Fz s fun d => P d Γ2) X) := ⟨ev_call0⟩
instance : Wk (Ev K W (tCall1 j (spD K S) (WE W) t) Γ P X) (EvO K W (tCall1 j (spD K S) (WE W) t) Γ (fun s Γ2 => Fz s fun d => P d Γ2) X) := ⟨ev_call1⟩
instance : Wk (Ev K W (tMakeS C (spD K S) (WE W) t) Γ P X) (EvA K W t Γ (fun ds Γ1 => CallM S C ds (fun fs => P (.obj C fs) Γ1) fun D fs => X D fs Γ1) X) := ⟨ev_mk⟩
instance : Wk (Ev K W (tFldP K te f) Γ P X) (Ev K W te Γ (fun d Γ1 => Fld K f d fun y => P y Γ1) X) := ⟨ev_fld⟩
instance : Wk (Ev K W (tTup t) Γ P X) (EvA K W t Γ (fun ds Γ1 => Side (ds.length ≤ 1000000) (P (.tup ds) Γ1)) X) := ⟨ev_tup⟩
instance : Wk (Ev K W (tLst t) Γ P X) (EvA K W t Γ (fun ds Γ1 => Side (ds.length ≤ 1000000) (P (.lst ds) Γ1)) X) := ⟨ev_lst⟩
instance : Wk (Ev K W (tAndV ta tb) Γ P X) (Ev K W ta Γ (fun d Γ1 => IsB d fun b => Br b (Ev K W tb Γ1 P X) (P (.bl false) Γ1)) X) := ⟨ev_andV⟩
instance : Wk (Ev K W (tOrV ta tb) Γ P X) (Ev K W ta Γ (fun d Γ1 => IsB d fun b => Br b (P (.bl true) Γ1) (Ev K W tb Γ1 P X)) X) := ⟨fun h => ev_orV (h.imp fun d Γ1 ⟨b, e, h1, h2⟩ => ⟨b, e, h2, h1⟩)⟩
instance : Wk (Ev K W (tNotV ta) Γ P X) (Ev K W ta Γ (fun d Γ1 => IsB d fun b => P (.bl (!b)) Γ1) X) := ⟨ev_notV⟩
instance : Wk (Ev K W (tIf tt ta tb) Γ P X) (EvT K W tt Γ (fun b Γ1 => Br b (Ev K W ta Γ1 P X) (Ev K W tb Γ1 P X)) X) := ⟨ev_if⟩
instance {lo hi : TO} : Wk (Ev K W (tSl (rSlP K) te lo hi) Γ P X) (Ev K W te Γ (fun d Γ1 => EvP K W lo Γ1 (fun l Γ2 => EvP K W hi Γ2 (fun u Γ3 => dSl d l u fun z => P z Γ3) X) X) X) := ⟨ev_sl⟩
instance : Wk (Ev K W (tUn rNegP ta) Γ P X) (Ev K W ta Γ (fun x Γ1 => IsI x fun i => P (.int (-i)) Γ1) X) := ⟨fun h => ev_un rd_neg h⟩
instance : Wk (EvT K W (tTest te) Γ PB X) (Ev K W te Γ (fun d Γ1 => IsB d fun b => PB b Γ1) X) := ⟨et_test⟩
instance : Wk (EvT K W (tB te) Γ PB X) (Ev K W te Γ (fun d Γ1 => IsB d fun b => PB b Γ1) X) := ⟨et_B⟩
instance : Wk (EvT K W (tAnd tt tu) Γ PB X) (EvT K W tt Γ (fun b Γ1 => Br b (EvT K W tu Γ1 PB X) (PB false Γ1)) X) := ⟨et_and⟩
instance : Wk (EvT K W (tOr tt tu) Γ PB X) (EvT K W tt Γ (fun b Γ1 => Br b (PB true Γ1) (EvT K W tu Γ1 PB X)) X) := ⟨fun h => et_or (h.imp fun b Γ1 ⟨h1, h2⟩ => ⟨h2, h1⟩)⟩
instance : Wk (EvT K W (tNot tt) Γ PB X) (EvT K W tt Γ (fun b Γ1 => PB (!b) Γ1) X) := ⟨et_not⟩
instance : Wk (EvO K W (tCallS (spD K S) (WE W) t) Γ PO X) (EvA K W t Γ (fun ds Γ1 => CallS S ds (fun res => PO res Γ1) fun C fs => X C fs Γ1) X) := ⟨evo_call0⟩
instance : Wk (EvO K W (tCall1 i (spD K S) (WE W) t) Γ PO X) (EvB K W i t Γ (fun ds es Γ1 => ∃ s, Γ1[i]? = some (some s) ∧ CallB S ds es s (fun res s' => PO res (Γ1.set i (some s'))) fun C fs s' => X C fs (Γ1.set i (some s'))) X) := ⟨fun h => ec1 h⟩
instance : Wk (EvO K W (tLst t) Γ PO X) (EvA K W t Γ (fun ds Γ1 => Side (ds.length ≤ 1000000) (∀ a, PO (.ol a ds) Γ1)) X) := ⟨evo_lst⟩
instance {b C : Addr} {d : Option Addr} {fs : List (Str × Dt)} [h : At Γ i (.ex b C d fs)] : Wk (EvO K W (tVar i) Γ PO X) (PO (.ex b C d fs) Γ) := ⟨fun p => evo_ex h.h p⟩
instance (priority := low) [h : At Γ i s] [q : SetG Γ i none Γ'] : Wk (EvO K W (tVar i) Γ PO X) (PO s Γ') := ⟨fun p => evo_move h.h (by rw [q.h]; exact p)⟩
variable {PA : List Dt → Gm → Prop}
instance : Wk (EvA K W tNil Γ PA X) (PA [] Γ) := ⟨ea_nil⟩
instance : Wk (EvA K W (tCons te tr) Γ PA X) (Ev K W te Γ (fun d Γ1 => EvA K W tr Γ1 (fun ds Γ2 => PA (d :: ds) Γ2) X) X) := ⟨ea_cons⟩
instance [h : At Γ i s] {Q : List Dt → List Dt → Gm → Prop} : Wk (EvB K W i (tCons (tVar i) tr) Γ Q X) (EvA K W tr Γ (fun es Γ2 => Q [] es Γ2) X) := ⟨fun q => eb_here h.h q⟩
instance (priority := low) {Q : List Dt → List Dt → Gm → Prop} : Wk (EvB K W i (tCons te tr) Γ Q X) (Ev K W te Γ (fun d Γ1 => EvB K W i tr Γ1 (fun ds es Γ2 => Q (d :: ds) es Γ2) X) X) := ⟨eb_cons⟩
instance {Q : Option Int → Gm → Prop} : Wk (EvP K W tNoPart Γ Q X) (Q none Γ) := ⟨ep_none⟩
instance {Q : Option Int → Gm → Prop} : Wk (EvP K W (tPart te) Γ Q X) (Ev K W te Γ (fun d Γ1 => IsI d fun j => Q (some j) Γ1) X) := ⟨ep_some⟩
variable {N : Gm → Prop} {d : Dt} {gr : TGs}
instance [q : SetG Γ i (some (.fr d)) Γ'] : Wk (GoG K W (gName i) d Γ N X) (N Γ') := ⟨fun h => gg_name (by rw [q.h]; exact h)⟩
instance {n : Nat} : Wk (GoG K W (gTup K n gr) (.tup ds) Γ N X) (Side (ds.length = n) (GoGs K W gr ds Γ N X)) := ⟨fun h => gg_tup rfl h.1 h.2⟩
instance : Wk (GoGs K W gNil [] Γ N X) (N Γ) := ⟨gs_nil⟩
instance : Wk (GoGs K W (gCons g gr) (d :: ds) Γ N X) (GoG K W g d Γ (fun Γ1 => GoGs K W gr ds Γ1 N X) X) := ⟨gs_cons⟩
instance : Wk (EvI K W (iSeq K te) Γ PA X) (Ev K W te Γ (fun d Γ1 => SeqQ d fun xs => PA xs Γ1) X) := ⟨ei_seq⟩
instance : Wk (EvI K W (iRng1 t) Γ PA X) (EvA K W t Γ (fun ds Γ1 => ∃ n : Int, ds = [.int n] ∧ Side (-(2 ^ 62) ≤ n ∧ n < 2 ^ 62) (PA (rngD 0 n) Γ1)) X) := ⟨ei_rng1⟩
instance : Wk (EvI K W (iRng2 t) Γ PA X) (EvA K W t Γ (fun ds Γ1 => ∃ m n : Int, ds = [.int m, .int n] ∧ Side (-(2 ^ 62) ≤ m ∧ m < 2 ^ 62 ∧ -(2 ^ 62) ≤ n ∧ n < 2 ^ 62) (PA (rngD m n) Γ1)) X) := ⟨ei_rng2⟩
end
section
variable {R : Dt → Prop} {i j : Int} {K : PySem.W.Frag}
instance {g : Int → Int → Dt} : Wk (dI0 g (.int i) (.int j) R) (R (g i j)) := ⟨l_I0⟩
instance : Wk (dAdd (.int i) (.int j) R) (R (.int (i + j))) := ⟨l_addI⟩
instance {x y : Str} : Wk (dAdd (.str x) (.str y) R) (Side (x.length + y.length ≤ sizeLine) (R (.str (x ++ y)))) := ⟨fun h => h⟩
instance {x y : List Dt} : Wk (dAdd (.lst x) (.lst y) R) (Side (x.length + y.length ≤ 1000000) (R (.lst (x ++ y)))) := ⟨fun h => h⟩
instance {x y : List Dt} : Wk (dAdd (.tup x) (.tup y) R) (Side (x.length + y.length ≤ 1000000) (R (.tup (x ++ y)))) := ⟨fun h => h⟩
instance {C : Int → Int → Prop} {g : Int → Int → Dt} : Wk (dI C g (.int i) (.int j) R) (Side (C i j) (R (g i j))) := ⟨fun h => ⟨_, _, rfl, rfl, h.1, h.2⟩⟩
instance : Wk (dEq (.int i) (.int j) R) (R (.bl (decide (i = j)))) := ⟨l_eqI⟩
instance {x y : Str} : Wk (dEq (.str x) (.str y) R) (R (.bl (decide (x = y)))) := ⟨l_eqS⟩
instance {x y : Bool} : Wk (dEq (.bl x) (.bl y) R) (R (.bl (decide (x = y)))) := ⟨l_eqB⟩
instance : Wk (dEq .non .non R) (R (.bl true)) := ⟨l_eqX rfl⟩
instance : Wk (dEq (.int i) .non R) (R (.bl false)) := ⟨l_eqX rfl⟩
instance {x : Str} : Wk (dEq (.str x) .non R) (R (.bl false)) := ⟨l_eqX rfl⟩
instance {x : Str} : Wk (dEq .non (.str x) R) (R (.bl false)) := ⟨l_eqX rfl⟩
instance {x : Str} : Wk (dEq (.int i) (.str x) R) (R (.bl false)) := ⟨l_eqX rfl⟩
instance {x : Str} : Wk (dEq (.str x) (.int i) R) (R (.bl false)) := ⟨l_eqX rfl⟩
instance : Wk (dEq .non (.int i) R) (R (.bl false)) := ⟨l_eqX rfl⟩
instance : Wk (dNe (.int i) (.int j) R) (R (.bl (!decide (i = j)))) := ⟨l_neI⟩
instance {x y : Str} : Wk (dNe (.str x) (.str y) R) (R (.bl (!decide (x = y)))) := ⟨l_neS⟩
instance {x y : Bool} : Wk (dNe (.bl x) (.bl y) R) (R (.bl (!decide (x = y)))) := ⟨l_neB⟩
instance : Wk (dIs .non .non R) (R (.bl true)) := ⟨l_isN⟩
instance (priority := low) {x : Dt} : Wk (dIs x .non R) (R (.bl (isNon x))) := ⟨fun h => ⟨rfl, h⟩⟩
instance : Wk (dIs (.int i) .non R) (R (.bl false)) := ⟨fun h => ⟨rfl, h⟩⟩
instance {x : Str} : Wk (dIs (.str x) .non R) (R (.bl false)) := ⟨fun h => ⟨rfl, h⟩⟩
instance {x : Bool} : Wk (dIs (.bl x) .non R) (R (.bl false)) := ⟨fun h => ⟨rfl, h⟩⟩
instance {x : List Dt} : Wk (dIs (.tup x) .non R) (R (.bl false)) := ⟨fun h => ⟨rfl, h⟩⟩
instance {x : List Dt} : Wk (dIs (.lst x) .non R) (R (.bl false)) := ⟨fun h => ⟨rfl, h⟩⟩
instance {C : Addr} {x : List (Str × Dt)} : Wk (dIs (.obj C x) .non R) (R (.bl false)) := ⟨fun h => ⟨rfl, h⟩⟩
instance : Wk (dIsnt .non .non R) (R (.bl false)) := ⟨l_isnN⟩
instance (priority := low) {x : Dt} : Wk (dIsnt x .non R) (R (.bl (!isNon x))) := ⟨fun h => ⟨rfl, h⟩⟩
instance : Wk (dIsnt (.int i) .non R) (R (.bl true)) := ⟨fun h => ⟨rfl, h⟩⟩
instance {x : Str} : Wk (dIsnt (.str x) .non R) (R (.bl true)) := ⟨fun h => ⟨rfl, h⟩⟩
instance {x : Bool} : Wk (dIsnt (.bl x) .non R) (R (.bl true)) := ⟨fun h => ⟨rfl, h⟩⟩
instance {x : List Dt} : Wk (dIsnt (.tup x) .non R) (R (.bl true)) := ⟨fun h => ⟨rfl, h⟩⟩
instance {x : List Dt} : Wk (dIsnt (.lst x) .non R) (R (.bl true)) := ⟨fun h => ⟨rfl, h⟩⟩
instance {C : Addr} {x : List (Str × Dt)} : Wk (dIsnt (.obj C x) .non R) (R (.bl true)) := ⟨fun h => ⟨rfl, h⟩⟩
instance {x : List Dt} : Wk (dLen [.lst x] R) (R (.int x.length)) := ⟨l_lenL⟩
instance {x : List Dt} : Wk (dLen [.tup x] R) (R (.int x.length)) := ⟨l_lenT⟩
instance {x : List Int} : Wk (dLen [.scr x] R) (R (.int x.length)) := ⟨l_lenC⟩
instance {x : Str} : Wk (dLen [.str x] R) (Side (x.length ≤ sizeLine) (R (.int x.length))) := ⟨fun h => h⟩
instance : Wk (dAbs [.int i] R) (R (.int (if i < 0 then -i else i))) := ⟨l_abs⟩
instance : Wk (dMax [.int i, .int j] R) (R (.int (if j > i then j else i))) := ⟨l_max⟩
instance : Wk (dMin [.int i, .int j] R) (R (.int (if j < i then j else i))) := ⟨l_min⟩
instance : Wk (dInt [.int i] R) (R (.int i)) := ⟨l_intI⟩
instance {b : Bool} : Wk (dInt [.bl b] R) (R (.int (if b then 1 else 0))) := ⟨l_intB⟩
instance : Wk (dStr [.int i] R) (Side (i.natAbs.log2 < 1920) (R (.str (toString i)))) := ⟨fun h => ⟨_, rfl, h.1, h.2⟩⟩
instance {x : List Dt} : Wk (dList [.lst x] R) (R (.lst x)) := ⟨l_listL⟩
instance {x : List Dt} : Wk (dList [.tup x] R) (R (.lst x)) := ⟨l_listT⟩
instance {x : List Dt} : Wk (dTuple [.lst x] R) (R (.tup x)) := ⟨l_tupleL⟩
instance {x : List Dt} : Wk (dTuple [.tup x] R) (R (.tup x)) := ⟨l_tupleT⟩
instance {c : Nat} {z : Str} : Wk (dIn false (.str ⟨#[c]⟩) (.str z) R) (R (.bl (decide (c ∈ z.cps.toList)))) := ⟨l_inS⟩
instance {c : Nat} {z : Str} : Wk (dIn true (.str ⟨#[c]⟩) (.str z) R) (R (.bl (!decide (c ∈ z.cps.toList)))) := ⟨l_ninS⟩
instance {x : List Dt} {lo hi : Option Int} : Wk (dSl (.lst x) lo hi R) (R (.lst (cutD x lo hi))) := ⟨l_slL⟩
instance {x : List Dt} {lo hi : Option Int} : Wk (dSl (.tup x) lo hi R) (R (.tup (cutD x lo hi))) := ⟨l_slT⟩
instance {x : Str} {lo hi : Option Int} : Wk (dSl (.str x) lo hi R) (Side (x.length ≤ sizeLine) (R (.str (cutS x lo hi)))) := ⟨fun h => h⟩
instance {x : Dt} {a c : String} {r : Bool} [t : TyC x a] [k : KitC a c r] : Wk (dIsi K [x, .ty c] R) (R (.bl r)) := ⟨x_isi⟩
end
class BackC (args : List Sl) (Γ : Gm) (args' : outParam (List Sl)) (c : outParam Prop) : Prop where
  h : c → Back args Γ args'
section
variable {Γ : Gm} {as as' : List Sl} {x : Option Sl} {c : Prop}
instance : BackC [] Γ [] True := ⟨fun _ => .nil⟩
instance {d : Dt} [b : BackC as Γ as' c] : BackC (.fr d :: as) (x :: Γ) (.fr d :: as') c := ⟨fun h => .fr (b.h h)⟩
instance {d : Dt} {p : Addr} {q : Str} [b : BackC as Γ as' c] : BackC (.tb (.fr d) p q :: as) (x :: Γ) (.fr d :: as') c := ⟨fun h => .tb (b.h h)⟩
instance {a : Addr} {ds : List Dt} {φ : List Dt → Prop} [b : BackC as Γ as' c] : BackC (.os a φ :: as) (some (.ol a ds) :: Γ) (.os a φ :: as') (φ ds ∧ c) := ⟨fun h => .pack h.1 (b.h h.2)⟩
instance {a : Addr} {φ : List Dt → Prop} [b : BackC as Γ as' c] : BackC (.os a φ :: as) (some (.os a φ) :: Γ) (.os a φ :: as') c := ⟨fun h => .own rfl rfl (b.h h)⟩
instance {a : Addr} {ds es : List Dt} [b : BackC as Γ as' c] : BackC (.ol a ds :: as) (some (.ol a es) :: Γ) (.ol a es :: as') c := ⟨fun h => .own rfl rfl (b.h h)⟩
instance {a C : Addr} {fs gs : List (Str × Sl)} [b : BackC as Γ as' c] : BackC (.oo a C fs :: as) (some (.oo a C gs) :: Γ) (.oo a C gs :: as') c := ⟨fun h => .own rfl rfl (b.h h)⟩
instance {Q : List Sl → Prop} [b : BackC as Γ as' True] : Wk (Bk as Γ Q) (Q as') := ⟨fun h => ⟨_, b.h trivial, h⟩⟩
instance (priority := low) {Q : List Sl → Prop} [b : BackC as Γ as' c] : Wk (Bk as Γ Q) (Side c (Q as')) := ⟨fun h => ⟨_, b.h h.1, h.2⟩⟩
end
theorem w_start {K : PySem.W.Frag} {W : WX} {Γ : Gm} {t : TS} {args : List Sl} {R : Sl → List Sl → Prop} {Y : Addr → List (Str × Dt) → List Sl → Prop} (h : Go K W t Γ ⟨fun Γ2 => Bk args Γ2 (R (.fr .non)), fun s Γ2 => Bk args Γ2 (R s), fun C fs Γ2 => Bk args Γ2 (Y C fs), fun _ => False, fun _ => False⟩) : Go K W t Γ (poOf args R Y) := h
theorem isSide {A B : Prop} (h : Side A B) : Side A B := h
theorem isBrP {p A B : Prop} (h : BrP p A B) : BrP p A B := h
theorem isBr {p : Bool} {A B : Prop} (h : Br p A B) : Br p A B := h
theorem isFld {K : PySem.W.Frag} {f : Str} {d : Dt} {Q : Dt → Prop} (h : Fld K f d Q) : Fld K f d Q := h
theorem br_t {b : Bool} {A B : Prop} (h : b = true) (a : A) : Br b A B := ⟨fun _ => a, fun z => absurd (h.symm.trans z) (by decide)⟩
theorem br_f {b : Bool} {A B : Prop} (h : b = false) (a : B) : Br b A B := ⟨fun z => absurd (h.symm.trans z) (by decide), fun _ => a⟩
theorem f_obj {K : PySem.W.Frag} {C : Addr} {fs : List (Str × Dt)} {f : Str} {y : Dt} {Q : Dt → Prop} (hc : Cls K C) (hn : NoAttr K C f) (hl : fs.lookup f = some y) (p : Q y) : Fld K f (.obj C fs) Q := x_fldO hc hn hl p
theorem f_exc {K : PySem.W.Frag} {C : Addr} {fs : List (Str × Dt)} {f : Str} {y : Dt} {Q : Dt → Prop} (hc : XfC K C) (hn : PySem.W.findIn K (.ref C) f = some none) (hl : fs.lookup f = some y) (p : Q y) : Fld K f (.exc C fs) Q := x_fldE hc hn hl p
end DL
namespace L2
open PySem PySem.Spec
def tForJ (_ : List Nat) (wi : TI) (g : TG) (tb : TS) : TS := tFor wi g tb
end L2
namespace DL
open PySem PySem.Spec L2
theorem mkF {X : Cx} {s : Stmt} (junk : List Nat) {wi : TI} {g : TG} {tb : TS} (h : PS X s (tFor wi g tb)) : PS X s (tForJ junk wi g tb) := h
def setA (Γ : Gm) : List (Nat × Option Sl) → Gm
  | [] => Γ
  | (i, s) :: r => setA (Γ.set i s) r
class WipeC (Γ : Gm) (l : List Nat) (Γ' : outParam Gm) : Prop where
  h : wipeG Γ l = Γ'
class SetAC (Γ : Gm) (l : List (Nat × Option Sl)) (Γ' : outParam Gm) : Prop where
  h : setA Γ l = Γ'
section
variable {Γ Γ1 Γ2 : Gm} {i : Nat} {s : Option Sl} {l : List Nat} {r : List (Nat × Option Sl)}
instance : WipeC Γ [] Γ := ⟨rfl⟩
instance [a : WipeC Γ l Γ1] [b : SetG Γ1 i none Γ2] : WipeC Γ (i :: l) Γ2 := ⟨by unfold wipeG; rw [a.h, b.h]⟩
instance (priority := high) {j : Nat} {v : Option Sl} [a : SetG Γ j v Γ1] [b : WipeC Γ1 l Γ2] : WipeC (Γ.set j v) l Γ2 := ⟨by rw [a.h, b.h]⟩
instance : SetAC Γ [] Γ := ⟨rfl⟩
instance [a : SetG Γ i s Γ1] [b : SetAC Γ1 r Γ2] : SetAC Γ ((i, s) :: r) Γ2 := ⟨by unfold setA; rw [a.h, b.h]⟩
end
section
variable {K : PySem.W.Frag} {W : WX} {Γ Γ' : Gm} {X : XP} {l : List Nat} {r : List (Nat × Option Sl)}
instance (priority := 2000) {t : TS} {PP : Po} [h : WipeC Γ l Γ'] : Wk (Go K W t (wipeG Γ l) PP) (Go K W t Γ' PP) := ⟨fun q => by rw [h.h]; exact q⟩
instance (priority := 2000) {t : TS} {PP : Po} [h : SetAC Γ r Γ'] : Wk (Go K W t (setA Γ r) PP) (Go K W t Γ' PP) := ⟨fun q => by rw [h.h]; exact q⟩
instance (priority := 2000) {t : TG} {d : Dt} {P : Gm → Prop} [h : SetAC Γ r Γ'] : Wk (GoG K W t d (setA Γ r) P X) (GoG K W t d Γ' P X) := ⟨fun q => by rw [h.h]; exact q⟩
instance (priority := 2000) {t : TT} {P : Bool → Gm → Prop} [h : SetAC Γ r Γ'] : Wk (EvT K W t (setA Γ r) P X) (EvT K W t Γ' P X) := ⟨fun q => by rw [h.h]; exact q⟩
instance (priority := 2000) {args : List Sl} {Q : List Sl → Prop} [h : WipeC Γ l Γ'] : Wk (Bk args (wipeG Γ l) Q) (Bk args Γ' Q) := ⟨fun q => by rw [h.h]; exact q⟩
instance (priority := 2000) {args : List Sl} {Q : List Sl → Prop} [h : SetAC Γ r Γ'] : Wk (Bk args (setA Γ r) Q) (Bk args Γ' Q) := ⟨fun q => by rw [h.h]; exact q⟩
end
theorem sta_wipe0 {K : PySem.W.Frag} {O G H : Hp} {σ : St} {Γ : Gm} (S : Sta K O G H σ Γ) : ∀ l : List Nat, Sta K O G H σ (wipeG Γ l) := fun l => by
  have T := sta_wipe S l
  exact sta_unwipe T
def Loop (K : PySem.W.Frag) (W : WX) (junk : List Nat) (g : TG) (tbd : TS) (PP : Po) (xs : List Dt) (Γ : Gm) : Prop :=
  ∃ I : Nat → Gm → Prop, I 0 Γ ∧ (∀ k x Γ2, xs[k]? = some x → I k Γ2 → GoG K W g x Γ2 (fun Γ3 => Go K W tbd Γ3 ⟨fun Γ4 => I (k + 1) (wipeG Γ4 junk), PP.rt, PP.xc, fun Γ4 => PP.nx (wipeG Γ4 junk), fun Γ4 => I (k + 1) (wipeG Γ4 junk)⟩) PP.xc) ∧ ∀ Γ2, I xs.length Γ2 → PP.nx Γ2
section
variable {K : PySem.W.Frag} {W : WX} {Γ Γ' : Gm} {X : XP} {nx : Gm → Prop} {rt : Sl → Gm → Prop} {xc : XP} {bk ct : Gm → Prop} {g : TG} {tbd : TS} {wi : TI} {junk : List Nat} {PP : Po} {xs : List Dt}
theorem Go.wipe {t : TS} (h : Go K W t Γ PP) {l : List Nat} (e : wipeG Γ' l = Γ) : Go K W t Γ' PP := fun O G H σ D S a b c d f => h O G H σ D (by rw [← e]; exact sta_wipe0 S l) a b c d f
theorem go_endW {t : TS} {N B C : Gm → Prop} {l : List Nat} (h : Go K W t Γ ⟨fun Γ4 => N (wipeG Γ4 l), rt, xc, fun Γ4 => B (wipeG Γ4 l), fun Γ4 => C (wipeG Γ4 l)⟩) : Go K W t Γ ⟨N, rt, xc, B, C⟩ := fun O G H σ D S a b c d e =>
  h O G H σ D S (fun G2 H2 σ2 Γ2 s S2 p => a G2 H2 σ2 _ s (sta_wipe0 S2 l) p) b (fun G2 H2 σ2 Γ2 s S2 p => c G2 H2 σ2 _ s (sta_wipe0 S2 l) p) (fun G2 H2 σ2 Γ2 s S2 p => d G2 H2 σ2 _ s (sta_wipe0 S2 l) p) e
theorem go_forJ (h : EvI K W wi Γ (fun xs Γ1 => Loop K W junk g tbd ⟨nx, rt, xc, bk, ct⟩ xs (wipeG Γ1 junk)) xc) : Go K W (tForJ junk wi g tbd) Γ ⟨nx, rt, xc, bk, ct⟩ := by
  refine g_forI fun O G H σ R S q x => h O G H σ R S (fun J G2 H2 Γ2 xs n GG Y s S2 w hn hG hY hL => ?_) x
  obtain ⟨I, h0, hs, hd⟩ := hL
  refine q J G2 H2 (wipeG Γ2 junk) xs n GG Y s (sta_wipe0 S2 junk) w hn hG hY ⟨I, h0, fun k x Γ3 hx hI => ?_, hd⟩
  have z := hs k x Γ3 hx hI
  exact fun O G H σ v Q S r q e => z O G H σ v Q S r (fun G2 H2 σ2 Γ2 s S2 p => q G2 H2 σ2 Γ2 s S2 (go_endW p)) e
instance : Wk (Go K W (tForJ junk wi g tbd) Γ ⟨nx, rt, xc, bk, ct⟩) (EvI K W wi Γ (fun xs Γ1 => Loop K W junk g tbd ⟨nx, rt, xc, bk, ct⟩ xs (wipeG Γ1 junk)) xc) := ⟨go_forJ⟩
instance (priority := 2000) {l : List Nat} [h : WipeC Γ l Γ'] : Wk (Loop K W junk g tbd PP xs (wipeG Γ l)) (Loop K W junk g tbd PP xs Γ') := ⟨fun q => by rw [h.h]; exact q⟩
def LpN {α : Type} (J : Nat → α → Prop) (emb : α → List (Nat × Option Sl)) (Γ : Gm) (k : Nat) (Γ4 : Gm) : Prop := ∃ s, J k s ∧ Γ4 = setA Γ (emb s)
theorem loop_inv {α : Type} (J : Nat → α → Prop) (emb : α → List (Nat × Option Sl)) (s0 : α) (h0 : J 0 s0) (e0 : Γ = setA Γ (emb s0))
    (hs : ∀ k x s, xs[k]? = some x → J k s → GoG K W g x (setA Γ (emb s)) (fun Γ3 => Go K W tbd Γ3 ⟨fun Γ4 => LpN J emb Γ (k + 1) (wipeG Γ4 junk), rt, xc, fun Γ4 => nx (wipeG Γ4 junk), fun Γ4 => LpN J emb Γ (k + 1) (wipeG Γ4 junk)⟩) xc)
    (hd : ∀ s, J xs.length s → nx (setA Γ (emb s))) : Loop K W junk g tbd ⟨nx, rt, xc, bk, ct⟩ xs Γ :=
  ⟨LpN J emb Γ, ⟨s0, h0, e0⟩, fun k x Γ2 hx ⟨s, hJ, e⟩ => by rw [e]; exact hs k x s hx hJ, fun Γ2 ⟨s, hJ, e⟩ => by rw [e]; exact hd s hJ⟩
theorem loop_map {α β : Type} {ys : List β} {pic : β → Dt} (J : Nat → α → Prop) (emb : α → List (Nat × Option Sl)) (s0 : α) (h0 : J 0 s0) (e0 : Γ = setA Γ (emb s0))
    (hs : ∀ k y s, ys[k]? = some y → J k s → GoG K W g (pic y) (setA Γ (emb s)) (fun Γ3 => Go K W tbd Γ3 ⟨fun Γ4 => LpN J emb Γ (k + 1) (wipeG Γ4 junk), rt, xc, fun Γ4 => nx (wipeG Γ4 junk), fun Γ4 => LpN J emb Γ (k + 1) (wipeG Γ4 junk)⟩) xc)
    (hd : ∀ s, J ys.length s → nx (setA Γ (emb s))) : Loop K W junk g tbd ⟨nx, rt, xc, bk, ct⟩ (ys.map pic) Γ :=
  loop_inv J emb s0 h0 e0 (fun k x s hx hJ => by
    rw [List.getElem?_map] at hx
    cases q : ys[k]? with
    | none => rw [q] at hx; cases hx
    | some y => rw [q] at hx; cases hx; exact hs k y s q hJ) (fun s hJ => hd s (by simpa using hJ))
theorem loop_rng {α : Type} {m n : Int} (J : Nat → α → Prop) (emb : α → List (Nat × Option Sl)) (s0 : α) (h0 : J 0 s0) (e0 : Γ = setA Γ (emb s0))
    (hs : ∀ (k : Nat) s, m + k < n → J k s → GoG K W g (.int (m + k)) (setA Γ (emb s)) (fun Γ3 => Go K W tbd Γ3 ⟨fun Γ4 => LpN J emb Γ (k + 1) (wipeG Γ4 junk), rt, xc, fun Γ4 => nx (wipeG Γ4 junk), fun Γ4 => LpN J emb Γ (k + 1) (wipeG Γ4 junk)⟩) xc)
    (hd : ∀ s, J (n - m).toNat s → nx (setA Γ (emb s))) : Loop K W junk g tbd ⟨nx, rt, xc, bk, ct⟩ (rngD m n) Γ :=
  loop_inv J emb s0 h0 e0 (fun k x s hx hJ => by
    obtain ⟨rfl, hk⟩ := rngD_get hx
    exact hs k s hk hJ) (fun s hJ => hd s (by rw [rngD_len] at hJ; exact hJ))
end
section
variable {K : PySem.W.Frag} {W : WX} {Γ Γ' : Gm} {nx : Gm → Prop} {rt : Sl → Gm → Prop} {xc : XP} {bk ct : Gm → Prop} {tc : TT} {tbd : TS} {junk : List Nat} {PP : Po}
end
end DL
namespace PySem
open Sem (wp)
open Builtin Builtin.Str
section
variable {prog : Program} {w : World} {A : Around} {E : Value → Shared → Prop} {s : Shared}
end
end PySem
namespace L2
open PySem PySem.Spec PyProof.Rows
end L2
namespace L2
open PySem PySem.Spec PyProof.Rows
end L2
namespace DL
open PySem PySem.Spec L2
section
variable {K : PySem.W.Frag} {W : WX} {Γ : Gm} {X : XP} {PI : List Dt → Gm → Prop}
def SeqA (ds : List Dt) (Q : List Dt → Prop) : Prop := ∃ xs, (ds = [.lst xs] ∨ ds = [.tup xs]) ∧ Q xs
instance {xs : List Dt} {Q : List Dt → Prop} : Wk (SeqA [.lst xs] Q) (Q xs) := ⟨fun h => ⟨xs, .inl rfl, h⟩⟩
instance {xs : List Dt} {Q : List Dt → Prop} : Wk (SeqA [.tup xs] Q) (Q xs) := ⟨fun h => ⟨xs, .inr rfl, h⟩⟩
end
end DL
namespace L2
open PySem PySem.Spec PyProof.Rows
def FnK (P : Program) (w : World) (K : PySem.W.Frag) (mg : Str → Option Value) (base : Heap) (k : Nat) (f : Addr) (ks : List Str) (sp : Sp) : Prop :=
  ∀ (A : Around) (outer : List Env) (s : Shared) (H : Hp) (us ws : List Value) (vs zs : List V) (Q : VK) (E : XK), Room k A → Env0 P w K mg base A outer s H → Vals vs us → Vals zs ws → ws.length = ks.length → sp (vs ++ zs) H Q E →
    codeAny (model P w) A (.call (.ref f) ⟨us, ks.zip ws⟩) (CR (L2.CX P w) outer P w H s Q E) s
section
variable {P : Program} {w : World} {K : PySem.W.Frag} {mg : Str → Option Value} {base : Heap} {j k : Nat} {f : Addr} {sp sp' : Sp} {ks : List Str}
theorem FnK.mono (F : FnK P w K mg base j f ks sp) (h : j ≤ k) : FnK P w K mg base k f ks sp := fun A outer s H us ws vs zs Q E hr => F A outer s H us ws vs zs Q E (hr.mono h)
theorem FnK.imp (F : FnK P w K mg base k f ks sp) (h : ∀ vs H Q E, sp' vs H Q E → sp vs H Q E) : FnK P w K mg base k f ks sp' := fun A outer s H us ws vs zs Q E hr e0 r rz l hs => F A outer s H us ws vs zs Q E hr e0 r rz l (h _ _ _ _ hs)
theorem FnR.toK (F : FnR P w K mg base (L2.CX P w) k f sp) : FnK P w K mg base k f [] sp := fun A outer s H us ws vs zs Q E hr e0 r rz l hs => by
  obtain rfl : ws = [] := List.length_eq_zero_iff.mp l
  cases rz
  rw [List.append_nil] at hs
  exact F A outer s H us vs Q E hr e0 r hs
theorem FnOk.toK {fd : FuncData} {ps : List Str} (F : FnOk P w K mg base (L2.CX P w) k f fd ps sp) (b : Binds K fd ps []) : FnK P w K mg base k f [] sp :=
  FnR.toK ((F.raw b .nil).imp fun vs H Q E h => by rw [List.append_nil]; exact h)
end
section
variable {X : Cx} {pins : List (Addr × Obj)} {σ : St} {H : Hp} {s : Shared} {k : Nat} {f C : Addr} {sp : Sp} {E : XK} {Q : VK} {us ws : List Value} {vs zs : List V} {ks : List Str}
theorem run_fnK (F : FnK X.prog X.w X.K X.mg X.base k f ks sp) (hr : Room k X.A) (hx : PassesAt (L2.CX X.prog X.w) X σ E) (I : Inv X pins σ H s) (r : Vals vs us) (rz : Vals zs ws) (l : ws.length = ks.length) (h : sp (vs ++ zs) H Q E) :
    codeAny (model X.prog X.w) X.A (.call (.ref f) ⟨us, ks.zip ws⟩) (fun r s' => match r with | .ok (.ret v) => EP X pins σ Q v s' | .ok _ => False | .error e => X.xe e s') s := by
  refine codeAny_mono (F X.A X.stack s H us ws vs zs Q E hr I.env0 r rz l h) fun r s' hq => ?_
  cases r with
  | error e => exact hx pins H s e s' I hq
  | ok fl =>
    cases fl with
    | ret u => exact I.after hq
    | next => exact False.elim hq
    | brk => exact False.elim hq
    | cont => exact False.elim hq
theorem run_fnK0 (F : FnK X.prog X.w X.K X.mg X.base k f [] sp) (hr : Room k X.A) (hx : PassesAt (L2.CX X.prog X.w) X σ E) (I : Inv X pins σ H s) (r : Vals vs us) (h : sp vs H Q E) :
    codeAny (model X.prog X.w) X.A (.call (.ref f) ⟨us, []⟩) (fun r s' => match r with | .ok (.ret v) => EP X pins σ Q v s' | .ok _ => False | .error e => X.xe e s') s :=
  run_fnK (ws := []) (zs := []) (ks := []) F hr hx I r .nil rfl (by rw [List.append_nil]; exact h)
theorem run_makeK (M : Mk X.K C f) (F : FnK X.prog X.w X.K X.mg X.base k f ks sp) (hr : Room (k + 1) X.A) (hx : PassesAt (L2.CX X.prog X.w) X σ E) (I : Inv X pins σ H s) (r : Vals vs us) (rz : Vals zs ws) (l : ws.length = ks.length)
    (h : ∀ y dy, H y = none → H dy = none → dy ≠ y → sp (.ref y :: (vs ++ zs)) (upd (upd H dy (.own y)) y (.ins C dy [])) (fun v H2 => v = .non ∧ Q (.ref y) H2) E) :
    wpAny (model X.prog X.w) X.A (call (.ref C) us (ks.zip ws)) (EP X pins σ Q) X.xe s := by
  have hn := h (s.heap.objs.size + 1) s.heap.objs.size (I.hok.fresh (Nat.le_succ _)) (I.hok.fresh (Nat.le_refl _)) (Nat.ne_of_lt (Nat.lt_succ_self _))
  have J := Inv.made (C := C) I
  have rr : Vals (V.ref (s.heap.objs.size + 1) :: vs) (Value.ref (s.heap.objs.size + 1) :: us) := .cons rfl r
  have body := F _ X.stack _ _ (Value.ref (s.heap.objs.size + 1) :: us) ws _ zs _ E (hr.make C us (ks.zip ws)) (J.env0.make C us (ks.zip ws)) rr rz l hn
  refine wpAny_call (make_map (f := f) I.kIn M.makes M.init (beq_iff_eq.mp M.fn) (codeAny_mono body fun q s' hq => ?_))
  cases q with
  | error e => exact hx pins _ _ e s' J hq
  | ok fl =>
    cases fl with
    | ret u =>
      obtain ⟨v, H', I3, rv, ev, q3⟩ := J.after hq
      subst ev
      exact ⟨rv, ⟨V.ref (s.heap.objs.size + 1), H', I3, rfl, q3⟩⟩
    | next => exact hq.elim
    | brk => exact hq.elim
    | cont => exact hq.elim
end
end L2
namespace L2
open PySem PySem.Spec PyProof.Rows
end L2
namespace DL
open PySem PySem.Spec L2 PyProof.Rows
structure DN (P : Program) (w : World) (K : PySem.W.Frag) (mg : Str → Option Value) (base : Heap) (x : Str) (ks : List Str) (k : Nat) (S : DSp) : Prop where
  ex : ∃ f, FnK P w K mg base k f ks (spD K S) ∧ mg x = some (.ref f) ∧ PySem.W.keepIn K (.ref f) = true
structure DA (P : Program) (w : World) (K : PySem.W.Frag) (mg : Str → Option Value) (base : Heap) (f : Addr) (ks : List Str) (k : Nat) (S : DSp) : Prop where
  fn : FnK P w K mg base k f ks (spD K S)
section
variable {X : Cx} {x m : Str} {k j : Nat} {S : DSp} {W : WX} {e o : Expr} {es : List Expr} {kws : List Keyword} {t tk' : TA} {ta te : TE} {p p2 pos apos : Pos} {C f : Addr} {ks : List Str}
theorem pe_nK (K : PySem.W.Frag) (h : X.K = K) (D : DN X.prog X.w K X.mg X.base x [] k S) (hr : Room j X.A) (hj : k ≤ j) (tk : Takes X W) (ha : PA X (e :: es) t) (hg : Gl X x := by rfl) (hdb : (x == ("__debug__" : Str)) = false := by decide)
    (he : starEach (e :: es) X.env = (false, eval e X.env) :: starEach es X.env := by rfl) (hpl : (backTo pos (starEach es X.env)).any (·.1) = false := by rfl) : PE X (.Call (.Name x p) (e :: es) [] pos) (tCallS (spD K S) (WE W) t) := by
  subst h
  obtain ⟨f, F, hm, hk⟩ := D.ex
  refine ⟨fun pins s σ H Q I h => wpAny_Call_Name_kw (ld_glob I hg hm ?_ hdb)⟩
  refine PySem.W.callWith_K (h₀ := X.base) I.ok.mod.kin hk (thn (ha.run pos pins s σ H _ I h) fun us s1 ⟨vs, H1, I1, r, q⟩ => ⟨I1.kIn, ?_⟩) he hpl
  exact wpAny_call (run_fnK0 F (hr.mono hj) (passAt tk σ) I1 r q)
theorem pe_cK (K : PySem.W.Frag) (h : X.K = K) (M : Mk K C f) (D : DA X.prog X.w K X.mg X.base f [] k S) (hr : Room j X.A) (hj : k + 1 ≤ j) (tk : Takes X W) (hm : X.mg x = some (.ref C)) (ha : PA X (e :: es) t) (hg : Gl X x := by rfl) (hdb : (x == ("__debug__" : Str)) = false := by decide)
    (he : starEach (e :: es) X.env = (false, eval e X.env) :: starEach es X.env := by rfl) (hpl : (backTo pos (starEach es X.env)).any (·.1) = false := by rfl) : PE X (.Call (.Name x p) (e :: es) [] pos) (tMakeS C (spD K S) (WE W) t) := by
  subst h
  refine ⟨fun pins s σ H Q I h => wpAny_Call_Name_kw (ld_glob I hg hm ?_ hdb)⟩
  refine PySem.W.callWith_K (h₀ := X.base) I.ok.mod.kin M.kp (thn (ha.run pos pins s σ H _ I h) fun us s1 hh => ?_) he hpl
  obtain ⟨vs, H1, I1, r, q⟩ := hh
  exact ⟨I1.kIn, run_makeK (ks := []) (ws := []) (zs := []) M D.fn (hr.mono hj) (passAt tk σ) I1 r .nil rfl (fun y dy n1 n2 n3 => by rw [List.append_nil]; exact q y dy n1 n2 n3)⟩
end
section
variable {K : PySem.W.Frag} {W : WX} {Γ : Gm} {X : XP} {te : TE} {t tr : TA} {n : Nat} {PA : List Dt → Gm → Prop}
theorem ea_star (h : Ev K W te Γ (fun d Γ1 => SeqA [d] fun xs => EvA K W t Γ1 (fun es Γ2 => PA (xs ++ es) Γ2) X) X) : EvA K W (StX.tStar K te t) Γ PA X := fun O G H σ Q S q x =>
  h O G H σ _ S (fun v G1 H1 Γ1 d s1 S1 r ⟨xs, ed, h1⟩ => by
    have go : ∀ {ad : Addr} {xv : List V}, v = .ref ad → (SqT K H1 ad xv ∨ SqL K H1 ad xv) → Reps K G1 xv xs → StX.tStar K te t σ H Q ∨ (∃ p xs, v = V.ref p ∧ (SqT K H1 p xs ∨ SqL K H1 p xs) ∧ t σ H1 fun ys H2 => Q (xs ++ ys) H2) := fun {ad xv} e hq rr =>
      .inr ⟨ad, xv, e, hq, h1 O G1 H1 σ _ S1 (fun us G2 H2 Γ2 es s2 S2 r2 p => q _ G2 H2 Γ2 _ (s1.trans s2) S2 ((rr.mono s2).append r2) p) (x.mono s1)⟩
    rcases ed with e | e
    · obtain rfl : d = .lst xs := by simpa using e
      cases r with
      | @lst ad xv _ ha rr => exact ⟨ad, xv, rfl, .inr (SqL.of (S1.g _ _ ha)), h1 O G1 H1 σ _ S1 (fun us G2 H2 Γ2 es s2 S2 r2 p => q _ G2 H2 Γ2 _ (s1.trans s2) S2 ((rr.mono s2).append r2) p) (x.mono s1)⟩
    · obtain rfl : d = .tup xs := by simpa using e
      cases r with
      | @tup ad xv _ ha rr => exact ⟨ad, xv, rfl, .inl (SqT.of (S1.g _ _ ha)), h1 O G1 H1 σ _ S1 (fun us G2 H2 Γ2 es s2 S2 r2 p => q _ G2 H2 Γ2 _ (s1.trans s2) S2 ((rr.mono s2).append r2) p) (x.mono s1)⟩) x
instance : Wk (EvA K W (StX.tStar K te t) Γ PA X) (Ev K W te Γ (fun d Γ1 => SeqA [d] fun xs => EvA K W t Γ1 (fun es Γ2 => PA (xs ++ es) Γ2) X) X) := ⟨ea_star⟩
end
end DL
namespace DL
open PySem PySem.Spec L2 PyProof.Rows
section
variable {K : PySem.W.Frag} {O G G2 H H2 : Hp}
end
section
variable {P : Program} {w : World} {K : PySem.W.Frag} {mg : Str → Option Value} {base : Heap}
end
end DL
namespace DL
open PySem PySem.Spec L2
section
variable {K : PySem.W.Frag} {W : WX} {Γ Γ' : Gm} {X : XP} {nx : Gm → Prop} {rt : Sl → Gm → Prop} {xc : XP} {bk ct : Gm → Prop} {g : TG} {tbd : TS} {junk : List Nat} {xs : List Dt} {α β : Type}
def LpR (J : List β → α → Prop) (emb : α → List (Nat × Option Sl)) (Γ : Gm) (zs : List β) (Γ4 : Gm) : Prop := ∃ s, J zs s ∧ Γ4 = setA Γ (emb s)
theorem drop_at {ys : List β} {k : Nat} {y : β} (h : ys[k]? = some y) : ys.drop k = y :: ys.drop (k + 1) := by
  obtain ⟨hk, hy⟩ := List.getElem?_eq_some_iff.mp h
  rw [List.drop_eq_getElem_cons hk, hy]
theorem loop_rest {ys : List β} {pic : β → Dt} (J : List β → α → Prop) (emb : α → List (Nat × Option Sl)) (s0 : α) (h0 : J ys s0) (e0 : Γ = setA Γ (emb s0))
    (hs : ∀ y zs s, J (y :: zs) s → GoG K W g (pic y) (setA Γ (emb s)) (fun Γ3 => Go K W tbd Γ3 ⟨fun Γ4 => LpR J emb Γ zs (wipeG Γ4 junk), rt, xc, fun Γ4 => nx (wipeG Γ4 junk), fun Γ4 => LpR J emb Γ zs (wipeG Γ4 junk)⟩) xc)
    (hd : ∀ s, J [] s → nx (setA Γ (emb s))) : Loop K W junk g tbd ⟨nx, rt, xc, bk, ct⟩ (ys.map pic) Γ :=
  loop_map (fun k s => J (ys.drop k) s) emb s0 (by simpa using h0) e0 (fun k y s hy hJ => hs y (ys.drop (k + 1)) s (by rw [← drop_at hy]; exact hJ)) (fun s hJ => hd s (by rw [List.drop_length] at hJ; exact hJ))
theorem loop_restD (J : List Dt → α → Prop) (emb : α → List (Nat × Option Sl)) (s0 : α) (h0 : J xs s0) (e0 : Γ = setA Γ (emb s0))
    (hs : ∀ y zs s, J (y :: zs) s → GoG K W g y (setA Γ (emb s)) (fun Γ3 => Go K W tbd Γ3 ⟨fun Γ4 => LpR J emb Γ zs (wipeG Γ4 junk), rt, xc, fun Γ4 => nx (wipeG Γ4 junk), fun Γ4 => LpR J emb Γ zs (wipeG Γ4 junk)⟩) xc)
    (hd : ∀ s, J [] s → nx (setA Γ (emb s))) : Loop K W junk g tbd ⟨nx, rt, xc, bk, ct⟩ xs Γ := by
  have e : xs = xs.map id := by simp
  rw [e]
  exact loop_rest J emb s0 h0 e0 hs hd
end
section
variable {R : Dt → Prop} {x : Dt} {xs : List Dt}
instance : Wk (dIx (.lst (x :: xs)) (.int 0) R) (R x) := ⟨fun h => by obtain ⟨v, e, f⟩ := atI_in (xs := x :: xs) (j := 0) (by omega) (by simp); simp at f; subst f; exact l_ixL e h⟩
instance : Wk (dIx (.tup (x :: xs)) (.int 0) R) (R x) := ⟨fun h => by obtain ⟨v, e, f⟩ := atI_in (xs := x :: xs) (j := 0) (by omega) (by simp); simp at f; subst f; exact l_ixT e h⟩
theorem atI_last {β : Type} {ys : List β} {y : β} : atI (ys ++ [y]) (-1) = some y := by
  unfold atI ixN
  have e : ((-1 : Int) + ((ys.length : Int) + 1)).toNat = ys.length := by omega
  simp
  rw [if_pos (by omega), Option.bind_some, e]
  simp
instance : Wk (dIx (.lst (xs ++ [x])) (.int (-1)) R) (R x) := ⟨fun h => l_ixL atI_last h⟩
instance : Wk (dIx (.tup (xs ++ [x])) (.int (-1)) R) (R x) := ⟨fun h => l_ixT atI_last h⟩
theorem ix_of {β : Type} {ys : List β} {pic : β → Dt} {j : Int} {y : β} (h0 : 0 ≤ j) (h : ys[j.toNat]? = some y) (r : R (pic y)) : dIx (.lst (ys.map pic)) (.int j) R ∧ dIx (.tup (ys.map pic)) (.int j) R := by
  obtain ⟨hk, hy⟩ := List.getElem?_eq_some_iff.mp h
  obtain ⟨v, e, f⟩ := atI_in (xs := ys.map pic) (j := j) h0 (by simp; omega)
  rw [List.getElem?_map, h] at f
  cases f
  exact ⟨l_ixL e r, l_ixT e r⟩
end
section
variable {K : PySem.W.Frag} {O G H : Hp}
end
section
variable {K : PySem.W.Frag} {W : WX} {Γ : Gm} {te : TE} {i : Nat} {nx : Gm → Prop} {rt : Sl → Gm → Prop} {xc : XP} {bk ct : Gm → Prop}
theorem go_aug {f : Int → Int → Int} {x : Int} (hi : Γ[i]? = some (some (.fr (.int x)))) (h : Ev K W te Γ (fun d Γ1 => IsI d fun j => nx (Γ1.set i (some (.fr (.int (f x j)))))) xc) : Go K W (tAug i te (ipI f)) Γ ⟨nx, rt, xc, bk, ct⟩ := fun O G H σ D S a b c d e => by
  obtain ⟨v, ev, rv⟩ := S.getF hi
  cases rv
  refine ⟨_, ev, h O G H σ _ S (fun v2 G2 H2 Γ2 d2 s2 S2 r2 ⟨j, ed, p⟩ => ?_) (e σ)⟩
  subst ed
  cases r2
  exact ⟨x, j, rfl, rfl, a G2 H2 _ _ s2 (S2.putF (.int (f x j)) i) p⟩
instance {f : Int → Int → Int} {x : Int} [q : At Γ i (.fr (.int x))] : Wk (Go K W (tAug i te (ipI f)) Γ ⟨nx, rt, xc, bk, ct⟩) (Ev K W te Γ (fun d Γ1 => IsI d fun j => nx (Γ1.set i (some (.fr (.int (f x j)))))) xc) := ⟨fun h => go_aug q.h h⟩
end
end DL
namespace DL
open PySem PySem.Spec L2
section
variable {K : PySem.W.Frag} {W : WX} {Γ : Gm} {X : XP} {P : Dt → Gm → Prop} {te : TE} {t : TA} {i : Nat}
theorem own_view {O G H : Hp} {σ : St} {a : Addr} {ds : List Dt} (S : Sta K O G H σ Γ) (hi : Γ[i]? = some (some (.ol a ds))) : σ[i]? = some (some (.ref a)) ∧ ∃ G', Same G G' ∧ Same G' H ∧ Rep K G' (.ref a) (.lst ds) := by
  obtain ⟨v, e, o⟩ := S.get hi
  cases o with
  | @ol _ xs _ hh rr =>
    have na : G a = none := S.ng a (mem_fps hi a (by simp [Sl.fp]))
    obtain ⟨s1, s2⟩ := same_frz S.g hh na
    exact ⟨e, _, s1, s2, .lst upd_same (rr.mono s1)⟩
theorem Sta.look {O G G' G2 H H2 : Hp} {σ : St} (S : Sta K O G H σ Γ) (e : Ext G' H G2 H2) : Sta K O G H2 σ Γ ∧ Same G G :=
  ⟨S.ext ⟨Same.refl _, e.h, S.g.trans e.h, fun _ _ q => .inl q⟩, Same.refl _⟩
theorem ev_opO {r : R2} {ρ : Dt → Dt → (Dt → Prop) → Prop} (hr : RD K r ρ) {a : Addr} {ds : List Dt} (hi : Γ[i]? = some (some (.ol a ds))) (h : Ev K W te Γ (fun y Γ1 => OwnL Γ1 i fun _ ds => ρ (.lst ds) y fun z => IsB z fun b => P (.bl b) Γ1) X) : Ev K W (tOp r (tVar i) te) Γ P X := fun O G H σ Q S q x => by
  obtain ⟨v0, e0, o0⟩ := S.get hi
  refine ⟨v0, e0, h O G H σ _ S (fun v G1 H1 Γ1 d s1 S1 rd hh => ?_) x⟩
  obtain ⟨a1, ds1, hg, hp⟩ := hh
  obtain ⟨e1, G', s2, s3, rv⟩ := own_view S1 hg
  rw [e0] at e1
  obtain rfl := Option.some.inj (Option.some.inj e1)
  refine hr G' H1 _ v _ _ _ Q s3 rv (rd.mono s2) hp fun v2 G2 H2 d2 ex r2 ⟨b, eb, pb⟩ => ?_
  subst eb
  cases r2
  exact q _ G1 H2 Γ1 _ s1 (S1.look ex).1 (.bl b) pb
theorem ev_opR {r : R2} {ρ : Dt → Dt → (Dt → Prop) → Prop} (hr : RD K r ρ) {a : Addr} (h : Ev K W te Γ (fun y Γ1 => OwnL Γ1 i fun _ ds => ρ y (.lst ds) fun z => IsB z fun b => P (.bl b) Γ1) X) : Ev K W (tOp r te (tVar i)) Γ P X := fun O G H σ Q S q x => by
  refine h O G H σ _ S (fun v G1 H1 Γ1 d s1 S1 rd hh => ?_) x
  obtain ⟨a1, ds1, hg, hp⟩ := hh
  obtain ⟨e1, G', s2, s3, rv⟩ := own_view S1 hg
  refine ⟨_, e1, hr G' H1 v _ _ _ _ Q s3 (rd.mono s2) rv hp fun v2 G2 H2 d2 ex r2 ⟨b, eb, pb⟩ => ?_⟩
  subst eb
  cases r2
  exact q _ G1 H2 Γ1 _ s1 (S1.look ex).1 (.bl b) pb
theorem ev_cbO {r : List V → Hp → VK → Prop} {ρ : List Dt → (Dt → Prop) → Prop} (hr : RDC K r ρ) {a : Addr} {ds : List Dt} (hi : Γ[i]? = some (some (.ol a ds))) (h : EvA K W t Γ (fun es Γ1 => OwnL Γ1 i fun _ ds => ρ (.lst ds :: es) fun z => IsB z fun b => P (.bl b) Γ1) X) : Ev K W (tCB r (tCons (tVar i) t)) Γ P X := fun O G H σ Q S q x => by
  obtain ⟨v0, e0, o0⟩ := S.get hi
  refine ⟨v0, e0, h O G H σ _ S (fun vs G1 H1 Γ1 es s1 S1 rd hh => ?_) x⟩
  obtain ⟨a1, ds1, hg, hp⟩ := hh
  obtain ⟨e1, G', s2, s3, rv⟩ := own_view S1 hg
  rw [e0] at e1
  obtain rfl := Option.some.inj (Option.some.inj e1)
  refine hr G' H1 _ _ _ Q s3 (.cons rv (rd.mono s2)) hp fun v2 G2 H2 d2 ex r2 ⟨b, eb, pb⟩ => ?_
  subst eb
  cases r2
  exact q _ G1 H2 Γ1 _ s1 (S1.look ex).1 (.bl b) pb
instance {a : Addr} {ds : List Dt} [q : At Γ i (.ol a ds)] : Wk (Ev K W (tOp (rEqP K) (tVar i) te) Γ P X) (Ev K W te Γ (fun y Γ1 => OwnL Γ1 i fun _ ds => dEq (.lst ds) y fun z => IsB z fun b => P (.bl b) Γ1) X) := ⟨fun h => ev_opO rd_eq q.h h⟩
instance {a : Addr} {ds : List Dt} [q : At Γ i (.ol a ds)] : Wk (Ev K W (tOp (rNeP K) (tVar i) te) Γ P X) (Ev K W te Γ (fun y Γ1 => OwnL Γ1 i fun _ ds => dNe (.lst ds) y fun z => IsB z fun b => P (.bl b) Γ1) X) := ⟨fun h => ev_opO rd_ne q.h h⟩
instance {a : Addr} {ds : List Dt} [q : At Γ i (.ol a ds)] : Wk (Ev K W (tOp (rInP K) te (tVar i)) Γ P X) (Ev K W te Γ (fun y Γ1 => OwnL Γ1 i fun _ ds => dIn false y (.lst ds) fun z => IsB z fun b => P (.bl b) Γ1) X) := ⟨fun h => ev_opR (a := a) rd_in h⟩
instance {a : Addr} {ds : List Dt} [q : At Γ i (.ol a ds)] : Wk (Ev K W (tOp (rNotInP K) te (tVar i)) Γ P X) (Ev K W te Γ (fun y Γ1 => OwnL Γ1 i fun _ ds => dIn true y (.lst ds) fun z => IsB z fun b => P (.bl b) Γ1) X) := ⟨fun h => ev_opR (a := a) rd_notIn h⟩
instance {a : Addr} {ds : List Dt} [q : At Γ i (.ol a ds)] : Wk (Ev K W (tCB (rIsiP K) (tCons (tVar i) t)) Γ P X) (EvA K W t Γ (fun es Γ1 => OwnL Γ1 i fun _ ds => dIsi K (.lst ds :: es) fun z => IsB z fun b => P (.bl b) Γ1) X) := ⟨fun h => ev_cbO rdc_isi q.h h⟩
end
mutual
def plB : Nat → Dt → Bool
  | _, .non => true
  | _, .bl _ => true
  | _, .int _ => true
  | _, .str x => PyData.strOk x
  | n + 1, .lst xs => plBs n xs
  | n + 1, .tup xs => plBs n xs
  | _, _ => false
def plBs : Nat → List Dt → Bool
  | _, [] => true
  | n, x :: xs => plB n x && plBs n xs
end
mutual
theorem pl_of : ∀ {n : Nat} {d : Dt}, plB n d = true → Pl n d
  | _, .non, _ => .non
  | _, .bl b, _ => .bl b
  | _, .int i, _ => .int i
  | _, .str x, h => .str (by cases ‹Nat› <;> exact h)
  | n + 1, .lst xs, h => .lst (pls_of (n := n) h)
  | n + 1, .tup xs, h => .tup (pls_of (n := n) h)
  | 0, .lst xs, h => by cases h
  | 0, .tup xs, h => by cases h
  | _, .ty _, h => by cases ‹Nat› <;> cases h
  | _, .ref _, h => by cases ‹Nat› <;> cases h
  | _, .scr _, h => by cases ‹Nat› <;> cases h
  | _, .obj _ _, h => by cases ‹Nat› <;> cases h
  | _, .dK _, h => by cases ‹Nat› <;> cases h
  | _, .dT _, h => by cases ‹Nat› <;> cases h
  | _, .exc _ _, h => by cases ‹Nat› <;> cases h
  | _, .at_ _ _, h => by cases ‹Nat› <;> cases h
theorem pls_of : ∀ {n : Nat} {xs : List Dt}, plBs n xs = true → ∀ d ∈ xs, Pl n d
  | _, [], _, d, hd => by cases hd
  | n, x :: xs, h, d, hd => by
    have h' : plB n x = true ∧ plBs n xs = true := by simpa only [plBs, Bool.and_eq_true] using h
    rcases List.mem_cons.mp hd with e | hd
    · rw [e]; exact pl_of h'.1
    · exact pls_of h'.2 d hd
end
theorem pls_map {α : Type} {n : Nat} {f : α → Dt} {l : List α} (h : ∀ x ∈ l, plB n (f x) = true) : plBs n (l.map f) = true := by
  induction l with
  | nil => rfl
  | cons x l ih => simp only [List.map_cons, plBs, Bool.and_eq_true]; exact ⟨h x (by simp), ih fun y hy => h y (by simp [hy])⟩
theorem eqDs_map {α : Type} {f : α → Dt} (hf : ∀ x y, eqD (f x) (f y) = true ↔ x = y) : ∀ {l l' : List α}, eqDs (l.map f) (l'.map f) = true ↔ l = l'
  | [], [] => by simp [eqDs]
  | [], _ :: _ => by simp [eqDs]
  | _ :: _, [] => by simp [eqDs]
  | x :: l, y :: l' => by simp only [List.map_cons, eqDs, Bool.and_eq_true, hf, eqDs_map hf, List.cons.injEq]
section
variable {R : Dt → Prop} {x y : Dt}
theorem q_eq (n : Nat) (hx : plB n x = true) (hy : plB n y = true) (h : R (.bl (eqD x y))) (hn : n ≤ 64 := by decide) : dEq x y R := p_eq (pl_of hx) (pl_of hy) hn hn h
theorem q_ne (n : Nat) (hx : plB n x = true) (hy : plB n y = true) (h : R (.bl (!eqD x y))) (hn : n ≤ 64 := by decide) : dNe x y R := p_ne (pl_of hx) (pl_of hy) hn hn h
end
instance {K : PySem.W.Frag} {W : WX} {Γ : Gm} {X : XP} {P : Dt → Gm → Prop} {i : Nat} {a C : Addr} {d : Option Addr} {fs : List (Str × Dt)} {f : Str} [h : At Γ i (.ex a C d fs)] : Wk (Ev K W (tXf a (.ref C) d C f (tVar i)) Γ P X) (∃ y, fs.lookup f = some y ∧ P y Γ) := ⟨fun ⟨y, e, p⟩ => ev_xf h.h e p⟩
end DL
namespace L2
open PySem PySem.Spec PyProof.Rows
end L2
namespace DL
open PySem PySem.Spec L2
section
variable {K : PySem.W.Frag} {W : WX} {Γ : Gm} {X : XP} {P : Dt → Gm → Prop} {te : TE} {i : Nat}
def IsiX (K : PySem.W.Frag) (C : Addr) (c : Dt) (Q : Bool → Prop) : Prop := ∃ u b, ClsD c u ∧ ExcC K C ∧ PySem.W.kitOne K (.ref C) u = some b ∧ Q b
theorem isix_own {C D : Addr} {b : Bool} {Q : Bool → Prop} (f : ExcC K C) (hk : PySem.W.kitOne K (.ref C) (.ref D) = some b) (h : Q b) : IsiX K C (.ref D) Q := ⟨_, b, .own D, f, hk, h⟩
theorem isix_ty {C : Addr} {n : String} {b : Bool} {Q : Bool → Prop} (f : ExcC K C) (hk : PySem.W.kitOne K (.ref C) (.type n) = some b) (h : Q b) : IsiX K C (.ty n) Q := ⟨_, b, .ty n, f, hk, h⟩
end
end DL
namespace DL
open PySem PySem.Spec L2
theorem mkLc {X : Cx} {e : Expr} (vs : List Nat) {wi : TI} {g : TG} {tt : TT} {te : TE} {l : List Nat} (h : PE X e (tLc wi g tt te l)) (q : l = vs := by rfl) : PE X e (tLc wi g tt te vs) := by subst q; exact h
theorem mkSLc {X : Cx} {s : Stmt} (vs : List Nat) {wi : TI} {g gn : TG} {tt : TT} {te : TE} {l : List Nat} (h : PS X s (tAsg (tLc wi g tt te l) gn)) (q : l = vs := by rfl) : PS X s (tAsg (tLc wi g tt te vs) gn) := by subst q; exact h
class MemC (i : Nat) (vs : List Nat) : Prop where
  h : i ∈ vs
instance (priority := high) {i : Nat} {vs : List Nat} : MemC i (i :: vs) := ⟨by simp⟩
instance {i j : Nat} {vs : List Nat} [h : MemC i vs] : MemC i (j :: vs) := ⟨List.mem_cons_of_mem _ h.h⟩
class WrC (g : TG) (vs : List Nat) : Prop where
  h : Wr g vs
  m : MoG g
class WrsC (g : TGs) (vs : List Nat) : Prop where
  h : Wrs g vs
  m : MoGs g
instance {i : Nat} {vs : List Nat} [m : MemC i vs] : WrC (gName i) vs := ⟨wr_name m.h, mo_name⟩
instance {vs : List Nat} : WrsC gNil vs := ⟨wrs_nil, mos_nil⟩
instance {g : TG} {r : TGs} {vs : List Nat} [a : WrC g vs] [b : WrsC r vs] : WrsC (gCons g r) vs := ⟨wrs_cons a.m b.m a.h b.h, mos_cons a.m b.m⟩
instance {K : PySem.W.Frag} {n : Nat} {r : TGs} {vs : List Nat} [b : WrsC r vs] : WrC (gTup K n r) vs := ⟨wr_tup b.h, mo_tup b.m⟩
def LC (K : PySem.W.Frag) (g : TG) (tt : TT) (te : TE) (vs : List Nat) (P : Sl → Gm → Prop) (xs : List Dt) (Γ : Gm) : Prop :=
  ∃ I : Nat → List Dt → Gm → Prop, I 0 [] Γ ∧
      (∀ k x acc Γ2, xs[k]? = some x → I k acc Γ2 → GoG K WF g x Γ2 (fun Γ3 => EvT K WF tt Γ3 (fun b Γ4 => (b = true → Ev K WF te Γ4 (fun y Γ5 => acc.length < 1000000 ∧ I (k + 1) (acc ++ [y]) (wipeG Γ5 vs)) XF) ∧ (b = false → I (k + 1) acc (wipeG Γ4 vs))) XF) XF) ∧
      (∀ a acc Γ2, I xs.length acc Γ2 → P (.ol a acc) Γ2)
section
variable {K : PySem.W.Frag} {W : WX} {Γ Γ' : Gm} {X : XP} {te : TE} {tt : TT} {g : TG} {wi : TI} {vs : List Nat} {P : Sl → Gm → Prop} {xs : List Dt}
instance [h : WrC g vs] : Wk (EvO K W (tLc wi g tt te vs) Γ P X) (EvI K W wi Γ (fun xs Γ1 => LC K g tt te vs P xs (wipeG Γ1 vs)) X) := ⟨fun q => evo_lc h.h h.m q⟩
instance {P : Dt → Gm → Prop} : Wk (Ev K W (tLc wi g tt te vs) Γ P X) (EvO K W (tLc wi g tt te vs) Γ (fun s Γ2 => Fz s fun d => P d Γ2) X) := ⟨ev_frz⟩
instance {nx : Gm → Prop} {rt : Sl → Gm → Prop} {xc : XP} {bk ct : Gm → Prop} {i : Nat} : Wk (Go K W (tAsg (tLc wi g tt te vs) (gName i)) Γ ⟨nx, rt, xc, bk, ct⟩) (EvO K W (tLc wi g tt te vs) Γ (fun s Γ1 => nx (Γ1.set i (some s))) xc) := ⟨g_setO⟩
instance (priority := 2000) {l : List Nat} [h : WipeC Γ l Γ'] : Wk (LC K g tt te vs P xs (wipeG Γ l)) (LC K g tt te vs P xs Γ') := ⟨fun q => by rw [h.h]; exact q⟩
instance {P : Bool → Gm → Prop} : Wk (EvT K W tYes Γ P X) (P true Γ) := ⟨fun p O G H σ Q S q x => q true G H Γ (Same.refl _) S p⟩
def LcN {α : Type} (J : Nat → List Dt → α → Prop) (emb : α → List (Nat × Option Sl)) (Γ : Gm) (k : Nat) (acc : List Dt) (Γ4 : Gm) : Prop := ∃ s, J k acc s ∧ Γ4 = setA Γ (emb s)
theorem lc_inv {α : Type} (J : Nat → List Dt → α → Prop) (emb : α → List (Nat × Option Sl)) (s0 : α) (h0 : J 0 [] s0) (e0 : Γ = setA Γ (emb s0))
    (hs : ∀ k x acc s, xs[k]? = some x → J k acc s → GoG K WF g x (setA Γ (emb s)) (fun Γ3 => EvT K WF tt Γ3 (fun b Γ4 => Br b (Ev K WF te Γ4 (fun y Γ5 => Side (acc.length < 1000000) (LcN J emb Γ (k + 1) (acc ++ [y]) (wipeG Γ5 vs))) XF) (LcN J emb Γ (k + 1) acc (wipeG Γ4 vs))) XF) XF)
    (hd : ∀ a acc s, J xs.length acc s → P (.ol a acc) (setA Γ (emb s))) : LC K g tt te vs P xs Γ :=
  ⟨LcN J emb Γ, ⟨s0, h0, e0⟩, fun k x acc Γ2 hx ⟨s, hJ, e⟩ => by rw [e]; exact hs k x acc s hx hJ, fun a acc Γ2 ⟨s, hJ, e⟩ => by rw [e]; exact hd a acc s hJ⟩
theorem lc_map {β : Type} {ys : List β} {pic : β → Dt} (f : β → Dt) (hl : ys.length ≤ 1000000)
    (hs : ∀ (k : Nat) y, ys[k]? = some y → GoG K WF g (pic y) Γ (fun Γ3 => EvT K WF tt Γ3 (fun b Γ4 => Br b (Ev K WF te Γ4 (fun z Γ5 => z = f y ∧ wipeG Γ5 vs = Γ) XF) False) XF) XF)
    (hd : ∀ a, P (.ol a (ys.map f)) Γ) : LC K g tt te vs P (ys.map pic) Γ := by
  refine lc_inv (α := Unit) (fun k acc _ => acc = (ys.take k).map f) (fun _ => []) () (by simp) rfl (fun k x acc _ hx hJ => ?_) (fun a acc _ hJ => ?_)
  · rw [List.getElem?_map] at hx
    cases q : ys[k]? with
    | none => rw [q] at hx; cases hx
    | some y =>
      rw [q] at hx; cases hx
      have hk : k < ys.length := (List.getElem?_eq_some_iff.mp q).1
      intro O G H σ v Q S r q' e
      refine hs k y q O G H σ v Q S r (fun G2 H2 σ2 Γ2 s S2 p => q' G2 H2 σ2 Γ2 s S2 ?_) e
      intro O G H σ Q S q3 x3
      refine p O G H σ Q S (fun b G2 H2 Γ2 s S2 p2 => q3 b G2 H2 Γ2 s S2 ?_) x3
      refine ⟨fun hb => ?_, fun hb => (p2.2 hb).elim⟩
      have p3 := p2.1 hb
      intro O G H σ Q S q4 x4
      refine p3 O G H σ Q S (fun v G2 H2 Γ2 d s S2 R p5 => q4 v G2 H2 Γ2 d s S2 R ?_) x4
      refine ⟨by rw [hJ]; simp; omega, (), ?_, ?_⟩
      · show acc ++ [_] = (ys.take (k + 1)).map f
        rw [hJ, p5.1, List.take_add_one, q]; simp
      · exact p5.2
  · have : acc = ys.map f := by rw [hJ]; simp
    rw [this]
    exact hd a
end
end DL
namespace DL
open PySem PySem.Spec L2
def dRep : Dt → Dt → (Dt → Prop) → Prop
  | .lst a, .int k, R => (-(2 ^ 63) ≤ k ∧ k < 2 ^ 63 ∧ a.length * k.toNat ≤ 1000000) ∧ R (.lst (List.replicate k.toNat a).flatten)
  | _, _, _ => False
theorem reps_flat {K : PySem.W.Frag} {G : Hp} {xs : List V} {ds : List Dt} (r : Reps K G xs ds) : ∀ n : Nat, Reps K G (List.replicate n xs).flatten (List.replicate n ds).flatten
  | 0 => by simp; exact .nil
  | n + 1 => by
    rw [List.replicate_succ, List.replicate_succ, List.flatten_cons, List.flatten_cons]
    exact r.append (reps_flat r n)
section
variable {K : PySem.W.Frag}
theorem rd_rep : RD K rRep dRep := fun G H x y dx dy R Q s rx ry h q => by
  unfold dRep at h
  split at h
  · obtain ⟨⟨l1, l2, l3⟩, p⟩ := h
    cases ry
    cases rx with
    | lst h1 r1 =>
    refine ⟨_, _, _, rfl, rfl, s _ _ h1, l1, l2, by rw [r1.length]; exact big_ok l3, fun a na => ?_⟩
    exact q _ _ _ _ (Ext.new s na) (Rep.newL s na (reps_flat r1 _)) p
  · exact h.elim
instance : OpC K rRep dRep := ⟨rd_rep⟩
instance {a : List Dt} {k : Int} {R : Dt → Prop} : Wk (dRep (.lst a) (.int k) R) (Side (-(2 ^ 63) ≤ k ∧ k < 2 ^ 63 ∧ a.length * k.toNat ≤ 1000000) (R (.lst (List.replicate k.toNat a).flatten))) := ⟨fun h => h⟩
end
theorem rngD_rget {m n : Int} {k : Nat} {x : Dt} (h : (rngD m n).reverse[k]? = some x) : x = .int (n - 1 - k) ∧ m ≤ n - 1 - k := by
  have hk : k < (rngD m n).reverse.length := (List.getElem?_eq_some_iff.mp h).1
  rw [List.length_reverse, rngD_len] at hk
  rw [List.getElem?_reverse (by rw [rngD_len]; exact hk), rngD_len] at h
  obtain ⟨rfl, _⟩ := rngD_get h
  refine ⟨?_, by omega⟩
  congr 1
  omega
section
variable {K : PySem.W.Frag} {W : WX} {Γ : Gm} {X : XP} {PI : List Dt → Gm → Prop}
theorem ei_rev1 {te : TE} (h : Ev K W te Γ (fun d Γ1 => ∃ n : Int, d = .int n ∧ (-(2 ^ 62) ≤ n ∧ n < 2 ^ 62) ∧ PI (rngD 0 n).reverse Γ1) X) : EvI K W (iRevR (tRg1 te)) Γ PI X := fun O G H σ R S q x =>
  h O G H σ _ S (fun v G1 H1 Γ1 d s1 S1 r ⟨n, en, ⟨l1, l2⟩, p⟩ => by
    subst en
    cases r
    refine ⟨n, rfl, by decide, by decide, l1, l2, q _ G1 H1 Γ1 _ _ _ _ s1 S1 walk_rangeC (by rw [List.length_reverse, rngD_len]) (fun _ _ => trivial) (fun k x v G2 H2 H3 hx s2 g2 y => ?_) p⟩
    obtain ⟨rfl, rfl⟩ := y
    obtain ⟨rfl, hk⟩ := rngD_rget hx
    have : (0 : Int) + (((n - 0).toNat : Nat) : Int) - 1 + (k : Nat) * (-1) = n - 1 - k := by omega
    refine ⟨G2, Ext.refl g2, ?_⟩
    show Rep K G2 (.int (0 + (((n - 0).toNat : Nat) : Int) - 1 + (k : Nat) * (-1))) _
    rw [this]
    exact .int _) x
instance {te : TE} : Wk (EvI K W (iRevR (tRg1 te)) Γ PI X) (Ev K W te Γ (fun d Γ1 => ∃ n : Int, d = .int n ∧ Side (-(2 ^ 62) ≤ n ∧ n < 2 ^ 62) (PI (rngD 0 n).reverse Γ1)) X) := ⟨fun h => ei_rev1 h⟩
end
section
variable {K : PySem.W.Frag} {W : WX} {Γ : Gm} {nx : Gm → Prop} {rt : Sl → Gm → Prop} {xc : XP} {bk ct : Gm → Prop} {g : TG} {tbd : TS} {junk : List Nat}
end
end DL
namespace L2
open PySem PySem.Spec PyProof.Rows
section
variable {X : Cx} {k : Nat} {f g C : Addr} {sp : Sp} {pos : Pos} {a b : Expr} {ta tb : TE} {pins : List (Addr × Obj)} {σ : St} {H : Hp} {s : Shared} {Q : VK} {us : List Value} {vs : List V}
end
end L2
namespace DL
open PySem PySem.Spec L2 PyProof.Rows
section
variable {X : Cx} {k j : Nat} {S : DSp} {W : WX} {a b e fe : Expr} {es : List Expr} {ta tb tf : TE} {t : TA} {pos : Pos} {C f : Addr} {nm : Str}
end
section
variable {K : PySem.W.Frag} {W : WX} {Γ : Gm} {X : XP} {P : Dt → Gm → Prop} {PO : Sl → Gm → Prop} {ta tb tf : TE} {t : TA} {S : DSp} {C : Addr} {neg : Bool}
end
end DL
namespace IX
open PySem PySem.Spec PyProof.Rows L2
variable {Z : Cx}
def tSi (w : World) (wi : TI) (g : TG) (tt : TT) (te : TE) (vs : List Nat) : TE := fun ρ G Q => wi ρ G fun J G1 => ∀ d, G1 d = none → ∃ V : Nat → Nat → Hp → Prop, (∃ m, V 0 m (upd G1 d (SetO w d (fun _ => false) 0))) ∧ ∀ i m G, V i m G →
  (J.stop i G ∧ Q (.ref d) G) ∨ (J.go i G ∧ ∃ N : Hp → Prop, (∀ G', N G' → ∃ m', m' < m ∧ V (i + 1) m' G') ∧ ∀ x G', J.yld i G x G' → g x (wipe ρ vs) G' fun ρ2 G2 => wipe ρ2 vs = wipe ρ vs ∧ tt ρ2 G2 fun b G3 =>
    if b = true then te ρ2 G3 fun y G4 => ∃ (c : Int) (M : Int → Bool) (n : Nat), y = .int c ∧ G4 d = some (SetO w d M n) ∧ n + 1 < scanBound ∧ N (upd G4 d (SetO w d (fun j => M j || decide (j = c)) (if M c = true then n else n + 1))) else N G3)
end IX
namespace IX
open PySem PySem.Spec PyProof.Rows L2
section
variable {P : Program} {w : World} {A : Around} {E : Value → Shared → Prop} {u : Shared} {a : Addr}
end
def rSortS (w : World) : List V → Hp → VK → Prop := fun vs G Q => ∃ (a : Addr) (M : Int → Bool) (n : Nat), vs = [V.ref a] ∧ G a = some (SetO w a M n) ∧
  ∀ (ns : List Int) (p : Addr), ns.Pairwise (· < ·) → (∀ k : Int, k ∈ ns ↔ M k = true) → G p = none → Q (.ref p) (upd G p (.lst (ns.map V.int)))
theorem si_it {w : World} {J : It} {n : Nat} {GG : Hp → Prop} {Y : Nat → Hp → V → Hp → Prop} {g : TG} {tt : TT} {te : TE} {vs : List Nat} {ρ : L2.St} {G1 : Hp} {d : Addr} {Qd : Hp → Prop} (wk : Walk J n GG Y) (Pv : Nat → Hp → Prop) (h0 : Pv 0 (upd G1 d (SetO w d (fun _ => false) 0))) (hG : ∀ i G, i ≤ n → Pv i G → GG G)
    (hs : ∀ i x G G', i < n → Pv i G → Y i G x G' → g x (wipe ρ vs) G' fun ρ2 G2 => wipe ρ2 vs = wipe ρ vs ∧ tt ρ2 G2 fun b G3 =>
      if b = true then te ρ2 G3 fun y G4 => ∃ (c : Int) (M : Int → Bool) (k : Nat), y = .int c ∧ G4 d = some (SetO w d M k) ∧ k + 1 < scanBound ∧ Pv (i + 1) (upd G4 d (SetO w d (fun j => M j || decide (j = c)) (if M c = true then k else k + 1))) else Pv (i + 1) G3) (hd : ∀ G, Pv n G → Qd G) :
    ∃ V : Nat → Nat → Hp → Prop, (∃ m, V 0 m (upd G1 d (SetO w d (fun _ => false) 0))) ∧ ∀ i m G, V i m G →
      (J.stop i G ∧ Qd G) ∨ (J.go i G ∧ ∃ N : Hp → Prop, (∀ G', N G' → ∃ m', m' < m ∧ V (i + 1) m' G') ∧ ∀ x G', J.yld i G x G' → g x (wipe ρ vs) G' fun ρ2 G2 => wipe ρ2 vs = wipe ρ vs ∧ tt ρ2 G2 fun b G3 =>
        if b = true then te ρ2 G3 fun y G4 => ∃ (c : Int) (M : Int → Bool) (k : Nat), y = .int c ∧ G4 d = some (SetO w d M k) ∧ k + 1 < scanBound ∧ N (upd G4 d (SetO w d (fun j => M j || decide (j = c)) (if M c = true then k else k + 1))) else N G3) := by
  refine ⟨fun i m G => m + i = n ∧ Pv i G, ⟨n, rfl, h0⟩, ?_⟩
  rintro i m G ⟨hm, p⟩
  by_cases hlt : i < n
  · refine .inr ⟨wk.goes i G hlt (hG i G (Nat.le_of_lt hlt) p), Pv (i + 1), fun G' p' => ⟨m - 1, by omega, by omega, p'⟩, fun x G' y => hs i x G G' hlt p (wk.yields i G x G' hlt (hG i G (Nat.le_of_lt hlt) p) y)⟩
  · obtain rfl : i = n := by omega
    exact .inl ⟨wk.stops G (hG _ G (Nat.le_refl _) p), hd G p⟩
end IX
namespace DL
open PySem PySem.Spec L2 PyProof.Rows
abbrev tSS (w : World) (wi : TI) (g : TG) (tt : TT) (te : TE) (vs : List Nat) : TE := tCB (IX.rSortS w) (tCons (IX.tSi w wi g tt te vs) tNil)
def Cn (U : List Int) (M : Int → Bool) (k : Nat) (acc : List Int) : Prop := (∀ j, M j = true ↔ j ∈ acc) ∧ (∀ j ∈ acc, j ∈ U) ∧ ∃ ms : List Int, ms.Nodup ∧ ms.length = k ∧ ∀ j, j ∈ ms ↔ M j = true
theorem sub_len : ∀ {l m : List Int}, l.Nodup → (∀ k ∈ l, k ∈ m) → l.length ≤ m.length
  | [], m, _, _ => by simp
  | a :: l, m, nd, h => by
    have ha : a ∈ m := h a (by simp)
    obtain ⟨h1, h2⟩ := List.nodup_cons.mp nd
    have := sub_len (l := l) (m := m.erase a) h2 fun k hk => (List.mem_erase_of_ne (fun e : k = a => h1 (by rw [← e]; exact hk))).mpr (h k (List.mem_cons_of_mem _ hk))
    rw [List.length_erase_of_mem ha] at this
    have := List.length_pos_of_mem ha
    simp
    omega
theorem cn_le {U l : List Int} (nd : l.Nodup) (h : ∀ j ∈ l, j ∈ U) : l.length ≤ U.length := sub_len nd h
section
variable {K : PySem.W.Frag} {W : WX} {Γ : Gm} {X : XP} {te : TE} {tt : TT} {g : TG} {wi : TI} {vs : List Nat} {w : World}
theorem evo_ss {P : Sl → Gm → Prop} (hw : Wr g vs) (hm : MoG g) (h : EvI K W wi Γ (fun xs Γ1 => ∃ (U : List Int) (I : Nat → List Int → Gm → Prop), U.length ≤ 4090 ∧ I 0 [] (wipeG Γ1 vs) ∧
      (∀ k x acc Γ2, xs[k]? = some x → I k acc Γ2 → GoG K WF g x Γ2 (fun Γ3 => EvT K WF tt Γ3 (fun b Γ4 => (b = true → Ev K WF te Γ4 (fun y Γ5 => ∃ c, y = .int c ∧ c ∈ U ∧ I (k + 1) (acc ++ [c]) (wipeG Γ5 vs)) XF) ∧ (b = false → I (k + 1) acc (wipeG Γ4 vs))) XF) XF) ∧
      (∀ acc Γ2, I xs.length acc Γ2 → ∀ a (ns : List Int), ns.Pairwise (· < ·) → (∀ k, k ∈ ns ↔ k ∈ acc) → P (.ol a (ns.map .int)) Γ2)) X) : EvO K W (tSS w wi g tt te vs) Γ P X := fun O G H σ Q S q x =>
  h O G H σ _ S (fun J G1 H1 Γ1 xs n GG Y s1 S1 wk hn hG hY ⟨U, I, hU, h0, hs, hd⟩ => by
    intro D nD
    have oD : O D = none := S1.o.free nD
    have gD : G1 D = none := S1.g.free nD
    have fD : D ∉ fps Γ1 := fun z => S1.there D z nD
    have xf : ∀ {O' G' : Hp} {σ' : L2.St}, XOk K WF O' G' σ' XF := fun {O' G' σ'} C d fs G2 H2 Γ2 _ _ _ z => z
    refine IX.si_it wk (fun k H' => ∃ (G2 : Hp) (Γ2 : Gm) (acc : List Int) (M : Int → Bool) (c : Nat), Same G1 G2 ∧ Sta K (upd O D (SetO w D M c)) G2 H' (wipe σ vs) Γ2 ∧ Cn U M c acc ∧ I k acc Γ2) ?_ (fun k H' _ ⟨G2, Γ2, acc, M, c, s2, S2, _⟩ => hG H' (s2.trans S2.g)) ?_ ?_
    · have T := (S1.ext (Ext.raw (ob := SetO w D (fun _ => false) 0) S1.g nD)).toO upd_same oD gD fD trivial
      exact ⟨G1, _, [], (fun _ => false), 0, Same.refl _, sta_wipe T vs, ⟨by simp, by simp, [], by simp, rfl, by simp⟩, h0⟩
    · rintro k v H2 H3 hk ⟨G2, Γ2, acc, M, c, s2, S2, cn, p⟩ y
      have hx : xs[k]? = some (xs[k]'(by omega)) := by simp
      obtain ⟨G3, ex, r⟩ := hY k _ v G2 H2 H3 hx s2 S2.g y
      refine hm _ _ _ _ _ (fun σ2 H2 z => (fun (e : wipe σ2 vs = wipe σ vs) => ⟨e, z.2 e⟩) (z.1.trans (wipe_in fun v hv => hv))) (hw v (wipe σ vs) H3 (fun σ2 H2 => wipe σ2 vs = wipe σ vs → tt σ2 H2 fun b H3 => if b = true then te σ2 H3 fun y H4 => ∃ (e : Int) (M : Int → Bool) (c : Nat), y = .int e ∧ H4 D = some (SetO w D M c) ∧ c + 1 < scanBound ∧
        ∃ (G2 : Hp) (Γ2 : Gm) (acc : List Int) (M' : Int → Bool) (c' : Nat), Same G1 G2 ∧ Sta K (upd O D (SetO w D M' c')) G2 (upd H4 D (SetO w D (fun j => M j || decide (j = e)) (if M e = true then c else c + 1))) (wipe σ vs) Γ2 ∧ Cn U M' c' acc ∧ I (k + 1) acc Γ2
        else ∃ (G2 : Hp) (Γ2 : Gm) (acc : List Int) (M : Int → Bool) (c : Nat), Same G1 G2 ∧ Sta K (upd O D (SetO w D M c)) G2 H3 (wipe σ vs) Γ2 ∧ Cn U M c acc ∧ I (k + 1) acc Γ2) ?_)
      refine hs k _ acc Γ2 hx p _ G3 H3 _ v _ (S2.ext ex) r (fun G4 H4 σ4 Γ4 s4 S4 p4 e4 => ?_) fun σ5 => xf
      have s14 : Same G1 G4 := s2.trans (ex.g.trans s4)
      refine p4 _ G4 H4 σ4 _ S4 (fun b G5 H5 Γ5 s5 S5 p5 => ?_) xf
      cases b with
      | false =>
        refine iteF ⟨G5, _, acc, M, c, s14.trans s5, ?_, cn, p5.2 rfl⟩
        have T := sta_wipe S5 vs
        rw [e4] at T
        exact T
      | true =>
        refine iteT (p5.1 rfl _ G5 H5 σ4 _ S5 (fun y G6 H6 Γ6 dy s6 S6 r6 p6 => ?_) xf)
        obtain ⟨e, ey, hl, p6⟩ := p6
        subst ey
        cases r6
        obtain ⟨c1, c2, ms, c3, c4, c5⟩ := cn
        refine ⟨e, M, c, rfl, S6.o D _ upd_same, by have := cn_le (U := U) c3 (fun j hj => c2 j ((c1 j).mp ((c5 j).mp hj))); show c + 1 < 4096; omega, G6, _, acc ++ [e], (fun j => M j || decide (j = e)), (if M e = true then c else c + 1), s14.trans (s5.trans s6), ?_, ⟨fun j => ?_, ?_, ?_⟩, p6⟩
        · have T := sta_wipe (S6.updO (o' := SetO w D (fun j => M j || decide (j = e)) (if M e = true then c else c + 1)) trivial) vs
          rw [e4] at T
          exact T
        · simp only [Bool.or_eq_true, decide_eq_true_eq, c1 j, List.mem_append, List.mem_singleton]
        · intro j hj
          rcases List.mem_append.mp hj with hj | hj
          · exact c2 j hj
          · obtain rfl := List.mem_singleton.mp hj
            exact hl
        · by_cases he : M e = true
          · rw [if_pos he]
            refine ⟨ms, c3, c4, fun j => ?_⟩
            rw [c5 j, Bool.or_eq_true, decide_eq_true_eq]
            exact ⟨.inl, fun z => z.elim id fun z => by rw [z]; exact he⟩
          · rw [if_neg he]
            refine ⟨e :: ms, List.nodup_cons.mpr ⟨fun z => he ((c5 e).mp z), c3⟩, by simp [c4], fun j => ?_⟩
            rw [List.mem_cons, c5 j, Bool.or_eq_true, decide_eq_true_eq]
            exact ⟨fun z => z.elim .inr .inl, fun z => z.elim .inr .inl⟩
    · rintro H2 ⟨G2, Γ2, acc, M, c, s2, S2, ⟨c1, c2, ms, c3, c4, c5⟩, p⟩
      have T := sta_unwipe S2
      have hD : H2 D = some (SetO w D M c) := T.o D _ upd_same
      have hd := hd acc Γ2 (by rw [← hn]; exact p)
      refine ⟨D, M, c, rfl, hD, fun ns a hp hk na => ?_⟩
      · have rn : Reps K G2 (ns.map V.int) (ns.map Dt.int) := by
          clear hp hk
          induction ns with
          | nil => exact .nil
          | cons n ns ih => exact .cons (.int n) ih
        exact q (.ref a) G2 _ Γ2 (.ol a (ns.map .int)) (s1.trans s2) ((T.offO oD).own1 na rfl (.ol upd_same rn)) (hd a ns hp fun k => by rw [hk k, c1 k])) x
def SC (K : PySem.W.Frag) (g : TG) (tt : TT) (te : TE) (vs : List Nat) (P : Sl → Gm → Prop) (xs : List Dt) (Γ : Gm) : Prop :=
  ∃ (U : List Int) (I : Nat → List Int → Gm → Prop), U.length ≤ 4090 ∧ I 0 [] Γ ∧
      (∀ k x acc Γ2, xs[k]? = some x → I k acc Γ2 → GoG K WF g x Γ2 (fun Γ3 => EvT K WF tt Γ3 (fun b Γ4 => (b = true → Ev K WF te Γ4 (fun y Γ5 => ∃ c, y = .int c ∧ c ∈ U ∧ I (k + 1) (acc ++ [c]) (wipeG Γ5 vs)) XF) ∧ (b = false → I (k + 1) acc (wipeG Γ4 vs))) XF) XF) ∧
      (∀ acc Γ2, I xs.length acc Γ2 → ∀ a (ns : List Int), ns.Pairwise (· < ·) → (∀ k, k ∈ ns ↔ k ∈ acc) → P (.ol a (ns.map .int)) Γ2)
instance {P : Sl → Gm → Prop} [h : WrC g vs] : Wk (EvO K W (tSS w wi g tt te vs) Γ P X) (EvI K W wi Γ (fun xs Γ1 => SC K g tt te vs P xs (wipeG Γ1 vs)) X) := ⟨fun q => evo_ss h.h h.m q⟩
instance {P : Dt → Gm → Prop} : Wk (Ev K W (tSS w wi g tt te vs) Γ P X) (EvO K W (tSS w wi g tt te vs) Γ (fun s Γ2 => Fz s fun d => P d Γ2) X) := ⟨ev_frz⟩
instance (priority := 2000) {P : Sl → Gm → Prop} {Γ' : Gm} {xs : List Dt} {l : List Nat} [h : WipeC Γ l Γ'] : Wk (SC K g tt te vs P xs (wipeG Γ l)) (SC K g tt te vs P xs Γ') := ⟨fun q => by rw [h.h]; exact q⟩
end
section
variable {R : Dt → Prop}
instance (priority := high) : Wk (dEq (.bl true) (.bl true) R) (R (.bl true)) := ⟨fun h => l_eqB (by simpa using h)⟩
instance (priority := high) : Wk (dEq (.bl false) (.bl false) R) (R (.bl true)) := ⟨fun h => l_eqB (by simpa using h)⟩
instance (priority := high) : Wk (dEq (.bl true) (.bl false) R) (R (.bl false)) := ⟨fun h => l_eqB (by simpa using h)⟩
instance (priority := high) : Wk (dEq (.bl false) (.bl true) R) (R (.bl false)) := ⟨fun h => l_eqB (by simpa using h)⟩
instance (priority := high) : Wk (dNe (.bl true) (.bl true) R) (R (.bl false)) := ⟨fun h => l_neB (by simpa using h)⟩
instance (priority := high) : Wk (dNe (.bl false) (.bl false) R) (R (.bl false)) := ⟨fun h => l_neB (by simpa using h)⟩
instance (priority := high) : Wk (dNe (.bl true) (.bl false) R) (R (.bl true)) := ⟨fun h => l_neB (by simpa using h)⟩
instance (priority := high) : Wk (dNe (.bl false) (.bl true) R) (R (.bl true)) := ⟨fun h => l_neB (by simpa using h)⟩
end
end DL
namespace OX
open PySem PySem.Spec PySem.W PySem.Calls PyProof.Rows Builtin
section
variable {prog : Program} {w : World} {A : Around} {E : Value → Shared → Prop} {s : Shared} {K : Frag} {x C L f g : Addr} {h₀ : Heap} {m : Str → Option Value} {ox : Obj} {od : Option Obj}
end
end OX
namespace L2
open PySem PySem.Spec PyProof.Rows
section
variable {X : Cx} {k : Nat} {f g C : Addr} {sp : Sp} {pos p : Pos} {a b e : Expr} {es : List Expr} {ta tb : TE} {t : TA}
end
end L2
namespace DL
open PySem PySem.Spec L2 PyProof.Rows
section
variable {X : Cx} {k j : Nat} {S : DSp} {W : WX} {a b e : Expr} {es : List Expr} {ta tb : TE} {t : TA} {pos p : Pos} {C f : Addr} {x : Str}
end
section
variable {K : PySem.W.Frag} {W : WX} {Γ : Gm} {X : XP} {P : Dt → Gm → Prop} {PO : Sl → Gm → Prop} {ta tb : TE} {t : TA} {S : DSp} {C : Addr}
end
def dAny (ds : List Dt) (R : Dt → Prop) : Prop := ∃ bs : List Bool, ds = [.lst (bs.map .bl)] ∧ R (.bl (bs.any id))
def dAll (ds : List Dt) (R : Dt → Prop) : Prop := ∃ bs : List Bool, ds = [.lst (bs.map .bl)] ∧ R (.bl (bs.all id))
theorem reps_bl {K : PySem.W.Frag} {G : Hp} : ∀ {bs : List Bool} {vs : List V}, Reps K G vs (bs.map .bl) → vs = bs.map V.bl
  | [], _, .nil => rfl
  | b :: bs, _, .cons h t => by cases h; rw [reps_bl t]; rfl
section
variable {K : PySem.W.Frag} {R : Dt → Prop}
theorem rdc_any : RDC K (rAny K) dAny := fun G H xs ds R Q s r h q => by
  obtain ⟨bs, rfl, p⟩ := h
  cases r with
  | cons r1 r2 =>
  cases r2
  cases r1 with
  | lst ha rr =>
  obtain rfl := reps_bl rr
  exact ⟨_, bs, rfl, SqL.of (s _ _ ha), q _ G H _ (DL.Ext.refl s) (.bl _) p⟩
theorem rdc_all : RDC K (rAll K) dAll := fun G H xs ds R Q s r h q => by
  obtain ⟨bs, rfl, p⟩ := h
  cases r with
  | cons r1 r2 =>
  cases r2
  cases r1 with
  | lst ha rr =>
  obtain rfl := reps_bl rr
  exact ⟨_, bs, rfl, SqL.of (s _ _ ha), q _ G H _ (DL.Ext.refl s) (.bl _) p⟩
instance : CbC K (rAny K) dAny := ⟨rdc_any⟩
instance : CbC K (rAll K) dAll := ⟨rdc_all⟩
end
theorem brp_t {p A B : Prop} (h : p) (a : A) : BrP p A B := ⟨fun _ => a, fun n => absurd h n⟩
theorem brp_f {p A B : Prop} (h : ¬ p) (b : B) : BrP p A B := ⟨fun z => absurd z h, fun _ => b⟩
section
variable {K : PySem.W.Frag} {W : WX} {Γ : Gm} {X : XP} {P : Dt → Gm → Prop} {ta tb : TE} {S : DSp} {C : Addr}
end
end DL
namespace L2
open PySem PySem.Spec PyProof.Rows
section
variable {X : Cx} {k : Nat} {f g C : Addr} {sp : Sp} {pos : Pos} {a b : Expr} {ta tb : TE}
end
end L2
namespace DL
open PySem PySem.Spec L2 PyProof.Rows
section
variable {X : Cx} {k j : Nat} {S : DSp} {W : WX} {a b e fe : Expr} {es : List Expr} {ta tb tf : TE} {t : TA} {pos : Pos} {C f : Addr} {nm : Str}
end
end DL
namespace L2
open PySem PySem.Spec PyProof.Rows
def smR (K : PySem.W.Frag) (C : Addr) (m : Str) : Addr := match PySem.W.findCls K (.ref C) (.type "type") m with
  | some (.get _ (.ref p) _ _) => p
  | _ => 0
def smF (K : PySem.W.Frag) (C : Addr) (m : Str) : Addr := match PySem.W.recIn K (smR K C m) "staticmethod" with
  | some (.ref f :: _) => f
  | _ => 0
section
variable {X : Cx} {C p g : Addr} {m x : Str} {pos apos np : Pos} {e : Expr} {es : List Expr} {t : TA} {k : Nat} {sp : Sp} {E : St → XK} {pl : Sem Bool}
end
end L2
namespace DL
open PySem PySem.Spec L2 PyProof.Rows
section
variable {X : Cx} {C p g : Addr} {m x : Str} {pos apos np : Pos} {e : Expr} {es : List Expr} {t : TA} {k j : Nat} {S : DSp} {W : WX} {pl : Sem Bool}
end
def sAd (K : PySem.W.Frag) (p : Str × Option Str) : Addr := match p.2 with
  | none => 0
  | some m => smF K (He.ga K p.1) m
def fnS (K : PySem.W.Frag) (p : Str × Option Str) : He.FnW := match K.lookup (sAd K p) with
  | some ⟨_, _, .func fd, _⟩ => some (fd.name, fd.qualname, fd.params, fd.body, fd.scope, fd.globals, fd.closure, fd.builtins)
  | _ => none
def okS (K : PySem.W.Frag) (d : He.DefD) : Bool := PySem.W.keepIn K (.ref (sAd K d.at_)) && (match K.lookup (sAd K d.at_) with
  | some ⟨_, _, .func fd, _⟩ => PySem.W.codeIn K fd.code d.qual && (He.dflB K fd.defaults (d.dvs K) && He.kwdB K fd.kwdefaults (d.kws K))
  | _ => false)
theorem funS {K : PySem.W.Frag} {d : He.DefD} (e : fnS K d.at_ = d.val) (c : okS K d = true) : ∃ fd, FunD K d.name d.qual d.params d.body d.scope (d.dvs K) (d.kws K) (sAd K d.at_) fd := by
  unfold okS at c
  rw [Bool.and_eq_true] at c
  obtain ⟨kp, c2⟩ := c
  unfold fnS at e
  cases q : K.lookup (sAd K d.at_) with
  | none => rw [q] at c2; cases c2
  | some o =>
    obtain ⟨oc, od, dt, osl⟩ := o
    rw [q] at c2 e
    cases dt with
    | func fd =>
      obtain ⟨a1, a2, a3, a4, a5, a6, a7, a8, a9, a10, a11, a12, a13, a14, a15⟩ := fd
      have e2 : (some (a1, a2, a3, a4, a5, a6, a7, a15) : He.FnW) = some (d.name, d.qual, d.params, .stmts d.body, d.scope, mainGlobals, [], builtinsNs) := e
      simp only [Option.some.injEq, Prod.mk.injEq] at e2
      obtain ⟨g1, g2, g3, g4, g5, g6, g7, g8⟩ := e2
      subst g1 g2 g3 g4 g5 g6 g7 g8
      have c3 : (PySem.W.codeIn K a13 d.qual && (He.dflB K a8 (d.dvs K) && He.kwdB K a9 (d.kws K))) = true := c2
      rw [Bool.and_eq_true, Bool.and_eq_true] at c3
      obtain ⟨k1, k3, k4⟩ := c3
      exact ⟨_, ⟨oc, od, a8, a9, a10, a11, a12, a13, a14, osl, rfl, q, k1, He.dflB_ok k3, He.kwdB_ok k4⟩, kp⟩
    | _ => cases c2
abbrev AlY : Type := AlX × List He.FnW
def obsY (prog : Program) (fx : PySem.W.Frag → Bool) (fa : List He.Fa) (fn : List He.DefD) (en : List EDef) (ss : List He.DefD) (K : PySem.W.Frag) : AlY := (obsX prog (fun K => fx K && ss.all fun d => okS K d) fa fn en K, ss.map fun d => fnS K d.at_)
def valY (fn : List He.DefD) (en : List EDef) (ss : List He.DefD) : AlY := (valX fn en, valsD ss)
def SaysY (prog : Program) (fx : PySem.W.Frag → Bool) (fa : List He.Fa) (fn : List He.DefD) (en : List EDef) (ss : List He.DefD) (K : PySem.W.Frag) : Prop := obsY prog fx fa fn en ss K = valY fn en ss
section
variable {prog : Program} {fx : PySem.W.Frag → Bool} {fa : List He.Fa} {fn : List He.DefD} {en : List EDef} {ss : List He.DefD} {K : PySem.W.Frag}
theorem SaysY.x (c : SaysY prog fx fa fn en ss K) : SaysX prog (fun K => fx K && ss.all fun d => okS K d) fa fn en K := congrArg Prod.fst c
theorem SaysY.own (c : SaysY prog fx fa fn en ss K) : fx K = true := by
  have := c.x.own
  rw [Bool.and_eq_true] at this
  exact this.1
theorem SaysY.fact (c : SaysY prog fx fa fn en ss K) (i : Nat) {f : He.Fa} (h : fa[i]? = some f := by rfl) : f.ok K = true := c.x.fact i h
theorem SaysY.def_ (c : SaysY prog fx fa fn en ss K) (i : Nat) {d : He.DefD} (h : fn[i]? = some d := by rfl) : ∃ fd, FunD K d.name d.qual d.params d.body d.scope (d.dvs K) (d.kws K) (He.fAd K d.at_) fd := c.x.def_ i h
theorem SaysY.err (c : SaysY prog fx fa fn en ss K) (i : Nat) {d : EDef} (h : en[i]? = some d := by rfl) : fnE K d.x = d.val ∧ errB prog K d.x d.qual d.fs = true := c.x.err i h
theorem SaysY.st (c : SaysY prog fx fa fn en ss K) (i : Nat) {d : He.DefD} (h : ss[i]? = some d := by rfl) : ∃ fd, FunD K d.name d.qual d.params d.body d.scope (d.dvs K) (d.kws K) (sAd K d.at_) fd := by
  have e : ss.map (fun d => fnS K d.at_) = ss.map He.DefD.val := (congrArg (fun z : AlY => z.2) c).trans (valsD_eq ss)
  have e2 : (ss.map fun d => fnS K d.at_)[i]? = (ss.map He.DefD.val)[i]? := by rw [e]
  rw [List.getElem?_map, List.getElem?_map, h] at e2
  have o := c.x.own
  rw [Bool.and_eq_true] at o
  exact funS (Option.some.inj e2) (List.all_eq_true.mp o.2 d (List.mem_of_getElem? h))
end
end DL
namespace OX
open PySem PySem.Spec PySem.W PySem.Calls PyProof.Rows Builtin
section
variable {prog : Program} {w : World} {A : Around} {E : Value → Shared → Prop} {s : Shared} {K : Frag} {x C L f g : Addr} {h₀ : Heap} {m : Str → Option Value} {ox : Obj} {od : Option Obj}
end
end OX
namespace L2
open PySem PySem.Spec PyProof.Rows
end L2
namespace DL
open PySem PySem.Spec L2 PyProof.Rows
section
variable {K : PySem.W.Frag} {W : WX} {Γ : Gm} {X : XP} {P : Dt → Gm → Prop} {PO : Sl → Gm → Prop} {ta tb : TE} {S : DSp} {C : Addr}
end
end DL
namespace DL
open PySem PySem.Spec L2 PyProof.Rows
section
variable {K : PySem.W.Frag} {W : WX} {Γ : Gm} {X : XP} {P : Dt → Gm → Prop} {PO : Sl → Gm → Prop} {te : TE}
theorem evo_revL (h : Ev K W te Γ (fun d Γ1 => IsL d fun ds => ∀ a, PO (.ol a ds.reverse) Γ1) X) : EvO K W (tRevL K te) Γ PO X := fun O G H σ Q S0 q x =>
  h O G H σ _ S0 (fun v G1 H1 Γ1 d s1 S1 r1 hh => by
    obtain ⟨ds, e, hP⟩ := hh
    subst e
    cases r1 with
    | @lst a xs _ ha rr =>
    refine ⟨a, xs, rfl, SqL.of (S1.g _ _ ha), fun p np => ?_⟩
    exact q (.ref p) G1 _ Γ1 (.ol p ds.reverse) s1 (S1.own1 np rfl (.ol upd_same rr.reverse)) (hP p)) x
instance : Wk (EvO K W (tRevL K te) Γ PO X) (Ev K W te Γ (fun d Γ1 => IsL d fun ds => ∀ a, PO (.ol a ds.reverse) Γ1) X) := ⟨evo_revL⟩
instance : Wk (Ev K W (tRevL K te) Γ P X) (EvO K W (tRevL K te) Γ (fun s Γ2 => Fz s fun d => P d Γ2) X) := ⟨ev_frz⟩
end
theorem inV_strs (z : Str) (ss : List Str) : inV (.str z) ((ss.map Dt.str).map toV) = decide (z ∈ ss) := by
  rw [Bool.eq_iff_iff, decide_eq_true_eq]
  unfold inV
  rw [List.any_eq_true]
  constructor
  · rintro ⟨v, hv, e⟩
    rw [List.map_map] at hv
    obtain ⟨s, hs, rfl⟩ := List.mem_map.mp hv
    have : s = z := by simpa [toV, eqV] using e
    rw [← this]; exact hs
  · intro h
    exact ⟨.str z, by rw [List.map_map]; exact List.mem_map.mpr ⟨z, h, rfl⟩, by simp [eqV]⟩
theorem flat_strs (ss : List Str) : (ss.map Dt.str).all flatD = true := by
  rw [List.all_eq_true]
  intro d hd
  obtain ⟨s, _, rfl⟩ := List.mem_map.mp hd
  rfl
section
variable {R : Dt → Prop} {z : Str} {ss : List Str}
instance : Wk (dIn false (.str z) (.tup (ss.map .str)) R) (R (.bl (decide (z ∈ ss)))) := ⟨fun h => ⟨rfl, flat_strs ss, by rw [show toV (.str z) = .str z from rfl, inV_strs, Bool.false_xor]; exact h⟩⟩
instance : Wk (dIn false (.str z) (.lst (ss.map .str)) R) (R (.bl (decide (z ∈ ss)))) := ⟨fun h => ⟨rfl, flat_strs ss, by rw [show toV (.str z) = .str z from rfl, inV_strs, Bool.false_xor]; exact h⟩⟩
instance : Wk (dIn true (.str z) (.tup (ss.map .str)) R) (R (.bl (!decide (z ∈ ss)))) := ⟨fun h => ⟨rfl, flat_strs ss, by rw [show toV (.str z) = .str z from rfl, inV_strs, Bool.true_xor]; exact h⟩⟩
instance : Wk (dIn true (.str z) (.lst (ss.map .str)) R) (R (.bl (!decide (z ∈ ss)))) := ⟨fun h => ⟨rfl, flat_strs ss, by rw [show toV (.str z) = .str z from rfl, inV_strs, Bool.true_xor]; exact h⟩⟩
end
section
variable {K : PySem.W.Frag} {W : WX} {Γ : Gm} {X : XP} {PO : Sl → Gm → Prop} {ta tb : TE}
theorem evo_addL (h : Ev K W ta Γ (fun x Γ1 => Ev K W tb Γ1 (fun y Γ2 => IsL x fun xs => IsL y fun ys => Side (xs.length + ys.length ≤ 1000000) (∀ a, PO (.ol a (xs ++ ys)) Γ2)) X) X) : EvO K W (tOp (rAddP K) ta tb) Γ PO X := fun O G H σ Q S0 q x =>
  h O G H σ _ S0 (fun v1 G1 H1 Γ1 d1 s1 S1 r1 h1 => h1 O G1 H1 σ _ S1 (fun v2 G2 H2 Γ2 d2 s2 S2 r2 hh => by
    obtain ⟨xs, e1, ys, e2, l, hP⟩ := hh
    subst e1 e2
    have r1' := r1.mono s2
    cases r1' with
    | lst h1 k1 =>
    cases r2 with
    | lst h2 k2 =>
    refine .inr (.inr (.inl ⟨_, _, _, _, rfl, rfl, S2.g _ _ h1, S2.g _ _ h2, by rw [k1.length, k2.length]; exact big_ok l, fun a na => ?_⟩))
    exact q (.ref a) G2 _ Γ2 (.ol a (xs ++ ys)) (s1.trans s2) (S2.own1 na rfl (.ol upd_same (k1.append k2))) (hP a)) (x.mono s1)) x
instance : Wk (EvO K W (tOp (rAddP K) ta tb) Γ PO X) (Ev K W ta Γ (fun x Γ1 => Ev K W tb Γ1 (fun y Γ2 => IsL x fun xs => IsL y fun ys => Side (xs.length + ys.length ≤ 1000000) (∀ a, PO (.ol a (xs ++ ys)) Γ2)) X) X) := ⟨evo_addL⟩
end
end DL
namespace L2
end L2
namespace DL
open PySem PySem.Spec L2
mutual
def noL : Dt → Bool
  | .lst _ => false
  | .scr _ => false
  | .tup xs => noLs xs
  | .obj _ fs => noLf fs
  | .dK kvs => noLk kvs
  | .dT kvs => noLt kvs
  | .exc _ fs => noLf fs
  | .at_ _ d => noL d
  | .fn _ _ _ _ _ => false
  | .non => true
  | .bl _ => true
  | .int _ => true
  | .str _ => true
  | .ty _ => true
  | .ref _ => true
def noLs : List Dt → Bool
  | [] => true
  | d :: r => noL d && noLs r
def noLf : List (Str × Dt) → Bool
  | [] => true
  | (_, d) :: r => noL d && noLf r
def noLk : List (Key × Dt) → Bool
  | [] => true
  | (_, d) :: r => noL d && noLk r
def noLt : List (List Key × Dt) → Bool
  | [] => true
  | (_, d) :: r => noL d && noLt r
end
def delH (G : Hp) (a : Addr) : Hp := fun b => if b = a then none else G b
theorem delH_ne {G : Hp} {a b : Addr} (h : b ≠ a) : delH G a b = G b := if_neg h
section
variable {K : PySem.W.Frag} {G : Hp} {a : Addr}
theorem del_ob {b : Addr} {ys : List V} {o : HO} (h : G a = some (.lst ys)) (q : G b = some o) (n : ∀ zs, o ≠ .lst zs) : delH G a b = some o := by
  rw [delH_ne]
  · exact q
  · intro e
    subst e
    rw [h] at q
    exact n ys (Option.some.inj q).symm
theorem and_l {x y : Bool} (h : (x && y) = true) : x = true := by cases x <;> simp_all
theorem and_r {x y : Bool} (h : (x && y) = true) : y = true := by cases x <;> simp_all
mutual
theorem Rep.del {ys : List V} (h : G a = some (.lst ys)) : ∀ {v : V} {d : Dt}, Rep K G v d → noL d = true → Rep K (delH G a) v d
  | _, _, .non, _ => .non
  | _, _, .bl b, _ => .bl b
  | _, _, .int i, _ => .int i
  | _, _, .str x, _ => .str x
  | _, _, .ty n, _ => .ty n
  | _, _, .ref a, _ => .ref a
  | _, _, .lst _ _, n => by simp [noL] at n
  | _, _, .scr _, n => by simp [noL] at n
  | _, _, .tup q r, n => .tup (del_ob h q nofun) (Reps.del h r (by simpa only [noL] using n))
  | _, _, .obj q r, n => .obj (del_ob h q nofun) (RepF.del h r (by simpa only [noL] using n))
  | _, _, .dK q r, n => .dK (del_ob h q nofun) (RepK.del h r (by simpa only [noL] using n))
  | _, _, .dT q r, n => .dT (del_ob h q nofun) (RepT.del h r (by simpa only [noL] using n))
  | _, _, .exc q r, n => .exc (del_ob h q (fun zs e => by unfold ExK at e; cases e)) (RepX.del h r (by simpa only [noL] using n))
  | _, _, .at_ r, n => .at_ (Rep.del h r (by simpa only [noL] using n))
theorem Reps.del {ys : List V} (h : G a = some (.lst ys)) : ∀ {v : List V} {d : List Dt}, Reps K G v d → noLs d = true → Reps K (delH G a) v d
  | _, _, .nil, _ => .nil
  | _, _, .cons q r, n => .cons (Rep.del h q (and_l (by simpa only [noLs] using n))) (Reps.del h r (and_r (by simpa only [noLs] using n)))
theorem RepF.del {ys : List V} (h : G a = some (.lst ys)) : ∀ {v : List (Str × V)} {d : List (Str × Dt)}, RepF K G v d → noLf d = true → RepF K (delH G a) v d
  | _, _, .nil, _ => .nil
  | _, _, .cons q r, n => .cons (Rep.del h q (and_l (by simpa only [noLf] using n))) (RepF.del h r (and_r (by simpa only [noLf] using n)))
theorem RepK.del {ys : List V} (h : G a = some (.lst ys)) : ∀ {v : List (Key × V)} {d : List (Key × Dt)}, RepK K G v d → noLk d = true → RepK K (delH G a) v d
  | _, _, .nil, _ => .nil
  | _, _, .cons q r, n => .cons (Rep.del h q (and_l (by simpa only [noLk] using n))) (RepK.del h r (and_r (by simpa only [noLk] using n)))
theorem RepT.del {ys : List V} (h : G a = some (.lst ys)) : ∀ {v : List (List Key × V)} {d : List (List Key × Dt)}, RepT K G v d → noLt d = true → RepT K (delH G a) v d
  | _, _, .nil, _ => .nil
  | _, _, .cons q r, n => .cons (Rep.del h q (and_l (by simpa only [noLt] using n))) (RepT.del h r (and_r (by simpa only [noLt] using n)))
theorem RepX.del {ys : List V} (h : G a = some (.lst ys)) : ∀ {v : Option Addr} {d : List (Str × Dt)}, RepX K G v d → noLf d = true → RepX K (delH G a) v d
  | _, _, .none, _ => .none
  | _, _, .some q r, n => .some (del_ob h q nofun) (RepF.del h r n)
end
end
mutual
def noS : Sl → Prop
  | .fr d => noL d = true
  | .ol _ ds => noLs ds = true
  | .os _ φ => ∀ ds, φ ds → noLs ds = true
  | .oK _ kvs => noLk kvs = true
  | .oT _ kvs => noLt kvs = true
  | .oo _ _ fs => noSf fs
  | .ex _ _ _ fs => noLf fs = true
  | .tb s _ _ => noS s
def noSf : List (Str × Sl) → Prop
  | [] => True
  | (_, s) :: r => noS s ∧ noSf r
end
section
variable {K : PySem.W.Frag} {G H : Hp} {a : Addr}
mutual
theorem Own.del {ys : List V} (h : G a = some (.lst ys)) : ∀ {v : V} {s : Sl}, Own K G H v s → noS s → Own K (delH G a) H v s
  | _, _, .fr r, n => .fr (r.del h (by simpa only [noS] using n))
  | _, _, .ol q r, n => .ol q (r.del h (by simpa only [noS] using n))
  | _, _, .os q r p, n => .os q (r.del h ((by simpa only [noS] using n : ∀ ds, _ → noLs ds = true) _ p)) p
  | _, _, .oK q r, n => .oK q (r.del h (by simpa only [noS] using n))
  | _, _, .oT q r, n => .oT q (r.del h (by simpa only [noS] using n))
  | _, _, .oo q r, n => .oo q (OwnF.del h r (by simpa only [noS] using n))
  | _, _, .ex r, n => .ex (r.del h (by simpa only [noS] using n))
  | _, _, .tb q c r, n => .tb q ⟨c.1, fun p u e => by
      obtain ⟨z, e1, e2⟩ := c.2 p u e
      exact ⟨z, e1, by
        unfold delH
        rw [if_neg]
        · exact e2
        · intro ez
          rw [ez, h] at e2
          cases e2⟩⟩ (Own.del h r (by simpa only [noS] using n))
theorem OwnF.del {ys : List V} (h : G a = some (.lst ys)) : ∀ {v : List (Str × V)} {s : List (Str × Sl)}, OwnF K G H v s → noSf s → OwnF K (delH G a) H v s
  | _, _, .nil, _ => .nil
  | _, _, .cons q r, n => .cons (Own.del h q (by simp only [noSf] at n; exact n.1)) (OwnF.del h r (by simp only [noSf] at n; exact n.2))
end
theorem Slots.of : ∀ {σ : St} {Γ : Gm}, σ.length = Γ.length → (∀ (j : Nat) (s : Sl), Γ[j]? = some (some s) → ∃ v, σ[j]? = some (some v) ∧ Own K G H v s) → Slots K G H σ Γ
  | [], [], _, _ => .nil
  | [], _ :: _, h, _ => by simp at h
  | _ :: _, [], h, _ => by simp at h
  | x :: σ, none :: Γ, h, p => .no (Slots.of (by simpa using h) fun j s e => by simpa using p (j + 1) s (by simpa using e))
  | x :: σ, some s :: Γ, h, p => by
    obtain ⟨v, e, o⟩ := p 0 s rfl
    have e' : x = some v := by simpa using e
    subst e'
    exact .yes o (Slots.of (by simpa using h) fun j s e => by simpa using p (j + 1) s (by simpa using e))
end
section
variable {K : PySem.W.Frag} {W : WX} {Γ Γ2 : Gm} {X : XP} {P : Dt → Gm → Prop} {te : TE} {i : Nat} {a : Addr} {xs : List Dt} {O G H G1 G2 H2 : Hp} {σ : St}
end
end DL
namespace DL
open PySem PySem.Spec L2
section
variable {K : PySem.W.Frag} {W : WX} {Γ : Gm} {X : XP} {P : Dt → Gm → Prop} {PO : Sl → Gm → Prop} {te : TE} {i : Nat} {a : Addr} {ds : List Dt}
def SeqP (d : Dt) (Q : List Dt → Prop) : Prop := ∃ xs, (d = .lst xs ∨ d = .tup xs) ∧ Q xs
instance {xs : List Dt} {Q : List Dt → Prop} : Wk (SeqP (.lst xs) Q) (Q xs) := ⟨fun h => ⟨xs, .inl rfl, h⟩⟩
instance {xs : List Dt} {Q : List Dt → Prop} : Wk (SeqP (.tup xs) Q) (Q xs) := ⟨fun h => ⟨xs, .inr rfl, h⟩⟩
theorem evo_list (h : Ev K W te Γ (fun d Γ1 => SeqP d fun xs => ∀ a, PO (.ol a xs) Γ1) X) : EvO K W (tCB (rListP K) (tCons te tNil)) Γ PO X := fun O G H σ Q S0 q x =>
  h O G H σ _ S0 (fun v G1 H1 Γ1 d s1 S1 r1 hh => by
    obtain ⟨ds, e, hP⟩ := hh
    rcases e with rfl | rfl
    · cases r1 with
      | @lst p ys _ ha rr => exact ⟨p, ys, rfl, .inl (SqL.of (S1.g _ _ ha)), fun l nl => q (.ref l) G1 _ Γ1 (.ol l ds) s1 (S1.own1 nl rfl (.ol upd_same rr)) (hP l)⟩
    · cases r1 with
      | @tup p ys _ ha rr => exact ⟨p, ys, rfl, .inr (SqT.of (S1.g _ _ ha)), fun l nl => q (.ref l) G1 _ Γ1 (.ol l ds) s1 (S1.own1 nl rfl (.ol upd_same rr)) (hP l)⟩) x
instance : Wk (EvO K W (tCB (rListP K) (tCons te tNil)) Γ PO X) (Ev K W te Γ (fun d Γ1 => SeqP d fun xs => ∀ a, PO (.ol a xs) Γ1) X) := ⟨evo_list⟩
theorem evo_listO (hi : Γ[i]? = some (some (.ol a ds))) (h : ∀ b, PO (.ol b ds) Γ) : EvO K W (tCB (rListP K) (tCons (tVar i) tNil)) Γ PO X := fun O G H σ Q S q x => by
  obtain ⟨v, e, o⟩ := S.get hi
  cases o with
  | @ol _ ys _ ha rr => exact ⟨_, e, a, ys, rfl, .inl (SqL.of ha), fun l nl => q (.ref l) G _ Γ (.ol l ds) (Same.refl _) (S.own1 nl rfl (.ol upd_same rr)) (h l)⟩
instance (priority := high) [t : At Γ i (.ol a ds)] : Wk (EvO K W (tCB (rListP K) (tCons (tVar i) tNil)) Γ PO X) (∀ b, PO (.ol b ds) Γ) := ⟨fun h => evo_listO t.h h⟩
instance (priority := high) [t : At Γ i (.ol a ds)] : Wk (Ev K W (tCB (rListP K) (tCons (tVar i) tNil)) Γ P X) (P (.lst ds) Γ) := ⟨fun h => ev_frz (evo_listO t.h fun b => ⟨_, .ol b ds, h⟩)⟩
theorem evo_sl {lo hi : TO} (h : Ev K W te Γ (fun d Γ1 => IsL d fun xs => EvP K W lo Γ1 (fun l Γ2 => EvP K W hi Γ2 (fun u Γ3 => ∀ a, PO (.ol a (cutD xs l u)) Γ3) X) X) X) : EvO K W (tSl (rSlP K) te lo hi) Γ PO X := fun O G H σ Q S q x =>
  h O G H σ _ S (fun v G1 H1 Γ1 d s1 S1 r ⟨xs, e, h1⟩ => h1 O G1 H1 σ _ S1 (fun l G2 H2 Γ2 s2 S2 h2 => h2 O G2 H2 σ _ S2 (fun u G3 H3 Γ3 s3 S3 h3 => by
    subst e
    have r3 := (r.mono s2).mono s3
    have s13 := (s1.trans s2).trans s3
    cases r3 with
    | lst ha rr => exact .inl ⟨_, _, rfl, SqL.of (S3.g _ _ ha), fun a na => q _ _ _ Γ3 (.ol a (cutD xs l u)) s13 (S3.own1 na rfl (.ol upd_same (cut_rep rr _ _))) (h3 a)⟩) ((x.mono s1).mono s2)) (x.mono s1)) x
instance {lo hi : TO} : Wk (EvO K W (tSl (rSlP K) te lo hi) Γ PO X) (Ev K W te Γ (fun d Γ1 => IsL d fun xs => EvP K W lo Γ1 (fun l Γ2 => EvP K W hi Γ2 (fun u Γ3 => ∀ a, PO (.ol a (cutD xs l u)) Γ3) X) X) X) := ⟨evo_sl⟩
end
end DL
namespace L2
open PySem PySem.Spec
def rSetP : V → V → V → Hp → (Hp → Prop) → Prop := fun o i v H Q => rSetL o i v H Q ∨ rDS o i v H Q
theorem set_P {X : Cx} (hu : X.A.units + 64 < cLine) : PSet X rSetP := set_list.or (set_dict (by omega))
end L2
namespace DL
open PySem PySem.Spec L2
class KeyOf (d : Dt) (k : outParam Key) : Prop where
  h : d = kD k
class KeysOf (ds : List Dt) (ks : outParam (List Key)) : Prop where
  h : ds = ks.map kD
instance {i : Int} : KeyOf (.int i) (.inl i) := ⟨rfl⟩
instance {i : Str} : KeyOf (.str i) (.inr i) := ⟨rfl⟩
instance {k : Key} : KeyOf (kD k) k := ⟨rfl⟩
instance : KeysOf [] [] := ⟨rfl⟩
instance {d : Dt} {ds : List Dt} {k : Key} {ks : List Key} [a : KeyOf d k] [b : KeysOf ds ks] : KeysOf (d :: ds) (k :: ks) := ⟨by rw [a.h, b.h]; rfl⟩
instance {k : List Key} : KeysOf (k.map kD) k := ⟨rfl⟩
def VA {β : Type} (o : Option β) (Q : β → Prop) : Prop := ∃ v, o = some v ∧ Q v
theorem va_of {β : Type} {o : Option β} {v : β} {Q : β → Prop} (h : o = some v) (q : Q v) : VA o Q := ⟨v, h, q⟩
section
variable {R : Dt → Prop} {y : Dt} {k : Key} {ks : List Key} {ys : List Dt} {kvs : List (Key × Dt)} {tvs : List (List Key × Dt)}
instance [a : KeyOf y k] : Wk (dIx (.dK kvs) y R) (VA (vA kvs k) R) := ⟨fun ⟨v, e, q⟩ => ⟨k, v, a.h, e, q⟩⟩
instance [a : KeysOf ys ks] : Wk (dIx (.dT tvs) (.tup ys) R) (VA (vA tvs ks) R) := ⟨fun ⟨v, e, q⟩ => ⟨ks, v, by rw [a.h], e, q⟩⟩
instance [a : KeyOf y k] : Wk (dIn false y (.dK kvs) R) (R (.bl (vA kvs k).isSome)) := ⟨fun q => ⟨k, a.h, by simpa using q⟩⟩
instance [a : KeyOf y k] : Wk (dIn true y (.dK kvs) R) (R (.bl (!(vA kvs k).isSome))) := ⟨fun q => ⟨k, a.h, by simpa using q⟩⟩
instance [a : KeysOf ys ks] : Wk (dIn false (.tup ys) (.dT tvs) R) (R (.bl (vA tvs ks).isSome)) := ⟨fun q => ⟨ks, by rw [a.h], by simpa using q⟩⟩
instance [a : KeysOf ys ks] : Wk (dIn true (.tup ys) (.dT tvs) R) (R (.bl (!(vA tvs ks).isSome))) := ⟨fun q => ⟨ks, by rw [a.h], by simpa using q⟩⟩
instance : Wk (dLen [.dK kvs] R) (R (.int kvs.length)) := ⟨fun h => h⟩
instance : Wk (dLen [.dT tvs] R) (R (.int tvs.length)) := ⟨fun h => h⟩
instance {Q : List Dt → Prop} : Wk (SeqQ (.dK kvs) Q) (Q (kvs.map fun p => kD p.1)) := ⟨fun q => ⟨_, .dK kvs, q⟩⟩
instance {Q : List Dt → Prop} : Wk (SeqQ (.dT tvs) Q) (Q (tvs.map fun p => kDs p.1)) := ⟨fun q => ⟨_, .dT tvs, q⟩⟩
end
section
variable {K : PySem.W.Frag} {W : WX} {Γ Γ' : Gm} {X : XP} {P : Dt → Gm → Prop} {PO : Sl → Gm → Prop} {te ta tb ti tv : TE} {i j : Nat} {nx : Gm → Prop} {rt : Sl → Gm → Prop} {xc : XP} {bk ct : Gm → Prop} {a : Addr}
theorem set_here {σ : St} {v : V} (ev : σ[i]? = some (some v)) : σ.set i (some v) = σ := by
  apply List.ext_getElem?
  intro j
  rw [List.getElem?_set]
  by_cases hj : i = j
  · subst hj
    have il : i < σ.length := by
      rcases Nat.lt_or_ge i σ.length with z | z
      · exact z
      · rw [List.getElem?_eq_none z] at ev; cases ev
    rw [if_pos rfl, ev, if_pos il]
  · rw [if_neg hj]
theorem Sta.mutS2 {O G H : Hp} {σ : St} {v v2 : V} {s s2 s' : Sl} {ob : HO} (S : Sta K O G H (some v2 :: σ) (some s2 :: Γ)) (hi : Γ[i]? = some (some s)) (ev : σ[i]? = some (some v)) (ma : a ∈ s.fp) (hf : ∀ b ∈ s'.fp, b ∈ s.fp ∨ b ∈ s2.fp) (nd : s'.fp.Nodup) (ow : Own K G (upd H a ob) v s') :
    Sta K O G (upd H a ob) σ (Γ.set i (some s')) := by
  have T := S.tail
  have sub : ∀ b, b ∈ s.fp ∨ b ∈ s2.fp → G b = none ∧ O b = none ∧ b ∉ fps (Γ.set i none) := fun b hb => by
    rcases hb with hb | hb
    · exact ⟨T.ng b (mem_fps hi b hb), T.no b (mem_fps hi b hb), (fps_part hi T.nd).2 b hb⟩
    · refine ⟨S.ng b (by simp [fps, fpO, hb]), S.no b (by simp [fps, fpO, hb]), fun z => ?_⟩
      have nd := S.nd
      simp only [fps, fpO] at nd
      rcases fps_set_sub i b z with w | w
      · simp [fpO] at w
      · exact (List.nodup_append.mp nd).2.2 b hb b w rfl
  obtain ⟨ga, oa, na⟩ := sub a (.inl ma)
  have Sf := T.forget i (some v)
  rw [set_here ev] at Sf
  have T1 : Sta K O G (upd H a ob) σ (Γ.set i none) := by
    refine ⟨fun b u q => ?_, fun b u q => ?_, Sf.d, Sf.sl.mono (Same.refl _) fun b hb u q => ?_, Sf.nd, Sf.ng, Sf.no, Sf.om⟩
    · rw [upd_ne (ne_of_none q ga)]; exact S.g b u q
    · rw [upd_ne (ne_of_none q oa)]; exact S.o b u q
    · rw [upd_ne (fun z : b = a => na (by rw [← z]; exact hb))]; exact q
  have T2 := (T1.push ow nd (fun b hb => (sub b (hf b hb)).1) (fun b hb => (sub b (hf b hb)).2.1) (fun b hb => (sub b (hf b hb)).2.2)).put i
  rw [set_here ev, List.set_set] at T2
  exact T2
theorem Sta.mutS {O G H : Hp} {σ : St} {v : V} {s s' : Sl} {ob : HO} (S : Sta K O G H σ Γ) (hi : Γ[i]? = some (some s)) (ev : σ[i]? = some (some v)) (ma : a ∈ s.fp) (hf : ∀ b ∈ s'.fp, b ∈ s.fp) (nd : s'.fp.Nodup) (ow : Own K G (upd H a ob) v s') :
    Sta K O G (upd H a ob) σ (Γ.set i (some s')) := (S.pushF (v := .non) .non).mutS2 hi ev ma (fun b hb => .inl (hf b hb)) nd ow
def OwnK (Γ : Gm) (i : Nat) (Q : Addr → List (Key × Dt) → Prop) : Prop := ∃ a kvs, Γ[i]? = some (some (.oK a kvs)) ∧ Q a kvs
def OwnT (Γ : Gm) (i : Nat) (Q : Addr → List (List Key × Dt) → Prop) : Prop := ∃ a kvs, Γ[i]? = some (some (.oT a kvs)) ∧ Q a kvs
instance {kvs : List (Key × Dt)} {Q : Addr → List (Key × Dt) → Prop} [h : At Γ i (.oK a kvs)] : Wk (OwnK Γ i Q) (Q a kvs) := ⟨fun q => ⟨a, kvs, h.h, q⟩⟩
instance {kvs : List (List Key × Dt)} {Q : Addr → List (List Key × Dt) → Prop} [h : At Γ i (.oT a kvs)] : Wk (OwnT Γ i Q) (Q a kvs) := ⟨fun q => ⟨a, kvs, h.h, q⟩⟩
instance (priority := high) {v : Option Sl} {Q : Addr → List (Key × Dt) → Prop} [h : SetG Γ j v Γ'] : Wk (OwnK (Γ.set j v) i Q) (OwnK Γ' i Q) := ⟨fun q => by rw [h.h]; exact q⟩
instance (priority := high) {v : Option Sl} {Q : Addr → List (List Key × Dt) → Prop} [h : SetG Γ j v Γ'] : Wk (OwnT (Γ.set j v) i Q) (OwnT Γ' i Q) := ⟨fun q => by rw [h.h]; exact q⟩
theorem look_K {O G H : Hp} {σ : St} {kvs : List (Key × Dt)} (S : Sta K O G H σ Γ) (hi : Γ[i]? = some (some (.oK a kvs))) : ∃ xs, σ[i]? = some (some (.ref a)) ∧ H a = some (.dK xs) ∧ RepK K G xs kvs := by
  obtain ⟨v, e, o⟩ := S.get hi
  cases o with
  | oK h r => exact ⟨_, e, h, r⟩
theorem look_T {O G H : Hp} {σ : St} {kvs : List (List Key × Dt)} (S : Sta K O G H σ Γ) (hi : Γ[i]? = some (some (.oT a kvs))) : ∃ xs, σ[i]? = some (some (.ref a)) ∧ H a = some (.dT xs) ∧ RepT K G xs kvs := by
  obtain ⟨v, e, o⟩ := S.get hi
  cases o with
  | oT h r => exact ⟨_, e, h, r⟩
theorem ev_ixK {kv0 : List (Key × Dt)} (hi : Γ[i]? = some (some (.oK a kv0))) (h : Ev K W te Γ (fun y Γ1 => OwnK Γ1 i fun _ kvs => dIx (.dK kvs) y fun z => P z Γ1) X) : Ev K W (tOp (rIxP K) (tVar i) te) Γ P X := fun O G H σ Q S q x => by
  obtain ⟨x0, e0, _⟩ := look_K S hi
  refine ⟨_, e0, h O G H σ _ S (fun v G1 H1 Γ1 d s1 S1 r ⟨a', kvs, hg, k, u, ey, hv, p⟩ => ?_) x⟩
  obtain ⟨xs, e1, h1, r1⟩ := look_K S1 hg
  rw [e0] at e1
  cases e1
  subst ey
  rw [kD_inj r]
  obtain ⟨w, ew, rw'⟩ := (r1.get k).1 u hv
  exact .inr ⟨a, w, rfl, by rw [← ew]; exact dget_K (ds := []) (.inl h1), q w G1 H1 Γ1 u s1 S1 rw' p⟩
theorem ev_ixT {kv0 : List (List Key × Dt)} (hi : Γ[i]? = some (some (.oT a kv0))) (h : Ev K W te Γ (fun y Γ1 => OwnT Γ1 i fun _ kvs => dIx (.dT kvs) y fun z => P z Γ1) X) : Ev K W (tOp (rIxP K) (tVar i) te) Γ P X := fun O G H σ Q S q x => by
  obtain ⟨x0, e0, _⟩ := look_T S hi
  refine ⟨_, e0, h O G H σ _ S (fun v G1 H1 Γ1 d s1 S1 r ⟨a', kvs, hg, k, u, ey, hv, p⟩ => ?_) x⟩
  obtain ⟨xs, e1, h1, r1⟩ := look_T S1 hg
  rw [e0] at e1
  cases e1
  subst ey
  obtain ⟨w, ew, rw'⟩ := (r1.get k).1 u hv
  cases r with
  | @tup b ys _ hb rb =>
    rw [reps_kD rb] at hb
    exact .inr ⟨a, w, rfl, by rw [← ew]; exact dget_T (.inl h1) (S1.g _ _ hb), q w G1 H1 Γ1 u s1 S1 rw' p⟩
theorem ev_inK {neg : Bool} {kv0 : List (Key × Dt)} (hi : Γ[i]? = some (some (.oK a kv0))) (h : Ev K W te Γ (fun y Γ1 => OwnK Γ1 i fun _ kvs => dIn neg y (.dK kvs) fun z => P z Γ1) X) : Ev K W (tOp (if neg then rNotInP K else rInP K) te (tVar i)) Γ P X := fun O G H σ Q S q x => by
  refine h O G H σ _ S (fun v G1 H1 Γ1 d s1 S1 r ⟨a', kvs, hg, k, ey, p⟩ => ?_) x
  obtain ⟨xs, e1, h1, r1⟩ := look_K S1 hg
  subst ey
  rw [kD_inj r]
  obtain ⟨g1, g2⟩ := r1.get k
  have z : rDI neg (kV k) (.ref a') H1 Q := ⟨a', _, rfl, dget_K (ds := []) (.inl h1), by rw [isSome_val g1 g2]; exact q _ G1 H1 Γ1 _ s1 S1 (.bl _) p⟩
  refine ⟨_, e1, ?_⟩
  cases neg with
  | true => exact .inr (.inr z)
  | false => exact .inr (.inr z)
theorem ev_inT {neg : Bool} {kv0 : List (List Key × Dt)} (hi : Γ[i]? = some (some (.oT a kv0))) (h : Ev K W te Γ (fun y Γ1 => OwnT Γ1 i fun _ kvs => dIn neg y (.dT kvs) fun z => P z Γ1) X) : Ev K W (tOp (if neg then rNotInP K else rInP K) te (tVar i)) Γ P X := fun O G H σ Q S q x => by
  refine h O G H σ _ S (fun v G1 H1 Γ1 d s1 S1 r ⟨a', kvs, hg, k, ey, p⟩ => ?_) x
  obtain ⟨xs, e1, h1, r1⟩ := look_T S1 hg
  subst ey
  obtain ⟨g1, g2⟩ := r1.get k
  refine ⟨_, e1, ?_⟩
  cases r with
  | @tup b ys _ hb rb =>
    rw [reps_kD rb] at hb
    have z : rDI neg (.ref b) (.ref a') H1 Q := ⟨a', _, rfl, dget_T (.inl h1) (S1.g _ _ hb), by rw [isSome_val g1 g2]; exact q _ G1 H1 Γ1 _ s1 S1 (.bl _) p⟩
    cases neg with
    | true => exact .inr (.inr z)
    | false => exact .inr (.inr z)
instance {kvs : List (Key × Dt)} [q : At Γ i (.oK a kvs)] : Wk (Ev K W (tOp (rIxP K) (tVar i) te) Γ P X) (Ev K W te Γ (fun y Γ1 => OwnK Γ1 i fun _ kvs => dIx (.dK kvs) y fun z => P z Γ1) X) := ⟨fun h => ev_ixK q.h h⟩
instance {kvs : List (List Key × Dt)} [q : At Γ i (.oT a kvs)] : Wk (Ev K W (tOp (rIxP K) (tVar i) te) Γ P X) (Ev K W te Γ (fun y Γ1 => OwnT Γ1 i fun _ kvs => dIx (.dT kvs) y fun z => P z Γ1) X) := ⟨fun h => ev_ixT q.h h⟩
instance {kvs : List (Key × Dt)} [q : At Γ i (.oK a kvs)] : Wk (Ev K W (tOp (rInP K) te (tVar i)) Γ P X) (Ev K W te Γ (fun y Γ1 => OwnK Γ1 i fun _ kvs => dIn false y (.dK kvs) fun z => P z Γ1) X) := ⟨fun h => ev_inK (neg := false) q.h h⟩
instance {kvs : List (Key × Dt)} [q : At Γ i (.oK a kvs)] : Wk (Ev K W (tOp (rNotInP K) te (tVar i)) Γ P X) (Ev K W te Γ (fun y Γ1 => OwnK Γ1 i fun _ kvs => dIn true y (.dK kvs) fun z => P z Γ1) X) := ⟨fun h => ev_inK (neg := true) q.h h⟩
instance {kvs : List (List Key × Dt)} [q : At Γ i (.oT a kvs)] : Wk (Ev K W (tOp (rInP K) te (tVar i)) Γ P X) (Ev K W te Γ (fun y Γ1 => OwnT Γ1 i fun _ kvs => dIn false y (.dT kvs) fun z => P z Γ1) X) := ⟨fun h => ev_inT (neg := false) q.h h⟩
instance {kvs : List (List Key × Dt)} [q : At Γ i (.oT a kvs)] : Wk (Ev K W (tOp (rNotInP K) te (tVar i)) Γ P X) (Ev K W te Γ (fun y Γ1 => OwnT Γ1 i fun _ kvs => dIn true y (.dT kvs) fun z => P z Γ1) X) := ⟨fun h => ev_inT (neg := true) q.h h⟩
theorem ev_lenK {kvs : List (Key × Dt)} (hi : Γ[i]? = some (some (.oK a kvs))) (p : P (.int kvs.length) Γ) : Ev K W (tCB (rLenP K) (tCons (tVar i) tNil)) Γ P X := fun O G H σ Q S q x => by
  obtain ⟨xs, e1, h1, r1⟩ := look_K S hi
  exact ⟨_, e1, .inr ⟨a, rfl, .inl ⟨xs, .inl h1, q _ G H Γ _ (Same.refl _) S (.int _) (by rw [r1.length]; exact p)⟩⟩⟩
theorem ev_lenT {kvs : List (List Key × Dt)} (hi : Γ[i]? = some (some (.oT a kvs))) (p : P (.int kvs.length) Γ) : Ev K W (tCB (rLenP K) (tCons (tVar i) tNil)) Γ P X := fun O G H σ Q S q x => by
  obtain ⟨xs, e1, h1, r1⟩ := look_T S hi
  exact ⟨_, e1, .inr ⟨a, rfl, .inr ⟨xs, .inl h1, q _ G H Γ _ (Same.refl _) S (.int _) (by rw [r1.length]; exact p)⟩⟩⟩
instance {kvs : List (Key × Dt)} [q : At Γ i (.oK a kvs)] : Wk (Ev K W (tCB (rLenP K) (tCons (tVar i) tNil)) Γ P X) (P (.int kvs.length) Γ) := ⟨fun h => ev_lenK q.h h⟩
instance {kvs : List (List Key × Dt)} [q : At Γ i (.oT a kvs)] : Wk (Ev K W (tCB (rLenP K) (tCons (tVar i) tNil)) Γ P X) (P (.int kvs.length) Γ) := ⟨fun h => ev_lenT q.h h⟩
theorem g_subL {a : Addr} {ds : List Dt} (h : Ev K W te Γ (fun v Γ1 => OwnL Γ1 i fun _ _ => Ev K W ti Γ1 (fun y Γ2 => IsI y fun k => OwnL Γ2 i fun a ds => ∃ j, ixN ds.length k = some j ∧ nx (Γ2.set i (some (.ol a (ds.set j v))))) xc) xc) :
    Go K W (tAsg te (gSub (tVar i) ti rSetP)) Γ ⟨nx, rt, xc, bk, ct⟩ := fun O G H σ D S a b c d e =>
  h O G H σ _ S (fun v G1 H1 Γ1 dv s1 S1 r ⟨a1, ds1, hg1, h2⟩ => by
    obtain ⟨v1, e1, _⟩ := S1.get hg1
    refine ⟨v1, e1, h2 O G1 H1 σ _ S1 (fun w G2 H2 Γ2 dw s2 S2 r2 ⟨k, ek, a2, ds2, hg2, j, hj, p⟩ => ?_) ((e σ).mono s1)⟩
    subst ek
    cases r2
    obtain ⟨v2, e2, o2⟩ := S2.get hg2
    rw [e1] at e2
    obtain rfl : v1 = v2 := Option.some.inj (Option.some.inj e2)
    cases o2 with
    | @ol _ xs _ hx rx =>
      refine .inl ⟨a2, xs, k, j, rfl, rfl, hx, by rw [rx.length]; exact hj, ?_⟩
      exact a G2 _ σ _ (s1.trans s2) (S2.mutS hg2 e1 (by simp [Sl.fp]) (fun b hb => by simpa [Sl.fp] using hb) (by simp [Sl.fp]) (.ol upd_same (rx.set j (r.mono s2)))) p) (e σ)
theorem g_subK (h : Ev K W te Γ (fun v Γ1 => OwnK Γ1 i fun _ _ => Ev K W ti Γ1 (fun y Γ2 => OwnK Γ2 i fun a kvs => ∃ k, y = kD k ∧ Side (kvs.length < 1000000) (nx (Γ2.set i (some (.oK a (pA kvs k v)))))) xc) xc) :
    Go K W (tAsg te (gSub (tVar i) ti rSetP)) Γ ⟨nx, rt, xc, bk, ct⟩ := fun O G H σ D S a b c d e =>
  h O G H σ _ S (fun v G1 H1 Γ1 dv s1 S1 r ⟨a1, ds1, hg1, h2⟩ => by
    obtain ⟨v1, e1, _⟩ := S1.get hg1
    refine ⟨v1, e1, h2 O G1 H1 σ _ S1 (fun w G2 H2 Γ2 dw s2 S2 r2 ⟨a2, kvs, hg2, k, ek, hl, p⟩ => ?_) ((e σ).mono s1)⟩
    subst ek
    obtain ⟨xs, e2, hx, rx⟩ := look_K S2 hg2
    rw [e1] at e2
    cases e2
    rw [kD_inj r2]
    refine .inr ⟨a2, _, rfl, .inl ⟨xs, k, hx, rfl, by rw [rx.length]; exact Nat.lt_of_lt_of_le hl (by decide), rfl⟩, ?_⟩
    exact a G2 _ σ _ (s1.trans s2) (S2.mutS hg2 e1 (by simp [Sl.fp]) (fun b hb => by simpa [Sl.fp] using hb) (by simp [Sl.fp]) (.oK upd_same (rx.put k (r.mono s2)))) p) (e σ)
theorem g_subT (h : Ev K W te Γ (fun v Γ1 => OwnT Γ1 i fun _ _ => Ev K W ti Γ1 (fun y Γ2 => OwnT Γ2 i fun a kvs => ∃ k, y = kDs k ∧ Side (kvs.length < 1000000) (nx (Γ2.set i (some (.oT a (pA kvs k v)))))) xc) xc) :
    Go K W (tAsg te (gSub (tVar i) ti rSetP)) Γ ⟨nx, rt, xc, bk, ct⟩ := fun O G H σ D S a b c d e =>
  h O G H σ _ S (fun v G1 H1 Γ1 dv s1 S1 r ⟨a1, ds1, hg1, h2⟩ => by
    obtain ⟨v1, e1, _⟩ := S1.get hg1
    refine ⟨v1, e1, h2 O G1 H1 σ _ S1 (fun w G2 H2 Γ2 dw s2 S2 r2 ⟨a2, kvs, hg2, k, ek, hl, p⟩ => ?_) ((e σ).mono s1)⟩
    subst ek
    obtain ⟨xs, e2, hx, rx⟩ := look_T S2 hg2
    rw [e1] at e2
    cases e2
    cases r2 with
    | @tup b ys _ hb rb =>
      rw [reps_kD rb] at hb
      refine .inr ⟨a2, _, rfl, .inr ⟨xs, k, b, hx, rfl, S2.g _ _ hb, by rw [rx.length]; exact Nat.lt_of_lt_of_le hl (by decide), rfl⟩, ?_⟩
      exact a G2 _ σ _ (s1.trans s2) (S2.mutS hg2 e1 (by simp [Sl.fp]) (fun b hb => by simpa [Sl.fp] using hb) (by simp [Sl.fp]) (.oT upd_same (rx.put k (r.mono s2)))) p) (e σ)
def KeyQ (y : Dt) (Q : Key → Prop) : Prop := ∃ k, y = kD k ∧ Q k
def KeysQ (y : Dt) (Q : List Key → Prop) : Prop := ∃ k, y = kDs k ∧ Q k
instance {y : Dt} {k : Key} {Q : Key → Prop} [h : KeyOf y k] : Wk (KeyQ y Q) (Q k) := ⟨fun q => ⟨k, h.h, q⟩⟩
instance {ys : List Dt} {k : List Key} {Q : List Key → Prop} [h : KeysOf ys k] : Wk (KeysQ (.tup ys) Q) (Q k) := ⟨fun q => ⟨k, by rw [h.h], q⟩⟩
instance {ds : List Dt} [q : At Γ i (.ol a ds)] : Wk (Go K W (tAsg te (gSub (tVar i) ti rSetP)) Γ ⟨nx, rt, xc, bk, ct⟩) (Ev K W te Γ (fun v Γ1 => OwnL Γ1 i fun _ _ => Ev K W ti Γ1 (fun y Γ2 => IsI y fun k => OwnL Γ2 i fun a ds => ∃ j, ixN ds.length k = some j ∧ nx (Γ2.set i (some (.ol a (ds.set j v))))) xc) xc) := ⟨fun h => g_subL (a := a) (ds := ds) h⟩
instance {kvs : List (Key × Dt)} [q : At Γ i (.oK a kvs)] : Wk (Go K W (tAsg te (gSub (tVar i) ti rSetP)) Γ ⟨nx, rt, xc, bk, ct⟩) (Ev K W te Γ (fun v Γ1 => OwnK Γ1 i fun _ _ => Ev K W ti Γ1 (fun y Γ2 => OwnK Γ2 i fun a kvs => KeyQ y fun k => Side (kvs.length < 1000000) (nx (Γ2.set i (some (.oK a (pA kvs k v)))))) xc) xc) := ⟨fun h => g_subK h⟩
instance {kvs : List (List Key × Dt)} [q : At Γ i (.oT a kvs)] : Wk (Go K W (tAsg te (gSub (tVar i) ti rSetP)) Γ ⟨nx, rt, xc, bk, ct⟩) (Ev K W te Γ (fun v Γ1 => OwnT Γ1 i fun _ _ => Ev K W ti Γ1 (fun y Γ2 => OwnT Γ2 i fun a kvs => KeysQ y fun k => Side (kvs.length < 1000000) (nx (Γ2.set i (some (.oT a (pA kvs k v)))))) xc) xc) := ⟨fun h => g_subT h⟩
theorem evo_newK (h : ∀ a, PO (.oK a []) Γ) : EvO K W tDNewK Γ PO X := fun O G H σ Q S q x => fun p np => q (.ref p) G _ Γ (.oK p []) (Same.refl _) (S.own1 np rfl (.oK upd_same .nil)) (h p)
theorem evo_newT (h : ∀ a, PO (.oT a []) Γ) : EvO K W tDNewT Γ PO X := fun O G H σ Q S q x => fun p np => q (.ref p) G _ Γ (.oT p []) (Same.refl _) (S.own1 np rfl (.oT upd_same .nil)) (h p)
instance : Wk (EvO K W tDNewK Γ PO X) (∀ a, PO (.oK a []) Γ) := ⟨evo_newK⟩
instance : Wk (EvO K W tDNewT Γ PO X) (∀ a, PO (.oT a []) Γ) := ⟨evo_newT⟩
mutual
inductive Frz2 : Sl → Dt → Prop
  | fr (d : Dt) : Frz2 (.fr d) d
  | ol (a : Addr) (ds : List Dt) : Frz2 (.ol a ds) (.lst ds)
  | oK (a : Addr) (ds : List (Key × Dt)) : Frz2 (.oK a ds) (.dK ds)
  | oT (a : Addr) (ds : List (List Key × Dt)) : Frz2 (.oT a ds) (.dT ds)
  | oo (a C : Addr) {fs : List (Str × Sl)} {ds : List (Str × Dt)} : FrzF fs ds → Frz2 (.oo a C fs) (.obj C ds)
inductive FrzF : List (Str × Sl) → List (Str × Dt) → Prop
  | nil : FrzF [] []
  | cons {f : Str} {s : Sl} {d : Dt} {fs : List (Str × Sl)} {ds : List (Str × Dt)} : Frz2 s d → FrzF fs ds → FrzF ((f, s) :: fs) ((f, d) :: ds)
end
theorem Sta.pin1 {O G H : Hp} {σ : St} {v : V} {s : Sl} {ob : HO} (S : Sta K O G H (some v :: σ) (some s :: Γ)) (hf : s.fp = [a]) (ob' : HO) : Same G (upd G a ob') ∧ Sta K O (upd G a ob') (upd H a ob') σ Γ := by
  have na : G a = none := S.ng a (by simp [fps, fpO, hf])
  have oa : O a = none := S.no a (by simp [fps, fpO, hf])
  have T := S.tail
  have nd := S.nd
  simp only [fps, fpO, hf] at nd
  have nf : a ∉ fps Γ := fun z => (List.nodup_append.mp nd).2.2 a (by simp) a z rfl
  have s1 : Same G (upd G a ob') := fun b o q => by rw [upd_ne (ne_of_none q na)]; exact q
  refine ⟨s1, fun b o q => ?_, fun b o q => ?_, fun b hb => ?_, T.sl.mono s1 fun b hb o q => ?_, T.nd, fun b hb => ?_, T.no, T.om⟩
  · by_cases e : b = a
    · subst e; rw [upd_same] at q ⊢; exact q
    · rw [upd_ne e] at q ⊢; exact T.g b o q
  · rw [upd_ne (ne_of_none q oa)]; exact T.o b o q
  · by_cases e : b = a
    · subst e; exact absurd oa hb
    · rw [upd_ne e]; exact T.d b hb
  · rw [upd_ne (fun z : b = a => nf (by rw [← z]; exact hb))]; exact q
  · by_cases e : b = a
    · subst e; exact absurd hb nf
    · rw [upd_ne e]; exact T.ng b hb
theorem Pins.bind {H : Hp} {Q : Hp → Prop} (h : Pins H fun H' => Pins H' Q) : Pins H Q := by
  generalize e : (fun H' => Pins H' Q) = Q1 at h
  induction h with
  | done q => rw [← e] at q; exact q
  | pin d u hd mu _ ih => exact .pin d u hd mu fun od => ih od e
mutual
theorem pin_all : ∀ {s : Sl} {d : Dt}, Frz2 s d → ∀ {O G H : Hp} {σ : St} {Γ : Gm} {v : V} {Q : Hp → Prop}, Sta K O G H (some v :: σ) (some s :: Γ) → (∀ G2 H2, Same G G2 → (∀ b, b ∉ s.fp → H2 b = H b) → Sta K O G2 H2 σ Γ → Rep K G2 v d → Q H2) → Pins H Q
  | _, _, .fr d, O, G, H, σ, Γ, v, Q, S, q => by
    have h := S.head
    cases h with | fr r => exact .done (q G H (Same.refl _) (fun _ _ => rfl) S.tail r)
  | _, _, .ol a ds, O, G, H, σ, Γ, v, Q, S, q => by
    obtain ⟨G2, s2, S2, r⟩ := S.freeze1 (.ol a ds)
    exact .done (q G2 H s2 (fun _ _ => rfl) S2 r)
  | _, _, .oK a ds, O, G, H, σ, Γ, v, Q, S, q => by
    have h := S.head
    cases h with
    | oK ha r =>
      refine .pin a _ ha trivial fun od => .done ?_
      obtain ⟨s1, S1⟩ := S.pin1 (ob := .dK []) rfl (.frz od (.dK _))
      exact q _ _ s1 (fun b hb => upd_ne (by simpa [Sl.fp] using hb)) S1 (.dK upd_same (r.mono s1))
  | _, _, .oT a ds, O, G, H, σ, Γ, v, Q, S, q => by
    have h := S.head
    cases h with
    | oT ha r =>
      refine .pin a _ ha trivial fun od => .done ?_
      obtain ⟨s1, S1⟩ := S.pin1 (ob := .dT []) rfl (.frz od (.dT _))
      exact q _ _ s1 (fun b hb => upd_ne (by simpa [Sl.fp] using hb)) S1 (.dT upd_same (r.mono s1))
  | _, _, @Frz2.oo a C fs ds hf, O, G, H, σ, Γ, v, Q, S, q => by
    have h := S.head
    cases h with
    | @oo _ _ dx vs _ ha of =>
      have T := S.tail
      have nd := S.nd
      simp only [fps, fpO, Sl.fp] at nd
      obtain ⟨n1, n2, n3⟩ := List.nodup_append.mp nd
      rw [List.nodup_cons] at n1
      have mem : ∀ b ∈ a :: fpF fs, b ∈ fps (some (.oo a C fs) :: Γ) := fun b hb => by simp only [fps, fpO, Sl.fp, List.mem_append]; exact .inl hb
      have ga := S.ng a (mem a (by simp))
      have oa := S.no a (mem a (by simp))
      have fa : a ∉ fps Γ := fun z => n3 a (by simp) a z rfl
      have To := T.toO ha oa ga fa trivial
      refine pin_fields hf To of n1.2 (fun b hb => S.ng b (mem b (by simp [hb]))) (fun b hb => ?_) (fun b hb z => n3 b (by simp [hb]) b z rfl) fun G2 H2 s2 hH S2 rf => ?_
      · rw [upd_ne (fun e : b = a => n1.1 (by rw [← e]; exact hb))]; exact S.no b (mem b (by simp [hb]))
      · have ha2 : H2 a = some (.ins C dx vs) := by rw [hH a n1.1]; exact ha
        have g2 : G2 a = none := S2.d a (by rw [upd_same]; simp)
        have Tq : Sta K O G2 H2 (some (.ref a) :: σ) (some (.oo a C (frF [])) :: Γ) → True := fun _ => trivial
        have T3 := S2.offO oa
        obtain ⟨sa, sb⟩ := same_frz S2.g ha2 g2
        refine q (upd G2 a (.ins C dx vs)) H2 (s2.trans sa) (fun b hb => hH b (fun z => hb (by simp [Sl.fp, z]))) ⟨sb, T3.o, fun b hb => ?_, T3.sl.mono sa fun _ _ _ z => z, T3.nd, fun b hb => ?_, T3.no, T3.om⟩ (.obj upd_same (rf.mono sa))
        · by_cases e : b = a
          · subst e; exact absurd oa hb
          · rw [upd_ne e]; exact T3.d b hb
        · rw [upd_ne (fun e : b = a => fa (by rw [← e]; exact hb))]; exact T3.ng b hb
theorem pin_fields : ∀ {fs : List (Str × Sl)} {ds : List (Str × Dt)}, FrzF fs ds → ∀ {O G H : Hp} {σ : St} {Γ : Gm} {vs : List (Str × V)} {Q : Hp → Prop}, Sta K O G H σ Γ → OwnF K G H vs fs → (fpF fs).Nodup → (∀ b ∈ fpF fs, G b = none) → (∀ b ∈ fpF fs, O b = none) → (∀ b ∈ fpF fs, b ∉ fps Γ) →
    (∀ G2 H2, Same G G2 → (∀ b, b ∉ fpF fs → H2 b = H b) → Sta K O G2 H2 σ Γ → RepF K G2 vs ds → Q H2) → Pins H Q
  | _, _, .nil, O, G, H, σ, Γ, vs, Q, S, of, nd, hg, ho, hn, q => by
    cases of
    exact .done (q G H (Same.refl _) (fun _ _ => rfl) S .nil)
  | _, _, @FrzF.cons f s d fs ds h t, O, G, H, σ, Γ, vs, Q, S, of, nd, hg, ho, hn, q => by
    cases of with
    | @cons _ v vs _ _ o1 o2 =>
      simp only [fpF] at nd hg ho hn
      obtain ⟨n1, n2, n3⟩ := List.nodup_append.mp nd
      -- the rest first
      have P := S.push o1 n1 (fun b hb => hg b (by simp [hb])) (fun b hb => ho b (by simp [hb])) (fun b hb => hn b (by simp [hb]))
      refine Pins.bind (pin_fields (Q := fun H2 => Pins H2 Q) t P o2 n2 (fun b hb => hg b (by simp [hb])) (fun b hb => ho b (by simp [hb])) (fun b hb z => ?_) fun G2 H2 s2 hH S2 rf => ?_)
      · simp only [fps, fpO, List.mem_append] at z
        rcases z with z | z
        · exact n3 b z b hb rfl
        · exact hn b (by simp [hb]) z
      · refine pin_all h S2 fun G3 H3 s3 hH3 S3 r3 => q G3 H3 (s2.trans s3) (fun b hb => ?_) S3 (.cons r3 (rf.mono s3))
        simp only [fpF, List.mem_append, not_or] at hb
        rw [hH3 b hb.1, hH b hb.2]
end
theorem ev_pin (h : EvO K W te Γ (fun s Γ2 => ∃ d, Frz2 s d ∧ P d Γ2) X) : Ev K W (tPin te) Γ P X := fun O G H σ Q S q x =>
  h O G H σ _ S (fun v G2 H2 Γ2 s s1 S2 ⟨d, f, p⟩ => pin_all f S2 fun G3 H3 s3 _ S3 r => q v G3 H3 Γ2 d (s1.trans s3) S3 r p) x
end
def Fz2 (s : Sl) (Q : Dt → Prop) : Prop := ∃ d, Frz2 s d ∧ Q d
class Frz2C (s : Sl) (d : outParam Dt) : Prop where
  h : Frz2 s d
class FrzFC (s : List (Str × Sl)) (d : outParam (List (Str × Dt))) : Prop where
  h : FrzF s d
instance {d : Dt} : Frz2C (.fr d) d := ⟨.fr d⟩
instance {a : Addr} {ds : List Dt} : Frz2C (.ol a ds) (.lst ds) := ⟨.ol a ds⟩
instance {a : Addr} {ds : List (Key × Dt)} : Frz2C (.oK a ds) (.dK ds) := ⟨.oK a ds⟩
instance {a : Addr} {ds : List (List Key × Dt)} : Frz2C (.oT a ds) (.dT ds) := ⟨.oT a ds⟩
instance {a C : Addr} {fs : List (Str × Sl)} {ds : List (Str × Dt)} [h : FrzFC fs ds] : Frz2C (.oo a C fs) (.obj C ds) := ⟨.oo a C h.h⟩
instance : FrzFC [] [] := ⟨.nil⟩
instance {f : Str} {s : Sl} {d : Dt} {fs : List (Str × Sl)} {ds : List (Str × Dt)} [h : Frz2C s d] [t : FrzFC fs ds] : FrzFC ((f, s) :: fs) ((f, d) :: ds) := ⟨.cons h.h t.h⟩
section
variable {K : PySem.W.Frag} {W : WX} {Γ Γ' : Gm} {X : XP} {P : Dt → Gm → Prop} {te : TE} {i : Nat}
instance {s : Sl} {d : Dt} {Q : Dt → Prop} [h : Frz2C s d] : Wk (Fz2 s Q) (Q d) := ⟨fun q => ⟨d, h.h, q⟩⟩
instance : Wk (Ev K W (tPin te) Γ P X) (EvO K W te Γ (fun s Γ2 => Fz2 s fun d => P d Γ2) X) := ⟨ev_pin⟩
end
end DL
namespace IX
open PySem PySem.Spec PyProof.Rows L2
variable {Z : Cx}
theorem setD {pn : List (Addr × Obj)} {ρ : L2.St} {G G' : Hp} {u : Shared} {E : Value → Shared → Prop} {d : Addr} {y z : V} {vy vz : Value} {Q : Unit → Shared → Prop} (hu : Z.A.units + 1 < cLine) (J : Inv Z pn ρ G u) (g : DPut G d y z G') (ry : RelV y vy) (rz : RelV z vz)
    (k : ∀ u', Inv Z pn ρ G' u' → Q () u') : wpAny (model Z.prog Z.w) Z.A (dictSet d vy vz) Q E u := by
  rcases g with ⟨kvs, key, hd, ey, l, eG⟩ | ⟨kvs, key, b, hd, ey, hb, l, eG⟩
  · subst ey eG
    exact d_dictSet J hd l ry rz k
  · subst ey eG
    obtain rfl : vy = Value.ref b := ry
    obtain ⟨fits, nm, ents, kt, dh⟩ := dt_of J.hok hd
    have le1 : ents.length ≤ sizeLine := by rw [← Paired.length kt]; exact fits
    have le2 : (putK kvs key z).length ≤ sizeLine := Nat.le_trans (length_putK kvs key z) l
    refine wpAny_dictSet_heap (hsz := le1) (show Z.A.units < cLine by omega) (key_of J.hok hb) dh fun hp made only => k _ ?_
    obtain ⟨ob, es, ep, hob, x1, x2, x3, _, x4⟩ := made
    refine d_write J (by rw [hd]; trivial) only ⟨ob, hob⟩ ⟨le2, nm, _, (kt.put key hb rz).keeps fun c ys hc => ?_, ob, es, ep, hob, x1, x2, x3, x4⟩
    rw [upd_ne (ne_of hc hd nofun)]
    exact hc
def nD0 (t : Bool) : HO := if t then .dT [] else .dK []
def tDn (t : Bool) (wi : TI) (g : TG) (tt : TT) (tk tv : TE) (vs : List Nat) : TE := fun ρ G Q => wi ρ G fun J G1 => ∀ d, G1 d = none → ∃ V : Nat → Nat → Hp → Prop, (∃ m, V 0 m (upd G1 d (nD0 t))) ∧ ∀ i m G, V i m G →
  (J.stop i G ∧ Q (.ref d) G) ∨ (J.go i G ∧ ∃ N : Hp → Prop, (∀ G', N G' → ∃ m', m' < m ∧ V (i + 1) m' G') ∧ ∀ x G', J.yld i G x G' → g x (wipe ρ vs) G' fun ρ2 G2 => wipe ρ2 vs = wipe ρ vs ∧ tt ρ2 G2 fun b G3 =>
    if b = true then tk ρ2 G3 fun y G4 => tv ρ2 G4 fun z G5 => ∃ G6, DPut G5 d y z G6 ∧ N G6 else N G3)
theorem dn_any {t : Bool} {pn : List (Addr × Obj)} {u : Shared} {ρ : L2.St} {G : Hp} {Q : VK} {kx vx tg iter : Expr} {ifs : List Expr} {sc : Scope} {own : List (PySem.Str × Nat)} {pos pos' : Pos} {wi : TI} {g : TG} {tt : TT} {tk tv : TE} {use : Option (Value → Sem Unit)} {Qf : Value → Shared → Prop}
    (hu : Z.A.units + 1 < cLine) (calm : Z.calm = true) (nd : Z.N.Nodup) (J : Inv Z pn ρ G u) (pi : PI Z tg iter wi) (bl : BlkOk Z.N Z.env.scope sc own)
    (pg : ∀ (u : Shared) (G : Hp) (C : Addr) (cl : List (PySem.Str × Addr)) (fp : List Addr), PG (Z.blk u G sc (compEnvC sc cl C Z.env) fp) tg g) (pt : ∀ (u : Shared) (G : Hp) (C : Addr) (cl : List (PySem.Str × Addr)) (fp : List Addr), PTs (Z.blk u G sc (compEnvC sc cl C Z.env) fp) ifs tt)
    (pk : ∀ (u : Shared) (G : Hp) (C : Addr) (cl : List (PySem.Str × Addr)) (fp : List Addr), PE (Z.blk u G sc (compEnvC sc cl C Z.env) fp) kx tk)
    (pe : ∀ (u : Shared) (G : Hp) (C : Addr) (cl : List (PySem.Str × Addr)) (fp : List Addr), PE (Z.blk u G sc (compEnvC sc cl C Z.env) fp) vx tv) (fold : ∀ x, foldedSetIterable iter Z.env x = pure x)
    (h : tDn t wi g tt tk tv (own.map (·.2)) ρ G Q)
    (back : ∀ d C u' m G', Inv Z pn ρ G' u' → Q (.ref d) G' → u'.heap.Ns C m → FpOk Z pn G' C → compPost (model Z.prog Z.w) Z.A Z.xe use Qf (.ref d) C (.ok .next) u') :
    wpAny (model Z.prog Z.w) Z.A (comprehension (.DictComp kx vx [⟨tg, iter, ifs, 0⟩] sc pos) sc Z.env pos' newDict false (eval iter Z.env) use) Qf Z.xe u := by
  have clo : ∀ y ∈ sc.names, y.2 = .free → ∃ c, Z.env.cells.lookup y.1 = some c := fun y hy e => (bl.free y hy e).elim (fun k => J.ok.has _ (.inl k)) fun k => J.ok.has _ (.inr k)
  refine wpAny_comprehension_free (use := use) rfl fold (closure_ok clo) bl.kind (fun y hy e => by rw [bl.uniq y hy, e]) (thn (pi.run pn u ρ G _ J h) fun xv u1 hx => thn hx fun itv u2 h2 => ?_)
  obtain ⟨it, fp, tn, Jt, G2, ei, J2, T, t2, f2, q⟩ := h2
  subst ei
  refine wpAny_newObj_type (newEnv_comp ?_)
  generalize ed : u2.heap.objs.size = d
  obtain ⟨V, ⟨m0, v0⟩, turn⟩ := q d (J2.hok.fresh (Nat.le_of_eq ed))
  generalize eu3 : ({ u2 with heap := u2.heap.push { cls := .type "dict", data := .dict #[] } } : Shared) = u3
  have hh3 : u3.heap = u2.heap.push { cls := .type "dict", data := .dict #[] } := by rw [← eu3]
  have J3 : Inv Z pn ρ (upd G2 d (nD0 t)) u3 := by
    rw [← eu3]
    refine J2.laid (t' := u2.toks) (fun b o e => Heap.get?_push_of_some _ e) (Nat.le_of_eq ed) ?_
    rw [← ed]
    cases t with
    | true => exact dt_empty u2.heap J2.big
    | false => exact dk_empty u2.heap J2.big
  have lt2 : ∀ b ∈ fp, b < u2.heap.objs.size := fun b hb => let ⟨_, e, _⟩ := T.obj _ _ t2 b hb; Heap.lt_size e
  have f3 : ∀ b ∈ fp, FpOk Z pn (upd G2 d (nD0 t)) b ∧ b < u3.heap.objs.size := fun b hb => by
    have l := lt2 b hb
    refine ⟨⟨?_, (f2 b hb).2⟩, by rw [hh3, Heap.size_push]; exact Nat.lt_succ_of_lt l⟩
    rw [upd_ne (by rw [← ed]; exact Nat.ne_of_lt l)]
    exact (f2 b hb).1
  have t3 : tn 0 u3.heap := T.keep _ _ _ t2 fun b _ o e => by rw [hh3]; exact Heap.get?_push_of_some _ e
  have J4 := block_start J3 bl nd f3
  generalize eG3 : upd G2 d (nD0 t) = G3 at J3 J4 f3 v0
  generalize ecl : cellsFrom (u3.heap.objs.size + 1) sc.names (cloFrom Z.env.cells sc.names []) = cl at J4
  have qg := pg u3 G3 u3.heap.objs.size cl fp
  have qt := pt u3 G3 u3.heap.objs.size cl fp
  have qk := pk u3 G3 u3.heap.objs.size cl fp
  have qe := pe u3 G3 u3.heap.objs.size cl fp
  have goal : codeAny (model Z.prog Z.w) Z.A (.compStart (.DictComp kx vx [⟨tg, iter, ifs, 0⟩] sc pos) 0 (.ref it) (.ref d) (compEnvC sc cl u3.heap.objs.size Z.env)) (compPost (model Z.prog Z.w) Z.A Z.xe use Qf (.ref d) u3.heap.objs.size) ({ u3 with heap := pushCells (u3.heap.push { cls := .type "dict", data := .dict #[] }) sc.names } : Shared) := by
    generalize ee : compEnvC sc cl u3.heap.objs.size Z.env = ce at J4 qg qt qk qe ⊢
    have lc : ce.locals = u3.heap.objs.size := by subst ee; rfl
    generalize eu4 : ({ u3 with heap := pushCells (u3.heap.push { cls := .type "dict", data := .dict #[] }) sc.names } : Shared) = u4 at J4 ⊢
    have t4 : tn 0 u4.heap := T.keep _ _ _ t3 fun b _ o e => by rw [← eu4]; exact pushCells_keeps _ _ _ _ (Heap.get?_push_of_some _ e)
    have out : ∀ {ρ' : L2.St} {G' : Hp} {u' : Shared}, Inv (Z.blk u3 G3 sc ce fp) [] ρ' G' u' → (∀ b ∈ fp, G' b = none) → ∀ b ∈ fp, FpOk (Z.blk u3 G3 sc ce fp) [] G' b := fun {_ _ _} K' hn b hb =>
      ⟨hn b hb, (K'.ok.exf b hb).1, K'.ok.exfs b hb, .inl hb, fun x c e => (K'.ok.exf b hb).2 x c e, fun p hp => absurd (show p ∈ ([] : List (Addr × Obj)) ++ [] from hp) (by simp)⟩
    have loop : codeAny (model Z.prog Z.w) Z.A (.compLoop (.DictComp kx vx [⟨tg, iter, ifs, 0⟩] sc pos) 0 (.ref it) (.ref d) ce) (compPost (model Z.prog Z.w) Z.A Z.xe use Qf (.ref d) u3.heap.objs.size) u4 := by
      refine compLoop_anyD (fun n u' => ∃ i G', Inv (Z.blk u3 G3 sc ce fp) [] (wipe ρ (own.map (·.2))) G' u' ∧ tn i u'.heap ∧ (∀ b ∈ fp, G' b = none) ∧ V i n G') ?_ m0 ⟨0, G3, J4, t4, fun b hb => (f3 b hb).1.1, v0⟩
      rintro n u5 ⟨i, G5, J5, t5, n5, v5⟩
      rcases turn i n G5 v5 with ⟨stop, qq⟩ | ⟨go, N, hN, step⟩
      · refine thnF (T.done (Z.blk u3 G3 sc ce fp) rfl rfl rfl calm i [] u5 _ G5 (fun _ _ => False) J5 (out J5 n5) t5 stop) fun r u6 ⟨er, J6⟩ => ?_
        subst er
        have free : G5 u3.heap.objs.size = none := by rw [← lc]; exact J6.free
        obtain ⟨m, ns, _⟩ := J6.loc
        have ns : u6.heap.Ns ce.locals m := ns
        rw [lc] at ns
        refine back d u3.heap.objs.size u6 m G5 (J3.call' (ch := fp) J6.os J6.base J6.hok J6.bare fun b hb => ?_) qq ns (J3.fpOk (Nat.le_refl _) free)
        have z := (f3 b hb).1.2
        exact ⟨z.2.2.1, z.1, z.2.2.2.1, z.2.2.2.2⟩
      · refine thnF (T.item (Z.blk u3 G3 sc ce fp) rfl rfl rfl calm i [] u5 _ G5 (fun _ _ => False) J5 (out J5 n5) t5 go) fun r u6 ⟨x, er, h6⟩ => ?_
        subst er
        refine thnF h6 fun _ u7 ⟨xv, G7, J7, r7, y7, t7, n7⟩ => ?_
        refine thnF (qg.run _ u7 _ G7 xv x _ (J7.pinned (out J7 n7) (T.obj _ _ t7)) r7 (step xv G7 y7)) fun _ u8 ⟨ρ8, G8, J8, w8, q8⟩ => ?_
        refine thnF (qt.run _ u8 ρ8 G8 _ J8 q8) fun b u9 ⟨G9, J9, q9⟩ => ?_
        have fin : ∀ {u' : Shared} {G' : Hp}, Inv (Z.blk u3 G3 sc ce fp) ([] ++ pinsAt fp u7.heap) ρ8 G' u' → N G' → ∃ m, m < n ∧ ∃ i G', Inv (Z.blk u3 G3 sc ce fp) [] (wipe ρ (own.map (·.2))) G' u' ∧ tn i u'.heap ∧ (∀ b ∈ fp, G' b = none) ∧ V i m G' := fun {u' G'} K' nx => by
          obtain ⟨m', lm, v'⟩ := hN G' nx
          have pin : ∀ b ∈ fp, ∀ o, u7.heap.get? b = some o → u'.heap.get? b = some o ∧ G' b = none := fun b hb o e => by
            have z := K'.pin (b, o) (List.mem_append_right _ (List.mem_append_right _ (mem_pinsAt hb e)))
            exact ⟨z.1, z.2.1⟩
          refine ⟨m', lm, i + 1, G', (K'.unpinned (pins := [])).weak (by rw [← w8, wipe_length]) (fun j v e => ?_), T.keep _ _ _ t7 fun b hb o e => (pin b hb o e).1, fun b hb => ?_, v'⟩
          · rw [← w8] at e; exact (wipe_some e).1
          · obtain ⟨o, e, _⟩ := T.obj _ _ t7 b hb; exact (pin b hb o e).2
        cases b with
        | false => simp only [Bool.false_eq_true, if_false] at q9 ⊢; exact fin J9 q9
        | true =>
          simp only [if_true] at q9 ⊢
          refine thnF (qk.run _ u9 ρ8 G9 _ J9 q9) fun ky u10 ⟨yk, G10, J10, r10, q10⟩ => ?_
          refine thnF (qe.run _ u10 ρ8 G10 _ J10 q10) fun vz u11 ⟨yv, G11, J11, r11, G12, put, nx⟩ => ?_
          exact setD (Z := Z.blk u3 G3 sc ce fp) hu J11 put r10 r11 fun u12 J12 => fin J12 nx
    exact codeAny_compStart_dict loop (T.self Z.A 0 _ _ _ t4 loop)
  subst ecl
  exact goal
theorem pe_dn {t : Bool} {kx vx tg iter : Expr} {ifs : List Expr} {sc : Scope} {own : List (PySem.Str × Nat)} {pos : Pos} {wi : TI} {g : TG} {tt : TT} {tk tv : TE} (hu : Z.A.units + 64 < cLine) (calm : Z.calm = true) (nd : Z.N.Nodup) (pi : PI Z tg iter wi) (bl : BlkOk Z.N Z.env.scope sc own)
    (pg : ∀ (u : Shared) (G : Hp) (C : Addr) (cl : List (PySem.Str × Addr)) (fp : List Addr), PG (Z.blk u G sc (compEnvC sc cl C Z.env) fp) tg g) (pt : ∀ (u : Shared) (G : Hp) (C : Addr) (cl : List (PySem.Str × Addr)) (fp : List Addr), PTs (Z.blk u G sc (compEnvC sc cl C Z.env) fp) ifs tt)
    (pk : ∀ (u : Shared) (G : Hp) (C : Addr) (cl : List (PySem.Str × Addr)) (fp : List Addr), PE (Z.blk u G sc (compEnvC sc cl C Z.env) fp) kx tk)
    (pe : ∀ (u : Shared) (G : Hp) (C : Addr) (cl : List (PySem.Str × Addr)) (fp : List Addr), PE (Z.blk u G sc (compEnvC sc cl C Z.env) fp) vx tv) (fold : ∀ x, foldedSetIterable iter Z.env x = pure x := by intro _; rfl) :
    PE Z (.DictComp kx vx [⟨tg, iter, ifs, 0⟩] sc pos) (tDn t wi g tt tk tv (own.map (·.2))) := by
  refine ⟨fun pn u ρ G Q J h => ?_⟩
  rw [arm_eval_DictComp]
  refine dn_any (by omega) calm nd J pi bl pg pt pk pe fold h fun d C u' m G' K' q ns f => ⟨m, ns, fun hp only => ?_⟩
  obtain ⟨a0, a1, a2, a3, a4, a5⟩ := f
  exact ⟨.ref d, G', K'.turned (t' := u'.toks) (fun b o hb e => (only.2 b hb).trans e) a0 a1 a3 a4 a5, rfl, q⟩
end IX
namespace DL
open PySem PySem.Spec L2 IX
section
variable {κ β : Type} [DecidableEq κ]
def mrgD (kvs : List (κ × β)) : List (κ × β) := kvs.foldl (fun acc kv => pA acc kv.1 kv.2) []
theorem mrg_app (kvs : List (κ × β)) : ∀ acc : List (κ × β), (acc.map (·.1) ++ kvs.map (·.1)).Nodup → kvs.foldl (fun acc kv => pA acc kv.1 kv.2) acc = acc ++ kvs := by
  induction kvs with
  | nil => intro acc _; simp
  | cons p r ih =>
    intro acc nd
    have h0 : vA acc p.1 = none := by
      rw [vA_none]
      intro z
      rw [List.map_cons, List.nodup_append] at nd
      exact nd.2.2 p.1 z p.1 (by simp) rfl
    rw [List.foldl_cons, pA_new _ h0, ih]
    · simp
    · simpa using nd
theorem mrgD_id {kvs : List (κ × β)} (nd : (kvs.map (·.1)).Nodup) : mrgD kvs = kvs := by
  unfold mrgD
  rw [mrg_app kvs [] (by simpa using nd)]
  simp
end
section
variable {K : PySem.W.Frag} {W : WX} {Γ Γ' : Gm} {X : XP} {te tk tv td ty tx : TE} {tt : TT} {g : TG} {wi : TI} {vs : List Nat} {P : Dt → Gm → Prop} {PO : Sl → Gm → Prop} {xs : List Dt} {i : Nat} {a : Addr}
theorem dn_it {J : It} {n : Nat} {GG : Hp → Prop} {Y : Nat → Hp → V → Hp → Prop} (w : Walk J n GG Y) {t : Bool} {σ : St} {H1 : Hp} {D : Addr} {Qd : Hp → Prop} (Pv : Nat → Hp → Prop) (h0 : Pv 0 (upd H1 D (nD0 t))) (hG : ∀ i H, i ≤ n → Pv i H → GG H)
    (hs : ∀ i x H H', i < n → Pv i H → Y i H x H' → g x (wipe σ vs) H' fun σ2 H2 => wipe σ2 vs = wipe σ vs ∧ tt σ2 H2 fun b H3 => if b = true then tk σ2 H3 fun y H4 => tv σ2 H4 fun z H5 => ∃ H6, DPut H5 D y z H6 ∧ Pv (i + 1) H6 else Pv (i + 1) H3)
    (hd : ∀ H, Pv n H → Qd H) : ∃ V : Nat → Nat → Hp → Prop, (∃ m, V 0 m (upd H1 D (nD0 t))) ∧ ∀ i m G, V i m G →
      (J.stop i G ∧ Qd G) ∨ (J.go i G ∧ ∃ N : Hp → Prop, (∀ G', N G' → ∃ m', m' < m ∧ V (i + 1) m' G') ∧ ∀ x G', J.yld i G x G' → g x (wipe σ vs) G' fun ρ2 G2 => wipe ρ2 vs = wipe σ vs ∧ tt ρ2 G2 fun b G3 =>
        if b = true then tk ρ2 G3 fun y G4 => tv ρ2 G4 fun z G5 => ∃ G6, DPut G5 D y z G6 ∧ N G6 else N G3) := by
  let V : Nat → Nat → Hp → Prop := fun at_ left Hx => left + at_ = n ∧ Pv at_ Hx
  refine ⟨V, ⟨n, rfl, h0⟩, fun at_ left Hx hv => ?_⟩
  obtain ⟨el, pv⟩ := hv
  have good := hG at_ Hx (by omega) pv
  cases left with
  | zero =>
    have ea : at_ = n := by omega
    subst ea
    exact .inl ⟨w.stops Hx good, hd Hx pv⟩
  | succ left => exact .inr ⟨w.goes at_ Hx (by omega) good, Pv (at_ + 1), fun Hy py => ⟨left, by omega, by omega, py⟩, fun z Hy yz => hs at_ z Hx Hy (by omega) pv (w.yields at_ Hx z Hy (by omega) good yz)⟩
def DCK (K : PySem.W.Frag) (g : TG) (tt : TT) (tk tv : TE) (vs : List Nat) (PO : Sl → Gm → Prop) (xs : List Dt) (Γ : Gm) : Prop :=
  ∃ I : Nat → List (Key × Dt) → Gm → Prop, I 0 [] Γ ∧
      (∀ k x acc Γ2, xs[k]? = some x → I k acc Γ2 → GoG K WF g x Γ2 (fun Γ3 => EvT K WF tt Γ3 (fun b Γ4 => (b = true → Ev K WF tk Γ4 (fun y Γ5 => Ev K WF tv Γ5 (fun z Γ6 => KeyQ y fun ky => acc.length < 1000000 ∧ I (k + 1) (pA acc ky z) (wipeG Γ6 vs)) XF) XF) ∧ (b = false → I (k + 1) acc (wipeG Γ4 vs))) XF) XF) ∧
      (∀ a acc Γ2, I xs.length acc Γ2 → PO (.oK a acc) Γ2)
def DCT (K : PySem.W.Frag) (g : TG) (tt : TT) (tk tv : TE) (vs : List Nat) (PO : Sl → Gm → Prop) (xs : List Dt) (Γ : Gm) : Prop :=
  ∃ I : Nat → List (List Key × Dt) → Gm → Prop, I 0 [] Γ ∧
      (∀ k x acc Γ2, xs[k]? = some x → I k acc Γ2 → GoG K WF g x Γ2 (fun Γ3 => EvT K WF tt Γ3 (fun b Γ4 => (b = true → Ev K WF tk Γ4 (fun y Γ5 => Ev K WF tv Γ5 (fun z Γ6 => KeysQ y fun ky => acc.length < 1000000 ∧ I (k + 1) (pA acc ky z) (wipeG Γ6 vs)) XF) XF) ∧ (b = false → I (k + 1) acc (wipeG Γ4 vs))) XF) XF) ∧
      (∀ a acc Γ2, I xs.length acc Γ2 → PO (.oT a acc) Γ2)
theorem evo_dnK (hw : Wr g vs) (hm : MoG g) (h : EvI K W wi Γ (fun xs Γ1 => DCK K g tt tk tv vs PO xs (wipeG Γ1 vs)) X) : EvO K W (tDn false wi g tt tk tv vs) Γ PO X := fun O G H σ Q S q x =>
  h O G H σ _ S (fun J G1 H1 Γ1 xs n GG Y s1 S1 w hn hG hY ⟨I, h0, hs, hd⟩ => by
    intro D nD
    have oD : O D = none := S1.o.free nD
    have gD : G1 D = none := S1.g.free nD
    have fD : D ∉ fps Γ1 := fun z => S1.there D z nD
    have xf : ∀ {O' G' : Hp} {σ' : St}, XOk K WF O' G' σ' XF := fun {O' G' σ'} C d fs G2 H2 Γ2 _ _ _ z => z
    refine dn_it (t := false) w (fun k H' => ∃ (G2 : Hp) (Γ2 : Gm) (acc : List (Key × Dt)) (av : List (Key × V)), Same G1 G2 ∧ Sta K (upd O D (.dK av)) G2 H' (wipe σ vs) Γ2 ∧ RepK K G2 av acc ∧ I k acc Γ2) ?_ (fun k H' _ ⟨G2, Γ2, acc, av, s2, S2, _⟩ => hG H' (s2.trans S2.g)) ?_ ?_
    · have T := (S1.ext (Ext.raw (ob := .dK []) S1.g nD)).toO upd_same oD gD fD trivial
      exact ⟨G1, _, [], [], Same.refl _, sta_wipe T vs, .nil, h0⟩
    · rintro k v H2 H3 hk ⟨G2, Γ2, acc, av, s2, S2, ra, p⟩ y
      have hx : xs[k]? = some (xs[k]'(by omega)) := by simp
      obtain ⟨G3, ex, r⟩ := hY k _ v G2 H2 H3 hx s2 S2.g y
      refine hm _ _ _ _ _ (fun σ2 H2 z => (fun (e : wipe σ2 vs = wipe σ vs) => ⟨e, z.2 e⟩) (z.1.trans (wipe_in fun v hv => hv))) (hw v (wipe σ vs) H3 (fun σ2 H2 => wipe σ2 vs = wipe σ vs → tt σ2 H2 fun b H3 => if b = true then tk σ2 H3 fun y H4 => tv σ2 H4 fun z H5 => ∃ H6, DPut H5 D y z H6 ∧
        ∃ (G2 : Hp) (Γ2 : Gm) (acc_1 : List (Key × Dt)) (av : List (Key × V)), Same G1 G2 ∧ Sta K (upd O D (.dK av)) G2 H6 (wipe σ vs) Γ2 ∧ RepK K G2 av acc_1 ∧ I (k + 1) acc_1 Γ2
        else ∃ (G2 : Hp) (Γ2 : Gm) (acc : List (Key × Dt)) (av : List (Key × V)), Same G1 G2 ∧ Sta K (upd O D (.dK av)) G2 H3 (wipe σ vs) Γ2 ∧ RepK K G2 av acc ∧ I (k + 1) acc Γ2) ?_)
      refine hs k _ acc Γ2 hx p _ G3 H3 _ v _ (S2.ext ex) r (fun G4 H4 σ4 Γ4 s4 S4 p4 e4 => ?_) fun σ5 => xf
      have r4 : RepK K G4 av acc := (ra.mono ex.g).mono s4
      have s14 : Same G1 G4 := s2.trans (ex.g.trans s4)
      refine p4 _ G4 H4 σ4 _ S4 (fun b G5 H5 Γ5 s5 S5 p5 => ?_) xf
      cases b with
      | false =>
        refine iteF ⟨G5, _, acc, av, s14.trans s5, ?_, r4.mono s5, p5.2 rfl⟩
        have T := sta_wipe S5 vs
        rw [e4] at T
        exact T
      | true =>
        refine iteT (p5.1 rfl _ G5 H5 σ4 _ S5 (fun y G6 H6 Γ6 dy s6 S6 r6 p6 => ?_) xf)
        refine p6 _ G6 H6 σ4 _ S6 (fun z G7 H7 Γ7 dz s7 S7 r7 p7 => ?_) xf
        obtain ⟨ky, ek, hl, p8⟩ := p7
        subst ek
        have r5 := ((r4.mono s5).mono s6).mono s7
        rw [kD_inj r6]
        refine ⟨_, .inl ⟨av, ky, S7.o D _ upd_same, rfl, by rw [r5.length]; exact Nat.lt_of_lt_of_le hl (by decide), rfl⟩, G7, _, _, _, s14.trans (s5.trans (s6.trans s7)), ?_, r5.put ky r7, p8⟩
        have T := sta_wipe (S7.updO (o' := .dK (putK av ky z)) trivial) vs
        rw [e4] at T
        exact T
    · rintro H2 ⟨G2, Γ2, acc, av, s2, S2, ra, p⟩
      have T := sta_unwipe S2
      have hD : H2 D = some (.dK av) := T.o D _ upd_same
      have gD2 : G2 D = none := T.d D (by rw [upd_same]; simp)
      have fD2 : D ∉ fps Γ2 := fun z => by have n := T.no D z; rw [upd_same] at n; cases n
      refine q (.ref D) G2 H2 Γ2 (.oK D acc) (s1.trans s2) ((T.offO oD).push (.oK hD ra) (by simp [Sl.fp]) ?_ ?_ ?_) (hd D acc Γ2 (by rw [← hn]; exact p))
      · intro b hb; simp [Sl.fp] at hb; subst hb; exact gD2
      · intro b hb; simp [Sl.fp] at hb; subst hb; exact oD
      · intro b hb; simp [Sl.fp] at hb; subst hb; exact fD2) x
theorem evo_dnT (hw : Wr g vs) (hm : MoG g) (h : EvI K W wi Γ (fun xs Γ1 => DCT K g tt tk tv vs PO xs (wipeG Γ1 vs)) X) : EvO K W (tDn true wi g tt tk tv vs) Γ PO X := fun O G H σ Q S q x =>
  h O G H σ _ S (fun J G1 H1 Γ1 xs n GG Y s1 S1 w hn hG hY ⟨I, h0, hs, hd⟩ => by
    intro D nD
    have oD : O D = none := S1.o.free nD
    have gD : G1 D = none := S1.g.free nD
    have fD : D ∉ fps Γ1 := fun z => S1.there D z nD
    have xf : ∀ {O' G' : Hp} {σ' : St}, XOk K WF O' G' σ' XF := fun {O' G' σ'} C d fs G2 H2 Γ2 _ _ _ z => z
    refine dn_it (t := true) w (fun k H' => ∃ (G2 : Hp) (Γ2 : Gm) (acc : List (List Key × Dt)) (av : List (List Key × V)), Same G1 G2 ∧ Sta K (upd O D (.dT av)) G2 H' (wipe σ vs) Γ2 ∧ RepT K G2 av acc ∧ I k acc Γ2) ?_ (fun k H' _ ⟨G2, Γ2, acc, av, s2, S2, _⟩ => hG H' (s2.trans S2.g)) ?_ ?_
    · have T := (S1.ext (Ext.raw (ob := .dT []) S1.g nD)).toO upd_same oD gD fD trivial
      exact ⟨G1, _, [], [], Same.refl _, sta_wipe T vs, .nil, h0⟩
    · rintro k v H2 H3 hk ⟨G2, Γ2, acc, av, s2, S2, ra, p⟩ y
      have hx : xs[k]? = some (xs[k]'(by omega)) := by simp
      obtain ⟨G3, ex, r⟩ := hY k _ v G2 H2 H3 hx s2 S2.g y
      refine hm _ _ _ _ _ (fun σ2 H2 z => (fun (e : wipe σ2 vs = wipe σ vs) => ⟨e, z.2 e⟩) (z.1.trans (wipe_in fun v hv => hv))) (hw v (wipe σ vs) H3 (fun σ2 H2 => wipe σ2 vs = wipe σ vs → tt σ2 H2 fun b H3 => if b = true then tk σ2 H3 fun y H4 => tv σ2 H4 fun z H5 => ∃ H6, DPut H5 D y z H6 ∧
        ∃ (G2 : Hp) (Γ2 : Gm) (acc_1 : List (List Key × Dt)) (av : List (List Key × V)), Same G1 G2 ∧ Sta K (upd O D (.dT av)) G2 H6 (wipe σ vs) Γ2 ∧ RepT K G2 av acc_1 ∧ I (k + 1) acc_1 Γ2
        else ∃ (G2 : Hp) (Γ2 : Gm) (acc : List (List Key × Dt)) (av : List (List Key × V)), Same G1 G2 ∧ Sta K (upd O D (.dT av)) G2 H3 (wipe σ vs) Γ2 ∧ RepT K G2 av acc ∧ I (k + 1) acc Γ2) ?_)
      refine hs k _ acc Γ2 hx p _ G3 H3 _ v _ (S2.ext ex) r (fun G4 H4 σ4 Γ4 s4 S4 p4 e4 => ?_) fun σ5 => xf
      have r4 : RepT K G4 av acc := (ra.mono ex.g).mono s4
      have s14 : Same G1 G4 := s2.trans (ex.g.trans s4)
      refine p4 _ G4 H4 σ4 _ S4 (fun b G5 H5 Γ5 s5 S5 p5 => ?_) xf
      cases b with
      | false =>
        refine iteF ⟨G5, _, acc, av, s14.trans s5, ?_, r4.mono s5, p5.2 rfl⟩
        have T := sta_wipe S5 vs
        rw [e4] at T
        exact T
      | true =>
        refine iteT (p5.1 rfl _ G5 H5 σ4 _ S5 (fun y G6 H6 Γ6 dy s6 S6 r6 p6 => ?_) xf)
        refine p6 _ G6 H6 σ4 _ S6 (fun z G7 H7 Γ7 dz s7 S7 r7 p7 => ?_) xf
        obtain ⟨ky, ek, hl, p8⟩ := p7
        subst ek
        have r5 := ((r4.mono s5).mono s6).mono s7
        cases r6 with
        | @tup b ys _ hb rb =>
        rw [reps_kD rb] at hb
        refine ⟨_, .inr ⟨av, ky, b, S7.o D _ upd_same, rfl, S7.g _ _ (s7 _ _ hb), by rw [r5.length]; exact Nat.lt_of_lt_of_le hl (by decide), rfl⟩, G7, _, _, _, s14.trans (s5.trans (s6.trans s7)), ?_, r5.put ky r7, p8⟩
        have T := sta_wipe (S7.updO (o' := .dT (putK av ky z)) trivial) vs
        rw [e4] at T
        exact T
    · rintro H2 ⟨G2, Γ2, acc, av, s2, S2, ra, p⟩
      have T := sta_unwipe S2
      have hD : H2 D = some (.dT av) := T.o D _ upd_same
      have gD2 : G2 D = none := T.d D (by rw [upd_same]; simp)
      have fD2 : D ∉ fps Γ2 := fun z => by have n := T.no D z; rw [upd_same] at n; cases n
      refine q (.ref D) G2 H2 Γ2 (.oT D acc) (s1.trans s2) ((T.offO oD).push (.oT hD ra) (by simp [Sl.fp]) ?_ ?_ ?_) (hd D acc Γ2 (by rw [← hn]; exact p))
      · intro b hb; simp [Sl.fp] at hb; subst hb; exact gD2
      · intro b hb; simp [Sl.fp] at hb; subst hb; exact oD
      · intro b hb; simp [Sl.fp] at hb; subst hb; exact fD2) x
theorem mkDn {X : Cx} {e : Expr} (vs : List Nat) {t : Bool} {wi : TI} {g : TG} {tt : TT} {tk tv : TE} {l : List Nat} (h : PE X e (tDn t wi g tt tk tv l)) (q : l = vs := by rfl) : PE X e (tDn t wi g tt tk tv vs) := by subst q; exact h
instance [h : WrC g vs] : Wk (EvO K W (tDn false wi g tt tk tv vs) Γ PO X) (EvI K W wi Γ (fun xs Γ1 => DCK K g tt tk tv vs PO xs (wipeG Γ1 vs)) X) := ⟨fun q => evo_dnK h.h h.m q⟩
instance [h : WrC g vs] : Wk (EvO K W (tDn true wi g tt tk tv vs) Γ PO X) (EvI K W wi Γ (fun xs Γ1 => DCT K g tt tk tv vs PO xs (wipeG Γ1 vs)) X) := ⟨fun q => evo_dnT h.h h.m q⟩
instance (priority := 2000) {l : List Nat} [h : WipeC Γ l Γ'] : Wk (DCK K g tt tk tv vs PO xs (wipeG Γ l)) (DCK K g tt tk tv vs PO xs Γ') := ⟨fun q => by rw [h.h]; exact q⟩
instance (priority := 2000) {l : List Nat} [h : WipeC Γ l Γ'] : Wk (DCT K g tt tk tv vs PO xs (wipeG Γ l)) (DCT K g tt tk tv vs PO xs Γ') := ⟨fun q => by rw [h.h]; exact q⟩
theorem dck_map {β : Type} {ys : List β} {pic : β → Dt} (fk : β → Key) (fv : β → Dt) (hl : ys.length ≤ 1000000)
    (hs : ∀ (k : Nat) y, ys[k]? = some y → GoG K WF g (pic y) Γ (fun Γ3 => EvT K WF tt Γ3 (fun b Γ4 => Br b (Ev K WF tk Γ4 (fun u Γ5 => Ev K WF tv Γ5 (fun z Γ6 => u = kD (fk y) ∧ z = fv y ∧ wipeG Γ6 vs = Γ) XF) XF) False) XF) XF)
    (hd : ∀ a, PO (.oK a (mrgD (ys.map fun y => (fk y, fv y)))) Γ) : DCK K g tt tk tv vs PO (ys.map pic) Γ := by
  have len : ∀ (l : List (Key × Dt)), (mrgD l).length ≤ l.length := fun l => by
    have : ∀ (l acc : List (Key × Dt)), (l.foldl (fun acc kv => pA acc kv.1 kv.2) acc).length ≤ acc.length + l.length := fun l => by
      induction l with
      | nil => intro acc; simp
      | cons p r ih =>
        intro acc
        have := ih (pA acc p.1 p.2)
        have := pA_len acc p.1 p.2
        simp only [List.foldl_cons, List.length_cons]
        omega
    have z := this l []
    rw [List.length_nil, Nat.zero_add] at z
    exact z
  refine ⟨fun k acc Γ2 => Γ2 = Γ ∧ acc = mrgD ((ys.take k).map fun y => (fk y, fv y)), ⟨rfl, by simp [mrgD]⟩, fun k x acc Γ2 hx hJ => ?_, fun a acc Γ2 hJ => ?_⟩
  · obtain ⟨rfl, hJ⟩ := hJ
    rw [List.getElem?_map] at hx
    cases q : ys[k]? with
    | none => rw [q] at hx; cases hx
    | some y =>
      rw [q] at hx; cases hx
      have hk : k < ys.length := (List.getElem?_eq_some_iff.mp q).1
      intro O G H σ v Q S r q' e
      refine hs k y q O G H σ v Q S r (fun G2 H2 σ2 Γ2 s S2 p => q' G2 H2 σ2 Γ2 s S2 ?_) e
      intro O G H σ Q S q3 x3
      refine p O G H σ Q S (fun b G2 H2 Γ2 s S2 p2 => q3 b G2 H2 Γ2 s S2 ?_) x3
      refine ⟨fun hb => ?_, fun hb => (p2.2 hb).elim⟩
      exact (p2.1 hb).imp fun u Γ5 h5 => h5.imp fun z Γ6 ⟨e1, e2, e3⟩ => ⟨fk y, e1, by
        rw [hJ]
        have := len ((ys.take k).map fun y => (fk y, fv y))
        rw [List.length_map, List.length_take] at this
        omega, e3, by rw [hJ, e2, List.take_add_one, q]; simp [mrgD, List.foldl_append]⟩
  · obtain ⟨rfl, hJ⟩ := hJ
    rw [hJ]
    simpa using hd a
theorem dct_map {β : Type} {ys : List β} {pic : β → Dt} (fk : β → List Key) (fv : β → Dt) (hl : ys.length ≤ 1000000)
    (hs : ∀ (k : Nat) y, ys[k]? = some y → GoG K WF g (pic y) Γ (fun Γ3 => EvT K WF tt Γ3 (fun b Γ4 => Br b (Ev K WF tk Γ4 (fun u Γ5 => Ev K WF tv Γ5 (fun z Γ6 => u = kDs (fk y) ∧ z = fv y ∧ wipeG Γ6 vs = Γ) XF) XF) False) XF) XF)
    (hd : ∀ a, PO (.oT a (mrgD (ys.map fun y => (fk y, fv y)))) Γ) : DCT K g tt tk tv vs PO (ys.map pic) Γ := by
  have len : ∀ (l : List (List Key × Dt)), (mrgD l).length ≤ l.length := fun l => by
    have : ∀ (l acc : List (List Key × Dt)), (l.foldl (fun acc kv => pA acc kv.1 kv.2) acc).length ≤ acc.length + l.length := fun l => by
      induction l with
      | nil => intro acc; simp
      | cons p r ih =>
        intro acc
        have := ih (pA acc p.1 p.2)
        have := pA_len acc p.1 p.2
        simp only [List.foldl_cons, List.length_cons]
        omega
    have z := this l []
    rw [List.length_nil, Nat.zero_add] at z
    exact z
  refine ⟨fun k acc Γ2 => Γ2 = Γ ∧ acc = mrgD ((ys.take k).map fun y => (fk y, fv y)), ⟨rfl, by simp [mrgD]⟩, fun k x acc Γ2 hx hJ => ?_, fun a acc Γ2 hJ => ?_⟩
  · obtain ⟨rfl, hJ⟩ := hJ
    rw [List.getElem?_map] at hx
    cases q : ys[k]? with
    | none => rw [q] at hx; cases hx
    | some y =>
      rw [q] at hx; cases hx
      have hk : k < ys.length := (List.getElem?_eq_some_iff.mp q).1
      intro O G H σ v Q S r q' e
      refine hs k y q O G H σ v Q S r (fun G2 H2 σ2 Γ2 s S2 p => q' G2 H2 σ2 Γ2 s S2 ?_) e
      intro O G H σ Q S q3 x3
      refine p O G H σ Q S (fun b G2 H2 Γ2 s S2 p2 => q3 b G2 H2 Γ2 s S2 ?_) x3
      refine ⟨fun hb => ?_, fun hb => (p2.2 hb).elim⟩
      exact (p2.1 hb).imp fun u Γ5 h5 => h5.imp fun z Γ6 ⟨e1, e2, e3⟩ => ⟨fk y, e1, by
        rw [hJ]
        have := len ((ys.take k).map fun y => (fk y, fv y))
        rw [List.length_map, List.length_take] at this
        omega, e3, by rw [hJ, e2, List.take_add_one, q]; simp [mrgD, List.foldl_append]⟩
  · obtain ⟨rfl, hJ⟩ := hJ
    rw [hJ]
    simpa using hd a
def dGetD : Dt → Dt → Dt → (Dt → Prop) → Prop
  | .dK kvs, y, z, R => KeyQ y fun k => R ((vA kvs k).getD z)
  | .dT kvs, y, z, R => KeysQ y fun k => R ((vA kvs k).getD z)
  | _, _, _, _ => False
theorem dgd_K {G1 H1 : Hp} {a : Addr} {xs : List (Key × V)} {kvs : List (Key × Dt)} {y z : V} {dy dz : Dt} {R : Dt → Prop} {Q : VK} (h : Rd H1 a (.dK xs)) (r : RepK K G1 xs kvs) (ry : Rep K G1 y dy) (rz : Rep K G1 z dz) (p : KeyQ dy fun k => R ((vA kvs k).getD dz)) (q : ∀ v d, Rep K G1 v d → R d → Q v H1) :
    ∃ o, DGet H1 a y o ∧ Q (o.getD z) H1 := by
  obtain ⟨k, e, p⟩ := p
  subst e
  rw [kD_inj ry]
  refine ⟨_, dget_K (ds := []) h, q _ _ ?_ p⟩
  obtain ⟨g1, g2⟩ := r.get k
  cases e : vA kvs k with
  | none => rw [g2 e]; exact rz
  | some d => obtain ⟨v, ev, rv⟩ := g1 d e; rw [ev]; exact rv
theorem dgd_T {G1 H1 : Hp} {a : Addr} {xs : List (List Key × V)} {kvs : List (List Key × Dt)} {y z : V} {dy dz : Dt} {R : Dt → Prop} {Q : VK} (s : Same G1 H1) (h : Rd H1 a (.dT xs)) (r : RepT K G1 xs kvs) (ry : Rep K G1 y dy) (rz : Rep K G1 z dz) (p : KeysQ dy fun k => R ((vA kvs k).getD dz)) (q : ∀ v d, Rep K G1 v d → R d → Q v H1) :
    ∃ o, DGet H1 a y o ∧ Q (o.getD z) H1 := by
  obtain ⟨k, e, p⟩ := p
  subst e
  cases ry with
  | @tup b ys _ hb rb =>
  rw [reps_kD rb] at hb
  refine ⟨_, dget_T h (s _ _ hb), q _ _ ?_ p⟩
  obtain ⟨g1, g2⟩ := r.get k
  cases e : vA kvs k with
  | none => rw [g2 e]; exact rz
  | some d => obtain ⟨v, ev, rv⟩ := g1 d e; rw [ev]; exact rv
def DicQ (d : Dt) (Q : Prop) : Prop := ((∃ kvs, d = .dK kvs) ∨ ∃ kvs, d = .dT kvs) ∧ Q
instance {kvs : List (Key × Dt)} {Q : Prop} : Wk (DicQ (.dK kvs) Q) Q := ⟨fun q => ⟨.inl ⟨kvs, rfl⟩, q⟩⟩
instance {kvs : List (List Key × Dt)} {Q : Prop} : Wk (DicQ (.dT kvs) Q) Q := ⟨fun q => ⟨.inr ⟨kvs, rfl⟩, q⟩⟩
theorem ev_dget2 (h : Ev K W td Γ (fun d Γ1 => DicQ d (Ev K W ty Γ1 (fun y Γ2 => Ev K W tx Γ2 (fun z Γ3 => dGetD d y z fun u => P u Γ3) X) X)) X) : Ev K W (tDGet2 td ty tx) Γ P X := fun O G H σ Q S q x =>
  h O G H σ _ S (fun v G1 H1 Γ1 d s1 S1 r ⟨hd, h1⟩ => by
    rcases hd with ⟨kvs, e⟩ | ⟨kvs, e⟩
    · subst e
      cases r with
      | @dK a ob xs _ ha ra =>
        refine ⟨a, rfl, .inl ⟨xs, .inr ⟨ob, S1.g _ _ ha⟩⟩, h1 O G1 H1 σ _ S1 (fun y G2 H2 Γ2 dy s2 S2 r2 h2 => h2 O G2 H2 σ _ S2 (fun z G3 H3 Γ3 dz s3 S3 r3 h3 => ?_) (x.mono (s1.trans s2))) (x.mono s1)⟩
        exact dgd_K (R := fun u => P u Γ3) (.inr ⟨ob, S3.g _ _ (s3 _ _ (s2 _ _ ha))⟩) ((ra.mono s2).mono s3) (r2.mono s3) r3 h3 fun u du ru pu => q u G3 H3 Γ3 du (s1.trans (s2.trans s3)) S3 ru pu
    · subst e
      cases r with
      | @dT a ob xs _ ha ra =>
        refine ⟨a, rfl, .inr ⟨xs, .inr ⟨ob, S1.g _ _ ha⟩⟩, h1 O G1 H1 σ _ S1 (fun y G2 H2 Γ2 dy s2 S2 r2 h2 => h2 O G2 H2 σ _ S2 (fun z G3 H3 Γ3 dz s3 S3 r3 h3 => ?_) (x.mono (s1.trans s2))) (x.mono s1)⟩
        exact dgd_T (R := fun u => P u Γ3) S3.g (.inr ⟨ob, S3.g _ _ (s3 _ _ (s2 _ _ ha))⟩) ((ra.mono s2).mono s3) (r2.mono s3) r3 h3 fun u du ru pu => q u G3 H3 Γ3 du (s1.trans (s2.trans s3)) S3 ru pu) x
theorem ev_dget2K {kv0 : List (Key × Dt)} (hi : Γ[i]? = some (some (.oK a kv0))) (h : Ev K W ty Γ (fun y Γ2 => Ev K W tx Γ2 (fun z Γ3 => OwnK Γ3 i fun _ kvs => KeyQ y fun k => P ((vA kvs k).getD z) Γ3) X) X) : Ev K W (tDGet2 (tVar i) ty tx) Γ P X := fun O G H σ Q S q x => by
  obtain ⟨x0, e0, h0, _⟩ := look_K S hi
  refine ⟨_, e0, a, rfl, .inl ⟨x0, .inl h0⟩, h O G H σ _ S (fun y G2 H2 Γ2 dy s2 S2 r2 h2 => h2 O G2 H2 σ _ S2 (fun z G3 H3 Γ3 dz s3 S3 r3 ⟨a', kvs, hg, h3⟩ => ?_) (x.mono s2)) x⟩
  obtain ⟨xs, e1, h1, r1⟩ := look_K S3 hg
  rw [e0] at e1
  cases e1
  exact dgd_K (R := fun d => P d Γ3) (.inl h1) r1 (r2.mono s3) r3 h3 fun u du ru pu => q u G3 H3 Γ3 du (s2.trans s3) S3 ru pu
instance (priority := low) : Wk (Ev K W (tDGet2 td ty tx) Γ P X) (Ev K W td Γ (fun d Γ1 => DicQ d (Ev K W ty Γ1 (fun y Γ2 => Ev K W tx Γ2 (fun z Γ3 => dGetD d y z fun u => P u Γ3) X) X)) X) := ⟨ev_dget2⟩
instance {kvs : List (Key × Dt)} [t : At Γ i (.oK a kvs)] : Wk (Ev K W (tDGet2 (tVar i) ty tx) Γ P X) (Ev K W ty Γ (fun y Γ2 => Ev K W tx Γ2 (fun z Γ3 => OwnK Γ3 i fun _ kvs => KeyQ y fun k => P ((vA kvs k).getD z) Γ3) X) X) := ⟨fun h => ev_dget2K t.h h⟩
instance {kvs : List (Key × Dt)} {y z : Dt} {R : Dt → Prop} : Wk (dGetD (.dK kvs) y z R) (KeyQ y fun k => R ((vA kvs k).getD z)) := ⟨fun h => h⟩
instance {kvs : List (List Key × Dt)} {y z : Dt} {R : Dt → Prop} : Wk (dGetD (.dT kvs) y z R) (KeysQ y fun k => R ((vA kvs k).getD z)) := ⟨fun h => h⟩
end
end DL
namespace L2
open PySem PySem.Spec PyProof.Rows
inductive LkW (t : WX → Hp → VK → Prop) : WX → Hp → VK → Prop
  | run {W : WX} {H : Hp} {Q : VK} : t W H Q → LkW t W H Q
  | lock {W : WX} {H : Hp} {Q : VK} (d : Addr) (u : HO) : H d = some u → Mut (some u) →
      (∀ od, LkW t (fun c e σ' H' => H' d = some (.frz od u) ∧ W c e σ' (upd H' d u)) (upd H d (.frz od u)) fun v H' => H' d = some (.frz od u) ∧ Q v (upd H' d u)) → LkW t W H Q
def tLn (_ : Nat) (W : WX) (t : WX → TE) : TE := fun σ H Q => LkW (fun W' => t W' σ) W H Q
section
variable {X : Cx}
theorem Takes.locked {W : WX} {d : Addr} {od : Obj} {u : HO} (tk : Takes X W) (hn : ∀ o' u', X.H_0 d ≠ some (.frz o' u')) : Takes X (fun c e σ' H' => H' d = some (.frz od u) ∧ W c e σ' (upd H' d u)) :=
  fun v s' ⟨a, B, sI, pins, σ, H, cls, dd, e, I, nb, up, sky, na, os, ag, hd, w⟩ =>
    tk v s' ⟨a, B, sI, pins, σ, upd H d u, cls, dd, e, I.unlock hd hn, nb, up, sky, by rw [upd_ne (fun z : a = d => by rw [z, hd] at na; cases na)]; exact na, os, ag, w⟩
theorem mkLn {e : Expr} {t : WX → TE} {W : WX} (i : Nat) (tk : Takes X W) (h : ∀ W', Takes X W' → PE X e (t W')) : PE X e (tLn i W t) := by
  refine ⟨fun pins s σ H Q I hw => ?_⟩
  have go : ∀ {W : WX} {H : Hp} {Q : VK}, LkW (fun W' => t W' σ) W H Q → Takes X W → Inv X pins σ H s → wpAny (model X.prog X.w) X.A (eval e X.env) (EP X pins σ Q) X.xe s := by
    intro W H Q hw
    induction hw with
    | run hw => exact fun tk I => (h _ tk).run pins s σ _ _ I hw
    | lock d u hd mu _ ih =>
      intro tk I
      obtain ⟨od, I1⟩ := I.lock hd mu
      refine thn (ih od (tk.locked (I.nofrz hd mu)) I1) fun v s1 ⟨x, H1, I2, r, e2, q⟩ => ?_
      exact ⟨x, _, I2.unlock e2 (I.nofrz hd mu), r, q⟩
  exact go hw tk I
def lkH (D : List (Addr × HO)) (od : Addr → Obj) (H : Hp) : Hp := fun b => match D.lookup b with | some u => some (.frz (od b) u) | none => H b
def reH (D : List (Addr × HO)) (H : Hp) : Hp := fun b => match D.lookup b with | some u => some u | none => H b
theorem lkW_list {t : WX → Hp → VK → Prop} : ∀ {D : List (Addr × HO)} {W : WX} {H : Hp} {Q : VK}, (D.map (·.1)).Nodup → (∀ p ∈ D, H p.1 = some p.2 ∧ Mut (some p.2)) →
    (∀ (od : Addr → Obj) (W' : WX) (Q' : VK), (∀ c e σ' H', (∀ p ∈ D, H' p.1 = some (.frz (od p.1) p.2)) → W c e σ' (reH D H') → W' c e σ' H') → (∀ v H', (∀ p ∈ D, H' p.1 = some (.frz (od p.1) p.2)) → Q v (reH D H') → Q' v H') → t W' (lkH D od H) Q') → LkW t W H Q
  | [], W, H, Q, _, _, h => .run (h (fun _ => default) W Q (fun c e σ' H' _ w => w) (fun v H' _ q => q))
  | (d, u) :: D, W, H, Q, nd, hD, h => by
    obtain ⟨n1, n2⟩ := List.nodup_cons.mp nd
    have nl : ∀ p ∈ D, p.1 ≠ d := fun p hp e => n1 (List.mem_map.mpr ⟨p, hp, e⟩)
    have look : D.lookup d = none := by
      have g : ∀ D : List (Addr × HO), (∀ p ∈ D, p.1 ≠ d) → D.lookup d = none := by
        intro D
        induction D with
        | nil => intro _; rfl
        | cons p D ih =>
          intro hp
          rw [List.lookup_cons]
          rw [show (d == p.1) = false from by rw [beq_eq_false_iff_ne]; exact fun z => hp p (List.mem_cons_self ..) z.symm]
          exact ih fun q hq => hp q (List.mem_cons_of_mem _ hq)
      exact g D nl
    obtain ⟨hd, mu⟩ := hD (d, u) (List.mem_cons_self ..)
    refine .lock d u hd mu fun od => lkW_list n2 (fun p hp => ?_) fun od' W' Q' hW hQ => ?_
    · have := hD p (List.mem_cons_of_mem _ hp)
      rw [upd_ne (nl p hp)]
      exact this
    · have e0 : ∀ b, b ≠ d → ((d, u) :: D).lookup b = D.lookup b := fun b hb => by
        rw [List.lookup_cons, show (b == d) = false from by rw [beq_eq_false_iff_ne]; exact hb]
      have e1 : ((d, u) :: D).lookup d = some u := by rw [List.lookup_cons]; simp
      have eH : lkH D od' (upd H d (.frz od u)) = lkH ((d, u) :: D) (fun b => if b = d then od else od' b) H := by
        funext b
        unfold lkH
        by_cases hb : b = d
        · subst hb
          rw [e1, look, upd_same]
          simp
        · rw [e0 b hb, upd_ne hb]
          simp only [if_neg hb]
      have eR : ∀ H', upd (reH D H') d u = reH ((d, u) :: D) H' := fun H' => by
        funext b
        unfold reH
        by_cases hb : b = d
        · subst hb
          rw [e1, upd_same]
        · rw [e0 b hb, upd_ne hb]
      have all : ∀ {H' : Hp}, (∀ p ∈ (d, u) :: D, H' p.1 = some (.frz (if p.1 = d then od else od' p.1) p.2)) → H' d = some (.frz od u) ∧ ∀ p ∈ D, H' p.1 = some (.frz (od' p.1) p.2) := fun {H'} k => by
        refine ⟨?_, fun p hp => ?_⟩
        · have := k (d, u) (List.mem_cons_self ..)
          simpa using this
        · have := k p (List.mem_cons_of_mem _ hp)
          rw [if_neg (nl p hp)] at this
          exact this
      have rd : ∀ {H' : Hp}, H' d = some (.frz od u) → reH D H' d = some (.frz od u) := fun {H'} k => by
        unfold reH
        rw [look]
        exact k
      rw [eH]
      refine h _ W' Q' (fun c e σ' H' k w => ?_) (fun v H' k q => ?_)
      · obtain ⟨k1, k2⟩ := all k
        exact hW c e σ' H' k2 ⟨rd k1, by rw [eR]; exact w⟩
      · obtain ⟨k1, k2⟩ := all k
        exact hQ v H' k2 ⟨rd k1, by rw [eR]; exact q⟩
end
end L2
namespace DL
open PySem PySem.Spec L2
mutual
def noX (c : Option Addr) : Dt → Prop
  | .lst xs => noXs c xs
  | .tup xs => noXs c xs
  | .obj C fs => some C ≠ c ∧ noXf c fs
  | .dK _ => False
  | .dT _ => False
  | .exc _ fs => noXf c fs
  | .at_ _ d => noX c d
  | .fn _ _ _ _ _ => False
  | .scr _ => True
  | .non => True
  | .bl _ => True
  | .int _ => True
  | .str _ => True
  | .ty _ => True
  | .ref _ => True
def noXs (c : Option Addr) : List Dt → Prop
  | [] => True
  | d :: r => noX c d ∧ noXs c r
def noXf (c : Option Addr) : List (Str × Dt) → Prop
  | [] => True
  | (_, d) :: r => noX c d ∧ noXf c r
end
def delS (G : Hp) (l : List Addr) : Hp := fun b => if b ∈ l then none else G b
theorem delS_in {G : Hp} {l : List Addr} {b : Addr} (h : b ∈ l) : delS G l b = none := if_pos h
theorem delS_out {G : Hp} {l : List Addr} {b : Addr} (h : b ∉ l) : delS G l b = G b := if_neg h
theorem delS_some {G : Hp} {l : List Addr} {b : Addr} {o : HO} (h : delS G l b = some o) : b ∉ l ∧ G b = some o := by
  by_cases e : b ∈ l
  · rw [delS_in e] at h; cases h
  · exact ⟨e, by rw [delS_out e] at h; exact h⟩
def Bad (c : Option Addr) (o : HO) : Prop := (∃ ob kvs, o = .frz ob (.dK kvs)) ∨ (∃ ob kvs, o = .frz ob (.dT kvs)) ∨ ∃ C dx fs, o = .ins C dx fs ∧ c = some C
section
variable {K : PySem.W.Frag} {G : Hp} {l : List Addr} {c : Option Addr}
theorem del_obS {b : Addr} {o : HO} (h : ∀ b ∈ l, ∀ o, G b = some o → Bad c o) (q : G b = some o) (n : ¬ Bad c o) : delS G l b = some o := by
  rw [delS_out fun e => n (h b e o q)]
  exact q
theorem bad_lst {xs : List V} : ¬ Bad c (.lst xs) := by rintro (⟨_, _, e⟩ | ⟨_, _, e⟩ | ⟨_, _, _, e, _⟩) <;> cases e
theorem bad_tup {xs : List V} : ¬ Bad c (.tup xs) := by rintro (⟨_, _, e⟩ | ⟨_, _, e⟩ | ⟨_, _, _, e, _⟩) <;> cases e
theorem bad_xd {xs : List (Str × V)} : ¬ Bad c (.xd xs) := by rintro (⟨_, _, e⟩ | ⟨_, _, e⟩ | ⟨_, _, _, e, _⟩) <;> cases e
theorem bad_frl {o : Obj} {xs : List V} : ¬ Bad c (.frz o (.lst xs)) := by rintro (⟨_, _, e⟩ | ⟨_, _, e⟩ | ⟨_, _, _, e, _⟩) <;> cases e
theorem bad_exk {C a : Addr} {d : Option Addr} : ¬ Bad c (ExK C d a) := by unfold ExK; rintro (⟨_, _, e⟩ | ⟨_, _, e⟩ | ⟨_, _, _, e, _⟩) <;> cases e
theorem bad_ins {C dx : Addr} {fs : List (Str × V)} (n : some C ≠ c) : ¬ Bad c (.ins C dx fs) := by
  rintro (⟨_, _, e⟩ | ⟨_, _, e⟩ | ⟨C', _, _, e, e2⟩)
  · cases e
  · cases e
  · cases e; exact n e2.symm
mutual
theorem Rep.delS (h : ∀ b ∈ l, ∀ o, G b = some o → Bad c o) : ∀ {v : V} {d : Dt}, Rep K G v d → noX c d → Rep K (DL.delS G l) v d
  | _, _, .non, _ => .non
  | _, _, .bl b, _ => .bl b
  | _, _, .int i, _ => .int i
  | _, _, .str x, _ => .str x
  | _, _, .ty n, _ => .ty n
  | _, _, .ref a, _ => .ref a
  | _, _, .lst q r, n => .lst (del_obS h q bad_lst) (Reps.delS h r (by simpa only [noX] using n))
  | _, _, .scr q, _ => .scr (by
    rcases q with (q | ⟨o, q⟩) | q
    · exact .inl (.inl (del_obS h q bad_lst))
    · exact .inl (.inr ⟨o, del_obS h q bad_frl⟩)
    · exact .inr q)
  | _, _, .tup q r, n => .tup (del_obS h q bad_tup) (Reps.delS h r (by simpa only [noX] using n))
  | _, _, .obj q r, n => .obj (del_obS h q (bad_ins (by simp only [noX] at n; exact n.1))) (RepF.delS h r (by simp only [noX] at n; exact n.2))
  | _, _, .dK q r, n => by simp [noX] at n
  | _, _, .dT q r, n => by simp [noX] at n
  | _, _, .exc q r, n => .exc (del_obS h q bad_exk) (RepX.delS h r (by simpa only [noX] using n))
  | _, _, .at_ r, n => .at_ (Rep.delS h r (by simpa only [noX] using n))
theorem Reps.delS (h : ∀ b ∈ l, ∀ o, G b = some o → Bad c o) : ∀ {v : List V} {d : List Dt}, Reps K G v d → noXs c d → Reps K (DL.delS G l) v d
  | _, _, .nil, _ => .nil
  | _, _, .cons q r, n => .cons (Rep.delS h q (by simp only [noXs] at n; exact n.1)) (Reps.delS h r (by simp only [noXs] at n; exact n.2))
theorem RepF.delS (h : ∀ b ∈ l, ∀ o, G b = some o → Bad c o) : ∀ {v : List (Str × V)} {d : List (Str × Dt)}, RepF K G v d → noXf c d → RepF K (DL.delS G l) v d
  | _, _, .nil, _ => .nil
  | _, _, .cons q r, n => .cons (Rep.delS h q (by simp only [noXf] at n; exact n.1)) (RepF.delS h r (by simp only [noXf] at n; exact n.2))
theorem RepX.delS (h : ∀ b ∈ l, ∀ o, G b = some o → Bad c o) : ∀ {v : Option Addr} {d : List (Str × Dt)}, RepX K G v d → noXf c d → RepX K (DL.delS G l) v d
  | _, _, .none, _ => .none
  | _, _, .some q r, n => .some (del_obS h q bad_xd) (RepF.delS h r n)
end
def noXv {κ : Type} (c : Option Addr) (kvs : List (κ × Dt)) : Prop := ∀ p ∈ kvs, noX c p.2
theorem RepK.delS (h : ∀ b ∈ l, ∀ o, G b = some o → Bad c o) : ∀ {v : List (Key × V)} {d : List (Key × Dt)}, RepK K G v d → noXv c d → RepK K (DL.delS G l) v d
  | _, _, .nil, _ => .nil
  | _, _, .cons q r, n => .cons (q.delS h (n _ (List.mem_cons_self ..))) (RepK.delS h r fun p hp => n p (List.mem_cons_of_mem _ hp))
theorem RepT.delS (h : ∀ b ∈ l, ∀ o, G b = some o → Bad c o) : ∀ {v : List (List Key × V)} {d : List (List Key × Dt)}, RepT K G v d → noXv c d → RepT K (DL.delS G l) v d
  | _, _, .nil, _ => .nil
  | _, _, .cons q r, n => .cons (q.delS h (n _ (List.mem_cons_self ..))) (RepT.delS h r fun p hp => n p (List.mem_cons_of_mem _ hp))
end
mutual
def noXS (c : Option Addr) : Sl → Prop
  | .fr d => noX c d
  | .ol _ ds => noXs c ds
  | .os _ φ => ∀ ds, φ ds → noXs c ds
  | .oK _ kvs => noXv c kvs
  | .oT _ kvs => noXv c kvs
  | .oo _ _ fs => noXSf c fs
  | .ex _ _ _ fs => noXf c fs
  | .tb s _ _ => noXS c s
def noXSf (c : Option Addr) : List (Str × Sl) → Prop
  | [] => True
  | (_, s) :: r => noXS c s ∧ noXSf c r
end
section
variable {K : PySem.W.Frag} {G H : Hp} {l : List Addr} {c : Option Addr}
mutual
theorem Own.delS (h : ∀ b ∈ l, ∀ o, G b = some o → Bad c o) : ∀ {v : V} {s : Sl}, Own K G H v s → noXS c s → Own K (DL.delS G l) H v s
  | _, _, .fr r, n => .fr (r.delS h (by simpa only [noXS] using n))
  | _, _, .ol q r, n => .ol q (r.delS h (by simpa only [noXS] using n))
  | _, _, .os q r p, n => .os q (r.delS h ((by simpa only [noXS] using n : ∀ ds, _ → noXs c ds) _ p)) p
  | _, _, .oK q r, n => .oK q (r.delS h (by simpa only [noXS] using n))
  | _, _, .oT q r, n => .oT q (r.delS h (by simpa only [noXS] using n))
  | _, _, .oo q r, n => .oo q (OwnF.delS h r (by simpa only [noXS] using n))
  | _, _, .ex r, n => .ex (r.delS h (by simpa only [noXS] using n))
  | _, _, .tb q e r, n => .tb q ⟨e.1, fun p u y => by
      obtain ⟨z, e1, e2⟩ := e.2 p u y
      exact ⟨z, e1, del_obS h e2 (by unfold LamX.CodeO; rintro (⟨_, _, k⟩ | ⟨_, _, k⟩ | ⟨_, _, _, k, _⟩) <;> cases k)⟩⟩ (Own.delS h r (by simpa only [noXS] using n))
theorem OwnF.delS (h : ∀ b ∈ l, ∀ o, G b = some o → Bad c o) : ∀ {v : List (Str × V)} {s : List (Str × Sl)}, OwnF K G H v s → noXSf c s → OwnF K (DL.delS G l) H v s
  | _, _, .nil, _ => .nil
  | _, _, .cons q r, n => .cons (Own.delS h q (by simp only [noXSf] at n; exact n.1)) (OwnF.delS h r (by simp only [noXSf] at n; exact n.2))
end
end
inductive LnF : List (Str × Sl) → List (Str × Dt) → Prop
  | nil : LnF [] []
  | fr {f : Str} {d : Dt} {fs : List (Str × Sl)} {ds : List (Str × Dt)} : LnF fs ds → LnF ((f, .fr d) :: fs) ((f, d) :: ds)
  | oK {f : Str} {b : Addr} {kvs : List (Key × Dt)} {fs : List (Str × Sl)} {ds : List (Str × Dt)} : LnF fs ds → LnF ((f, .oK b kvs) :: fs) ((f, .dK kvs) :: ds)
  | oT {f : Str} {b : Addr} {kvs : List (List Key × Dt)} {fs : List (Str × Sl)} {ds : List (Str × Dt)} : LnF fs ds → LnF ((f, .oT b kvs) :: fs) ((f, .dT kvs) :: ds)
inductive Ln : Sl → Dt → Prop
  | oK (b : Addr) (kvs : List (Key × Dt)) : Ln (.oK b kvs) (.dK kvs)
  | oT (b : Addr) (kvs : List (List Key × Dt)) : Ln (.oT b kvs) (.dT kvs)
  | oo (a C : Addr) {fs : List (Str × Sl)} {ds : List (Str × Dt)} : LnF fs ds → Ln (.oo a C fs) (.obj C ds)
def lnC : Sl → Option Addr
  | .oo _ C _ => some C
  | _ => none
section
variable {K : PySem.W.Frag} {G H : Hp}
theorem LnF.dicts : ∀ {fs : List (Str × Sl)} {ds : List (Str × Dt)}, LnF fs ds → ∀ {vs : List (Str × V)}, OwnF K G H vs fs → ∃ D : List (Addr × HO), D.map (·.1) = fpF fs ∧ (∀ p ∈ D, H p.1 = some p.2 ∧ Mut (some p.2) ∧ ∀ ob c, Bad c (.frz ob p.2)) ∧
    ∀ (G1 : Hp) (od : Addr → Obj), Same G G1 → (∀ p ∈ D, G1 p.1 = some (.frz (od p.1) p.2)) → RepF K G1 vs ds
  | _, _, .nil, _, .nil => ⟨[], rfl, fun p hp => (nomatch hp), fun G1 od _ _ => .nil⟩
  | _, _, .fr h, _, .cons (.fr r) t => by
    obtain ⟨D, e, h1, h2⟩ := h.dicts t
    exact ⟨D, by simpa [fpF, Sl.fp] using e, h1, fun G1 od s k => .cons (r.mono s) (h2 G1 od s k)⟩
  | _, _, .oK h, _, .cons (.oK hb r) t => by
    obtain ⟨D, e, h1, h2⟩ := h.dicts t
    refine ⟨(_, _) :: D, by simp [fpF, Sl.fp, e], fun p hp => ?_, fun G1 od s k => .cons (.dK (k _ (List.mem_cons_self ..)) (r.mono s)) (h2 G1 od s fun p hp => k p (List.mem_cons_of_mem _ hp))⟩
    rcases List.mem_cons.mp hp with e | hp
    · subst e; exact ⟨hb, trivial, fun ob c => .inl ⟨_, _, rfl⟩⟩
    · exact h1 p hp
  | _, _, .oT h, _, .cons (.oT hb r) t => by
    obtain ⟨D, e, h1, h2⟩ := h.dicts t
    refine ⟨(_, _) :: D, by simp [fpF, Sl.fp, e], fun p hp => ?_, fun G1 od s k => .cons (.dT (k _ (List.mem_cons_self ..)) (r.mono s)) (h2 G1 od s fun p hp => k p (List.mem_cons_of_mem _ hp))⟩
    rcases List.mem_cons.mp hp with e | hp
    · subst e; exact ⟨hb, trivial, fun ob c => .inr (.inl ⟨_, _, rfl⟩)⟩
    · exact h1 p hp
theorem Ln.dicts {s : Sl} {d : Dt} (h : Ln s d) {v : V} (o : Own K G H v s) (nd : s.fp.Nodup) : ∃ D : List (Addr × HO), (D.map (·.1)).Nodup ∧ (∀ p ∈ D, p.1 ∈ s.fp ∧ H p.1 = some p.2 ∧ Mut (some p.2) ∧ ∀ ob c, Bad c (.frz ob p.2)) ∧
    (∀ b ∈ s.fp, b ∉ D.map (·.1) → ∃ C dx fs, H b = some (.ins C dx fs) ∧ lnC s = some C) ∧
    ∀ (G1 : Hp) (od : Addr → Obj), Same G G1 → (∀ p ∈ D, G1 p.1 = some (.frz (od p.1) p.2)) → (∀ b ∈ s.fp, b ∉ D.map (·.1) → G1 b = H b) → Rep K G1 v d := by
  cases h with
  | oK b kvs =>
    cases o with
    | oK hb r =>
      refine ⟨[(b, _)], by simp, fun p hp => ?_, fun x hx hn => ?_, fun G1 od s k _ => .dK (k _ (List.mem_cons_self ..)) (r.mono s)⟩
      · rw [List.mem_singleton] at hp
        subst hp; exact ⟨by simp [Sl.fp], hb, trivial, fun ob c => .inl ⟨_, _, rfl⟩⟩
      · exact absurd (by simpa [Sl.fp] using hx) hn
  | oT b kvs =>
    cases o with
    | oT hb r =>
      refine ⟨[(b, _)], by simp, fun p hp => ?_, fun x hx hn => ?_, fun G1 od s k _ => .dT (k _ (List.mem_cons_self ..)) (r.mono s)⟩
      · rw [List.mem_singleton] at hp
        subst hp; exact ⟨by simp [Sl.fp], hb, trivial, fun ob c => .inr (.inl ⟨_, _, rfl⟩)⟩
      · exact absurd (by simpa [Sl.fp] using hx) hn
  | oo a C hf =>
    cases o with
    | @oo _ _ dx vs _ ha of =>
      obtain ⟨D, e, h1, h2⟩ := hf.dicts of
      simp only [Sl.fp] at nd
      obtain ⟨n1, n2⟩ := List.nodup_cons.mp nd
      refine ⟨D, by rw [e]; exact n2, fun p hp => ⟨?_, h1 p hp⟩, fun b hb hn => ?_, fun G1 od s k k2 => .obj (fs := vs) (by rw [k2 a (by simp [Sl.fp]) (by rw [e]; exact n1)]; exact ha) (h2 G1 od s k)⟩
      · simp only [Sl.fp]; exact List.mem_cons_of_mem _ (by rw [← e]; exact List.mem_map.mpr ⟨p, hp, rfl⟩)
      · simp only [Sl.fp] at hb
        rcases List.mem_cons.mp hb with z | z
        · subst z; exact ⟨C, dx, vs, ha, rfl⟩
        · rw [e] at hn; exact absurd z hn
end
theorem look_mem {D : List (Addr × HO)} {b : Addr} {u : HO} (h : D.lookup b = some u) : (b, u) ∈ D := by
  induction D with
  | nil => cases h
  | cons q D ih =>
    rw [List.lookup_cons] at h
    cases e : (b == q.1) with
    | true =>
      rw [e] at h
      have e1 : b = q.1 := by simpa using e
      cases h
      rw [e1]
      exact List.mem_cons_self ..
    | false =>
      rw [e] at h
      exact List.mem_cons_of_mem _ (ih h)
theorem look_none {D : List (Addr × HO)} {b : Addr} (h : b ∉ D.map (·.1)) : D.lookup b = none := by
  cases e : D.lookup b with
  | none => rfl
  | some u => exact absurd (List.mem_map.mpr ⟨_, look_mem e, rfl⟩) h
theorem look_some {D : List (Addr × HO)} (nd : (D.map (·.1)).Nodup) {p : Addr × HO} (h : p ∈ D) : D.lookup p.1 = some p.2 := by
  induction D with
  | nil => cases h
  | cons q D ih =>
    obtain ⟨n1, n2⟩ := List.nodup_cons.mp nd
    rw [List.lookup_cons]
    rcases List.mem_cons.mp h with e | h
    · subst e; simp
    · rw [show (p.1 == q.1) = false from by rw [beq_eq_false_iff_ne]; exact fun z => n1 (List.mem_map.mpr ⟨p, h, z⟩)]
      exact ih n2 h
def KeepX (c : Option Addr) (Γ Γ2 : Gm) (i : Nat) : Prop := ∀ (j : Nat) (s : Sl), j ≠ i → Γ2[j]? = some (some s) → noXS c s ∨ ∃ d, s = .fr d ∧ Γ[j]? = some (some (.fr d))
section
variable {K : PySem.W.Frag} {W : WX} {Γ Γ2 : Gm} {X : XP} {P : Dt → Gm → Prop} {PO : Sl → Gm → Prop} {i : Nat} {s : Sl} {d : Dt}
structure LentAt (K : PySem.W.Frag) (O G H G1 H1 : Hp) (σ : St) (Γ : Gm) (i : Nat) (s : Sl) (d : Dt) (D : List (Addr × HO)) (od : Addr → Obj) : Prop where
  s1 : Same G G1
  S1 : Sta K O G1 H1 σ (Γ.set i (some (.fr d)))
  gD : ∀ p ∈ D, G1 p.1 = some (.frz (od p.1) p.2)
  gR : ∀ b ∈ s.fp, b ∉ D.map (·.1) → G1 b = H b
theorem Sta.lend {O G H : Hp} {σ : St} (S : Sta K O G H σ Γ) (hi : Γ[i]? = some (some s)) (hl : Ln s d) : ∃ (v : V) (D : List (Addr × HO)), σ[i]? = some (some v) ∧ Own K G H v s ∧ (D.map (·.1)).Nodup ∧ (∀ p ∈ D, p.1 ∈ s.fp ∧ H p.1 = some p.2 ∧ Mut (some p.2) ∧ ∀ ob c, Bad c (.frz ob p.2)) ∧
    (∀ b ∈ s.fp, b ∉ D.map (·.1) → ∃ C dx fs, H b = some (.ins C dx fs) ∧ lnC s = some C) ∧ ∀ od, ∃ G1, LentAt K O G H G1 (lkH D od H) σ Γ i s d D od := by
  obtain ⟨v, ev, ow⟩ := S.get hi
  obtain ⟨m1, m2⟩ := fps_part hi S.nd
  obtain ⟨D, n, h1, h2, h3⟩ := hl.dicts ow m1
  refine ⟨v, D, ev, ow, n, h1, h2, fun od => ?_⟩
  have ng : ∀ b ∈ s.fp, G b = none := fun b hb => S.ng b (mem_fps hi b hb)
  have no : ∀ b ∈ s.fp, O b = none := fun b hb => S.no b (mem_fps hi b hb)
  have out : ∀ b, b ∉ s.fp → lkH D od H b = H b := fun b hb => by
    unfold lkH
    rw [look_none fun z => hb (by obtain ⟨p, hp, e⟩ := List.mem_map.mp z; rw [← e]; exact (h1 p hp).1)]
  have outN : ∀ b, b ∉ D.map (·.1) → lkH D od H b = H b := fun b hb => by
    unfold lkH
    rw [look_none hb]
  have inD : ∀ p ∈ D, lkH D od H p.1 = some (.frz (od p.1) p.2) := fun p hp => by
    unfold lkH
    rw [look_some n hp]
  refine ⟨forn G (lkH D od H) s.fp, ?_⟩
  have s1 : Same G (forn G (lkH D od H) s.fp) := fun b o q => by
    rw [forn_out fun z => by rw [ng b z] at q; cases q]
    exact q
  have gD : ∀ p ∈ D, forn G (lkH D od H) s.fp p.1 = some (.frz (od p.1) p.2) := fun p hp => by rw [forn_in (h1 p hp).1]; exact inD p hp
  have gR : ∀ b ∈ s.fp, b ∉ D.map (·.1) → forn G (lkH D od H) s.fp b = H b := fun b hb hn => by rw [forn_in hb]; exact outN b hn
  have rep := h3 _ od s1 gD gR
  refine ⟨s1, ?_, gD, gR⟩
  have Sf := S.forget i (some v)
  rw [set_here ev] at Sf
  have T : Sta K O (forn G (lkH D od H) s.fp) (lkH D od H) σ (Γ.set i none) := by
    refine ⟨fun b o q => ?_, fun b o q => ?_, fun b hb => ?_, Sf.sl.mono s1 fun b hb o q => ?_, Sf.nd, fun b hb => ?_, Sf.no, Sf.om⟩
    · by_cases hb : b ∈ s.fp
      · rw [forn_in hb] at q; exact q
      · rw [forn_out hb] at q; rw [out b hb]; exact S.g b o q
    · rw [out b fun z => by rw [no b z] at q; cases q]; exact S.o b o q
    · rw [forn_out fun z => hb (no b z)]; exact S.d b hb
    · rw [out b fun z => m2 b z hb]; exact q
    · rw [forn_out fun z => m2 b z hb]; exact Sf.ng b hb
  have T2 := T.putF rep i
  rw [set_here ev, List.set_set] at T2
  exact T2
theorem Sta.unlend {O G H G1 G2 H2 : Hp} {σ σ2 : St} {D : List (Addr × HO)} {od : Addr → Obj} {v : V} {i2 : Nat} {d2 : Dt} (S : Sta K O G H σ Γ) (hi : Γ[i]? = some (some s)) (ow : Own K G H v s) (n : (D.map (·.1)).Nodup) (h1 : ∀ p ∈ D, p.1 ∈ s.fp ∧ H p.1 = some p.2 ∧ Mut (some p.2) ∧ ∀ ob c, Bad c (.frz ob p.2))
    (h2 : ∀ b ∈ s.fp, b ∉ D.map (·.1) → ∃ C dx fs, H b = some (.ins C dx fs) ∧ lnC s = some C) (L : LentAt K O G H G1 (lkH D od H) σ Γ i s d D od) (s2 : Same G1 G2) (S2 : Sta K O G2 H2 σ2 Γ2) (hi2 : Γ2[i2]? = some (some (.fr d2))) (ev2 : σ2[i2]? = some (some v))
    (k : ∀ (j : Nat) (s' : Sl), j ≠ i2 → Γ2[j]? = some (some s') → noXS (lnC s) s' ∨ ∃ d w, s' = .fr d ∧ σ2[j]? = some (some w) ∧ Rep K G w d) :
    (∀ b ∈ s.fp, ∀ o, G2 b = some o → Bad (lnC s) o) ∧ Same G (delS G2 s.fp) ∧ (∀ p ∈ D, H2 p.1 = some (.frz (od p.1) p.2)) ∧ Sta K O (delS G2 s.fp) (reH D H2) σ2 (Γ2.set i2 (some s)) := by
  have ng : ∀ b ∈ s.fp, G b = none := fun b hb => S.ng b (mem_fps hi b hb)
  have no : ∀ b ∈ s.fp, O b = none := fun b hb => S.no b (mem_fps hi b hb)
  obtain ⟨m1, _⟩ := fps_part hi S.nd
  have g2 : ∀ b ∈ s.fp, ∃ o, G2 b = some o ∧ Bad (lnC s) o ∧ reH D H2 b = H b := fun b hb => by
    by_cases hd : b ∈ D.map (·.1)
    · obtain ⟨p, hp, e⟩ := List.mem_map.mp hd
      subst e
      refine ⟨_, s2 _ _ (L.gD p hp), (h1 p hp).2.2.2 _ _, ?_⟩
      unfold reH
      rw [look_some n hp]
      exact (h1 p hp).2.1.symm
    · obtain ⟨C, dx, fs, e1, e2⟩ := h2 b hb hd
      have g : G1 b = some (.ins C dx fs) := by rw [L.gR b hb hd]; exact e1
      refine ⟨_, s2 _ _ g, .inr (.inr ⟨C, dx, fs, rfl, e2⟩), ?_⟩
      unfold reH
      rw [look_none hd]
      exact (S2.g _ _ (s2 _ _ g)).trans e1.symm
  have out : ∀ b, b ∉ s.fp → reH D H2 b = H2 b := fun b hb => by
    unfold reH
    rw [look_none fun z => hb (by obtain ⟨p, hp, e⟩ := List.mem_map.mp z; rw [← e]; exact (h1 p hp).1)]
  have bad : ∀ b ∈ s.fp, ∀ o, G2 b = some o → Bad (lnC s) o := fun b hb o q => by
    obtain ⟨o', e1, e2, _⟩ := g2 b hb
    rw [q] at e1; cases e1; exact e2
  have sd : Same G (delS G2 s.fp) := fun b o q => by
    rw [delS_out fun z => by rw [ng b z] at q; cases q]
    exact s2 b o (L.s1 b o q)
  refine ⟨bad, sd, fun p hp => S2.g _ _ (s2 _ _ (L.gD p hp)), ⟨fun b o q => ?_, fun b o q => ?_, fun b hb => ?_, ?_, ?_, fun b hb => ?_, fun b hb => ?_, S2.om⟩⟩
  · obtain ⟨q1, q2⟩ := delS_some q
    rw [out b q1]
    exact S2.g b o q2
  · rw [out b fun z => by rw [no b z] at q; cases q]
    exact S2.o b o q
  · by_cases z : b ∈ s.fp
    · exact delS_in z
    · rw [delS_out z]; exact S2.d b hb
  · refine Slots.of (by rw [List.length_set]; exact S2.sl.len) fun j s' e => ?_
    by_cases hj : i2 = j
    · subst hj
      rw [List.getElem?_set_self (List.getElem?_eq_some_iff.mp hi2).1] at e
      obtain rfl : s = s' := Option.some.inj (Option.some.inj e)
      exact ⟨v, ev2, ow.mono sd fun b hb o q => by obtain ⟨_, _, _, e3⟩ := g2 b hb; rw [e3]; exact q⟩
    · rw [List.getElem?_set_ne hj] at e
      obtain ⟨w, ew, o2⟩ := S2.get e
      refine ⟨w, ew, ?_⟩
      rcases k j s' (fun z => hj z.symm) e with nx | ⟨d0, w0, rfl, e0, r0⟩
      · exact (o2.delS bad nx).mono (Same.refl _) fun b hb o q => by
          rw [out b fun z => by
            obtain ⟨_, e1, _⟩ := g2 b z
            rw [S2.ng b (mem_fps e b hb)] at e1; cases e1]
          exact q
      · rw [ew] at e0
        obtain rfl : w = w0 := Option.some.inj (Option.some.inj e0)
        exact .fr (r0.mono sd)
  · refine fps_set_nd i2 ?_
    show (s.fp ++ fps Γ2).Nodup
    rw [List.nodup_append]
    refine ⟨m1, S2.nd, fun x hx y hy e => ?_⟩
    subst e
    obtain ⟨_, e1, _⟩ := g2 x hx
    rw [S2.ng x hy] at e1; cases e1
  · by_cases z : b ∈ s.fp
    · exact delS_in z
    · rw [delS_out z]
      rcases fps_set_sub i2 b hb with y | y
      · exact absurd y z
      · exact S2.ng b y
  · rcases fps_set_sub i2 b hb with y | y
    · exact no b y
    · exact S2.no b y
def LendX (c : Option Addr) (Γ Γ2 : Gm) (i : Nat) (s : Sl) (d : Dt) (N : Prop) (Q : Gm → Prop) : Prop := (N ∧ Γ2[i]? = some (some (.fr d)) ∧ KeepX c Γ Γ2 i) ∧ Q (Γ2.set i (some s))
theorem ev_ln {t : WX → TE} (hi : Γ[i]? = some (some s)) (hl : Ln s d) (h : ∀ W', Ev K W' (t W') (Γ.set i (some (.fr d))) (fun z Γ2 => LendX (lnC s) (Γ.set i (some (.fr d))) Γ2 i s d (noX (lnC s) z) (P z)) (fun C fs Γ2 => LendX (lnC s) (Γ.set i (some (.fr d))) Γ2 i s d (noXf (lnC s) fs) (X C fs))) : Ev K W (tLn i W t) Γ P X := fun O G H σ Q S q x => by
  obtain ⟨v, D, ev, ow, n, h1, h2, hG⟩ := S.lend hi hl
  refine lkW_list n (fun p hp => ⟨(h1 p hp).2.1, (h1 p hp).2.2.1⟩) fun od W' Q' hW hQ => ?_
  obtain ⟨G1, L⟩ := hG od
  have keep : ∀ {Γ2 : Gm}, KeepX (lnC s) (Γ.set i (some (.fr d))) Γ2 i → ∀ (j : Nat) (s' : Sl), j ≠ i → Γ2[j]? = some (some s') → noXS (lnC s) s' ∨ ∃ d w, s' = .fr d ∧ σ[j]? = some (some w) ∧ Rep K G w d := fun {Γ2} k j s' hj e => by
    rcases k j s' hj e with n | ⟨d0, rfl, e0⟩
    · exact .inl n
    · rw [List.getElem?_set_ne (Ne.symm hj)] at e0
      obtain ⟨w, ew, r⟩ := S.getF e0
      exact .inr ⟨d0, w, rfl, ew, r⟩
  refine h W' O G1 _ σ Q' L.S1 (fun u G2 H2 Γ2 z s2 S2 r ⟨⟨nz, hi2, k⟩, p⟩ => ?_) (fun C e fs G2 H2 Γ2 s2 S2 r ⟨⟨nz, hi2, k⟩, p⟩ => ?_)
  · obtain ⟨bad, sd, hD, S3⟩ := S.unlend hi ow n h1 h2 L s2 S2 hi2 ev (keep k)
    exact hQ u H2 hD (q u _ _ _ z sd S3 (r.delS bad nz) p)
  · obtain ⟨bad, sd, hD, S3⟩ := S.unlend hi ow n h1 h2 L s2 S2 hi2 ev (keep k)
    exact hW _ e σ H2 hD (x C e fs _ _ _ sd S3 (r.delS bad nz) p)
theorem evo_ln {t : WX → TE} (hi : Γ[i]? = some (some s)) (hl : Ln s d) (h : ∀ W', EvO K W' (t W') (Γ.set i (some (.fr d))) (fun z Γ2 => LendX (lnC s) (Γ.set i (some (.fr d))) Γ2 i s d (noXS (lnC s) z) (PO z)) (fun C fs Γ2 => LendX (lnC s) (Γ.set i (some (.fr d))) Γ2 i s d (noXf (lnC s) fs) (X C fs))) : EvO K W (tLn i W t) Γ PO X := fun O G H σ Q S q x => by
  obtain ⟨v, D, ev, ow, n, h1, h2, hG⟩ := S.lend hi hl
  refine lkW_list n (fun p hp => ⟨(h1 p hp).2.1, (h1 p hp).2.2.1⟩) fun od W' Q' hW hQ => ?_
  obtain ⟨G1, L⟩ := hG od
  have keep : ∀ {Γ2 : Gm}, KeepX (lnC s) (Γ.set i (some (.fr d))) Γ2 i → ∀ (j : Nat) (s' : Sl), j ≠ i → Γ2[j]? = some (some s') → noXS (lnC s) s' ∨ ∃ d w, s' = .fr d ∧ σ[j]? = some (some w) ∧ Rep K G w d := fun {Γ2} k j s' hj e => by
    rcases k j s' hj e with n | ⟨d0, rfl, e0⟩
    · exact .inl n
    · rw [List.getElem?_set_ne (Ne.symm hj)] at e0
      obtain ⟨w, ew, r⟩ := S.getF e0
      exact .inr ⟨d0, w, rfl, ew, r⟩
  refine h W' O G1 _ σ Q' L.S1 (fun u G2 H2 Γ2 z s2 S2 ⟨⟨nz, hi2, k⟩, p⟩ => ?_) (fun C e fs G2 H2 Γ2 s2 S2 r ⟨⟨nz, hi2, k⟩, p⟩ => ?_)
  · obtain ⟨bad, sd, hD, S3⟩ := S.unlend (i2 := i + 1) (Γ2 := some z :: Γ2) (σ2 := some u :: σ) hi ow n h1 h2 L s2 S2 (by simpa using hi2) (by simpa using ev) (fun j s' hj e => by
      cases j with
      | zero => have e' : z = s' := by simpa using e
                subst e'; exact .inl nz
      | succ j =>
        rcases keep k j s' (by omega) (by simpa using e) with n | ⟨d0, w, e1, e2, r⟩
        · exact .inl n
        · exact .inr ⟨d0, w, e1, by simpa using e2, r⟩)
    refine hQ u H2 hD (q u _ _ (Γ2.set i (some s)) z sd ?_ p)
    simpa using S3
  · obtain ⟨bad, sd, hD, S3⟩ := S.unlend hi ow n h1 h2 L s2 S2 hi2 ev (keep k)
    exact hW _ e σ H2 hD (x C e fs _ _ _ sd S3 (r.delS bad nz) p)
end
end DL
namespace L2
open PySem PySem.Spec PyProof.Rows PySem.W
section
variable {X : Cx} {k : Nat} {f C : Addr} {sp : Sp} {pos : Pos} {a b : Expr} {ta tb : TE}
end
end L2
namespace DL
open PySem PySem.Spec L2 PyProof.Rows
def putS (f : Str) (s : Sl) : List (Str × Sl) → List (Str × Sl)
  | [] => [(f, s)]
  | (g, c) :: r => if g = f then (g, s) :: r else (g, c) :: putS f s r
theorem fpF_put_sub (f : Str) (s : Sl) : ∀ (fs : List (Str × Sl)), ∀ b ∈ fpF (putS f s fs), b ∈ fpF fs ∨ b ∈ s.fp
  | [], b, h => by simp [putS, fpF] at h; exact .inr h
  | (g, c) :: r, b, h => by
    unfold putS at h
    by_cases e : g = f
    · rw [if_pos e] at h
      simp only [fpF, List.mem_append] at h ⊢
      rcases h with h | h
      · exact .inr h
      · exact .inl (.inr h)
    · rw [if_neg e] at h
      simp only [fpF, List.mem_append] at h ⊢
      rcases h with h | h
      · exact .inl (.inl h)
      · rcases fpF_put_sub f s r b h with z | z
        · exact .inl (.inr z)
        · exact .inr z
theorem fpF_put_nd (f : Str) (s : Sl) : ∀ (fs : List (Str × Sl)), (s.fp ++ fpF fs).Nodup → (fpF (putS f s fs)).Nodup
  | [], h => by simpa [putS, fpF] using h
  | (g, c) :: r, h => by
    unfold putS
    simp only [fpF] at h
    obtain ⟨n1, n2, n3⟩ := List.nodup_append.mp h
    obtain ⟨m1, m2, m3⟩ := List.nodup_append.mp n2
    by_cases e : g = f
    · rw [if_pos e]
      simp only [fpF]
      rw [List.nodup_append]
      exact ⟨n1, m2, fun a ha b hb => n3 a ha b (List.mem_append_right _ hb)⟩
    · rw [if_neg e]
      simp only [fpF]
      rw [List.nodup_append]
      refine ⟨m1, fpF_put_nd f s r (by rw [List.nodup_append]; exact ⟨n1, m2, fun a ha b hb => n3 a ha b (List.mem_append_right _ hb)⟩), fun a ha b hb => ?_⟩
      rcases fpF_put_sub f s r b hb with z | z
      · exact m3 a ha b z
      · exact fun e => n3 b z a (List.mem_append_left _ ha) e.symm
section
variable {K : PySem.W.Frag} {W : WX} {Γ Γ' Γ2 Γ3 : Gm} {X : XP} {P : Dt → Gm → Prop} {PO : Sl → Gm → Prop} {te ta tb ti tv : TE} {i j : Nat} {nx : Gm → Prop} {rt : Sl → Gm → Prop} {xc : XP} {bk ct : Gm → Prop} {a C : Addr} {f : Str} {t : TA}
theorem ownF_put {G H : Hp} {v : V} {s : Sl} (f : Str) (o : Own K G H v s) : ∀ {vs : List (Str × V)} {fs : List (Str × Sl)}, OwnF K G H vs fs → OwnF K G H (putF f v vs) (putS f s fs)
  | _, _, .nil => .cons o .nil
  | _, _, .cons (f := g) (vs := r) (ss := r') q t => by
    unfold putF putS
    by_cases e : g = f
    · rw [if_pos e, if_pos e]; exact .cons o t
    · rw [if_neg e, if_neg e]; exact .cons q (ownF_put f o t)
theorem OwnF.length {G H : Hp} : ∀ {vs : List (Str × V)} {fs : List (Str × Sl)}, OwnF K G H vs fs → vs.length = fs.length
  | _, _, .nil => rfl
  | _, _, .cons _ t => by simp [OwnF.length t]
theorem OwnF.look {G H : Hp} {s : Sl} : ∀ {vs : List (Str × V)} {fs : List (Str × Sl)}, OwnF K G H vs fs → fs.lookup f = some s → ∃ v, vs.lookup f = some v ∧ Own K G H v s
  | _, _, .nil, h => by cases h
  | _, _, .cons (f := g) q t, h => by
    rw [List.lookup_cons] at h ⊢
    cases e : (f == g) with
    | true => rw [e] at h; cases h; exact ⟨_, rfl, q⟩
    | false => rw [e] at h; exact OwnF.look t h
def sFldO (K : PySem.W.Frag) (ta tv : TE) (f : Str) : TS := sFld K ta tv f
theorem mkFO {X : Cx} {st : Stmt} (h : PS X st (sFld K ta tv f)) : PS X st (sFldO K ta tv f) := h
theorem g_fldO (h : EvO K W tv Γ (fun s Γ1 => ∃ a C fs, Γ1[i]? = some (some (.oo a C fs)) ∧ (Cls K C ∧ NoAttr K C f ∧ fs.length < 1000) ∧ nx (Γ1.set i (some (.oo a C (putS f s fs))))) xc) : Go K W (sFldO K (tVar i) tv f) Γ ⟨nx, rt, xc, bk, ct⟩ := fun O G H σ D S x1 b c d e =>
  h O G H σ _ S (fun v G1 H1 Γ1 s s1 S1 ⟨ad, C, fs, hg, ⟨hc, hn, hl⟩, p⟩ => by
    obtain ⟨u, eu, ou⟩ := S1.tail.get hg
    have z := ou.adr rfl
    subst z
    cases ou with
    | @oo _ _ dx fsv _ hy of =>
    have ow := S1.head
    have nd := S1.nd
    simp only [fps, fpO] at nd
    obtain ⟨n1, n2, n3⟩ := List.nodup_append.mp nd
    have mo : ∀ b ∈ (Sl.oo ad C fs).fp, b ∈ fps Γ1 := mem_fps hg
    obtain ⟨m1, _⟩ := fps_part hg n2
    simp only [Sl.fp] at m1 mo
    obtain ⟨k1, k2⟩ := List.nodup_cons.mp m1
    have as : ad ∉ s.fp := fun z => n3 ad z ad (mo ad (List.mem_cons_self ..)) rfl
    have dis : (s.fp ++ fpF fs).Nodup := by
      rw [List.nodup_append]
      exact ⟨n1, k2, fun a ha b hb => n3 a ha b (mo b (List.mem_cons_of_mem _ hb))⟩
    refine ⟨_, eu, ad, C, dx, fsv, rfl, hy, hc, hn, by rw [of.length]; exact hl, ?_⟩
    refine x1 G1 _ σ _ s1 (S1.mutS2 hg eu (by simp [Sl.fp]) (fun b hb => ?_) ?_ (.oo upd_same ((ownF_put f ow of).mono (Same.refl _) fun b hb o q => ?_))) p
    · simp only [Sl.fp, List.mem_cons] at hb ⊢
      rcases hb with hb | hb
      · exact .inl (.inl hb)
      · rcases fpF_put_sub f s fs b hb with z | z
        · exact .inl (.inr z)
        · exact .inr z
    · simp only [Sl.fp]
      rw [List.nodup_cons]
      refine ⟨fun z => ?_, fpF_put_nd f s fs dis⟩
      rcases fpF_put_sub f s fs ad z with z | z
      · exact k1 z
      · exact as z
    · rw [upd_ne fun z => ?_]
      · exact q
      · subst z
        rcases fpF_put_sub f s fs _ hb with z | z
        · exact k1 z
        · exact as z) (e σ)
theorem g_subFT (h : Ev K W te Γ (fun v Γ1 => ∃ a C fs b kvs, Γ1[i]? = some (some (.oo a C fs)) ∧ Cls K C ∧ NoAttr K C f ∧ fs.lookup f = some (.oT b kvs) ∧ Ev K W ti Γ1 (fun y Γ2 => ∃ a C fs kvs k, Γ2[i]? = some (some (.oo a C fs)) ∧ fs.lookup f = some (.oT b kvs) ∧ y = kDs k ∧ kvs.length < 1000000 ∧ nx (Γ2.set i (some (.oo a C (putS f (.oT b (pA kvs k v)) fs))))) xc) xc) :
    Go K W (tAsg te (gSub (tFldP K (tVar i) f) ti rSetP)) Γ ⟨nx, rt, xc, bk, ct⟩ := fun O G H σ D S x1 b c d e =>
  h O G H σ _ S (fun v G1 H1 Γ1 dv s1 S1 r ⟨a1, C1, fs1, b1, kv1, hg1, hc, hn, hl1, h2⟩ => by
    obtain ⟨u, eu, ou⟩ := S1.get hg1
    have z := ou.adr rfl
    subst z
    cases ou with
    | @oo _ _ dx fsv _ hy of =>
    obtain ⟨w, ew, o1⟩ := of.look hl1
    have zw := o1.adr rfl
    subst zw
    refine ⟨_, eu, .inl ⟨a1, C1, dx, fsv, _, rfl, hy, hc, hn, ew, ?_⟩⟩
    refine h2 O G1 H1 σ _ S1 (fun y G2 H2 Γ2 dy s2 S2 r2 ⟨a2, C2, fs2, kvs, k, hg2, hl2, ek, hl, p⟩ => ?_) ((e σ).mono s1)
    subst ek
    obtain ⟨u2, eu2, ou2⟩ := S2.get hg2
    have z2 := ou2.adr rfl
    subst z2
    cases ou2 with
    | @oo _ _ dx2 fsv2 _ hy2 of2 =>
    obtain ⟨w2, ew2, o2⟩ := of2.look hl2
    have zw2 := o2.adr rfl
    subst zw2
    cases o2 with
    | @oT _ xs _ hx rx =>
    cases r2 with
    | @tup bt ys _ hb rb =>
    rw [reps_kD rb] at hb
    refine .inr ⟨b1, _, rfl, .inr ⟨xs, k, bt, hx, rfl, S2.g _ _ hb, by rw [rx.length]; exact Nat.lt_of_lt_of_le hl (by decide), rfl⟩, ?_⟩
    -- the dict is changed in its own place
    obtain ⟨m1, _⟩ := fps_part hg2 S2.nd
    simp only [Sl.fp] at m1
    obtain ⟨k1, k2⟩ := List.nodup_cons.mp m1
    have inF : ∀ {fs : List (Str × Sl)}, fs.lookup f = some (.oT b1 kvs) → b1 ∈ fpF fs := by
      intro fs
      induction fs with
      | nil => intro h; cases h
      | cons q fs ih =>
        obtain ⟨g, s⟩ := q
        intro h
        rw [List.lookup_cons] at h
        cases e : (f == g) with
        | true => rw [e] at h; cases h; simp [fpF, Sl.fp]
        | false => rw [e] at h; simp [fpF, ih h]
    have mb := inF hl2
    have putV : ∀ {vs : List (Str × V)} {fs : List (Str × Sl)}, OwnF K G2 H2 vs fs → vs.lookup f = some (.ref b1) → fs.lookup f = some (.oT b1 kvs) → (fpF fs).Nodup → OwnF K G2 (upd H2 b1 (.dT (putK xs k v))) vs (putS f (.oT b1 (pA kvs k dv)) fs) := by
      intro vs fs of
      induction fs generalizing vs with
      | nil => intro _ h; cases h
      | cons q fs ih =>
        obtain ⟨g, s⟩ := q
        cases of with
        | @cons _ v0 vs _ _ o1 o2 =>
        intro hv hf nd
        simp only [fpF] at nd
        obtain ⟨n1, n2, n3⟩ := List.nodup_append.mp nd
        rw [List.lookup_cons] at hv hf
        unfold putS
        cases e : (f == g) with
        | true =>
          rw [e] at hv hf
          have eg : g = f := by simpa using (beq_iff_eq.mp e).symm
          cases hf
          rw [if_pos eg]
          cases hv
          refine .cons (.oT upd_same (rx.put k (r.mono s2))) (o2.mono (Same.refl _) fun b hb o q => ?_)
          rw [upd_ne fun z => n3 b1 (by simp [Sl.fp]) b hb z.symm]
          exact q
        | false =>
          rw [e] at hv hf
          have eg : g ≠ f := fun z => by rw [z] at e; simp at e
          rw [if_neg eg]
          refine .cons (o1.mono (Same.refl _) fun b hb o q => ?_) (ih o2 hv hf n2)
          rw [upd_ne fun z => n3 b hb b1 (inF hf) z]
          exact q
    have fpe : ∀ {fs : List (Str × Sl)}, fs.lookup f = some (.oT b1 kvs) → fpF (putS f (.oT b1 (pA kvs k dv)) fs) = fpF fs := by
      intro fs
      induction fs with
      | nil => intro h; cases h
      | cons q fs ih =>
        obtain ⟨g, s⟩ := q
        intro hf
        rw [List.lookup_cons] at hf
        unfold putS
        cases e : (f == g) with
        | true =>
          rw [e] at hf
          have eg : g = f := by simpa using (beq_iff_eq.mp e).symm
          cases hf
          rw [if_pos eg]
          simp [fpF, Sl.fp]
        | false =>
          rw [e] at hf
          have eg : g ≠ f := fun z => by rw [z] at e; simp at e
          rw [if_neg eg]
          simp only [fpF]
          rw [ih hf]
    refine x1 G2 _ σ _ (s1.trans s2) (S2.mutS hg2 eu2 (a := b1) (by simp [Sl.fp, mb]) (fun b hb => ?_) ?_ (.oo (dx := dx2) (fs := fsv2) ?_ (putV of2 ew2 hl2 k2))) p
    · simp only [Sl.fp] at hb ⊢; rw [fpe hl2] at hb; exact hb
    · simp only [Sl.fp]; rw [fpe hl2]; exact m1
    · rw [upd_ne fun z => k1 (by rw [z]; exact mb)]; exact hy2) (e σ)
def CallMO (S : DSp) (C : Addr) (ds : List Dt) (R : Addr → List (Str × Sl) → Prop) (Y : Addr → List (Str × Dt) → Prop) : Prop :=
  ∀ y, S (.oo y C (frF []) :: ds.map .fr) (fun res args' => ∃ fs, res = .fr .non ∧ args' = .oo y C fs :: ds.map .fr ∧ R y fs) (fun D fs _ => Y D fs)
theorem evo_make {S : DSp} (h : EvA K W t Γ (fun ds Γ1 => CallMO S C ds (fun y fs => PO (.oo y C fs) Γ1) (fun D fs => X D fs Γ1)) X) : EvO K W (tMakeS C (spD K S) (WE W) t) Γ PO X := fun O G H σ Q S0 q x =>
  h O G H σ _ S0 (fun vs G1 H1 Γ1 ds s1 S1 r hS y dy ny nd ne => by
    have e1 : Ext G1 H1 G1 (upd H1 dy (.own y)) := Ext.raw S1.g nd
    have ny2 : upd H1 dy (.own y) y = none := by rw [upd_ne (Ne.symm ne)]; exact ny
    have e2 : Ext G1 (upd H1 dy (.own y)) G1 (upd (upd H1 dy (.own y)) y (.ins C dy [])) := Ext.raw e1.s ny2
    have S2 := S1.ext (e1.trans e2)
    have Se := S2.entry0 r
    have yf : y ∉ fps Γ1 := fun z => S1.there y z ny
    have Sp := Se.push (v := .ref y) (s := .oo y C []) (.oo upd_same .nil) (by simp [Sl.fp, fpF]) (fun a ha => by
      simp [Sl.fp, fpF] at ha; subst ha; exact S1.g.free ny) (fun a ha => by
      simp [Sl.fp, fpF] at ha; subst ha
      rw [forn_out yf]; exact S1.o.free ny) (fun a ha => by rw [fps_fr]; simp)
    refine ⟨_, G1, .oo y C [] :: ds.map .fr, _, _, Sp, hS y, fun v G2 H2 res args' s2 T2 p => ?_, fun D d fs G2 H2 args' s2 T2 rx p => ?_⟩
    · obtain ⟨fs, er, ea, p⟩ := p
      subst er ea
      have hv := T2.head
      cases hv with
      | fr rv =>
      cases rv
      refine ⟨rfl, ?_⟩
      have Tt := T2.tail
      have oy := Tt.head
      have Tb := S2.back s2 T2.g T2.o T2.d
      have ndt := Tt.nd
      simp only [List.map_cons, fps, fpO] at ndt
      have mem : ∀ a ∈ (Sl.oo y C fs).fp, a ∈ fps (sls (.oo y C fs :: ds.map .fr)) := fun a ha => by simp only [List.map_cons, fps, fpO, List.mem_append]; exact .inl ha
      refine q (.ref y) G2 H2 Γ1 _ (s1.trans s2) (Tb.push oy (List.nodup_append.mp ndt).1 (fun a ha => Tt.ng a (mem a ha)) (fun a ha => ?_) (fun a ha z => ?_)) p
      · have n := Tt.no a (mem a ha)
        by_cases hf : a ∈ fps Γ1
        · exact S1.no a hf
        · rw [forn_out hf] at n; exact n
      · have n := Tt.no a (mem a ha)
        rw [forn_in z] at n
        exact S2.there a z n
    · exact x D d fs G2 H2 Γ1 (s1.trans s2) (S2.back s2 T2.g T2.o T2.d) rx p) x
end
end DL
namespace DL
open PySem PySem.Spec L2 PyProof.Rows
class AndC (p q : Prop) (r : outParam Prop) : Prop where
  h : r → p ∧ q
instance (priority := 2000) {q : Prop} : AndC True q q := ⟨fun h => ⟨trivial, h⟩⟩
instance (priority := 1500) {p : Prop} : AndC p True p := ⟨fun h => ⟨h, trivial⟩⟩
instance (priority := low) {p q : Prop} : AndC p q (p ∧ q) := ⟨fun h => h⟩
class NeC (a b : Addr) : Prop where
  h : a ≠ b
theorem NeC.of {a b : Addr} (h : decide (a ≠ b) = true) : NeC a b := ⟨of_decide_eq_true h⟩
class NeS (a b : Str) : Prop where
  h : a ≠ b
class NoXC (c : Option Addr) (d : Dt) (p : outParam Prop) : Prop where
  h : p → noX c d
class NoXsC (c : Option Addr) (d : List Dt) (p : outParam Prop) : Prop where
  h : p → noXs c d
class NoXfC (c : Option Addr) (d : List (Str × Dt)) (p : outParam Prop) : Prop where
  h : p → noXf c d
class NoXvC {κ : Type} (c : Option Addr) (d : List (κ × Dt)) (p : outParam Prop) : Prop where
  h : p → noXv c d
theorem noXs_map {c : Option Addr} {α : Type} {f : α → Dt} (h : ∀ x, noX c (f x)) : ∀ l : List α, noXs c (l.map f)
  | [] => by simp only [List.map_nil, noXs]
  | x :: l => by rw [List.map_cons]; simp only [noXs]; exact ⟨h x, noXs_map h l⟩
section
variable {c : Option Addr} {d : Dt} {ds : List Dt} {C C' : Addr} {fs : List (Str × Dt)} {f : Str} {p q r : Prop}
instance {n : Int} : NoXC c (.int n) True := ⟨fun _ => by simp only [noX]⟩
instance {n : Bool} : NoXC c (.bl n) True := ⟨fun _ => by simp only [noX]⟩
instance {n : Str} : NoXC c (.str n) True := ⟨fun _ => by simp only [noX]⟩
instance {n : String} : NoXC c (.ty n) True := ⟨fun _ => by simp only [noX]⟩
instance {n : Addr} : NoXC c (.ref n) True := ⟨fun _ => by simp only [noX]⟩
instance {n : List Int} : NoXC c (.scr n) True := ⟨fun _ => by simp only [noX]⟩
instance : NoXC c .non True := ⟨fun _ => by simp only [noX]⟩
instance {k : Key} : NoXC c (kD k) True := ⟨fun _ => by cases k <;> simp only [kD, noX]⟩
instance [h : NoXsC c ds p] : NoXC c (.tup ds) p := ⟨fun z => by simp only [noX]; exact h.h z⟩
instance [h : NoXsC c ds p] : NoXC c (.lst ds) p := ⟨fun z => by simp only [noX]; exact h.h z⟩
instance [n : NeC C' C] [h : NoXfC (some C) fs p] : NoXC (some C) (.obj C' fs) p := ⟨fun z => by simp only [noX]; exact ⟨fun e => n.h (Option.some.inj e), h.h z⟩⟩
instance [h : NoXfC none fs p] : NoXC none (.obj C' fs) p := ⟨fun z => by simp only [noX]; exact ⟨fun e => (by cases e), h.h z⟩⟩
instance (priority := low) : NoXC c d (noX c d) := ⟨id⟩
instance : NoXsC c [] True := ⟨fun _ => by simp only [noXs]⟩
instance [h : NoXC c d p] [t : NoXsC c ds q] [a : AndC p q r] : NoXsC c (d :: ds) r := ⟨fun z => by simp only [noXs]; exact ⟨h.h (a.h z).1, t.h (a.h z).2⟩⟩
instance {l : List Str} : NoXsC c (l.map Dt.str) True := ⟨fun _ => noXs_map (fun _ => by simp only [noX]) l⟩
instance {l : List Int} : NoXsC c (l.map Dt.int) True := ⟨fun _ => noXs_map (fun _ => by simp only [noX]) l⟩
instance {l : List Key} : NoXsC c (l.map kD) True := ⟨fun _ => noXs_map (fun k => by cases k <;> simp only [kD, noX]) l⟩
instance (priority := low) : NoXsC c ds (noXs c ds) := ⟨id⟩
instance : NoXfC c [] True := ⟨fun _ => by simp only [noXf]⟩
instance [h : NoXC c d p] [t : NoXfC c fs q] [a : AndC p q r] : NoXfC c ((f, d) :: fs) r := ⟨fun z => by simp only [noXf]; exact ⟨h.h (a.h z).1, t.h (a.h z).2⟩⟩
instance (priority := low) : NoXfC c fs (noXf c fs) := ⟨id⟩
variable {κ : Type} [DecidableEq κ]
theorem noXv_put {kvs : List (κ × Dt)} {k : κ} (h : noXv c kvs) (n : noX c d) : noXv c (pA kvs k d) := by
  intro x hx
  unfold pA at hx
  split at hx
  · obtain ⟨y, hy, e⟩ := List.mem_map.mp hx
    by_cases ek : y.1 = k
    · rw [if_pos ek] at e; rw [← e]; exact n
    · rw [if_neg ek] at e; rw [← e]; exact h y hy
  · rcases List.mem_append.mp hx with z | z
    · exact h x z
    · rw [List.mem_singleton] at z; rw [z]; exact n
instance : NoXvC c ([] : List (κ × Dt)) True := ⟨fun _ x hx => nomatch hx⟩
instance {k : κ} {kvs : List (κ × Dt)} [h : NoXC c d p] [t : NoXvC c kvs q] [a : AndC p q r] : NoXvC c (pA kvs k d) r := ⟨fun z => noXv_put (t.h (a.h z).2) (h.h (a.h z).1)⟩
instance (priority := low) {κ : Type} {kvs : List (κ × Dt)} : NoXvC c kvs (noXv c kvs) := ⟨id⟩
end
class NoXSC (c : Option Addr) (s : Sl) (p : outParam Prop) : Prop where
  h : p → noXS c s
class NoXSfC (c : Option Addr) (s : List (Str × Sl)) (p : outParam Prop) : Prop where
  h : p → noXSf c s
section
variable {c : Option Addr} {d : Dt} {ds : List Dt} {a C : Addr} {fs : List (Str × Dt)} {ss : List (Str × Sl)} {s : Sl} {f : Str} {p q r : Prop}
instance [h : NoXC c d p] : NoXSC c (.fr d) p := ⟨fun z => by simp only [noXS]; exact h.h z⟩
instance [h : NoXsC c ds p] : NoXSC c (.ol a ds) p := ⟨fun z => by simp only [noXS]; exact h.h z⟩
instance {s : Sl} {x : Addr} {y : Str} [h : NoXSC c s p] : NoXSC c (.tb s x y) p := ⟨fun z => by simp only [noXS]; exact h.h z⟩
instance : NoXSC c (.os a St4) True := ⟨fun _ => by
  simp only [noXS]
  rintro ds ⟨i, j, k, l, rfl⟩
  simp only [noXs, noX, and_self]⟩
instance {kvs : List (Key × Dt)} [h : NoXvC c kvs p] : NoXSC c (.oK a kvs) p := ⟨fun z => by simp only [noXS]; exact h.h z⟩
instance {kvs : List (List Key × Dt)} [h : NoXvC c kvs p] : NoXSC c (.oT a kvs) p := ⟨fun z => by simp only [noXS]; exact h.h z⟩
instance [h : NoXSfC c ss p] : NoXSC c (.oo a C ss) p := ⟨fun z => by simp only [noXS]; exact h.h z⟩
instance {e : Option Addr} [h : NoXfC c fs p] : NoXSC c (.ex a C e fs) p := ⟨fun z => by simp only [noXS]; exact h.h z⟩
instance (priority := low) : NoXSC c s (noXS c s) := ⟨id⟩
instance : NoXSfC c [] True := ⟨fun _ => by simp only [noXSf]⟩
instance [h : NoXSC c s p] [t : NoXSfC c ss q] [a : AndC p q r] : NoXSfC c ((f, s) :: ss) r := ⟨fun z => by simp only [noXSf]; exact ⟨h.h (a.h z).1, t.h (a.h z).2⟩⟩
end
class KpXC (c : Option Addr) (x y : Option Sl) (p : outParam Prop) : Prop where
  h : p → ∀ s, y = some s → noXS c s ∨ ∃ d, s = .fr d ∧ x = some (.fr d)
class KeepAC (c : Option Addr) (Γ Γ2 : Gm) (p : outParam Prop) : Prop where
  h : p → ∀ (j : Nat) (s : Sl), Γ2[j]? = some (some s) → noXS c s ∨ ∃ d, s = .fr d ∧ Γ[j]? = some (some (.fr d))
class KeepXC (c : Option Addr) (Γ Γ2 : Gm) (i : Nat) (p : outParam Prop) : Prop where
  h : p → KeepX c Γ Γ2 i
section
variable {c : Option Addr} {Γ Γ2 : Gm} {x y : Option Sl} {s : Sl} {d : Dt} {i : Nat} {p q r : Prop}
instance : KpXC c x none True := ⟨fun _ s e => by cases e⟩
instance (priority := high) : KpXC c (some (.fr d)) (some (.fr d)) True := ⟨fun _ s e => by cases e; exact .inr ⟨d, rfl, rfl⟩⟩
instance (priority := low) [h : NoXSC c s p] : KpXC c x (some s) p := ⟨fun z s' e => by cases e; exact .inl (h.h z)⟩
instance : KeepAC c [] [] True := ⟨fun _ j s e => by simp at e⟩
instance [h : KpXC c x y p] [t : KeepAC c Γ Γ2 q] [a : AndC p q r] : KeepAC c (x :: Γ) (y :: Γ2) r := ⟨fun z j s e => by
  cases j with
  | zero =>
    have e' : y = some s := by simpa using e
    rcases h.h (a.h z).1 s e' with n | ⟨d, e1, e2⟩
    · exact .inl n
    · exact .inr ⟨d, e1, by simpa using e2⟩
  | succ j =>
    rcases t.h (a.h z).2 j s (by simpa using e) with n | ⟨d, e1, e2⟩
    · exact .inl n
    · exact .inr ⟨d, e1, by simpa using e2⟩⟩
instance [t : KeepAC c Γ Γ2 p] : KeepXC c (x :: Γ) (y :: Γ2) 0 p := ⟨fun z j s hj e => by
  cases j with
  | zero => exact absurd rfl hj
  | succ j =>
    rcases t.h z j s (by simpa using e) with n | ⟨d, e1, e2⟩
    · exact .inl n
    · exact .inr ⟨d, e1, by simpa using e2⟩⟩
instance [h : KpXC c x y p] [t : KeepXC c Γ Γ2 i q] [a : AndC p q r] : KeepXC c (x :: Γ) (y :: Γ2) (i + 1) r := ⟨fun z j s hj e => by
  cases j with
  | zero =>
    have e' : y = some s := by simpa using e
    rcases h.h (a.h z).1 s e' with n | ⟨d, e1, e2⟩
    · exact .inl n
    · exact .inr ⟨d, e1, by simpa using e2⟩
  | succ j =>
    rcases t.h (a.h z).2 j s (by omega) (by simpa using e) with n | ⟨d, e1, e2⟩
    · exact .inl n
    · exact .inr ⟨d, e1, by simpa using e2⟩⟩
end
class LnFC (fs : List (Str × Sl)) (ds : outParam (List (Str × Dt))) : Prop where
  h : LnF fs ds
class LnC (s : Sl) (d : outParam Dt) (c : outParam (Option Addr)) : Prop where
  h : Ln s d
  e : lnC s = c
theorem LnF.frF : ∀ fs : List (Str × Dt), LnF (frF fs) fs
  | [] => .nil
  | (_, _) :: r => .fr (LnF.frF r)
section
variable {fs : List (Str × Sl)} {ds : List (Str × Dt)} {f : Str} {d : Dt} {b a C : Addr}
instance : LnFC [] [] := ⟨.nil⟩
instance {ds : List (Str × Dt)} : LnFC (frF ds) ds := ⟨LnF.frF ds⟩
instance [h : LnFC fs ds] : LnFC ((f, .fr d) :: fs) ((f, d) :: ds) := ⟨.fr h.h⟩
instance {kvs : List (Key × Dt)} [h : LnFC fs ds] : LnFC ((f, .oK b kvs) :: fs) ((f, .dK kvs) :: ds) := ⟨.oK h.h⟩
instance {kvs : List (List Key × Dt)} [h : LnFC fs ds] : LnFC ((f, .oT b kvs) :: fs) ((f, .dT kvs) :: ds) := ⟨.oT h.h⟩
instance {kvs : List (Key × Dt)} : LnC (.oK b kvs) (.dK kvs) none := ⟨.oK b kvs, rfl⟩
instance {kvs : List (List Key × Dt)} : LnC (.oT b kvs) (.dT kvs) none := ⟨.oT b kvs, rfl⟩
instance [h : LnFC fs ds] : LnC (.oo a C fs) (.obj C ds) (some C) := ⟨.oo a C h.h, rfl⟩
end
class NPC (N : Prop) (p : outParam Prop) : Prop where
  h : p → N
instance {c : Option Addr} {d : Dt} {p : Prop} [h : NoXC c d p] : NPC (noX c d) p := ⟨h.h⟩
instance {c : Option Addr} {d : Sl} {p : Prop} [h : NoXSC c d p] : NPC (noXS c d) p := ⟨h.h⟩
instance {c : Option Addr} {d : List (Str × Dt)} {p : Prop} [h : NoXfC c d p] : NPC (noXf c d) p := ⟨h.h⟩
section
variable {K : PySem.W.Frag} {W : WX} {Γ Γ' Γ2 Γ3 : Gm} {X : XP} {P : Dt → Gm → Prop} {PO : Sl → Gm → Prop} {te ta tb ti tv : TE} {i j : Nat} {nx : Gm → Prop} {rt : Sl → Gm → Prop} {xc : XP} {bk ct : Gm → Prop} {a b C : Addr} {f g : Str} {t : TA} {s s0 : Sl} {d : Dt} {c : Option Addr} {tw : WX → TE} {fs fs' r r' : List (Str × Sl)}
instance {N p q z : Prop} {Q : Gm → Prop} [n : NPC N p] [tt : At Γ2 i (.fr d)] [k : KeepXC c Γ Γ2 i q] [sg : SetG Γ2 i (some s) Γ3] [an : AndC p q z] : Wk (LendX c Γ Γ2 i s d N Q) (Side z (Q Γ3)) := ⟨fun h => ⟨⟨n.h (an.h h.1).1, tt.h, k.h (an.h h.1).2⟩, by rw [sg.h]; exact h.2⟩⟩
instance [tt : At Γ i s] [l : LnC s d c] [sg : SetG Γ i (some (.fr d)) Γ'] : Wk (Ev K W (tLn i W tw) Γ P X) (∀ W', Ev K W' (tw W') Γ' (fun z Γ2 => LendX c Γ' Γ2 i s d (noX c z) (P z)) (fun C fs Γ2 => LendX c Γ' Γ2 i s d (noXf c fs) (X C fs))) := ⟨fun h => ev_ln tt.h l.h fun W' => by rw [l.e, sg.h]; exact h W'⟩
instance [tt : At Γ i s] [l : LnC s d c] [sg : SetG Γ i (some (.fr d)) Γ'] : Wk (EvO K W (tLn i W tw) Γ PO X) (∀ W', EvO K W' (tw W') Γ' (fun z Γ2 => LendX c Γ' Γ2 i s d (noXS c z) (PO z)) (fun C fs Γ2 => LendX c Γ' Γ2 i s d (noXf c fs) (X C fs))) := ⟨fun h => evo_ln tt.h l.h fun W' => by rw [l.e, sg.h]; exact h W'⟩
instance (priority := high) [tt : At Γ i (.fr d)] : Wk (Ev K W (tLn i W tw) Γ P X) (Ev K W (tw W) Γ P X) := ⟨fun h O G H σ Q S q x => .run (h O G H σ Q S q x)⟩
instance (priority := high) [tt : At Γ i (.fr d)] : Wk (EvO K W (tLn i W tw) Γ PO X) (EvO K W (tw W) Γ PO X) := ⟨fun h O G H σ Q S q x => .run (h O G H σ Q S q x)⟩
class PutC (f : Str) (s : Sl) (fs : List (Str × Sl)) (fs' : outParam (List (Str × Sl))) : Prop where
  h : putS f s fs = fs'
class LkC (f : Str) (fs : List (Str × Sl)) (s : outParam Sl) : Prop where
  h : fs.lookup f = some s
instance : PutC f s [] [(f, s)] := ⟨rfl⟩
instance : PutC f s (frF []) [(f, s)] := ⟨rfl⟩
instance (priority := high) : PutC f s ((f, s0) :: r) ((f, s) :: r) := ⟨by unfold putS; rw [if_pos rfl]⟩
instance [n : NeS g f] [h : PutC f s r r'] : PutC f s ((g, s0) :: r) ((g, s0) :: r') := ⟨by unfold putS; rw [if_neg n.h, h.h]⟩
instance (priority := high) : LkC f ((f, s) :: r) s := ⟨by rw [List.lookup_cons]; simp⟩
instance [n : NeS g f] [h : LkC f r s] : LkC f ((g, s0) :: r) s := ⟨by rw [List.lookup_cons, show (f == g) = false from by rw [beq_eq_false_iff_ne]; exact fun z => n.h z.symm]; exact h.h⟩
def PutQ (f : Str) (s : Sl) (fs : List (Str × Sl)) (Q : List (Str × Sl) → Prop) : Prop := Q (putS f s fs)
instance {Q : List (Str × Sl) → Prop} [h : PutC f s fs fs'] : Wk (PutQ f s fs Q) (Q fs') := ⟨fun q => by unfold PutQ; rw [h.h]; exact q⟩
def OwnO2 (Γ : Gm) (i : Nat) (Q : Addr → Addr → List (Str × Sl) → Prop) : Prop := ∃ a C fs, Γ[i]? = some (some (.oo a C fs)) ∧ Q a C fs
instance {Q : Addr → Addr → List (Str × Sl) → Prop} [h : At Γ i (.oo a C fs)] : Wk (OwnO2 Γ i Q) (Q a C fs) := ⟨fun q => ⟨a, C, fs, h.h, q⟩⟩
instance (priority := high) {v : Option Sl} {Q : Addr → Addr → List (Str × Sl) → Prop} [h : SetG Γ j v Γ'] : Wk (OwnO2 (Γ.set j v) i Q) (OwnO2 Γ' i Q) := ⟨fun q => by rw [h.h]; exact q⟩
instance : Wk (Go K W (sFldO K (tVar i) tv f) Γ ⟨nx, rt, xc, bk, ct⟩) (EvO K W tv Γ (fun s Γ1 => OwnO2 Γ1 i fun a C fs => Side (Cls K C ∧ NoAttr K C f ∧ fs.length < 1000) (PutQ f s fs fun fs' => nx (Γ1.set i (some (.oo a C fs'))))) xc) :=
  ⟨fun h => g_fldO (h.imp fun s Γ1 ⟨a, C, fs, e, l, p⟩ => ⟨a, C, fs, e, l, p⟩)⟩
def OwnFT (Γ : Gm) (i : Nat) (f : Str) (Q : Addr → Addr → List (Str × Sl) → Addr → List (List Key × Dt) → Prop) : Prop := ∃ a C fs b kvs, Γ[i]? = some (some (.oo a C fs)) ∧ fs.lookup f = some (.oT b kvs) ∧ Q a C fs b kvs
def OwnFb (Γ : Gm) (i : Nat) (f : Str) (b : Addr) (Q : Addr → Addr → List (Str × Sl) → List (List Key × Dt) → Prop) : Prop := ∃ a C fs kvs, Γ[i]? = some (some (.oo a C fs)) ∧ fs.lookup f = some (.oT b kvs) ∧ Q a C fs kvs
instance {kvs : List (List Key × Dt)} {Q : Addr → Addr → List (Str × Sl) → Addr → List (List Key × Dt) → Prop} [h : At Γ i (.oo a C fs)] [l : LkC f fs (.oT b kvs)] : Wk (OwnFT Γ i f Q) (Q a C fs b kvs) := ⟨fun q => ⟨a, C, fs, b, kvs, h.h, l.h, q⟩⟩
instance {kvs : List (List Key × Dt)} {Q : Addr → Addr → List (Str × Sl) → List (List Key × Dt) → Prop} [h : At Γ i (.oo a C fs)] [l : LkC f fs (.oT b kvs)] : Wk (OwnFb Γ i f b Q) (Q a C fs kvs) := ⟨fun q => ⟨a, C, fs, kvs, h.h, l.h, q⟩⟩
instance : Wk (Go K W (tAsg te (gSub (tFldP K (tVar i) f) ti rSetP)) Γ ⟨nx, rt, xc, bk, ct⟩) (Ev K W te Γ (fun v Γ1 => OwnFT Γ1 i f fun a C fs b _ => Side (Cls K C ∧ NoAttr K C f) (Ev K W ti Γ1 (fun y Γ2 => OwnFb Γ2 i f b fun a C fs kvs => KeysQ y fun k => Side (kvs.length < 1000000) (PutQ f (.oT b (pA kvs k v)) fs fun fs' => nx (Γ2.set i (some (.oo a C fs'))))) xc)) xc) :=
  ⟨fun h => g_subFT (h.imp fun v Γ1 ⟨a, C, fs, b, kvs, e, l, ⟨hc, hn⟩, q⟩ => ⟨a, C, fs, b, kvs, e, hc, hn, l, q.imp fun y Γ2 ⟨a, C, fs, kvs, e, l, k, ek, hl, p⟩ => ⟨a, C, fs, kvs, k, e, l, ek, hl, p⟩⟩)⟩
end
end DL
namespace L2
open PySem PySem.Spec PyProof.Rows
end L2
namespace DL
open PySem PySem.Spec L2 PyProof.Rows
section
variable {K : PySem.W.Frag} {O G G2 H H2 : Hp}
end
section
variable {P : Program} {w : World} {K : PySem.W.Frag} {mg : Str → Option Value} {base : Heap}
end
end DL
namespace DL
open PySem PySem.Spec L2 PyProof.Rows
section
variable {X : Cx} {x : Str} {k j : Nat} {S : DSp} {W : WX} {p pos : Pos} {C f : Addr}
def tMakeO (C : Addr) (sp : Sp) (E : L2.St → XK) (t : TA) : TE := tMakeS C sp E t
theorem mkMO {e : Expr} {sp : Sp} {E : L2.St → XK} {t : TA} (h : PE X e (tMakeS C sp E t)) : PE X e (tMakeO C sp E t) := h
end
section
variable {K : PySem.W.Frag} {W : WX} {Γ : Gm} {X : XP} {PO : Sl → Gm → Prop} {C : Addr} {t : TA} {S : DSp}
instance : Wk (EvO K W (tMakeO C (spD K S) (WE W) t) Γ PO X) (EvA K W t Γ (fun ds Γ1 => CallMO S C ds (fun y fs => PO (.oo y C fs) Γ1) (fun D fs => X D fs Γ1)) X) := ⟨evo_make⟩
def tFrz (te : TE) : TE := te
theorem mkFr {X : Cx} {e : Expr} {te : TE} (h : PE X e te) : PE X e (tFrz te) := h
instance {te : TE} : Wk (EvO K W (tFrz te) Γ PO X) (Ev K W te Γ (fun d Γ1 => PO (.fr d) Γ1) X) := ⟨evo_of⟩
end
section
variable {R : Dt → Prop}
instance {x : List (List Key × Dt)} : Wk (dIs (.dT x) .non R) (R (.bl false)) := ⟨fun h => ⟨rfl, h⟩⟩
instance {x : List (List Key × Dt)} : Wk (dIsnt (.dT x) .non R) (R (.bl true)) := ⟨fun h => ⟨rfl, h⟩⟩
instance {x : List (Key × Dt)} : Wk (dIs (.dK x) .non R) (R (.bl false)) := ⟨fun h => ⟨rfl, h⟩⟩
instance {x : List (Key × Dt)} : Wk (dIsnt (.dK x) .non R) (R (.bl true)) := ⟨fun h => ⟨rfl, h⟩⟩
end
section
variable {α β : Type} [DecidableEq α] {κ : Type} [DecidableEq κ]
def mapT (ky : α → κ) (va : β → Dt) (tab : List (α × β)) : List (κ × Dt) := tab.map fun e => (ky e.1, va e.2)
theorem mapT_len {ky : α → κ} {va : β → Dt} (tab : List (α × β)) : (mapT ky va tab).length = tab.length := List.length_map ..
theorem mapT_vA {ky : α → κ} {va : β → Dt} (inj : ∀ a b, ky a = ky b → a = b) (a : α) : ∀ tab : List (α × β), vA (mapT ky va tab) (ky a) = (vA tab a).map va
  | [] => rfl
  | p :: r => by
    show vA ((ky p.1, va p.2) :: mapT ky va r) (ky a) = _
    rw [vA_cons, vA_cons]
    by_cases e : p.1 = a
    · rw [if_pos e, if_pos (by rw [e])]; rfl
    · rw [if_neg e, if_neg (fun z => e (inj _ _ z))]; exact mapT_vA inj a r
theorem mapT_pA {ky : α → κ} {va : β → Dt} (inj : ∀ a b, ky a = ky b → a = b) (a : α) (b : β) (tab : List (α × β)) : pA (mapT ky va tab) (ky a) (va b) = mapT ky va (pA tab a b) := by
  unfold pA
  have e : ((mapT ky va tab).any fun kv => decide (kv.1 = ky a)) = tab.any fun kv => decide (kv.1 = a) := by
    rw [vA_any, vA_any, mapT_vA inj]
    cases vA tab a <;> rfl
  rw [e]
  by_cases h : (tab.any fun kv => decide (kv.1 = a)) = true
  · rw [if_pos h, if_pos h]
    unfold mapT
    rw [List.map_map, List.map_map]
    apply List.map_congr_left
    intro x _
    simp only [Function.comp]
    by_cases h2 : x.1 = a
    · rw [if_pos h2, if_pos (by rw [h2])]
    · rw [if_neg h2, if_neg (fun z => h2 (inj _ _ z))]
  · rw [if_neg h, if_neg h]
    unfold mapT
    simp
theorem pA_keys (tab : List (α × β)) (a : α) (b : β) : (pA tab a b).map (·.1) = if a ∈ tab.map (·.1) then tab.map (·.1) else tab.map (·.1) ++ [a] := by
  unfold pA
  rw [vA_any]
  by_cases h : a ∈ tab.map (·.1)
  · have : (vA tab a).isSome = true := by
      cases e : vA tab a with
      | none => exact absurd h (vA_none.mp e)
      | some _ => rfl
    rw [if_pos this, if_pos h, List.map_map]
    apply List.map_congr_left
    intro x _
    simp only [Function.comp]
    split <;> rfl
  · have : ¬ (vA tab a).isSome = true := by rw [vA_none.mpr h]; simp
    rw [if_neg this, if_neg h]
    simp
theorem pA_nodup {tab : List (α × β)} (nd : (tab.map (·.1)).Nodup) (a : α) (b : β) : ((pA tab a b).map (·.1)).Nodup := by
  rw [pA_keys]
  split
  · exact nd
  · rename_i h
    rw [List.nodup_append]
    exact ⟨nd, by simp, fun x hx y hy => by simp at hy; subst hy; exact fun e => h (e ▸ hx)⟩
theorem pA_mem {tab : List (α × β)} {a : α} {b : β} {e : α × β} (h : e ∈ pA tab a b) : e ∈ tab ∨ e = (a, b) := by
  unfold pA at h
  split at h
  · obtain ⟨y, hy, e2⟩ := List.mem_map.mp h
    by_cases ek : y.1 = a
    · rw [if_pos ek] at e2; right; rw [← e2, ek]
    · rw [if_neg ek] at e2; left; rw [← e2]; exact hy
  · rcases List.mem_append.mp h with z | z
    · exact .inl z
    · exact .inr (by simpa using z)
theorem mapT_nodup {ky : α → κ} {va : β → Dt} (inj : ∀ a b, ky a = ky b → a = b) {tab : List (α × β)} (nd : (tab.map (·.1)).Nodup) : ((mapT ky va tab).map (·.1)).Nodup := by
  unfold mapT
  rw [List.map_map]
  have : (tab.map ((fun x : κ × Dt => x.1) ∘ fun e : α × β => (ky e.1, va e.2))) = (tab.map (·.1)).map ky := by rw [List.map_map]; rfl
  rw [this]
  exact List.Pairwise.map ky (fun x y h e => h (inj _ _ e)) nd
end
abbrev ky2 (p : Str × Str) : List Key := [.inr p.1, .inr p.2]
abbrev ky1 (p : Str) : Key := .inr p
theorem ky2_inj (a b : Str × Str) (h : ky2 a = ky2 b) : a = b := by
  simp only [ky2, List.cons.injEq, Sum.inr.injEq, and_true] at h
  exact Prod.ext h.1 h.2
theorem ky1_inj (a b : Str) (h : ky1 a = ky1 b) : a = b := Sum.inr.inj h
end DL
namespace L2
open PySem PySem.Spec PyProof.Rows
def tLnS (_ : Nat) (t : TS) : TS := tLkS t
theorem mkLnS {X : Cx} {st : Stmt} {t : TS} (i : Nat) (h : PS X st t) : PS X st (tLnS i t) := mkLkS h
theorem look_off {D : List (Addr × HO)} {d : Addr} (h : ∀ p ∈ D, p.1 ≠ d) : D.lookup d = none := by
  induction D with
  | nil => rfl
  | cons p D ih =>
    rw [List.lookup_cons]
    rw [show (d == p.1) = false from by rw [beq_eq_false_iff_ne]; exact fun z => h p (List.mem_cons_self ..) z.symm]
    exact ih fun q hq => h q (List.mem_cons_of_mem _ hq)
theorem lkS_list {t : Ends → Hp → Prop} : ∀ {D : List (Addr × HO)} {E : Ends} {H : Hp}, (D.map (·.1)).Nodup → (∀ p ∈ D, H p.1 = some p.2 ∧ Mut (some p.2)) →
    (∀ (od : Addr → Obj) (E' : Ends), (∀ σ' H', (∀ p ∈ D, H' p.1 = some (.frz (od p.1) p.2)) → E.nx σ' (reH D H') → E'.nx σ' H') → (∀ v H', (∀ p ∈ D, H' p.1 = some (.frz (od p.1) p.2)) → E.rt v (reH D H') → E'.rt v H') →
      (∀ σ' H', (∀ p ∈ D, H' p.1 = some (.frz (od p.1) p.2)) → E.bk σ' (reH D H') → E'.bk σ' H') → (∀ σ' H', (∀ p ∈ D, H' p.1 = some (.frz (od p.1) p.2)) → E.ct σ' (reH D H') → E'.ct σ' H') → t E' (lkH D od H)) → LkS t E H
  | [], E, H, _, _, h => .run (h (fun _ => default) E (fun _ _ _ q => q) (fun _ _ _ q => q) (fun _ _ _ q => q) (fun _ _ _ q => q))
  | (d, u) :: D, E, H, nd, hD, h => by
    obtain ⟨n1, n2⟩ := List.nodup_cons.mp nd
    have nl : ∀ p ∈ D, p.1 ≠ d := fun p hp e => n1 (List.mem_map.mpr ⟨p, hp, e⟩)
    have look : D.lookup d = none := look_off nl
    obtain ⟨hd, mu⟩ := hD (d, u) (List.mem_cons_self ..)
    refine .lock d u hd mu fun od => lkS_list n2 (fun p hp => ?_) fun od' E' hN hR hB hC => ?_
    · have := hD p (List.mem_cons_of_mem _ hp)
      rw [upd_ne (nl p hp)]
      exact this
    · have e0 : ∀ b, b ≠ d → ((d, u) :: D).lookup b = D.lookup b := fun b hb => by
        rw [List.lookup_cons, show (b == d) = false from by rw [beq_eq_false_iff_ne]; exact hb]
      have e1 : ((d, u) :: D).lookup d = some u := by rw [List.lookup_cons]; simp
      have eH : lkH D od' (upd H d (.frz od u)) = lkH ((d, u) :: D) (fun b => if b = d then od else od' b) H := by
        funext b
        unfold lkH
        by_cases hb : b = d
        · subst hb
          rw [e1, look, upd_same]
          simp
        · rw [e0 b hb, upd_ne hb]
          simp only [if_neg hb]
      have eR : ∀ H', upd (reH D H') d u = reH ((d, u) :: D) H' := fun H' => by
        funext b
        unfold reH
        by_cases hb : b = d
        · subst hb
          rw [e1, upd_same]
        · rw [e0 b hb, upd_ne hb]
      have all : ∀ {H' : Hp}, (∀ p ∈ (d, u) :: D, H' p.1 = some (.frz (if p.1 = d then od else od' p.1) p.2)) → H' d = some (.frz od u) ∧ ∀ p ∈ D, H' p.1 = some (.frz (od' p.1) p.2) := fun {H'} k => by
        refine ⟨?_, fun p hp => ?_⟩
        · have := k (d, u) (List.mem_cons_self ..)
          simpa using this
        · have := k p (List.mem_cons_of_mem _ hp)
          rw [if_neg (nl p hp)] at this
          exact this
      have rd : ∀ {H' : Hp}, H' d = some (.frz od u) → reH D H' d = some (.frz od u) := fun {H'} k => by
        unfold reH
        rw [look]
        exact k
      rw [eH]
      refine h _ E' (fun σ' H' k w => ?_) (fun v H' k q => ?_) (fun σ' H' k w => ?_) (fun σ' H' k w => ?_)
      · obtain ⟨k1, k2⟩ := all k
        exact hN σ' H' k2 ⟨rd k1, by rw [eR]; exact w⟩
      · obtain ⟨k1, k2⟩ := all k
        exact hR v H' k2 ⟨rd k1, by rw [eR]; exact q⟩
      · obtain ⟨k1, k2⟩ := all k
        exact hB σ' H' k2 ⟨rd k1, by rw [eR]; exact w⟩
      · obtain ⟨k1, k2⟩ := all k
        exact hC σ' H' k2 ⟨rd k1, by rw [eR]; exact w⟩
end L2
namespace DL
open PySem PySem.Spec L2
def LendN (c : Option Addr) (Γ2 : Gm) (i : Nat) (s : Sl) (d : Dt) (N : Prop) (Q : Gm → Prop) : Prop := (N ∧ Γ2[i]? = some (some (.fr d)) ∧ ∀ (j : Nat) (s' : Sl), j ≠ i → Γ2[j]? = some (some s') → noXS c s') ∧ Q (Γ2.set i (some s))
section
variable {K : PySem.W.Frag} {W : WX} {Γ Γ' Γ2 Γ3 : Gm} {X : XP} {P : Dt → Gm → Prop} {i : Nat} {s : Sl} {d : Dt} {b : Addr} {nx : Gm → Prop} {rt : Sl → Gm → Prop} {xc : XP} {bk ct : Gm → Prop} {t : TS} {c : Option Addr}
theorem go_lnS (hi : Γ[i]? = some (some s)) (hl : Ln s d) (ha : adr s = some b) (h : Go K W t (Γ.set i (some (.fr (.at_ b d)))) ⟨fun Γ2 => LendN (lnC s) Γ2 i s (.at_ b d) True nx, fun r Γ2 => LendN (lnC s) Γ2 i s (.at_ b d) (noXS (lnC s) r) (rt r), fun _ _ _ => False, fun Γ2 => LendN (lnC s) Γ2 i s (.at_ b d) True bk, fun Γ2 => LendN (lnC s) Γ2 i s (.at_ b d) True ct⟩) : Go K W (tLnS i t) Γ ⟨nx, rt, xc, bk, ct⟩ := fun O G H σ E S a1 a2 a3 a4 a5 => by
  obtain ⟨v, D, ev, ow, n, h1, h2, hG⟩ := S.lend hi hl
  have vb := ow.adr ha
  subst vb
  refine lkS_list n (fun p hp => ⟨(h1 p hp).2.1, (h1 p hp).2.2.1⟩) fun od E' hN hR hB hC => ?_
  obtain ⟨G1, L⟩ := hG od
  have il : i < Γ.length := (List.getElem?_eq_some_iff.mp hi).1
  have S1 : Sta K O G1 (lkH D od H) σ (Γ.set i (some (.fr (.at_ b d)))) := by
    obtain ⟨v1, e1, r1⟩ := L.S1.getF (i := i) (d := d) (by rw [List.getElem?_set_self il])
    rw [ev] at e1
    cases e1
    have := L.S1.putF (.at_ r1) i
    rw [set_here ev, List.set_set] at this
    exact this
  have fin : ∀ {G2 H2 : Hp} {σ2 : L2.St} {Γ2 : Gm}, Same G1 G2 → Sta K O G2 H2 σ2 Γ2 → Γ2[i]? = some (some (.fr (.at_ b d))) → (∀ (j : Nat) (s' : Sl), j ≠ i → Γ2[j]? = some (some s') → noXS (lnC s) s') →
      (∀ b ∈ s.fp, ∀ o, G2 b = some o → Bad (lnC s) o) ∧ Same G (delS G2 s.fp) ∧ (∀ p ∈ D, H2 p.1 = some (.frz (od p.1) p.2)) ∧ Sta K O (delS G2 s.fp) (reH D H2) σ2 (Γ2.set i (some s)) := fun {G2 H2 σ2 Γ2} s2 S2 hi2 k => by
    obtain ⟨w, ew, rw'⟩ := S2.getF hi2
    cases rw' with
    | at_ r => exact S.unlend hi ow n h1 h2 L s2 S2 hi2 ew fun j s' hj e => .inl (k j s' hj e)
  refine h O G1 _ σ E' S1 (fun G2 H2 σ2 Γ2 s2 S2 ⟨⟨_, hi2, k⟩, p⟩ => ?_) (fun u G2 H2 σ2 Γ2 z s2 S2 ⟨⟨nz, hi2, k⟩, p⟩ => ?_) (fun G2 H2 σ2 Γ2 s2 S2 ⟨⟨_, hi2, k⟩, p⟩ => ?_) (fun G2 H2 σ2 Γ2 s2 S2 ⟨⟨_, hi2, k⟩, p⟩ => ?_) (fun σ2 C e fs G2 H2 Γ2 s2 S2 r z => z.elim)
  · obtain ⟨_, sd, hD, S3⟩ := fin s2 S2 hi2 k
    exact hN σ2 H2 hD (a1 _ _ _ _ sd S3 p)
  · have St := S2.tail
    obtain ⟨w, ew, rw'⟩ := St.getF hi2
    cases rw' with
    | at_ r =>
    obtain ⟨_, sd, hD, S3⟩ := S.unlend (i2 := i + 1) (Γ2 := some z :: Γ2) (σ2 := some u :: σ2) hi ow n h1 h2 L s2 S2 (by simpa using hi2) (by simpa using ew) (fun j s' hj e => by
      cases j with
      | zero => have e' : z = s' := by simpa using e
                subst e'; exact .inl nz
      | succ j => exact .inl (k j s' (by omega) (by simpa using e)))
    refine hR u H2 hD (a2 u _ _ σ2 (Γ2.set i (some s)) z sd ?_ p)
    simpa using S3
  · obtain ⟨_, sd, hD, S3⟩ := fin s2 S2 hi2 k
    exact hB σ2 H2 hD (a3 _ _ _ _ sd S3 p)
  · obtain ⟨_, sd, hD, S3⟩ := fin s2 S2 hi2 k
    exact hC σ2 H2 hD (a4 _ _ _ _ sd S3 p)
class KeepNC (c : Option Addr) (Γ2 : Gm) (i : Nat) (p : outParam Prop) : Prop where
  h : p → ∀ (j : Nat) (s' : Sl), j ≠ i → Γ2[j]? = some (some s') → noXS c s'
class KeepMC (c : Option Addr) (Γ2 : Gm) (p : outParam Prop) : Prop where
  h : p → ∀ (j : Nat) (s' : Sl), Γ2[j]? = some (some s') → noXS c s'
class KpNC (c : Option Addr) (y : Option Sl) (p : outParam Prop) : Prop where
  h : p → ∀ s, y = some s → noXS c s
instance : KpNC c none True := ⟨fun _ s e => by cases e⟩
instance {p : Prop} [h : NoXSC c s p] : KpNC c (some s) p := ⟨fun z s' e => by cases e; exact h.h z⟩
instance : KeepMC c [] True := ⟨fun _ j s e => by simp at e⟩
instance {y : Option Sl} {p q r : Prop} [h : KpNC c y p] [t : KeepMC c Γ2 q] [a : AndC p q r] : KeepMC c (y :: Γ2) r := ⟨fun z j s e => by
  cases j with
  | zero => exact h.h (a.h z).1 s (by simpa using e)
  | succ j => exact t.h (a.h z).2 j s (by simpa using e)⟩
instance {y : Option Sl} {p : Prop} [t : KeepMC c Γ2 p] : KeepNC c (y :: Γ2) 0 p := ⟨fun z j s hj e => by
  cases j with
  | zero => exact absurd rfl hj
  | succ j => exact t.h z j s (by simpa using e)⟩
instance {y : Option Sl} {p q r : Prop} [h : KpNC c y p] [t : KeepNC c Γ2 i q] [a : AndC p q r] : KeepNC c (y :: Γ2) (i + 1) r := ⟨fun z j s hj e => by
  cases j with
  | zero => exact h.h (a.h z).1 s (by simpa using e)
  | succ j => exact t.h (a.h z).2 j s (by omega) (by simpa using e)⟩
instance : NPC True True := ⟨id⟩
instance {N p q z : Prop} {Q : Gm → Prop} [n : NPC N p] [tt : At Γ2 i (.fr d)] [k : KeepNC c Γ2 i q] [sg : SetG Γ2 i (some s) Γ3] [an : AndC p q z] : Wk (LendN c Γ2 i s d N Q) (Side z (Q Γ3)) := ⟨fun h => ⟨⟨n.h (an.h h.1).1, tt.h, k.h (an.h h.1).2⟩, by rw [sg.h]; exact h.2⟩⟩
instance {kvs : List (List Key × Dt)} [tt : At Γ i (.oT b kvs)] [sg : SetG Γ i (some (.fr (.at_ b (.dT kvs)))) Γ'] : Wk (Go K W (tLnS i t) Γ ⟨nx, rt, xc, bk, ct⟩) (Go K W t Γ' ⟨fun Γ2 => LendN none Γ2 i (.oT b kvs) (.at_ b (.dT kvs)) True nx, fun r Γ2 => LendN none Γ2 i (.oT b kvs) (.at_ b (.dT kvs)) (noXS none r) (rt r), fun _ _ _ => False, fun Γ2 => LendN none Γ2 i (.oT b kvs) (.at_ b (.dT kvs)) True bk, fun Γ2 => LendN none Γ2 i (.oT b kvs) (.at_ b (.dT kvs)) True ct⟩) :=
  ⟨fun h => go_lnS tt.h (.oT b kvs) rfl (by rw [sg.h]; exact h)⟩
instance {kvs : List (Key × Dt)} [tt : At Γ i (.oK b kvs)] [sg : SetG Γ i (some (.fr (.at_ b (.dK kvs)))) Γ'] : Wk (Go K W (tLnS i t) Γ ⟨nx, rt, xc, bk, ct⟩) (Go K W t Γ' ⟨fun Γ2 => LendN none Γ2 i (.oK b kvs) (.at_ b (.dK kvs)) True nx, fun r Γ2 => LendN none Γ2 i (.oK b kvs) (.at_ b (.dK kvs)) (noXS none r) (rt r), fun _ _ _ => False, fun Γ2 => LendN none Γ2 i (.oK b kvs) (.at_ b (.dK kvs)) True bk, fun Γ2 => LendN none Γ2 i (.oK b kvs) (.at_ b (.dK kvs)) True ct⟩) :=
  ⟨fun h => go_lnS tt.h (.oK b kvs) rfl (by rw [sg.h]; exact h)⟩
instance (priority := high) [tt : At Γ i (.fr (.at_ b d))] : Wk (Ev K W (tVar i) Γ P X) (P d Γ) := ⟨fun p O G H σ Q S q x => by
  obtain ⟨v, e, r⟩ := S.getF tt.h
  cases r with
  | at_ r => exact ⟨_, e, q _ G H Γ d (Same.refl _) S r p⟩⟩
end
end DL
namespace L2
open PySem PySem.Spec PyProof.Rows
section
variable {X : Cx}
end
end L2
namespace DL
open PySem PySem.Spec L2
theorem idxOf_le_at {w : Str} : ∀ {ss : List Str} {m : Nat}, ss[m]? = some w → ss.idxOf w ≤ m
  | [], m, h => by simp at h
  | x :: ss, 0, h => by
    obtain rfl : x = w := by simpa using h
    simp
  | x :: ss, m + 1, h => by
    have := idxOf_le_at (ss := ss) (m := m) (by simpa using h)
    rw [List.idxOf_cons]
    cases x == w <;> simp <;> omega
def StrsQ (ds : List Dt) (Q : List Str → Prop) : Prop := ∃ ss, ds = ss.map .str ∧ Q ss
instance {ss : List Str} {Q : List Str → Prop} : Wk (StrsQ (ss.map .str) Q) (Q ss) := ⟨fun q => ⟨ss, rfl, q⟩⟩
instance {Q : List Str → Prop} : Wk (StrsQ [] Q) (Q []) := ⟨fun q => ⟨[], rfl, q⟩⟩
theorem reps_strs {K : PySem.W.Frag} {G : Hp} : ∀ {ss : List Str} {vs : List V}, Reps K G vs (ss.map .str) → vs = ss.map V.str
  | [], _, .nil => rfl
  | s :: ss, _, .cons r t => by
    cases r
    rw [reps_strs (ss := ss) t]; rfl
section
variable {K : PySem.W.Frag} {W : WX} {Γ Γ' Γ2 : Gm} {X : XP} {P : Dt → Gm → Prop} {PO : Sl → Gm → Prop} {te ta tb : TE} {i : Nat} {nx : Gm → Prop} {rt : Sl → Gm → Prop} {xc : XP} {bk ct : Gm → Prop} {a : Addr} {t : TA}
theorem ev_indexS (h : Ev K W ta Γ (fun d Γ1 => IsL d fun ds => StrsQ ds fun ss => Ev K W te Γ1 (fun y Γ2 => IsS y fun k => Side (k ∈ ss) (P (.int ((ss.idxOf k : Nat) : Int)) Γ2)) X) X) : Ev K W (tBM K "list" (rIndex K) ta (tCons te tNil)) Γ P X := fun O G H σ Q S q x =>
  h O G H σ _ S (fun v G1 H1 Γ1 d1 s1 S1 r1 ⟨ds, e1, ss, e2, h2⟩ => by
    subst e1 e2
    cases r1 with
    | @lst ad vs _ ha rs =>
    refine ⟨.inl ⟨rfl, _, SqL.of (S1.g _ _ ha)⟩, h2 O G1 H1 σ _ S1 (fun y G2 H2 Γ2 dy s2 S2 r2 ⟨k, ek, hk, p⟩ => ?_) (x.mono s1)⟩
    subst ek
    cases r2
    have ha2 := S2.g _ _ (s2 _ _ ha)
    rw [reps_strs rs] at ha2
    have lt : ss.idxOf k < ss.length := List.idxOf_lt_length_iff.mpr hk
    have at1 : ss[ss.idxOf k]? = some k := by rw [List.getElem?_eq_getElem lt]; simp
    have eqs : ∀ z : Str, eqV (.str z) (.str k) = decide (z = k) := fun z => by first | rfl | simp [eqV]
    refine ⟨ad, ss.map V.str, .str k, ss.idxOf k, .str k, rfl, rfl, SqL.of ha2, rfl, ?_, by rw [List.getElem?_map, at1]; rfl, by rw [eqs]; simp, fun m z hm hz => ?_, ?_⟩
    · rw [List.all_eq_true]
      intro z hz
      obtain ⟨w, _, rfl⟩ := List.mem_map.mp hz
      rfl
    · rw [List.getElem?_map] at hz
      cases hq : ss[m]? with
      | none => rw [hq] at hz; cases hz
      | some w =>
        rw [hq] at hz
        cases hz
        rw [eqs, decide_eq_false]
        intro e
        subst e
        have := idxOf_le_at hq
        omega
    · exact q _ G2 H2 Γ2 _ (s1.trans s2) S2 (.int _) p) x
end
end DL
namespace L2
open PySem PySem.Spec PyProof.Rows
section
variable {X : Cx} {C : Addr} {bmB : List Value} {B newId initId : String} {x : Str} {p pos pos2 : Pos}
end
end L2
namespace DL
open PySem PySem.Spec L2
section
variable {X : Cx} {x : Str} {C : Addr} {W : WX} {p pos pos2 : Pos}
end
section
variable {K : PySem.W.Frag} {W : WX} {Γ : Gm} {nx : Gm → Prop} {rt : Sl → Gm → Prop} {xc : XP} {bk ct : Gm → Prop} {C : Addr}
end
end DL
namespace L2
open PySem PySem.Spec PyProof.Rows
section
variable {X : Cx}
end
end L2
namespace DL
open PySem PySem.Spec L2
section
variable {K : PySem.W.Frag} {W : WX} {Γ : Gm} {X : XP} {P : Dt → Gm → Prop} {te ta : TE}
instance : Wk (Ev K W (tBM K "list" (rIndex K) ta (tCons te tNil)) Γ P X) (Ev K W ta Γ (fun d Γ1 => IsL d fun ds => StrsQ ds fun ss => Ev K W te Γ1 (fun y Γ2 => IsS y fun k => Side (k ∈ ss) (P (.int ((ss.idxOf k : Nat) : Int)) Γ2)) X) X) := ⟨ev_indexS⟩
end
end DL
namespace L2
open PySem PySem.Spec PyProof.Rows
theorem it_gen {J : It} {n : Nat} {G : Hp → Prop} {Y : Nat → Hp → V → Hp → Prop} (w : Walk J n G Y) {H0 : Hp} {Fin : Hp → Prop} {Body : (Hp → Prop) → V → Hp → Prop} (Pv : Nat → Hp → Prop) (h0 : Pv 0 H0) (hG : ∀ i H, i ≤ n → Pv i H → G H)
    (hs : ∀ i x H H', i < n → Pv i H → Y i H x H' → Body (Pv (i + 1)) x H') (hd : ∀ H, Pv n H → Fin H) :
    ∃ W : Nat → Nat → Hp → Prop, (∃ m, W 0 m H0) ∧ ∀ i m H, W i m H → (J.stop i H ∧ Fin H) ∨ (J.go i H ∧ ∃ Nx : Hp → Prop, (∀ H', Nx H' → ∃ m', m' < m ∧ W (i + 1) m' H') ∧ ∀ x H', J.yld i H x H' → Body Nx x H') := by
  refine ⟨fun i m H => m = n - i ∧ i ≤ n ∧ Pv i H, ⟨n, by simp, Nat.zero_le _, h0⟩, ?_⟩
  rintro i m H ⟨rfl, hi, p⟩
  have q := hG i H hi p
  by_cases hlt : i < n
  · exact .inr ⟨w.goes i H hlt q, Pv (i + 1), fun H' p' => ⟨n - (i + 1), by omega, rfl, hlt, p'⟩, fun x H' y => hs i x H H' hlt p (w.yields i H x H' hlt q y)⟩
  · have e : i = n := by omega
    subst e
    exact .inl ⟨w.stops H q, hd H p⟩
end L2
namespace DL
open PySem PySem.Spec L2
section
variable {K : PySem.W.Frag} {W : WX} {Γ Γ2 : Gm} {X : XP} {PO : Sl → Gm → Prop} {te : TE} {i : Nat} {a : Addr} {xs : List Dt} {O G H : Hp} {σ : St}
theorem Sta.skip (S : Sta K O G H σ Γ) (x : Option V) : Sta K O G H (x :: σ) (none :: Γ) := ⟨S.g, S.o, S.d, .no S.sl, S.nd, S.ng, S.no, S.om⟩
end
section
variable {K : PySem.W.Frag} {W : WX} {Γ : Gm} {X : XP} {te : TE} {tt tt1 : TT} {g g1 : TG} {wi wi1 : TI} {vs vs1 : List Nat}
def LC1 (K : PySem.W.Frag) (g1 : TG) (tt1 : TT) (te : TE) (vs1 : List Nat) (E : List Dt → Gm → Prop) (acc : List Dt) (ys : List Dt) (Γ : Gm) : Prop :=
  ∃ I1 : Nat → List Dt → Gm → Prop, I1 0 acc Γ ∧
    (∀ j y acc1 Γ6, ys[j]? = some y → I1 j acc1 Γ6 → GoG K WF g1 y Γ6 (fun Γ7 => EvT K WF tt1 Γ7 (fun b1 Γ8 => (b1 = true → Ev K WF te Γ8 (fun z Γ9 => acc1.length < 1000000 ∧ I1 (j + 1) (acc1 ++ [z]) (wipeG Γ9 vs1)) XF) ∧ (b1 = false → I1 (j + 1) acc1 (wipeG Γ8 vs1))) XF) XF) ∧
    (∀ acc1 Γ6, I1 ys.length acc1 Γ6 → E acc1 Γ6)
def LC2 (K : PySem.W.Frag) (g : TG) (tt : TT) (wi1 : TI) (g1 : TG) (tt1 : TT) (te : TE) (vs vs1 : List Nat) (P : Sl → Gm → Prop) (xs : List Dt) (Γ : Gm) : Prop :=
  ∃ I : Nat → List Dt → Gm → Prop, I 0 [] Γ ∧
    (∀ k x acc Γ2, xs[k]? = some x → I k acc Γ2 → GoG K WF g x Γ2 (fun Γ3 => EvT K WF tt Γ3 (fun b Γ4 => (b = true → EvI K WF wi1 Γ4 (fun ys Γ5 => LC1 K g1 tt1 te vs1 (fun acc1 Γ6 => I (k + 1) acc1 (wipeG Γ6 vs)) acc ys (wipeG Γ5 vs1)) XF) ∧ (b = false → I (k + 1) acc (wipeG Γ4 vs))) XF) XF) ∧
    (∀ a acc Γ2, I xs.length acc Γ2 → P (.ol a acc) Γ2)
theorem evo_lc2 {P : Sl → Gm → Prop} (hw : Wr g vs) (hm : MoG g) (hw1 : Wr g1 vs1) (hm1 : MoG g1) (h : EvI K W wi Γ (fun xs Γ1 => LC2 K g tt wi1 g1 tt1 te vs vs1 P xs (wipeG Γ1 vs)) X) : EvO K W (tLc2 wi g tt wi1 g1 tt1 te vs vs1) Γ P X := fun O G H σ Q S q x =>
  h O G H σ _ S (fun J G1 H1 Γ1 xs n GG Y s1 S1 w hn hG hY ⟨I, h0, hs, hd⟩ => by
    intro D nD
    have oD : O D = none := S1.o.free nD
    have gD : G1 D = none := S1.g.free nD
    have fD : D ∉ fps Γ1 := fun z => S1.there D z nD
    have xf : ∀ {O' G' : Hp} {σ' : St}, XOk K WF O' G' σ' XF := fun {O' G' σ'} C d fs G2 H2 Γ2 _ _ _ z => z
    refine it_gen w (Body := fun Nx x H' => g x (wipe σ vs) H' fun σ2 H2 => wipe σ2 vs = wipe σ vs ∧ tt σ2 H2 fun b H3 =>
        if b = true then wi1 σ2 H3 fun J1 H4 => ∃ W1 : Nat → Nat → Hp → Prop, (∃ m, W1 0 m H4) ∧ ∀ j k H, W1 j k H →
          (J1.stop j H ∧ Nx H) ∨ (J1.go j H ∧ ∃ Nx1 : Hp → Prop, (∀ H', Nx1 H' → ∃ k', k' < k ∧ W1 (j + 1) k' H') ∧ ∀ x H', J1.yld j H x H' → g1 x (wipe σ2 vs1) H' fun σ3 H5 => wipe σ3 vs1 = wipe σ2 vs1 ∧ tt1 σ3 H5 fun b H6 =>
            if b = true then te σ3 H6 fun y H7 => ∃ acc, H7 D = some (.lst acc) ∧ acc.length < sizeLine ∧ Nx1 (upd H7 D (.lst (acc ++ [y]))) else Nx1 H6)
        else Nx H3) (fun k H' => ∃ (G2 : Hp) (Γ2 : Gm) (acc : List Dt) (av : List V), Same G1 G2 ∧ Sta K (upd O D (.lst av)) G2 H' (wipe σ vs) Γ2 ∧ Reps K G2 av acc ∧ I k acc Γ2) ?_ (fun k H' _ ⟨G2, Γ2, acc, av, s2, S2, _⟩ => hG H' (s2.trans S2.g)) ?_ ?_
    · have T := (S1.ext (Ext.raw (ob := .lst []) S1.g nD)).toO upd_same oD gD fD trivial
      exact ⟨G1, _, [], [], Same.refl _, sta_wipe T vs, .nil, h0⟩
    · rintro k v H2 H3 hk ⟨G2, Γ2, acc, av, s2, S2, ra, p⟩ y
      have hx : xs[k]? = some (xs[k]'(by omega)) := by simp
      obtain ⟨G3, ex, r⟩ := hY k _ v G2 H2 H3 hx s2 S2.g y
      refine hm _ _ _ _ _ (fun σ2 H2 z => (fun (e : wipe σ2 vs = wipe σ vs) => ⟨e, z.2 e⟩) (z.1.trans (wipe_in fun v hv => hv))) (hw v (wipe σ vs) H3 (fun σ2 H2 => wipe σ2 vs = wipe σ vs → tt σ2 H2 fun b H3 =>
        if b = true then wi1 σ2 H3 fun J1 H4 => ∃ W1 : Nat → Nat → Hp → Prop, (∃ m, W1 0 m H4) ∧ ∀ j k2 H, W1 j k2 H →
          (J1.stop j H ∧ ∃ (G2 : Hp) (Γ2 : Gm) (acc : List Dt) (av : List V), Same G1 G2 ∧ Sta K (upd O D (.lst av)) G2 H (wipe σ vs) Γ2 ∧ Reps K G2 av acc ∧ I (k + 1) acc Γ2) ∨ (J1.go j H ∧ ∃ Nx1 : Hp → Prop, (∀ H', Nx1 H' → ∃ k', k' < k2 ∧ W1 (j + 1) k' H') ∧ ∀ x H', J1.yld j H x H' → g1 x (wipe σ2 vs1) H' fun σ3 H5 => wipe σ3 vs1 = wipe σ2 vs1 ∧ tt1 σ3 H5 fun b H6 =>
            if b = true then te σ3 H6 fun y H7 => ∃ acc, H7 D = some (.lst acc) ∧ acc.length < sizeLine ∧ Nx1 (upd H7 D (.lst (acc ++ [y]))) else Nx1 H6)
        else ∃ (G2 : Hp) (Γ2 : Gm) (acc : List Dt) (av : List V), Same G1 G2 ∧ Sta K (upd O D (.lst av)) G2 H3 (wipe σ vs) Γ2 ∧ Reps K G2 av acc ∧ I (k + 1) acc Γ2) ?_)
      refine hs k _ acc Γ2 hx p _ G3 H3 _ v _ (S2.ext ex) r (fun G4 H4 σ4 Γ4 s4 S4 p4 e4 => ?_) fun σ5 => xf
      have r4 : Reps K G4 av acc := (ra.mono ex.g).mono s4
      have s14 : Same G1 G4 := s2.trans (ex.g.trans s4)
      refine p4 _ G4 H4 σ4 _ S4 (fun b G5 H5 Γ5 s5 S5 p5 => ?_) xf
      cases b with
      | false =>
        refine iteF ⟨G5, _, acc, av, s14.trans s5, ?_, r4.mono s5, p5.2 rfl⟩
        have T := sta_wipe S5 vs
        rw [e4] at T
        exact T
      | true =>
        refine iteT (p5.1 rfl _ G5 H5 σ4 _ S5 (fun J1 G6 H6 Γ6 ys n1 GG1 Y1 s6 S6 w1 hn1 hG1 hY1 ⟨I1, i0, is, id⟩ => ?_) xf)
        have r6 : Reps K G6 av acc := (r4.mono s5).mono s6
        have s16 : Same G1 G6 := (s14.trans s5).trans s6
        refine it_gen w1 (Body := fun Nx1 x H' => g1 x (wipe σ4 vs1) H' fun σ3 H5 => wipe σ3 vs1 = wipe σ4 vs1 ∧ tt1 σ3 H5 fun b H6 =>
            if b = true then te σ3 H6 fun y H7 => ∃ acc, H7 D = some (.lst acc) ∧ acc.length < sizeLine ∧ Nx1 (upd H7 D (.lst (acc ++ [y]))) else Nx1 H6) (fun j H' => ∃ (G2 : Hp) (Γ2 : Gm) (acc : List Dt) (av : List V), Same G6 G2 ∧ Sta K (upd O D (.lst av)) G2 H' (wipe σ4 vs1) Γ2 ∧ Reps K G2 av acc ∧ I1 j acc Γ2) ?_ (fun k H' _ ⟨G2, Γ2, acc, av, s2, S2, _⟩ => hG1 H' (s2.trans S2.g)) ?_ ?_
        · exact ⟨G6, _, acc, av, Same.refl _, sta_wipe S6 vs1, r6, i0⟩
        · rintro j u H7 H8 hj ⟨G7, Γ7, acc1, av1, s7, S7, ra1, p7⟩ y1
          have hy : ys[j]? = some (ys[j]'(by omega)) := by simp
          obtain ⟨G8, ex8, r8⟩ := hY1 j _ u G7 H7 H8 hy s7 S7.g y1
          refine hm1 _ _ _ _ _ (fun σ2 H2 z => (fun (e : wipe σ2 vs1 = wipe σ4 vs1) => ⟨e, z.2 e⟩) (z.1.trans (wipe_in fun v hv => hv))) (hw1 u (wipe σ4 vs1) H8 (fun σ2 H2 => wipe σ2 vs1 = wipe σ4 vs1 → tt1 σ2 H2 fun b H3 => if b = true then te σ2 H3 fun y H4 => ∃ acc, H4 D = some (HO.lst acc) ∧ acc.length < sizeLine ∧
            ∃ (G2 : Hp) (Γ2 : Gm) (acc_1 : List Dt) (av : List V), Same G6 G2 ∧ Sta K (upd O D (HO.lst av)) G2 (upd H4 D (HO.lst (acc ++ [y]))) (wipe σ4 vs1) Γ2 ∧ Reps K G2 av acc_1 ∧ I1 (j + 1) acc_1 Γ2
            else ∃ (G2 : Hp) (Γ2 : Gm) (acc : List Dt) (av : List V), Same G6 G2 ∧ Sta K (upd O D (HO.lst av)) G2 H3 (wipe σ4 vs1) Γ2 ∧ Reps K G2 av acc ∧ I1 (j + 1) acc Γ2) ?_)
          refine is j _ acc1 Γ7 hy p7 _ G8 H8 _ u _ (S7.ext ex8) r8 (fun G9 H9 σ9 Γ9 s9 S9 p9 e9 => ?_) fun σ5 => xf
          have r9 : Reps K G9 av1 acc1 := (ra1.mono ex8.g).mono s9
          have s69 : Same G6 G9 := s7.trans (ex8.g.trans s9)
          refine p9 _ G9 H9 σ9 _ S9 (fun b1 GA HA ΓA sA SA pA => ?_) xf
          cases b1 with
          | false =>
            refine iteF ⟨GA, _, acc1, av1, s69.trans sA, ?_, r9.mono sA, pA.2 rfl⟩
            have T := sta_wipe SA vs1
            rw [e9] at T
            exact T
          | true =>
            refine iteT (pA.1 rfl _ GA HA σ9 _ SA (fun y GB HB ΓB dy sB SB rB pB => ?_) xf)
            refine ⟨av1, SB.o D _ upd_same, by rw [((r9.mono sA).mono sB).length]; exact Nat.lt_of_lt_of_le pB.1 (by decide), GB, _, acc1 ++ [dy], av1 ++ [y], s69.trans (sA.trans sB), ?_, ((r9.mono sA).mono sB).append (.cons rB .nil), pB.2⟩
            have T := sta_wipe (SB.updO (o' := .lst (av1 ++ [y])) trivial) vs1
            rw [e9] at T
            exact T
        · rintro H7 ⟨G7, Γ7, acc1, av1, s7, S7, ra1, p7⟩
          refine ⟨G7, wipeG Γ7 vs, acc1, av1, s16.trans s7, ?_, ra1, id _ _ (by rw [← hn1]; exact p7)⟩
          have T := sta_wipe (sta_unwipe S7) vs
          rw [e4] at T
          exact T
    · rintro H2 ⟨G2, Γ2, acc, av, s2, S2, ra, p⟩
      have T := sta_unwipe S2
      have hD : H2 D = some (.lst av) := T.o D _ upd_same
      have gD2 : G2 D = none := T.d D (by rw [upd_same]; simp)
      have fD2 : D ∉ fps Γ2 := fun z => by have n := T.no D z; rw [upd_same] at n; cases n
      refine q (.ref D) G2 H2 Γ2 (.ol D acc) (s1.trans s2) ((T.offO oD).push (.ol hD ra) (by simp [Sl.fp]) ?_ ?_ ?_) (hd D acc Γ2 (by rw [← hn]; exact p))
      · intro b hb; simp [Sl.fp] at hb; subst hb; exact gD2
      · intro b hb; simp [Sl.fp] at hb; subst hb; exact oD
      · intro b hb; simp [Sl.fp] at hb; subst hb; exact fD2) x
variable {Γ' : Gm} {P : Sl → Gm → Prop} {xs ys : List Dt}
instance [h : WrC g vs] [h1 : WrC g1 vs1] : Wk (EvO K W (tLc2 wi g tt wi1 g1 tt1 te vs vs1) Γ P X) (EvI K W wi Γ (fun xs Γ1 => LC2 K g tt wi1 g1 tt1 te vs vs1 P xs (wipeG Γ1 vs)) X) := ⟨fun q => evo_lc2 h.h h.m h1.h h1.m q⟩
instance {P : Dt → Gm → Prop} : Wk (Ev K W (tLc2 wi g tt wi1 g1 tt1 te vs vs1) Γ P X) (EvO K W (tLc2 wi g tt wi1 g1 tt1 te vs vs1) Γ (fun s Γ2 => Fz s fun d => P d Γ2) X) := ⟨ev_frz⟩
instance {nx : Gm → Prop} {rt : Sl → Gm → Prop} {xc : XP} {bk ct : Gm → Prop} {i : Nat} : Wk (Go K W (tAsg (tLc2 wi g tt wi1 g1 tt1 te vs vs1) (gName i)) Γ ⟨nx, rt, xc, bk, ct⟩) (EvO K W (tLc2 wi g tt wi1 g1 tt1 te vs vs1) Γ (fun s Γ1 => nx (Γ1.set i (some s))) xc) := ⟨g_setO⟩
instance (priority := 2000) {l : List Nat} [h : WipeC Γ l Γ'] : Wk (LC2 K g tt wi1 g1 tt1 te vs vs1 P xs (wipeG Γ l)) (LC2 K g tt wi1 g1 tt1 te vs vs1 P xs Γ') := ⟨fun q => by rw [h.h]; exact q⟩
instance (priority := 2000) {l : List Nat} {E : List Dt → Gm → Prop} {acc : List Dt} [h : WipeC Γ l Γ'] : Wk (LC1 K g1 tt1 te vs1 E acc ys (wipeG Γ l)) (LC1 K g1 tt1 te vs1 E acc ys Γ') := ⟨fun q => by rw [h.h]; exact q⟩
end
end DL
namespace DL
open PySem PySem.Spec L2
def upTo (n : Nat) : Nat → List Addr
  | 0 => []
  | k + 1 => (n - (k + 1)) :: upTo n k
open HandSHeadRun PySem.W in
theorem run_parts {r : OpenRow} {q : Program} {H : Hook} {ob : SharedT → H.α} {M : Nat} {loose : List PySem.Str} {w : World}
    (hA : ∀ os : OsState, (HandSHeadRun.endF (HandSHeadRun.stepQ (HandSHeadRun.denQ HandSHeadRun.tabQ) r.prog w) M r.prog w os).map (fun s => HandSHeadRun.looksF r.prog (boot_heap w.params) s.abs) = some true)
    (hB : ∀ os : OsState, (HandSHeadRun.endF (HandSHeadRun.stepQ (HandSHeadRun.denQ HandSHeadRun.tabQ) r.prog w) M r.prog w os).map (fun s => HandSHeadRun.seenQ q loose (importedModules r.prog.main.body) (fun s => xlAt q [] s && recOk r.toRowW.records s) s.abs) = some (openGood q loose))
    (hC : ∀ os : OsState, (HandSHeadRun.endF (HandSHeadRun.stepQ (HandSHeadRun.denQ HandSHeadRun.tabQ) r.prog w) M r.prog w os).map ob = some (H.val w)) : HandSHeadRun.RunEq r q H ob M loose w := fun os => by
  have a := hA os
  have b := hB os
  have c := hC os
  cases e : HandSHeadRun.endF (HandSHeadRun.stepQ (HandSHeadRun.denQ HandSHeadRun.tabQ) r.prog w) M r.prog w os with
  | none => rw [e] at a; cases a
  | some s =>
    rw [e, Option.map_some, Option.some.injEq] at a b c
    rw [Option.map_some, a, b, c]
end DL
namespace DL
open PySem PySem.Spec L2
section
variable {K : PySem.W.Frag} {W : WX} {Γ Γ' : Gm} {X : XP} {te : TE} {tt tt1 : TT} {g g1 : TG} {wi wi1 : TI} {vs vs1 : List Nat} {P : Sl → Gm → Prop}
theorem EvI.imp {P P' : List Dt → Gm → Prop} (h : EvI K W wi Γ P X) (k : ∀ xs Γ2, P xs Γ2 → P' xs Γ2) : EvI K W wi Γ P' X := fun O G H σ R S q x =>
  h O G H σ R S (fun J G2 H2 Γ2 xs n GG Y s S2 w e gg y p => q J G2 H2 Γ2 xs n GG Y s S2 w e gg y (k xs Γ2 p)) x
theorem GoG.imp {d : Dt} {P P' : Gm → Prop} (h : GoG K W g d Γ P X) (k : ∀ Γ2, P Γ2 → P' Γ2) : GoG K W g d Γ P' X := fun O G H σ v Q S r q e =>
  h O G H σ v Q S r (fun G2 H2 σ2 Γ2 s S2 p => q G2 H2 σ2 Γ2 s S2 (k Γ2 p)) e
end
end DL
namespace L2
open PySem PySem.Spec PySem.W PyProof.Rows
def scI : V → V → Bool
  | .int _, .int _ => true
  | .non, .non => true
  | .non, .int _ => true
  | .int _, .non => true
  | .bl _, .bl _ => true
  | .str _, .str _ => true
  | _, _ => false
def eqKV (kvs lvs : List (Key × V)) : Bool := kvs.length == lvs.length && kvs.all fun p => decide (valV lvs p.1 = some p.2)
def rEqK : R2 := fun x y H Q => ∃ (a b : Addr) (kvs lvs : List (Key × V)), x = .ref a ∧ y = .ref b ∧ Rd H a (.dK kvs) ∧ Rd H b (.dK lvs) ∧ (∀ p ∈ kvs, ∀ y, valV lvs p.1 = some y → scI p.2 y = true) ∧ Q (.bl (eqKV kvs lvs)) H
def rNeK : R2 := fun x y H Q => ∃ (a b : Addr) (kvs lvs : List (Key × V)), x = .ref a ∧ y = .ref b ∧ Rd H a (.dK kvs) ∧ Rd H b (.dK lvs) ∧ (∀ p ∈ kvs, ∀ y, valV lvs p.1 = some y → scI p.2 y = true) ∧ Q (.bl (!eqKV kvs lvs)) H
section
variable {X : Cx}
end
end L2
namespace DL
open PySem PySem.Spec L2
def scD : Dt → Dt → Bool
  | .int _, .int _ => true
  | .non, .non => true
  | .non, .int _ => true
  | .int _, .non => true
  | .bl _, .bl _ => true
  | .str _, .str _ => true
  | _, _ => false
def eqE (lvs : List (Key × Dt)) (p : Key × Dt) : Bool := match vA lvs p.1 with
  | some y => eqS p.2 y == some true
  | none => false
def eqKD (kvs lvs : List (Key × Dt)) : Bool := kvs.length == lvs.length && kvs.all (eqE lvs)
def okKD (kvs lvs : List (Key × Dt)) : Prop := ∀ p ∈ kvs, ∀ y, vA lvs p.1 = some y → scD p.2 y = true
def dEqK (x y : Dt) (R : Dt → Prop) : Prop := ∃ kvs lvs, x = .dK kvs ∧ y = .dK lvs ∧ okKD kvs lvs ∧ R (.bl (eqKD kvs lvs))
def dNeK (x y : Dt) (R : Dt → Prop) : Prop := ∃ kvs lvs, x = .dK kvs ∧ y = .dK lvs ∧ okKD kvs lvs ∧ R (.bl (!eqKD kvs lvs))
section
variable {K : PySem.W.Frag} {G : Hp}
theorem repK_val : ∀ {lv : List (Key × V)} {lvs : List (Key × Dt)}, RepK K G lv lvs → ∀ (k : Key), (valV lv k = none ∧ vA lvs k = none) ∨ ∃ y d, valV lv k = some y ∧ vA lvs k = some d ∧ Rep K G y d
  | _, _, .nil, k => .inl ⟨rfl, rfl⟩
  | (f, v) :: vs, (_, d) :: ds, .cons r t, k => by
    by_cases e : f = k
    · exact .inr ⟨v, d, by simp [valV, e], by simp [vA, e], r⟩
    · have e1 : valV ((f, v) :: vs) k = valV vs k := by simp [valV, e]
      have e2 : vA ((f, d) :: ds) k = vA ds k := by simp [vA, e]
      rw [e1, e2]
      exact repK_val t k
theorem sc_ok {x y : V} {dx dy : Dt} (rx : Rep K G x dx) (ry : Rep K G y dy) (h : scD dx dy = true) : scI x y = true ∧ decide (x = y) = (eqS dx dy == some true) := by
  cases rx <;> cases ry <;> simp [scD] at h <;> simp [scI, eqS]
theorem repK_eq {lv : List (Key × V)} {lvs : List (Key × Dt)} (hl : RepK K G lv lvs) : ∀ {kv : List (Key × V)} {kvs : List (Key × Dt)}, RepK K G kv kvs → okKD kvs lvs →
    (∀ p ∈ kv, ∀ y, valV lv p.1 = some y → scI p.2 y = true) ∧ (kv.all fun p => decide (valV lv p.1 = some p.2)) = kvs.all (eqE lvs)
  | _, _, .nil, _ => ⟨fun p h => (nomatch h), rfl⟩
  | (f, v) :: vs, (_, d) :: ds, .cons r t, h => by
    obtain ⟨h1, h2⟩ := repK_eq hl t fun p hp => h p (List.mem_cons_of_mem _ hp)
    rcases repK_val hl f with ⟨e1, e2⟩ | ⟨y, dy, e1, e2, ry⟩
    · refine ⟨fun p hp y hy => ?_, ?_⟩
      · rcases List.mem_cons.mp hp with rfl | hp
        · rw [e1] at hy; cases hy
        · exact h1 p hp y hy
      · rw [List.all_cons, List.all_cons, h2]
        congr 1
        simp [eqE, e1, e2]
    · obtain ⟨s1, s2⟩ := sc_ok r ry (h (f, d) (by simp) dy e2)
      refine ⟨fun p hp z hz => ?_, ?_⟩
      · rcases List.mem_cons.mp hp with rfl | hp
        · rw [e1] at hz; cases hz; exact s1
        · exact h1 p hp z hz
      · rw [List.all_cons, List.all_cons, h2]
        congr 1
        simp only [eqE, e2, ← s2, e1]
        by_cases g : v = y
        · subst g; simp
        · rw [decide_eq_false g, decide_eq_false (fun z => g (Option.some.inj z).symm)]
theorem repK_len : ∀ {kv : List (Key × V)} {kvs : List (Key × Dt)}, RepK K G kv kvs → kv.length = kvs.length
  | _, _, .nil => rfl
  | _ :: _, _ :: _, .cons _ t => by simp [repK_len t]
theorem rd_eqK : RD K rEqK dEqK := fun G H x y dx dy R Q s rx ry ⟨kvs, lvs, e1, e2, ok, p⟩ q => by
  subst e1 e2
  cases rx with
  | @dK a oa av _ ga ra =>
    cases ry with
    | @dK b ob bv _ gb rb =>
      obtain ⟨h1, h2⟩ := repK_eq rb ra ok
      refine ⟨_, _, av, bv, rfl, rfl, .inr ⟨_, s _ _ ga⟩, .inr ⟨_, s _ _ gb⟩, h1, ?_⟩
      unfold eqKV
      rw [h2, repK_len ra, repK_len rb]
      exact q _ G H _ (Ext.refl s) (.bl _) p
theorem rd_neK : RD K rNeK dNeK := fun G H x y dx dy R Q s rx ry ⟨kvs, lvs, e1, e2, ok, p⟩ q => by
  subst e1 e2
  cases rx with
  | @dK a oa av _ ga ra =>
    cases ry with
    | @dK b ob bv _ gb rb =>
      obtain ⟨h1, h2⟩ := repK_eq rb ra ok
      refine ⟨_, _, av, bv, rfl, rfl, .inr ⟨_, s _ _ ga⟩, .inr ⟨_, s _ _ gb⟩, h1, ?_⟩
      unfold eqKV
      rw [h2, repK_len ra, repK_len rb]
      exact q _ G H _ (Ext.refl s) (.bl _) p
instance : OpC K rEqK dEqK := ⟨rd_eqK⟩
instance : OpC K rNeK dNeK := ⟨rd_neK⟩
end
instance {x y : List (Key × Dt)} {R : Dt → Prop} : Wk (dEqK (.dK x) (.dK y) R) (Side (okKD x y) (R (.bl (eqKD x y)))) := ⟨fun h => ⟨_, _, rfl, rfl, h.1, h.2⟩⟩
instance {x y : List (Key × Dt)} {R : Dt → Prop} : Wk (dNeK (.dK x) (.dK y) R) (Side (okKD x y) (R (.bl (!eqKD x y)))) := ⟨fun h => ⟨_, _, rfl, rfl, h.1, h.2⟩⟩
end DL
namespace L2
open PySem PySem.Spec PyProof.Rows
def tLnT (_ : Nat) (W : WX) (t : WX → TT) : TT := fun σ H Q => LkW (fun W' H' Q' => t W' σ H' fun b H2 => Q' (.bl b) H2) W H fun v H' => ∃ b, v = .bl b ∧ Q b H'
section
variable {X : Cx}
theorem mkLnT {e : Expr} {t : WX → TT} {W : WX} (i : Nat) (tk : Takes X W) (h : ∀ W', Takes X W' → PT X e (t W')) : PT X e (tLnT i W t) := by
  refine ⟨fun pins s σ H Q I hw => ?_⟩
  have go : ∀ {W : WX} {H : Hp} {Q : VK}, LkW (fun W' H' Q' => t W' σ H' fun b H2 => Q' (.bl b) H2) W H Q → Takes X W → Inv X pins σ H s → wpAny (model X.prog X.w) X.A (isTrue e X.env (eval e X.env)) (TP X pins σ fun b H' => Q (.bl b) H') X.xe s := by
    intro W H Q hw
    induction hw with
    | run hw => exact fun tk I => (h _ tk).run pins s σ _ _ I hw
    | lock d u hd mu _ ih =>
      intro tk I
      obtain ⟨od, I1⟩ := I.lock hd mu
      refine thn (ih od (tk.locked (I.nofrz hd mu)) I1) fun b s1 ⟨H1, I2, e2, q⟩ => ?_
      exact ⟨_, I2.unlock e2 (I.nofrz hd mu), q⟩
  refine thn (go hw tk I) fun b s1 ⟨H1, I2, b', e, q⟩ => ?_
  cases e
  exact ⟨H1, I2, q⟩
end
end L2
namespace DL
open PySem PySem.Spec L2
section
variable {K : PySem.W.Frag} {W : WX} {Γ Γ' : Gm} {X : XP} {P : Bool → Gm → Prop} {i : Nat} {s : Sl} {d : Dt} {c : Option Addr} {tw : WX → TT}
theorem evt_ln {t : WX → TT} (hi : Γ[i]? = some (some s)) (hl : Ln s d) (h : ∀ W', EvT K W' (t W') (Γ.set i (some (.fr d))) (fun z Γ2 => LendX (lnC s) (Γ.set i (some (.fr d))) Γ2 i s d True (P z)) (fun C fs Γ2 => LendX (lnC s) (Γ.set i (some (.fr d))) Γ2 i s d (noXf (lnC s) fs) (X C fs))) : EvT K W (tLnT i W t) Γ P X := fun O G H σ Q S q x => by
  obtain ⟨v, D, ev, ow, n, h1, h2, hG⟩ := S.lend hi hl
  refine lkW_list n (fun p hp => ⟨(h1 p hp).2.1, (h1 p hp).2.2.1⟩) fun od W' Q' hW hQ => ?_
  obtain ⟨G1, L⟩ := hG od
  have keep : ∀ {Γ2 : Gm}, KeepX (lnC s) (Γ.set i (some (.fr d))) Γ2 i → ∀ (j : Nat) (s' : Sl), j ≠ i → Γ2[j]? = some (some s') → noXS (lnC s) s' ∨ ∃ d w, s' = .fr d ∧ σ[j]? = some (some w) ∧ Rep K G w d := fun {Γ2} k j s' hj e => by
    rcases k j s' hj e with n | ⟨d0, rfl, e0⟩
    · exact .inl n
    · rw [List.getElem?_set_ne (Ne.symm hj)] at e0
      obtain ⟨w, ew, r⟩ := S.getF e0
      exact .inr ⟨d0, w, rfl, ew, r⟩
  refine h W' O G1 _ σ (fun b H2 => Q' (.bl b) H2) L.S1 (fun b G2 H2 Γ2 s2 S2 ⟨⟨_, hi2, k⟩, p⟩ => ?_) (fun C e fs G2 H2 Γ2 s2 S2 r ⟨⟨nz, hi2, k⟩, p⟩ => ?_)
  · obtain ⟨bad, sd, hD, S3⟩ := S.unlend hi ow n h1 h2 L s2 S2 hi2 ev (keep k)
    exact hQ (.bl b) H2 hD ⟨b, rfl, q b _ _ _ sd S3 p⟩
  · obtain ⟨bad, sd, hD, S3⟩ := S.unlend hi ow n h1 h2 L s2 S2 hi2 ev (keep k)
    exact hW _ e σ H2 hD (x C e fs _ _ _ sd S3 (r.delS bad nz) p)
instance : NPC True True := ⟨id⟩
instance [tt : At Γ i s] [l : LnC s d c] [sg : SetG Γ i (some (.fr d)) Γ'] : Wk (EvT K W (tLnT i W tw) Γ P X) (∀ W', EvT K W' (tw W') Γ' (fun z Γ2 => LendX c Γ' Γ2 i s d True (P z)) (fun C fs Γ2 => LendX c Γ' Γ2 i s d (noXf c fs) (X C fs))) := ⟨fun h => evt_ln tt.h l.h fun W' => by rw [l.e, sg.h]; exact h W'⟩
instance (priority := high) [tt : At Γ i (.fr d)] : Wk (EvT K W (tLnT i W tw) Γ P X) (EvT K W (tw W) Γ P X) := ⟨fun h O G H σ Q S q x => .run (by
  refine h O G H σ (fun b H2 => ∃ b', V.bl b = .bl b' ∧ Q b' H2) S (fun b G2 H2 Γ2 s2 S2 p => ⟨b, rfl, q b G2 H2 Γ2 s2 S2 p⟩) x)⟩
end
end DL
namespace L2
open PySem PySem.Spec RT
end L2
namespace DL
open PySem PySem.Spec RT L2
section
variable {K : PySem.W.Frag} {W : WX} {Γ : Gm} {X : XP} {PI : List Dt → Gm → Prop}
theorem ei_revA {te : TE} (h : Ev K W te Γ (fun d Γ1 => ∃ ds, d = .lst ds ∧ PI ds.reverse Γ1) X) : EvI K W (iRevA K te) Γ PI X := fun O G H σ R S q x =>
  h O G H σ _ S (fun v G1 H1 Γ1 dd s1 S1 r ⟨ds, e, p⟩ => by
    subst e
    cases r with
    | @lst ad vs _ ha rs =>
      have hl := rs.length
      refine ⟨ad, vs, rfl, .inl ⟨SqL.of (S1.g _ _ ha), q _ G1 H1 Γ1 _ _ _ _ s1 S1 (walk_rev (K := K) (a := ad) (xs := vs)) (by rw [List.length_reverse, hl]) (fun H' s' => SqL.of (s' _ _ ha)) (fun k x v G2 H2 H3 hx s2 g2 y => ?_) p⟩⟩
      obtain ⟨rfl, hv⟩ := y
      have hk : k < ds.reverse.length := (List.getElem?_eq_some_iff.mp hx).1
      rw [List.length_reverse] at hk
      rw [List.getElem?_reverse hk] at hx
      rw [hl] at hv
      obtain ⟨d', hd', rr⟩ := rs.get' hv
      rw [hx] at hd'; cases hd'
      exact ⟨G2, Ext.refl g2, rr.mono s2⟩) x
def LstQ (d : Dt) (Q : List Dt → Prop) : Prop := ∃ ds, d = .lst ds ∧ Q ds
instance {ds : List Dt} {Q : List Dt → Prop} : Wk (LstQ (.lst ds) Q) (Q ds) := ⟨fun q => ⟨ds, rfl, q⟩⟩
instance {te : TE} : Wk (EvI K W (iRevA K te) Γ PI X) (Ev K W te Γ (fun d Γ1 => LstQ d fun ds => PI ds.reverse Γ1) X) := ⟨ei_revA⟩
end
end DL
namespace DL
open PySem PySem.Spec L2
section
variable {K : PySem.W.Frag} {W : WX} {Γ : Gm} {X : XP} {P : Dt → Gm → Prop} {ta tb tc : TE}
theorem ev_chain {r r' : R2} {ρ ρ' : Dt → Dt → (Dt → Prop) → Prop} (hr : RD K r ρ) (hr' : RD K r' ρ') (h : Ev K W ta Γ (fun x Γ1 => Ev K W tb Γ1 (fun y Γ2 => ρ x y fun z => IsB z fun b => Br b (Ev K W tc Γ2 (fun w Γ3 => ρ' y w fun v => P v Γ3) X) (P (.bl false) Γ2)) X) X) : Ev K W (tChain r r' ta tb tc) Γ P X := fun O G H σ Q S q x =>
  h O G H σ _ S (fun v1 G1 H1 Γ1 d1 s1 S1 r1 h1 => h1 O G1 H1 σ _ S1 (fun v2 G2 H2 Γ2 d2 s2 S2 r2 h2 =>
    hr G2 H2 v1 v2 d1 d2 _ _ S2.g (r1.mono s2) r2 h2 fun v G3 H3 d e r3 p => by
      obtain ⟨b, rfl, p⟩ := p
      cases r3
      refine ⟨b, rfl, ?_⟩
      cases b with
      | false =>
        rw [if_neg (by simp)]
        exact q (.bl false) G3 H3 Γ2 (.bl false) (s1.trans (s2.trans e.g)) (S2.ext e) (.bl _) (p.2 rfl)
      | true =>
        rw [if_pos rfl]
        exact (p.1 rfl) O G3 H3 σ _ (S2.ext e) (fun v3 G4 H4 Γ3 d3 s3 S3 r4 h3 => hr' G4 H4 v2 v3 d2 d3 _ Q S3.g ((r2.mono e.g).mono s3) r4 h3 fun v G5 H5 d' e' r5 p' => q v G5 H5 Γ3 d' (s1.trans (s2.trans (e.g.trans (s3.trans e'.g)))) (S3.ext e') r5 p') ((x.mono (s1.trans s2)).mono e.g)) (x.mono s1)) x
instance {r r' : R2} {ρ ρ' : Dt → Dt → (Dt → Prop) → Prop} [o : OpC K r ρ] [o' : OpC K r' ρ'] : Wk (Ev K W (tChain r r' ta tb tc) Γ P X) (Ev K W ta Γ (fun x Γ1 => Ev K W tb Γ1 (fun y Γ2 => ρ x y fun z => IsB z fun b => Br b (Ev K W tc Γ2 (fun w Γ3 => ρ' y w fun v => P v Γ3) X) (P (.bl false) Γ2)) X) X) := ⟨ev_chain o.rd o'.rd⟩
end
end DL
namespace DL
open PySem PySem.Spec L2
section
variable {X : Cx} {x m : Str} {C : Addr} {W : WX} {j : Nat} {p p2 pos pos2 : Pos}
end
end DL
namespace L2
open PySem PySem.Spec PyProof.Rows
section
variable {X : Cx} {pos : Pos} {k v : Expr} {tk tv : TE}
end
end L2
namespace DL
open PySem PySem.Spec L2
section
variable {K : PySem.W.Frag} {W : WX} {Γ : Gm} {X : XP} {P : Sl → Gm → Prop} {tk tv : TE}
end
end DL
namespace L2
open PySem PySem.Spec PyProof.Rows
section
variable {X : Cx} {a b c d : Expr} {ta tb tc td : TE} {pos : Pos}
end
end L2
namespace DL
open PySem PySem.Spec L2
section
variable {K : PySem.W.Frag} {W : WX} {Γ : Gm} {X : XP} {P : Dt → Gm → Prop} {ta tb tc td : TE}
end
end DL
namespace IX
open PySem PySem.Spec PyProof.Rows L2
variable {Z : Cx}
end IX
namespace DL
open PySem PySem.Spec L2
end DL
namespace DL
open PySem PySem.Spec L2
section
variable {K : PySem.W.Frag} {W : WX} {Γ Γ' : Gm} {X : XP} {P : Dt → Gm → Prop} {i : Nat}
theorem ev_pinV {s : Sl} {d : Dt} (hi : Γ[i]? = some (some s)) (f : Frz2 s d) (p : P d (Γ.set i (some (.fr d)))) : Ev K W (tPin (tVar i)) Γ P X := fun O G H σ Q S q _ => by
  obtain ⟨v, e, o⟩ := S.get hi
  obtain ⟨m1, m2⟩ := fps_part hi S.nd
  have il : i < σ.length := by
    rcases Nat.lt_or_ge i σ.length with z | z
    · exact z
    · rw [List.getElem?_eq_none z] at e; cases e
  have Sf := S.forget i (some v)
  have es : σ.set i (some v) = σ := by
    apply List.ext_getElem?
    intro j
    rw [List.getElem?_set]
    by_cases hj : i = j
    · subst hj; rw [if_pos rfl, e, if_pos il]
    · rw [if_neg hj]
  rw [es] at Sf
  have Sp := Sf.push o m1 (fun a ha => S.ng a (mem_fps hi a ha)) (fun a ha => S.no a (mem_fps hi a ha)) m2
  refine ⟨v, e, pin_all f Sp fun G3 H3 s3 _ S3 r => ?_⟩
  have S4 := (S3.pushF r).put i
  rw [es, List.set_set] at S4
  exact q v G3 H3 _ d s3 S4 r p
instance (priority := high) {s : Sl} {d : Dt} [h : At Γ i s] [f : Frz2C s d] [q : SetG Γ i (some (.fr d)) Γ'] : Wk (Ev K W (tPin (tVar i)) Γ P X) (P d Γ') := ⟨fun p => ev_pinV h.h f.h (by rw [q.h]; exact p)⟩
end
end DL
namespace L2
open PySem PySem.Spec PyProof.Rows
section
variable {X : Cx}
def rInT (K : PySem.W.Frag) (neg : Bool) : R2 := fun x y H Q => ∃ d ds, Dp K H x d ∧ (Dp K H y (.list ds) ∨ Dp K H y (.tuple ds)) ∧ d.canLay0 = true ∧ d.depth ≤ 8 ∧ PyData.canLayAll0 ds = true ∧ Q (.bl (neg ^^ (ds.any fun z => PyData.eqv z d))) H
end
end L2
namespace DL
open PySem PySem.Spec L2
theorem any_ok {x : Dt} {p : PyData} (hx : x.py = some p) : ∀ {ds : List Dt} {ps : List PyData}, pyL ds = some ps → (ps.any fun z => PyData.eqv z p) = ds.any fun z => eqD z x
  | [], ps, h => by simp [pyL] at h; subst h; rfl
  | d :: ds, ps, h => by
    simp only [pyL] at h
    cases e1 : d.py with
    | none => rw [e1] at h; cases h
    | some p1 =>
      cases e2 : pyL ds with
      | none => rw [e1, e2] at h; cases h
      | some p2 =>
        rw [e1, e2] at h
        cases h
        rw [List.any_cons, List.any_cons, eqD_ok e1 hx, any_ok hx e2]
def dInT (neg : Bool) (x y : Dt) (R : Dt → Prop) : Prop := ∃ n ds, Pl n x ∧ n ≤ 8 ∧ ((y = .lst ds ∧ ∃ m, Pl m (.lst ds)) ∨ (y = .tup ds ∧ ∃ m, Pl m (.tup ds))) ∧ R (.bl (neg ^^ (ds.any fun z => eqD z x)))
section
variable {K : PySem.W.Frag}
theorem rd_inT (neg : Bool) : RD K (rInT K neg) (dInT neg) := fun G H x y dx dy R Q s rx ry ⟨n, ds, hx, hn, hy, p⟩ q => by
  obtain ⟨px, e1, c1, d1⟩ := hx.py
  rcases hy with ⟨rfl, m, hy⟩ | ⟨rfl, m, hy⟩
  all_goals
    obtain ⟨py, e2, c2, _⟩ := hy.py
    have e3 := e2
    simp only [Dt.py, Option.map_eq_some_iff] at e3
    obtain ⟨ps, e4, rfl⟩ := e3
  · exact ⟨px, ps, rep_dp s rx e1, .inl (rep_dp s ry e2), c1, by omega, c2, by rw [any_ok e1 e4]; exact q _ G H _ (Ext.refl s) (.bl _) p⟩
  · exact ⟨px, ps, rep_dp s rx e1, .inr (rep_dp s ry e2), c1, by omega, c2, by rw [any_ok e1 e4]; exact q _ G H _ (Ext.refl s) (.bl _) p⟩
instance {neg : Bool} : OpC K (rInT K neg) (dInT neg) := ⟨rd_inT neg⟩
end
end DL
namespace DL
open PySem PySem.Spec L2
section
variable {K : PySem.W.Frag} {W : WX} {Γ : Gm} {X : XP} {PO : Sl → Gm → Prop} {ta tb : TE}
theorem reps_mapI {G : Hp} (f : Nat → Int) : ∀ l : List Nat, Reps K G (l.map fun i => V.int (f i)) (l.map fun i => Dt.int (f i))
  | [] => .nil
  | i :: l => .cons (.int _) (reps_mapI f l)
theorem evo_lstRg (h : Ev K W ta Γ (fun x Γ1 => Ev K W tb Γ1 (fun y Γ2 => IsI x fun i => IsI y fun j => Side (RgOk i j) (∀ q, PO (.ol q (rngD i j)) Γ2)) X) X) : EvO K W (tLstRg (tRg2 ta tb)) Γ PO X := fun O G H σ Q S q x =>
  h O G H σ _ S (fun v1 G1 H1 Γ1 d1 s1 S1 r1 h1 => h1 O G1 H1 σ _ S1 (fun v2 G2 H2 Γ2 d2 s2 S2 r2 ⟨i, e1, j, e2, ok, p⟩ => by
    subst e1 e2
    cases r1
    cases r2
    exact ⟨i, j, rfl, rfl, ok, fun qd np => q (.ref qd) G2 _ Γ2 (.ol qd (rngD i j)) (s1.trans s2) (S2.own1 np rfl (.ol upd_same (reps_mapI (fun k => i + (k : Nat)) _))) (p qd)⟩) (x.mono s1)) x
instance : Wk (EvO K W (tLstRg (tRg2 ta tb)) Γ PO X) (Ev K W ta Γ (fun x Γ1 => Ev K W tb Γ1 (fun y Γ2 => IsI x fun i => IsI y fun j => Side (RgOk i j) (∀ q, PO (.ol q (rngD i j)) Γ2)) X) X) := ⟨evo_lstRg⟩
instance {P : Dt → Gm → Prop} : Wk (Ev K W (tLstRg (tRg2 ta tb)) Γ P X) (EvO K W (tLstRg (tRg2 ta tb)) Γ (fun s Γ2 => Fz s fun d => P d Γ2) X) := ⟨ev_frz⟩
end
end DL
namespace DL
open PySem PySem.Spec L2
end DL
namespace SQ
open PySem PySem.Spec PySem.W L2
section
variable {prog : Program} {w : World} {A : Around} {E : Value → Shared → Prop}
end
end SQ
namespace SQ
open PySem PySem.Spec PySem.W L2
section
variable {prog : Program} {w : World} {A : Around} {E : Value → Shared → Prop}
end
end SQ
namespace L2
open PySem PySem.Spec PyProof.Rows DL
section
variable {X : Cx} {k : Nat} {f C : Addr} {sp : Sp} {E : St → XK} {pos : Pos} {a b : Expr} {ta tb : TE}
end
end L2
namespace DL
open PySem PySem.Spec L2
mutual
def uq : Dt → Bool
  | .non => true
  | .bl _ => true
  | .int _ => true
  | .str _ => true
  | .tup ds => uqs ds
  | .obj _ fs => uqF fs
  | _ => false
def uqs : List Dt → Bool
  | [] => true
  | d :: ds => uq d && uqs ds
def uqF : List (Str × Dt) → Bool
  | [] => true
  | (_, d) :: ds => uq d && uqF ds
end
section
variable {K : PySem.W.Frag} {G : Hp}
mutual
theorem rep_uq : ∀ {v : V} {d e : Dt}, Rep K G v d → Rep K G v e → uq d = true → uq e = true → d = e
  | _, _, e, .non, h, _, he => by cases h <;> first | rfl | (simp [uq] at he)
  | _, _, e, .bl b, h, _, he => by cases h; rfl
  | _, _, e, .int i, h, _, he => by cases h; rfl
  | _, _, e, .str x, h, _, he => by cases h; rfl
  | _, _, e, .tup h1 r1, h, hd, he => by
    cases h with
    | tup h2 r2 =>
      rw [h1] at h2
      cases h2
      simp only [uq] at hd he
      rw [reps_uq r1 r2 hd he]
    | obj h2 r2 => rw [h1] at h2; cases h2
    | _ => simp [uq] at he
  | _, _, e, .obj h1 r1, h, hd, he => by
    cases h with
    | tup h2 r2 => rw [h1] at h2; cases h2
    | obj h2 r2 =>
      rw [h1] at h2
      cases h2
      simp only [uq] at hd he
      rw [repF_uq r1 r2 hd he]
    | _ => simp [uq] at he
  | _, _, e, .ty _, _, hd, _ => by simp [uq] at hd
  | _, _, e, .ref _, _, hd, _ => by simp [uq] at hd
  | _, _, e, .lst _ _, _, hd, _ => by simp [uq] at hd
  | _, _, e, .scr _, _, hd, _ => by simp [uq] at hd
  | _, _, e, .dK _ _, _, hd, _ => by simp [uq] at hd
  | _, _, e, .dT _ _, _, hd, _ => by simp [uq] at hd
  | _, _, e, .exc _ _, _, hd, _ => by simp [uq] at hd
  | _, _, e, .at_ _, _, hd, _ => by simp [uq] at hd
theorem reps_uq : ∀ {vs : List V} {ds es : List Dt}, Reps K G vs ds → Reps K G vs es → uqs ds = true → uqs es = true → ds = es
  | _, _, _, .nil, .nil, _, _ => rfl
  | _, _, _, .cons h t, .cons h2 t2, hd, he => by
    simp only [uqs, Bool.and_eq_true] at hd he
    rw [rep_uq h h2 hd.1 he.1, reps_uq t t2 hd.2 he.2]
theorem repF_uq : ∀ {vs : List (Str × V)} {ds es : List (Str × Dt)}, RepF K G vs ds → RepF K G vs es → uqF ds = true → uqF es = true → ds = es
  | _, _, _, .nil, .nil, _, _ => rfl
  | _, _, _, .cons h t, .cons h2 t2, hd, he => by
    simp only [uqF, Bool.and_eq_true] at hd he
    rw [rep_uq h h2 hd.1 he.1, repF_uq t t2 hd.2 he.2]
end
end
section
variable {K : PySem.W.Frag} {W : WX} {Γ : Gm} {X : XP} {P : Dt → Gm → Prop} {ta tb : TE}
end
section
variable {X : Cx} {ps : List Str} {k j : Nat} {S : DSp} {W : WX} {a b : Expr} {ta tb : TE} {pos : Pos} {C f : Addr}
end
end DL
namespace SQ
open PySem PySem.Spec PySem.W L2
section
variable {prog : Program} {w : World} {A : Around} {E : Value → Shared → Prop}
end
end SQ
namespace SQ
open PySem PySem.Spec PySem.W L2
section
variable {prog : Program} {w : World} {A : Around} {E : Value → Shared → Prop}
end
end SQ
namespace L2
open PySem PySem.Spec PyProof.Rows DL
section
variable {X : Cx} {k : Nat} {f C : Addr} {sp : Sp} {E : St → XK} {pos : Pos} {a b : Expr} {ta tb : TE}
end
end L2
namespace DL
open PySem PySem.Spec L2
section
variable {K : PySem.W.Frag} {G : Hp}
end
section
variable {K : PySem.W.Frag} {W : WX} {Γ : Gm} {X : XP} {P : Dt → Gm → Prop} {ta tb : TE}
end
section
variable {X : Cx} {ps : List Str} {k j : Nat} {S : DSp} {W : WX} {a b : Expr} {ta tb : TE} {pos : Pos} {C f : Addr}
end
end DL
namespace L2
open PySem PySem.Spec PyProof.Rows
section
variable {X : Cx} {k : Nat} {f C : Addr} {sp : Sp} {E : St → XK} {pos : Pos} {a b : Expr} {ta tb : TE}
end
end L2
namespace DL
open PySem PySem.Spec L2 PyProof.Rows
section
variable {X : Cx} {ps : List Str} {k j : Nat} {S : DSp} {W : WX} {a b : Expr} {ta tb : TE} {pos : Pos} {C f : Addr}
end
end DL
namespace L2
open PySem PySem.Spec PyProof.Rows
end L2
namespace DL
open PySem PySem.Spec L2
section
variable {K : PySem.W.Frag} {W : WX} {Γ : Gm} {X : XP} {PI : List Dt → Gm → Prop}
end
end DL
namespace SQ
open PySem PySem.SeqAt
open AutoSeq1 (wpAny_loadPart')
open MeetsSeq MeetsSeq2 MeetsSeq3 SeqRoads2
section
variable {prog : Program} {w : World} {A : Around} {R : Result → Shared → Prop}
end
section
variable {prog : Program} {w : World} {A : Around} {E : Value → Shared → Prop}
end
end SQ
namespace L2
open PySem PySem.Spec PyProof.Rows
section
variable {X : Cx} {k : Nat} {f C : Addr} {sp : Sp} {E : St → XK} {pos : Pos} {a b : Expr} {ta tb : TE}
end
end L2
namespace DL
open PySem PySem.Spec L2
section
variable {K : PySem.W.Frag} {W : WX} {Γ : Gm} {X : XP} {P : Dt → Gm → Prop} {ta tb : TE}
end
end DL
namespace DL
open PySem PySem.Spec L2 PyProof.Rows
section
variable {X : Cx} {ps : List Str} {k j : Nat} {S : DSp} {W : WX} {a b : Expr} {ta tb : TE} {pos : Pos} {C f : Addr}
end
end DL
namespace SQ
open PySem PySem.SeqAt
open AutoSeq1 (wpAny_loadPart')
open MeetsSeq MeetsSeq2 MeetsSeq3 SeqRoads2
section
variable {prog : Program} {w : World}
end
end SQ
namespace L2
open PySem PySem.Spec PySem.W PyProof.Rows
def rInLD (K : PySem.W.Frag) : R2 := fun x y H Q => ∃ (a b : Addr) (kvs : List (Key × V)) (xs : List V) (rows : List (List (Key × V))), x = .ref a ∧ y = .ref b ∧ Rd H a (.dK kvs) ∧ SqL K H b xs ∧ rows.length = xs.length ∧
  (∀ (i : Nat) v, xs[i]? = some v → ∃ c lvs, v = .ref c ∧ rows[i]? = some lvs ∧ Rd H c (.dK lvs) ∧ (∀ p ∈ lvs, ∀ y, valV kvs p.1 = some y → scI p.2 y = true) ∧ (c = a → eqKV lvs kvs = true)) ∧ Q (.bl (rows.any fun lvs => eqKV lvs kvs)) H
section
variable {X : Cx}
end
end L2
namespace DL
open PySem PySem.Spec L2
def intsK (kvs : List (Key × Dt)) : Prop := ∀ p ∈ kvs, ∃ i : Int, p.2 = .int i
def dInLD (x y : Dt) (R : Dt → Prop) : Prop := ∃ (kvs : List (Key × Dt)) (rows : List (List (Key × Dt))), x = .dK kvs ∧ y = .lst (rows.map Dt.dK) ∧ intsK kvs ∧ (∀ r ∈ rows, intsK r) ∧ eqKD kvs kvs = true ∧ R (.bl (rows.any fun r => eqKD r kvs))
section
variable {K : PySem.W.Frag} {G : Hp}
theorem repK_ints : ∀ {vs : List (Key × V)} {ds es : List (Key × Dt)}, RepK K G vs ds → RepK K G vs es → intsK ds → intsK es → ds = es
  | _, _, _, .nil, .nil, _, _ => rfl
  | (k, v) :: vs, _, _, .cons r1 t1, .cons r2 t2, h1, h2 => by
    obtain ⟨i, e1⟩ := h1 _ (List.mem_cons_self ..)
    obtain ⟨j, e2⟩ := h2 _ (List.mem_cons_self ..)
    dsimp only at e1 e2
    subst e1 e2
    cases r1
    cases r2
    rw [repK_ints t1 t2 (fun p hp => h1 p (List.mem_cons_of_mem _ hp)) fun p hp => h2 p (List.mem_cons_of_mem _ hp)]
theorem ints_ok {kvs lvs : List (Key × Dt)} (h1 : intsK kvs) (h2 : intsK lvs) : okKD kvs lvs := fun p hp y hy => by
  obtain ⟨i, e1⟩ := h1 p hp
  obtain ⟨j, e2⟩ := h2 _ (vA_mem hy)
  dsimp only at e2
  rw [e1, e2]
  rfl
theorem rep_dK {v : V} {kds : List (Key × Dt)} (h : Rep K G v (.dK kds)) : ∃ a ob kvs, v = .ref a ∧ G a = some (.frz ob (.dK kvs)) ∧ RepK K G kvs kds := by
  cases h with
  | dK g r => exact ⟨_, _, _, rfl, g, r⟩
theorem rep_lst {v : V} {ds : List Dt} (h : Rep K G v (.lst ds)) : ∃ a xs, v = .ref a ∧ (∀ H, Same G H → SqL K H a xs) ∧ Reps K G xs ds := by
  cases h with
  | lst g r => exact ⟨_, _, rfl, fun H s => SqL.of (s _ _ g), r⟩
theorem rows_inLD {H : Hp} (s : Same G H) {a : Addr} {oa : Obj} {av : List (Key × V)} {kvs : List (Key × Dt)} (ga : G a = some (.frz oa (.dK av))) (ra : RepK K G av kvs) (i1 : intsK kvs) (ek : eqKD kvs kvs = true) :
    ∀ {bv : List V} {rows : List (List (Key × Dt))}, Reps K G bv (rows.map Dt.dK) → (∀ r ∈ rows, intsK r) → ∃ lv : List (List (Key × V)), lv.length = bv.length ∧ (lv.any fun l => eqKV l av) = (rows.any fun r => eqKD r kvs) ∧
      ∀ (i : Nat) v, bv[i]? = some v → ∃ c lvs, v = .ref c ∧ lv[i]? = some lvs ∧ Rd H c (.dK lvs) ∧ (∀ p ∈ lvs, ∀ y, valV av p.1 = some y → scI p.2 y = true) ∧ (c = a → eqKV lvs av = true)
  | _, [], .nil, _ => ⟨[], rfl, rfl, fun i v h => by simp at h⟩
  | _, r :: rows, .cons r1 t, hi => by
    obtain ⟨lv, l1, l2, l3⟩ := rows_inLD s ga ra i1 ek t fun z hz => hi z (List.mem_cons_of_mem _ hz)
    have hr := hi r (by simp)
    obtain ⟨c, oc, cv, rfl, gc, rc⟩ := rep_dK r1
    obtain ⟨h1, h2⟩ := repK_eq ra rc (ints_ok hr i1)
    have e3 : eqKV cv av = eqKD r kvs := by
      unfold eqKV eqKD
      rw [h2, repK_len ra, repK_len rc]
    refine ⟨cv :: lv, by simp [l1], by rw [List.any_cons, List.any_cons, l2, e3], fun i v hv => ?_⟩
    cases i with
    | zero =>
      have hv : V.ref c = v := by simpa using hv
      refine ⟨c, cv, hv.symm, rfl, .inr ⟨_, s _ _ gc⟩, h1, fun eca => ?_⟩
      subst eca
      rw [e3]
      have : r = kvs := by
        rw [ga] at gc
        cases gc
        exact repK_ints rc ra hr i1
      rw [this]
      exact ek
    | succ i => exact l3 i v (by simpa using hv)
theorem rd_inLD : RD K (rInLD K) dInLD := fun G H x y dx dy R Q s rx ry ⟨kvs, rows, e1, e2, i1, i2, ek, p⟩ q => by
  subst e1 e2
  obtain ⟨a, oa, av, rfl, ga, ra⟩ := rep_dK rx
  obtain ⟨b, bv, rfl, gb, rb⟩ := rep_lst ry
  obtain ⟨lv, l1, l2, l3⟩ := rows_inLD s ga ra i1 ek rb i2
  refine ⟨a, b, av, bv, lv, rfl, rfl, .inr ⟨_, s _ _ ga⟩, gb H s, l1, l3, ?_⟩
  rw [l2]
  exact q _ G H _ (Ext.refl s) (.bl _) p
instance : OpC K (rInLD K) dInLD := ⟨rd_inLD⟩
end
end DL
namespace L2
open PySem PySem.Spec PySem.W PyProof.Rows
section
variable {prog : Program} {w : World} {d : Addr} {es : Array DictEntry} {ep : Nat}
end
theorem kt_getQ {H : Hp} : ∀ {kvs : List (List Key × V)} {xs : List (List Key × Addr × Value)}, KT H kvs xs → kvs.length = xs.length ∧ ∀ (i : Nat) p y, kvs[i]? = some p → xs[i]? = some y → H y.2.1 = some (.tup (p.1.map kV))
  | _, _, .nil => ⟨rfl, fun i p y h => by simp at h⟩
  | p :: ps, q :: qs, .cons h t => by
    obtain ⟨l, g⟩ := kt_getQ t
    refine ⟨by simp [l], fun i p' y e1 e2 => ?_⟩
    cases i with
    | zero => simp at e1 e2; subst e1 e2; exact h.2.1
    | succ i => exact g i p' y (by simpa using e1) (by simpa using e2)
section
variable {X : Cx}
end
end L2
namespace DL
open PySem PySem.Spec L2
section
variable {K : PySem.W.Frag} {G H : Hp}
end
section
variable {K : PySem.W.Frag} {W : WX} {Γ : Gm} {X : XP} {P : Dt → Gm → Prop} {PO : Sl → Gm → Prop} {te : TE} {i : Nat} {a : Addr} {ds : List Dt}
end
end DL
namespace OX
open PySem PySem.Spec PySem.W PySem.Calls PyProof.Rows
section
variable {M : Model} {A : Around} {E : Value → Shared → Prop} {s : Shared}
end
end OX
namespace L2
open PySem PySem.Spec PyProof.Rows
end L2
namespace DL
open PySem PySem.Spec L2 PyProof.Rows
section
variable {X : Cx} {x : Str} {k j : Nat} {S : DSp} {W : WX} {e : Expr} {kws : List Keyword} {tk' : TA} {te : TE} {p p2 pos : Pos} {C f : Addr} {ks : List Str}
end
section
variable {K : PySem.W.Frag} {W : WX} {Γ : Gm} {X : XP} {te : TE} {t : TA} {PA : List Dt → Gm → Prop}
end
end DL
namespace LamD
open PySem PySem.Spec PyProof.Rows L2 LamX
section
variable {X : Cx} {pins : List (Addr × Obj)} {σ : L2.St} {H HZ : Hp} {s s1 : Shared}
theorem pe_actS {Eg : XK} {Ng : List Str} {qg : Str} {sg : Scope} {g f cc : Addr} {cdg pm ctv : Value} {prm : Arguments} {bdy : Expr} {scp : Scope} {k i : Nat} {nm : Str} {pn : List (Addr × Obj)} {xe : Value → Shared → Prop} {W : WX} {tl : XK → TE} {p1 p2 : Pos}
    (I : Inv X pins σ H s) (LS : LamS X.env.scope scp) (fo : s.heap.get? f = some (PySem.W.kla_obj "<lambda>" (X.env.qual ++ "<lambda>") prm bdy scp (cloFrom X.env.cells scp.names []) pm cc ctv)) (fH : H f = none) (fS : f ∉ frs X.stack)
    (bnd : bindArgs (PySem.W.kla_fn "<lambda>" (X.env.qual ++ "<lambda>") prm bdy scp (cloFrom X.env.cells scp.names []) pm (.ref cc) ctv) ⟨[], []⟩ = pure [])
    (tk : Takes ((cxOf (L2.CX X.prog X.w) X.prog X.w X.K X.mg X.base Ng qg sg g cdg X.A X.stack s H Eg).tr pn xe) W) (rm : Room (k + 1) (X.A.deeper (envOfC qg sg s.heap.objs.size g cdg)))
    (bd : ∀ (A : Around) (outer : List Env) (s : Shared) (H : Hp) (E : XK), Room k (A.deeper (lamEnv X scp s.heap.objs.size f cc)) → PE (lamCx X A outer s H E scp f cc) bdy (tl E))
    (nN : Ng[i]? = some nm) (nV : Vis sg nm) (n1 : (nm == ("__debug__" : Str)) = false := by decide) (n2 : (nm == ("__classdict__" : Str)) = false := by decide) :
    PE ((cxOf (L2.CX X.prog X.w) X.prog X.w X.K X.mg X.base Ng qg sg g cdg X.A X.stack s H Eg).tr pn xe) (.Call (.Name nm p1) [] [] p2)
      (fun σZ HZ Q => σZ[i]? = some (some (.ref f)) ∧ HZ cc = some (CodeO cc (X.env.qual ++ "<lambda>")) ∧ tl (fun c d H' => W c d σZ H') σ HZ Q) := by
  refine ⟨fun pz sz σZ HZ Q Iz h => ?_⟩
  obtain ⟨h1, h2, h3⟩ := h
  have look := (pe_var (pos := p1) (i := i) nN nV n1 n2).run pz sz σZ HZ (fun v H2 => v = .ref f ∧ H2 = HZ) Iz ⟨.ref f, h1, rfl, rfl⟩
  refine wpAny_Call_Name_kw (thn look fun u t ⟨v, H2, Iu, ru, qu⟩ => ?_)
  obtain ⟨rfl, rfl⟩ := qu
  obtain rfl : u = Value.ref f := ru
  have fo2 : t.heap.get? f = some (PySem.W.kla_obj "<lambda>" (X.env.qual ++ "<lambda>") prm bdy scp (cloFrom X.env.cells scp.names []) pm cc ctv) := Iu.base.keep f _ fo fH fS (fun z => nomatch (show f ∈ ([] : List Addr) from z))
  refine PySem.W.callWith_F0 ⟨_, _, _, _, fo2⟩ ?_
  obtain ⟨⟨oc, vs, tk2, hoc, hdc, hvc⟩, _, _⟩ := Iu.hok cc _ h2
  have px := passAt tk σZ
  have run : codeAny (model X.prog X.w) (X.A.deeper (envOfC qg sg s.heap.objs.size g cdg)) (.call (.ref f) ⟨[], []⟩) (CR (L2.CX X.prog X.w) (envOfC qg sg s.heap.objs.size g cdg :: X.stack) X.prog X.w H2 t Q (fun c d H' => W c d σZ H')) t := by
    refine PySem.W.kla_callFunE rm.depth fo2 rfl LS.co LS.gen rfl ⟨cc, oc, vs, tk2, rfl, hoc, hdc, hvc⟩ ?_
    rw [bnd]
    refine wpAny_pure (wpAny_newFunctionEnv (fun y hy => (LS.own y hy).2) (fun y hy => absurd hy (by simp)) (fun h3' hns hsb => ⟨Iu.nolimit.fresh _ hsb, ?_⟩) LS.kind)
    show codeAny _ _ (.expr bdy (lamEnv X scp t.heap.objs.size f cc)) _ _
    have old : ∀ b o, t.heap.get? b = some o → h3'.get? b = some o := fun b o e => hsb.extBut b o (Nat.ne_of_lt (Heap.lt_size e)) (Heap.get?_push_of_some _ e)
    have J := lam_start2 (A := X.A.deeper (envOfC qg sg s.heap.objs.size g cdg)) (outer := envOfC qg sg s.heap.objs.size g cdg :: X.stack) (E := fun c d H' => W c d σZ H') (f := f) (c' := cc) (tk := t.toks + ([] : List (Str × Value)).length) I LS Iu.env0 rm.hd Iu.base hns old
    refine PySem.W.kla_codeExpr (wpAny_mono ((bd _ _ t H2 (fun c d H' => W c d σZ H') (rm.deeper _)).run [] _ _ H2 Q J h3) (fun v s' hq => ?_) fun e s' hq => hq)
    obtain ⟨w', H', J', rv, q⟩ := hq
    exact ⟨w', H', J'.os, J'.bare, J'.base, J'.hok, rv, q⟩
  refine wpAny_call (codeAny_mono run fun r s' hq => ?_)
  cases r with
  | error e => exact px pz H2 t e s' Iu hq
  | ok fl =>
    cases fl with
    | ret u => exact Iu.after hq
    | _ => exact False.elim hq
structure MkNew (H H1 : Hp) (p cc : Addr) (q : Str) (ps ps1 : Array Value) : Prop where
  t : TriplesOk ps1.toList
  g : ∀ (y : Pos) (u : Value), codeAmong y ps1.toList = some u → ∃ z, u = .ref z ∧ H1 z = some (CodeO z q)
  h : (H1 = H ∧ ps1 = ps ∧ ∃ y, codeAmong y ps.toList = some (.ref cc)) ∨ (H cc = none ∧ H1 = upd (upd H p (.tbl ps1)) cc (CodeO cc q))
  c : H1 cc = some (CodeO cc q)
  o : ∀ (y : Pos) (u : Value), codeAmong y ps1.toList = some u → codeAmong y ps.toList = some u ∨ u = .ref cc
theorem lam_mk {c p : Addr} {prm : Arguments} {bdy : Expr} {scp : Scope} {pos : Pos} {E Q : Value → Shared → Prop} {ps : Array Value} (I : Inv X pins σ H s) (TB : TabB X.base X.mg c p) (hc : X.env.code = .ref c)
    (hp : H p = some (.tbl ps)) (ht : TriplesOk ps.toList) (hg : ∀ (y : Pos) (u : Value), codeAmong y ps.toList = some u → ∃ z, u = .ref z ∧ H z = some (CodeO z (X.env.qual ++ "<lambda>")))
    (hd : defaultsOf prm X.env = ([], [])) (hf : ∀ y ∈ scp.names, y.2 = .free → ∃ c, X.env.cells.lookup y.1 = some c)
    (h : ∀ (f cc : Addr) (pm ctv : Value) (H1 : Hp) (s' : Shared) (ps1 : Array Value), Inv X pins σ H1 s' → MkNew H H1 p cc (X.env.qual ++ "<lambda>") ps ps1 →
      s'.heap.get? f = some (PySem.W.kla_obj "<lambda>" (X.env.qual ++ "<lambda>") prm bdy scp (cloFrom X.env.cells scp.names []) pm cc ctv) → H1 f = none → f ∉ frs X.stack → Q (.ref f) s') :
    wpAny (model X.prog X.w) X.A (eval (.Lambda prm bdy scp pos) X.env) Q E s := by
  have bi : s.heap.BuiltinsAt X.mg p := TB.bm.keeps I.bk
  have op : s.heap.get? p = some { cls := .none, data := .fields ps } := I.hok p _ hp
  have far : ∀ f, s.heap.objs.size ≤ f → f ∉ frs X.stack := fun f hf z => (List.mem_cons.mp (I.stkSub _ z)).elim
    (fun e => by have l := I.lt; rw [← e] at l; exact absurd (Nat.lt_of_lt_of_le l hf) (Nat.lt_irrefl _)) (fun e => I.nofs hf e)
  refine PySem.W.kla_eval hd ?_
  cases hca : codeAmong pos ps.toList with
  | some u =>
    obtain ⟨z, rfl, hz⟩ := hg pos u hca
    refine PySem.W.kla_makeFunctionHit (mg := X.mg) (c := c) (P := p) (ps := ps) (closure_ok hf) I.ok.glob (I.mod.glob.keeps I.bk) hc (TB.code.keeps I.bk) op ht hca bi fun ctv h1 tk hx hs => ?_
    refine h h1.objs.size z ((X.mg "__name__").getD .none) ctv H _ ps (I.kept fun b o e => Heap.get?_push_of_some _ (hx b o e)) ⟨ht, hg, .inl ⟨rfl, rfl, pos, hca⟩, hz, fun _ _ e => .inl e⟩ (Heap.get?_push_size _ rfl) (I.hok.fresh hs) (far _ hs)
  | none =>
    refine PySem.W.kla_makeFunction (mg := X.mg) (c := c) (P := p) (ps := ps) (closure_ok hf) I.ok.glob (I.mod.glob.keeps I.bk) hc (TB.code.keeps I.bk) op ht hca TB.gP bi fun cc ctv h1 tk hx ge lt rec_ tb => ?_
    obtain ⟨c2, oc, vs, tt, e2, hoc, hd2, hv⟩ := rec_
    cases e2
    have n1 : H cc = none := I.hok.fresh ge
    have npc : p ≠ cc := ne_of_none hp n1
    have sz : s.heap.objs.size ≤ h1.objs.size := Nat.le_trans ge (Nat.le_of_lt lt)
    have e3 : (ps ++ #[rawInt pos.line, rawInt pos.col, Value.ref cc]).toList = ps.toList ++ [rawInt pos.line, rawInt pos.col, Value.ref cc] := by simp
    have kp : ∀ z, H z = some (CodeO z (X.env.qual ++ "<lambda>")) → upd (upd H p (.tbl (ps ++ #[rawInt pos.line, rawInt pos.col, Value.ref cc]))) cc (CodeO cc (X.env.qual ++ "<lambda>")) z = some (CodeO z (X.env.qual ++ "<lambda>")) := fun z hz => by
      rw [upd_ne (ne_of_none hz n1), upd_ne (fun e => by rw [e, hp] at hz; exact codeO_ne _ (Option.some.inj hz).symm)]
      exact hz
    refine h h1.objs.size cc ((X.mg "__name__").getD .none) ctv _ _ _
      (inv_table (t' := tk) (more := #[rawInt pos.line, rawInt pos.col, .ref cc]) (h' := h1.push (PySem.W.kla_obj "<lambda>" (X.env.qual ++ "<lambda>") prm bdy scp (cloFrom X.env.cells scp.names []) ((X.mg "__name__").getD .none) cc ctv)) I hp
        (fun b o nb e => Heap.get?_push_of_some _ (hx b o nb e)) (Heap.get?_push_of_some _ tb) ge ⟨oc, vs, tt, Heap.get?_push_of_some _ hoc, hd2, hv⟩)
      ⟨by rw [e3]; exact PySem.TriplesOk_snoc _ _ _ _ ht, fun y u hy => ?_, .inr ⟨n1, rfl⟩, upd_same, fun y u hy => by rw [e3] at hy; exact among_app _ ht hy⟩ (Heap.get?_push_size _ rfl) ?_ (far _ sz)
    · rw [e3] at hy
      rcases among_app _ ht hy with k | k
      · obtain ⟨z, rfl, hz⟩ := hg y u k
        exact ⟨z, rfl, kp z hz⟩
      · exact ⟨cc, k, upd_same⟩
    · rw [upd_ne (Nat.ne_of_gt lt), upd_ne (Nat.ne_of_gt (Nat.lt_of_lt_of_le (Heap.lt_size op) sz))]
      exact I.hok.fresh sz
end
end LamD
namespace DL
open PySem PySem.Spec PyProof.Rows L2 LamX LamD
def RunsD (P : Program) (w : World) (K : PySem.W.Frag) (mg : Str → Option Value) (base : Heap) (x : Str) (st : Stmt) (g : Addr) (N : List Str) (nm : Str) (k : Nat) (GO : (WX → TE) → TS → Prop) : Prop :=
  ∀ (cdv : Value) (A : Around) (outer : List Env) (s : Shared) (H : Hp) (tA : WX → TE), Room k (A.deeper (envOfC x (defScope st) s.heap.objs.size g cdv)) →
    (∀ (W : WX) (pn : List (Addr × Obj)) (xe : Value → Shared → Prop) (p1 p2 : Pos), Takes ((cxOf (L2.CX P w) P w K mg base N x (defScope st) g cdv A outer s H (fun _ _ _ => False)).tr pn xe) W →
      PE ((cxOf (L2.CX P w) P w K mg base N x (defScope st) g cdv A outer s H (fun _ _ _ => False)).tr pn xe) (.Call (.Name nm p1) [] [] p2) (tA W)) →
    ∃ t, PSs (cxOf (L2.CX P w) P w K mg base N x (defScope st) g cdv A outer s H (fun _ _ _ => False)) (defBody st) t ∧ GO tA t
def tAct (t : XK → TE) (σ : L2.St) (f cc : Addr) (q : Str) (W : WX) : TE := fun σZ HZ Q => σZ[0]? = some (some (.ref f)) ∧ HZ cc = some (CodeO cc q) ∧ t (fun c d H' => W c d σZ H') σ HZ Q
def tLamF (p : Addr) (q : Str) (N : List Str) (GO : (WX → TE) → TS → Prop) (t : XK → TE) : TE := fun σ H Q => ∃ ps, H p = some (.tbl ps) ∧ TriplesOk ps.toList ∧ (∀ (y : Pos) (u : Value), codeAmong y ps.toList = some u → ∃ z, u = .ref z ∧ H z = some (CodeO z q)) ∧
  ∀ (f cc : Addr) (H1 : Hp) (ps1 : Array Value), MkNew H H1 p cc q ps ps1 → ∀ tt : TS, GO (tAct t σ f cc q) tt → tt { nx := fun _ H' => Q .non H', rt := Q } (L2.start N [.ref f]) H1
theorem pe_lamF {X : Cx} {x nm : Str} {g c p : Addr} {fdg : FuncData} {st : Stmt} {N : List Str} {k j kt : Nat} {GO : (WX → TE) → TS → Prop} {prm : Arguments} {bdy : Expr} {scp : Scope} {t : XK → TE} {pos lpos npos : Pos} (K : PySem.W.Frag) (hK : X.K = K)
    (Fg : FunD K x x (defArgs st) (defBody st) (defScope st) [] [] g fdg) (hb : ∀ (s : Shared) (u : Value), BindsTo s fdg ⟨[u], []⟩ [(nm, u)]) (gm : X.mg x = some (.ref g)) (Sg : FnScope N [nm] (defScope st)) (hN : N[0]? = some nm) (hv : Vis (defScope st) nm)
    (R : RunsD X.prog X.w X.K X.mg X.base x st g N nm k GO) (TB : TabB X.base X.mg c p) (hc : X.env.code = .ref c) (hr : Room j X.A) (hj : k + 1 ≤ j) (hkt : kt + 1 ≤ k) (LS : LamS X.env.scope scp) (hd : defaultsOf prm X.env = ([], []))
    (bnd : ∀ (q : Str) (cl : List (Str × Addr)) (pm cv ctv : Value), bindArgs (PySem.W.kla_fn "<lambda>" q prm bdy scp cl pm cv ctv) ⟨[], []⟩ = pure [])
    (bd : ∀ (A : Around) (outer : List Env) (s : Shared) (H : Hp) (E : XK) (f cc : Addr), Room kt (A.deeper (lamEnv X scp s.heap.objs.size f cc)) → PE (lamCx X A outer s H E scp f cc) bdy (t E))
    (hg : Gl X x) (d1 : (x == ("__debug__" : Str)) = false := by decide) (d2 : (nm == ("__debug__" : Str)) = false := by decide) (d3 : (nm == ("__classdict__" : Str)) = false := by decide) :
    PE X (.Call (.Name x npos) [.Lambda prm bdy scp lpos] [] pos) (tLamF p (X.env.qual ++ "<lambda>") N GO t) := by
  subst hK
  refine ⟨fun pins s σ H Q I h => ?_⟩
  obtain ⟨ps, h1, h2, h3, h4⟩ := h
  obtain ⟨oc, od, dV, kV, doc, pm, an, cdv, ct, osl, rfl, lk, hcd, hD, hK'⟩ := Fg.ex
  refine wpAny_Call_Name_kw (ld_glob I hg gm ?_ d1)
  refine PySem.W.callWith_K (h₀ := X.base) I.ok.mod.kin Fg.kp ?_ (by rfl) (by rfl)
  show wpAny _ _ (spliced ((false, eval (.Lambda prm bdy scp lpos) X.env) :: backTo pos (starEach [] X.env))) _ _ s
  refine Calls.spliced_cons (lam_mk I TB hc h1 h2 h3 hd (LS.has I.ok) fun f cc pm' ctv H1 s' ps1 I1 mk fo fH fS => ?_)
  refine Calls.spliced_nil ⟨I1.kIn, ?_⟩
  have run : codeAny (model X.prog X.w) X.A (.call (.ref g) ⟨[.ref f], []⟩) (CR (L2.CX X.prog X.w) X.stack X.prog X.w H1 s' Q (fun _ _ _ => False)) s' := by
    refine run_ofS (N := N) (ps := [nm]) (us := [.ref f]) (vs := [.ref f]) lk hcd Sg (hr.mono hj) I1.env0 (hb s' (.ref f)) (.cons rfl .nil) rfl fun rm => ?_
    obtain ⟨tt, ht, hgo⟩ := R cdv X.A X.stack s' H1 (tAct t σ f cc (X.env.qual ++ "<lambda>")) rm (fun W pn xe p1 p2 tk => by
      exact pe_actS (k := kt) (i := 0) I1 LS fo fH fS (bnd _ _ _ _ _) tk (rm.mono hkt) (fun A outer s H E r2 => bd A outer s H E f cc r2) hN hv d2 d3)
    exact ⟨tt, ht, h4 f cc H1 ps1 mk tt hgo⟩
  refine wpAny_call (codeAny_mono run fun r s2 hq => ?_)
  cases r with
  | error e =>
    obtain ⟨_, _, _, _, _, _, _, _, _, _, _, _, z⟩ := (show L2.CX X.prog X.w X.stack H1 s' (fun _ _ _ => False) e s2 from hq)
    exact z.elim
  | ok fl =>
    cases fl with
    | ret u => exact I1.after hq
    | _ => exact False.elim hq
section
variable {K : PySem.W.Frag} {W : WX} {Γ : Gm} {X : XP} {i : Nat} {P : Dt → Gm → Prop} {PO : Sl → Gm → Prop}
theorem ev_varT {d : Dt} {p : Addr} {q : Str} (h : Γ[i]? = some (some (.tb (.fr d) p q))) (k : P d Γ) : Ev K W (tVar i) Γ P X := fun O G H σ Q S c _ => by
  obtain ⟨v, e, r⟩ := S.get h
  cases r with
  | tb _ _ r =>
    cases r with
    | fr r => exact ⟨v, e, c v G H Γ d (Same.refl _) S r k⟩
instance {d : Dt} {p : Addr} {q : Str} [h : At Γ i (.tb (.fr d) p q)] : Wk (Ev K W (tVar i) Γ P X) (P d Γ) := ⟨fun k => ev_varT h.h k⟩
def frD : Gm → List (Option Dt)
  | [] => []
  | some (.fr d) :: r => some d :: frD r
  | some (.tb (.fr d) _ _) :: r => some d :: frD r
  | _ :: r => none :: frD r
def gmD (ds : List (Option Dt)) : Gm := ds.map (Option.map .fr)
theorem slots_frD {G H : Hp} : ∀ {σ : L2.St} {Γ : Gm}, Slots K G H σ Γ → RepS K G σ (frD Γ)
  | _, _, .nil => .nil
  | _, _, .no r => .no (slots_frD r)
  | _, _, .yes o r => by
    have t := slots_frD r
    cases o with
    | fr q => exact .yes q t
    | tb _ _ o2 =>
      cases o2 with
      | fr q => exact .yes q t
      | _ => exact .no t
    | _ => exact .no t
theorem slots_gmD {G H : Hp} : ∀ {σ : L2.St} {ds : List (Option Dt)}, RepS K G σ ds → Slots K G H σ (gmD ds)
  | _, _, .nil => .nil
  | _, _, .no r => .no (slots_gmD r)
  | _, _, .yes q r => .yes (.fr q) (slots_gmD r)
theorem fps_gmD : ∀ ds : List (Option Dt), fps (gmD ds) = []
  | [] => rfl
  | none :: r => by simpa [gmD, fps, fpO] using fps_gmD r
  | some d :: r => by simpa [gmD, fps, fpO, Sl.fp] using fps_gmD r
theorem Sta.entryS {O G H : Hp} {σ σ2 : L2.St} {ds : List (Option Dt)} (S : Sta K O G H σ Γ) (r : RepS K G σ2 ds) : Sta K (forn O H (fps Γ)) G H σ2 (gmD ds) := by
  refine ⟨S.g, fun a u e => ?_, fun a e => ?_, slots_gmD r, by rw [fps_gmD]; simp, fun a ha => by rw [fps_gmD] at ha; simp at ha, fun a ha => by rw [fps_gmD] at ha; simp at ha, S.fornM fun _ h => h⟩
  · by_cases ha : a ∈ fps Γ
    · rw [forn_in ha] at e; exact e
    · rw [forn_out ha] at e; exact S.o a u e
  · by_cases ha : a ∈ fps Γ
    · exact S.ng a ha
    · rw [forn_out ha] at e; exact S.d a e
def HAct (K : PySem.W.Frag) (tA : WX → TE) (f cc : Addr) (q : Str) (σ : L2.St) (ds : List (Option Dt)) (Pn : Dt → Prop) (Xn : Addr → List (Str × Dt) → Prop) : Prop :=
  ∀ (W : WX) (Γ : Gm) (P : Dt → Gm → Prop) (X : XP), Γ[0]? = some (some (.fr (.fn f cc q σ ds))) → (∀ d, Pn d → P d Γ) → (∀ C fs, Xn C fs → X C fs Γ) → Ev K W (tA W) Γ P X
theorem act_of {t : XK → TE} {f cc : Addr} {q : Str} {σ : L2.St} {ds : List (Option Dt)} {Pn : Dt → Prop} {Xn : Addr → List (Str × Dt) → Prop}
    (th : ∀ E : XK, Ev K (fun c d _ H => E c d H) (t E) (gmD ds) (fun d _ => Pn d) (fun C fs _ => Xn C fs)) : HAct K (tAct t σ f cc q) f cc q σ ds Pn Xn := fun W Γ P X h0 hP hX O G H σc Q S c x => by
  obtain ⟨v, ev, rv⟩ := S.getF h0
  cases rv with
  | fn hG rS =>
    exact ⟨ev, S.g _ _ hG, th (fun c d H' => W c d σc H') (forn O H (fps Γ)) G H σ Q (S.entryS rS) (fun v G2 H2 Γ2 d s2 S2 r k => c v G2 H2 Γ d s2 (S.back s2 S2.g S2.o S2.d) r (hP d k))
      fun C d fs G2 H2 Γ2 s2 S2 rx k => x C d fs G2 H2 Γ s2 (S.back s2 S2.g S2.o S2.d) rx (hX C fs k)⟩
theorem run_sp {N : List Str} {S : DSp} {t : TS} {E : XK} (go : ∀ args R Y, S args R Y → Go K (fun c d _ H => E c d H) t (gm0 N.length args) (poOf args R Y)) {vs : List V} {H : Hp} {Q : VK} (h : spD K S vs H Q E) :
    t { nx := fun _ H' => Q .non H', rt := Q } (L2.start N vs) H := by
  obtain ⟨O, G, args, R, Y, St, hS, hQ, hE⟩ := h
  have l2 : vs.length = args.length := by have := St.sl.len; simpa using this
  have e : L2.start N vs = sms vs ++ List.replicate (N.length - args.length) none := by unfold L2.start; rw [l2]
  rw [e]
  refine go args R Y hS O G H _ _ (St.more (N.length - args.length)) ?_ ?_ ?_ ?_ ?_
  · intro G2 H2 σ2 Γ2 s2 S2 ⟨args', b, k⟩
    exact hQ .non G2 H2 (.fr .non) args' s2 ((b.sta St s2 S2).pushF .non) k
  · intro v G2 H2 σ2 Γ2 z s2 S2 ⟨args', b, k⟩
    exact hQ v G2 H2 z args' s2 (b.sta1 St s2 S2) k
  · intro G2 H2 σ2 Γ2 s2 S2 k; exact k.elim
  · intro G2 H2 σ2 Γ2 s2 S2 k; exact k.elim
  · intro σ2 C d fs G2 H2 Γ2 s2 S2 rx ⟨args', b, k⟩
    exact hE C d fs G2 H2 args' s2 (b.sta St s2 S2) rx k
theorem Sta.mkNew {O G H H1 : Hp} {σ : L2.St} {s0 : Sl} {p cc : Addr} {q : Str} {ps ps1 : Array Value} (S : Sta K O G H σ Γ) (h : Γ[i]? = some (some (.tb s0 p q))) (hp : H p = some (.tbl ps)) (tg : TabG G ps q) (mk : MkNew H H1 p cc q ps ps1) :
    ∃ G1, Same G G1 ∧ G1 cc = some (CodeO cc q) ∧ Sta K O G1 H1 σ Γ := by
  rcases mk.h with ⟨rfl, rfl, y, hy⟩ | ⟨n1, e1⟩
  · obtain ⟨z, ez, gz⟩ := tg.2 y _ hy
    cases ez
    exact ⟨G, Same.refl _, gz, S⟩
  · obtain ⟨nd1, nd2⟩ := fps_part h S.nd
    have pin : p ∈ fps Γ := mem_fps h p (by simp [Sl.fp])
    have npc : p ≠ cc := ne_of_none hp n1
    have gcc : G cc = none := by
      cases e : G cc with
      | none => rfl
      | some o => rw [S.g _ _ e] at n1; cases n1
    have occ : O cc = none := by
      cases e : O cc with
      | none => rfl
      | some o => rw [S.o _ _ e] at n1; cases n1
    have gp := S.ng p pin
    have op := S.no p pin
    have at_ : ∀ b, b ≠ p → b ≠ cc → H1 b = H b := fun b h1 h2 => by rw [e1, upd_ne h2, upd_ne h1]
    have hp1 : H1 p = some (.tbl ps1) := by rw [e1, upd_ne npc, upd_same]
    have sG : Same G (upd G cc (CodeO cc q)) := fun b o e => by rw [upd_ne (ne_of_none e gcc)]; exact e
    have gH : Same (upd G cc (CodeO cc q)) H1 := fun b o e => by
      by_cases c : b = cc
      · subst c; rw [upd_same] at e; rw [mk.c]; exact e
      · rw [upd_ne c] at e
        rw [at_ b (ne_of_none e gp) c]
        exact S.g b o e
    have tg1 : TabG (upd G cc (CodeO cc q)) ps1 q := ⟨mk.t, fun y u hy => by
      obtain ⟨z, ez, hz⟩ := mk.g y u hy
      refine ⟨z, ez, ?_⟩
      by_cases c : z = cc
      · subst c; exact upd_same
      · rcases mk.o y u hy with k | k
        · obtain ⟨z2, e2, g2⟩ := tg.2 _ _ k
          rw [ez] at e2; cases e2
          exact sG _ _ g2
        · rw [ez] at k; cases k; exact absurd rfl c⟩
    refine ⟨_, sG, upd_same, gH, fun b o e => ?_, fun b hb => ?_, ?_, S.nd, fun b hb => ?_, S.no, S.om⟩
    · rw [at_ b (ne_of_none e op) (ne_of_none e occ)]; exact S.o b o e
    · rw [upd_ne (fun c => hb (by rw [c]; exact occ))]; exact S.d b hb
    · refine Slots.of S.sl.len fun j s hj => ?_
      obtain ⟨v, ev, ow⟩ := S.get hj
      refine ⟨v, ev, ?_⟩
      by_cases c : j = i
      · subst c
        rw [h] at hj
        cases hj
        cases ow with
        | tb _ _ o2 =>
          refine .tb hp1 tg1 (o2.mono sG fun a ha o e => ?_)
          have n : a ≠ p := fun z => by
            simp only [Sl.fp, List.nodup_cons] at nd1
            exact nd1.1 (z ▸ ha)
          rw [at_ a n (ne_of_none e n1)]; exact e
      · refine ow.mono sG fun a ha o e => ?_
        have n : a ≠ p := fun z => nd2 p (by simp [Sl.fp]) (mem_fps (Γ := Γ.set i none) (i := j) (by rw [List.getElem?_set_ne (fun k => c k.symm)]; exact hj) p (z ▸ ha))
        rw [at_ a n (ne_of_none e n1)]; exact e
    · rw [upd_ne (fun c => S.there b hb (by rw [c]; exact n1))]; exact S.ng b hb
theorem evo_lamF {p : Addr} {q : Str} {N : List Str} {GO : (WX → TE) → TS → Prop} {t : XK → TE} {s0 : Sl} {Pn : Dt → Prop} {Xn : Addr → List (Str × Dt) → Prop} (S : Addr → Addr → Str → L2.St → List (Option Dt) → (Dt → Prop) → (Addr → List (Str × Dt) → Prop) → DSp) (h : Γ[i]? = some (some (.tb s0 p q)))
    (go : ∀ (tA : WX → TE) (tt : TS), GO tA tt → ∀ (f cc : Addr) (σ : L2.St) (ds : List (Option Dt)), HAct K tA f cc q σ ds Pn Xn → ∀ args R Y, S f cc q σ ds Pn Xn args R Y → Go K (fun _ _ _ _ => False) tt (gm0 N.length args) (poOf args R Y))
    (th : ∀ E : XK, Ev K (fun c d _ H => E c d H) (t E) (gmD (frD Γ)) (fun d _ => Pn d) (fun C fs _ => Xn C fs))
    (k : ∀ f cc σ, S f cc q σ (frD Γ) Pn Xn [.fr (.fn f cc q σ (frD Γ))] (fun res _ => PO res Γ) (fun _ _ _ => False)) : EvO K W (tLamF p q N GO t) Γ PO X := fun O G H σ Q St c x => by
  obtain ⟨v, ev, ow⟩ := St.get h
  cases ow with
  | @tb _ _ _ _ ps hp tg o2 =>
    refine ⟨ps, hp, tg.1, fun y u hy => ?_, fun f cc H1 ps1 mk tt hgo => ?_⟩
    · obtain ⟨z, ez, hz⟩ := tg.2 y u hy
      exact ⟨z, ez, St.g _ _ hz⟩
    · obtain ⟨G1, s1, g1, S1⟩ := St.mkNew h hp tg mk
      refine run_sp (E := fun _ _ _ => False) (S := S f cc q σ (frD Γ) Pn Xn) (go _ tt hgo f cc σ (frD Γ) (act_of th)) ⟨forn O H1 (fps Γ), G1, _, _, _, S1.entry0 (vs := [.ref f]) (ds := [.fn f cc q σ (frD Γ)]) (.cons (.fn g1 (slots_frD S1.sl)) .nil), k f cc σ, fun v G2 H2 res args' s2 S2 kk => ?_, fun _ _ _ _ _ _ _ _ _ kk => kk.elim⟩
      have T := S1.back s2 S2.g S2.o S2.d
      have nd := S2.nd
      simp only [fps, fpO] at nd
      have mem : ∀ a ∈ res.fp, a ∈ fps (some res :: sls args') := fun a ha => by simp [fps, fpO, ha]
      refine c v G2 H2 Γ res (s1.trans s2) (T.push S2.head (List.nodup_append.mp nd).1 (fun a ha => S2.ng a (mem a ha)) (fun a ha => ?_) (fun a ha z => ?_)) kk
      · have n := S2.no a (mem a ha)
        by_cases hf : a ∈ fps Γ
        · exact S1.no a hf
        · rw [forn_out hf] at n; exact n
      · have n := S2.no a (mem a ha)
        rw [forn_in z] at n
        exact S1.there a z n
end
end DL
namespace DL
open PySem PySem.Spec PyProof.Rows L2 LamX LamD
theorem takes_lam {X : Cx} {A : Around} {outer : List Env} {s : Shared} {H : Hp} {E : XK} {scp : Scope} {f cc : Addr} : Takes (lamCx X A outer s H E scp f cc) (fun cls d _ H => E cls d H) := takes_of rfl rfl rfl rfl
structure TabsL (K : PySem.W.Frag) (h : Heap) : Prop where
  hd : PySem.W.codeHdIn K (He.cT K ("law", none)).1 (He.cT K ("law", none)).2 = true
  out : K.lookup (He.cT K ("law", none)).2 = none
  e : h.get? (He.cT K ("law", none)).2 = some { cls := .none, data := .fields #[] }
def obsL (n : Nat) (prog : Program) (fx : PySem.W.Frag → Bool) (fa : List He.Fa) (fn : List He.DefD) (en : List EDef) (ss : List He.DefD) (sz : Nat) (g : Addr → Option Obj) : AlY × Bool :=
  (obsY prog fx fa fn en ss (He.frT g (cStatics :: mainGlobals :: upTo sz n)), He.tabsB g [("law", none)] (He.frT g (cStatics :: mainGlobals :: upTo sz n)))
theorem tabsL_of {as : List Addr} {h : Heap} (e : He.tabsB h.get? [("law", none)] (He.frT h.get? as) = true) : TabsL (He.frT h.get? as) h := by
  unfold He.tabsB at e
  simp only [List.all_cons, List.all_nil, Bool.and_true, Bool.and_eq_true] at e
  obtain ⟨e1, e2⟩ := e
  cases q : h.get? (He.cT (He.frT h.get? as) ("law", none)).2 with
  | none => rw [q] at e2; cases e2
  | some o =>
    rw [q] at e2
    exact ⟨e1, He.frT_none q e2, by rw [q, He.emptyTab_eq e2]⟩
def hookL (n : Nat) (prog : Program) (fx : PySem.W.Frag → Bool) (fa : List He.Fa) (fn : List He.DefD) (en : List EDef) (ss : List He.DefD) : PySem.W.Hook where
  α := AlY × Bool
  obs := fun s => obsL n prog fx fa fn en ss s.heap.objs.size s.heap.get?
  val := fun _ => (valY fn en ss, true)
  says := fun _ h => ∃ K : PySem.W.Frag, K.In h ∧ SaysY prog fx fa fn en ss K ∧ TabsL K h
  of := fun _ _ e => ⟨_, He.frT_in, congrArg Prod.fst e, tabsL_of (congrArg Prod.snd e)⟩
  keeps := fun _ _ _ ⟨K, hK, c, t⟩ k => ⟨K, PySem.W.Frag.In.keeps hK k, c, ⟨t.hd, t.out, k _ _ t.e⟩⟩
theorem obsL_eq {n : Nat} {prog : Program} {fx : PySem.W.Frag → Bool} {fa : List He.Fa} {fn : List He.DefD} {en : List EDef} {ss : List He.DefD} (s : PySem.W.SharedT) (hs : s.abs.heap.objs.size = s.n) : obsL n prog fx fa fn en ss s.n (HandSHeadRun.getT s) = (hookL n prog fx fa fn en ss).obs s.abs := by
  show _ = obsL n prog fx fa fn en ss s.abs.heap.objs.size s.abs.heap.get?
  rw [hs, show HandSHeadRun.getT s = s.abs.heap.get? from funext (HandSHeadRun.getT_eq s)]
def lamQ : Str := (("law" : Str) ++ ".<locals>.") ++ "<lambda>"
def SLawT (p : Addr) : DSp := fun args R _ => ∃ ns : List Int, args = [.tb (.fr (.scr ns)) p lamQ] ∧ ns.length ≤ 63 ∧ ∀ args', R (.fr (.bl true)) args'
theorem law_spT {K : PySem.W.Frag} {H : Hp} {a p : Addr} {ns : List Int} (hl : ns.length ≤ 63) (hp : H p = some (.tbl #[])) (hS : SqL K H a (ns.map V.int)) : spD K (SLawT p) [.ref a] H (fun v _ => v = .bl true) fun _ _ _ => False := by
  have hap : a ∈ [p] → H a = some (.tbl #[]) := fun z => by rw [List.mem_singleton.mp z]; exact hp
  have gS : SqL K (fun b => if b = p then none else H b) a (ns.map V.int) := by
    rcases hS with h | h
    · left
      by_cases c : a = p
      · subst c
        rcases h with h | ⟨o, h⟩ <;> rw [hp] at h <;> cases h
      · rcases h with h | ⟨o, h⟩
        · exact .inl (by show (if a = p then none else H a) = _; rw [if_neg c]; exact h)
        · exact .inr ⟨o, by show (if a = p then none else H a) = _; rw [if_neg c]; exact h⟩
    · exact .inr h
  refine ⟨fun _ => none, fun b => if b = p then none else H b, [.tb (.fr (.scr ns)) p lamQ], fun res _ => res = .fr (.bl true), fun _ _ _ => False,
    ⟨fun b o e => ?_, (fun b o e => by cases e), (fun b e => absurd rfl e), .yes (.tb hp ⟨True.intro, fun y u z => ?_⟩ (.fr (.scr gS))) .nil, (by simp [fps, fpO, Sl.fp]), (fun b hb => ?_), (fun b hb => rfl), (fun b o e => by cases e)⟩, ⟨ns, rfl, hl, fun _ => rfl⟩, ?_, ?_⟩
  · have e : (if b = p then none else H b) = some o := e
    by_cases c : b = p
    · rw [if_pos c] at e; cases e
    · rw [if_neg c] at e; exact e
  · have z : codeAmong y [] = some u := z
    simp [codeAmong] at z
  · have : b = p := by simpa [fps, fpO, Sl.fp] using hb
    exact if_pos this
  · intro v G2 H2 res args' s2 S2 e
    subst e
    have h := S2.head
    cases h with | fr r => cases r; rfl
  · intro C d fs G2 H2 args' s2 S2 r e
    exact e.elim
theorem fn_dC {P : Program} {w : World} {K : PySem.W.Frag} {mg : Str → Option Value} {base : Heap} {x qual : Str} {st : Stmt} {f c : Addr} {fd : FuncData} {N ps : List Str} {k : Nat} {S : DSp} (F : FunD K x qual (defArgs st) (defBody st) (defScope st) [] [] f fd) (hc : fd.code = .ref c) (Sc : FnScope N ps (defScope st)) (len : ∀ args R Y, S args R Y → args.length = ps.length)
    (hbody : ∀ (A : Around) (outer : List Env) (s : Shared) (H : Hp) (E : XK), Room k (A.deeper (envOfC qual (defScope st) s.heap.objs.size f (.ref c))) →
      ∃ t, PSs (cxOf (L2.CX P w) P w K mg base N qual (defScope st) f (.ref c) A outer s H E) (defBody st) t ∧ ∀ args R Y, S args R Y → Go K (fun c d _ H => E c d H) t (gm0 N.length args) (poOf args R Y)) :
    FnOk P w K mg base (L2.CX P w) (k + 1) f fd ps (spD K S) := by
  obtain ⟨oc, od, dV, kV, doc, pm, an, cdv, ct, osl, rfl, lk, hcd, hD, hK⟩ := F.ex
  obtain rfl : cdv = .ref c := hc
  refine fn_of lk hcd Sc (fun vs H Q E h => ?_) fun A outer s H vs Q E hr h => ?_
  · obtain ⟨O, G, args, R, Y, St, hS, _, _⟩ := h
    have l1 := len _ _ _ hS
    have l2 := St.sl.len
    simp at l2
    omega
  · obtain ⟨t, ht, go⟩ := hbody A outer s H E hr
    exact ⟨t, ht, run_sp go h⟩
theorem code_of {K : PySem.W.Frag} {x qual : Str} {params : Arguments} {body : List Stmt} {scope : Scope} {p : Str × Option Str} {fd : FuncData} (F : FunD K x qual params body scope [] [] (He.fAd K p) fd) : fd.code = .ref (He.cT K p).1 := by
  obtain ⟨oc, od, dV, kV, doc, pm, an, cdv, ct, osl, rfl, lk, hcd, hD, hK⟩ := F.ex
  obtain ⟨c, rfl⟩ := He.codeIn_ref hcd
  show Value.ref c = .ref (He.codeOf K p)
  rw [He.codeOf_eq lk rfl]
theorem end_ofT {l : PySem.W.OpenLaw} {k n : Nat} {q : Program} {loose : List Str} {XP : (Str → Option Value) → Heap → Prop} {YP : World → Heap → Prop} {d : DefRec} (hn : l.most = some n) (hn2 : n ≤ 63) (hdf : d.params.defaults = []) (hr : Room k callerA)
    (F : ∀ (w : World) (mg : Str → Option Value) (fa : Addr) (h : Heap), YP w h → h.Ns mainGlobals mg → mg d.name = some (.ref fa) →
      ∃ (K : PySem.W.Frag) (fd : FuncData), K.In h ∧ TabsL K h ∧ (∀ (s : Shared) (u : Value), BindsTo s fd ⟨[u], []⟩ [("_law_script", u)]) ∧
        ∀ base : Heap, TabB base mg (He.cT K ("law", none)).1 (He.cT K ("law", none)).2 → FnOk l.prog w K mg base (L2.CX l.prog w) k fa fd ["_law_script"] (spD K (SLawT (He.cT K ("law", none)).2))) :
    PySem.W.WalkO q loose XP YP l.row.toRowW d [] (fun f vs => PySem.call f vs) := by
  refine Att.attach_callB hn hdf fun w s0 s1 mg mb fa o pm cd doc a vs ns G Y ho hd hcd hmg hobj hints hlen hbits hg => ?_
  obtain ⟨K, fd, KX, tl, hb, hF⟩ := F w mg fa _ Y G.T.g hmg
  refine law_callTs (cs := [He.cT K ("law", none)]) KX G.T.g G.T.b G.T.builtins G.T.nolimit hg (fun p hp => ?_) (fun p hp => ?_) (fun p hp => ?_) G.T.bmain hobj hints (Nat.le_trans hlen (Nat.le_trans hn2 (by decide))) hr (fun base _ _ hT => hF base (hT _ (by simp))) hb
    (fun H hH hS => law_spT (Nat.le_trans hlen hn2) (hH _ (by simp)) hS) fun H e s' z => cx_none z
  · rw [List.mem_singleton.mp hp]; exact tl.e
  · rw [List.mem_singleton.mp hp]; exact tl.out
  · rw [List.mem_singleton.mp hp]; exact PySem.W.codeHd_of_K KX tl.hd
end DL
namespace DL
open PySem PySem.Spec PyProof.Rows L2 LamX LamD
def ThkS (TD : Addr → List (Str × Dt) → (List Dt → Prop) → Prop) (f cc : Addr) (q : Str) (σ : L2.St) (ds : List (Option Dt)) (Pn : Dt → Prop) (Xn : Addr → List (Str × Dt) → Prop) : DSp := fun args R _ =>
  args = [.fr (.fn f cc q σ ds)] ∧ (∀ d, Pn d → ∀ args' : List Sl, R (.fr (.lst [.str "none"])) args') ∧ (∀ C fs, Xn C fs → TD C fs fun told => ∀ args' : List Sl, R (.fr (.lst told)) args')
def GoF (K : PySem.W.Frag) (TD : Addr → List (Str × Dt) → (List Dt → Prop) → Prop) (N : List Str) (tA : WX → TE) (tt : TS) : Prop :=
  ∀ (f cc : Addr) (qq : Str) (σ : L2.St) (ds : List (Option Dt)) (Pn : Dt → Prop) (Xn : Addr → List (Str × Dt) → Prop), HAct K tA f cc qq σ ds Pn Xn → ∀ args R Y, ThkS TD f cc qq σ ds Pn Xn args R Y → Go K (fun _ _ _ _ => False) tt (gm0 N.length args) (poOf args R Y)
section
variable {K : PySem.W.Frag} {W : WX} {Γ : Gm} {X : XP} {i : Nat} {P : Dt → Gm → Prop} {PO : Sl → Gm → Prop} {p : Addr} {q : Str} {N : List Str} {t : XK → TE} {TD : Addr → List (Str × Dt) → (List Dt → Prop) → Prop}
theorem evo_fail {s0 : Sl} (h : Γ[0]? = some (some (.tb s0 p q)))
    (th : ∀ E : XK, Ev K (fun c d _ H => E c d H) (t E) (gmD (frD Γ)) (fun _ _ => ∀ args' : List Sl, PO (.fr (.lst [.str "none"])) Γ) (fun C fs _ => TD C fs fun told => ∀ args' : List Sl, PO (.fr (.lst told)) Γ)) : EvO K W (tLamF p q N (GoF K TD N) t) Γ PO X :=
  evo_lamF (ThkS TD) h (fun tA tt hgo f cc σ ds ha args R Y hS => hgo f cc q σ ds _ _ ha args R Y hS) th fun f cc σ => ⟨rfl, fun _ k a => k a, fun C fs k => k⟩
instance {GO : (WX → TE) → TS → Prop} : Wk (Ev K W (tLamF p q N GO t) Γ P X) (EvO K W (tLamF p q N GO t) Γ (fun s Γ2 => Fz s fun d => P d Γ2) X) := ⟨ev_frz⟩
end
end DL
namespace L2
open PySem PySem.Spec
def rAddB (K : PySem.W.Frag) : R2 := fun x y H Q => rAddP K x y H Q ∨ ∃ (b : Bool) (j : Int), x = .bl b ∧ y = .int j ∧ Q (.int ((if b = true then (1 : Int) else 0) + j)) H
section
variable {X : Cx}
end
end L2
namespace DL
open PySem PySem.Spec L2
def dAddB : Dt → Dt → (Dt → Prop) → Prop
  | .bl b, .int j, R => R (.int ((if b = true then (1 : Int) else 0) + j))
  | x, y, R => dAdd x y R
section
variable {K : PySem.W.Frag}
theorem rd_addB : RD K (rAddB K) dAddB := fun G H x y dx dy R Q s rx ry h q => by
  unfold dAddB at h
  split at h
  · cases rx; cases ry
    exact .inr ⟨_, _, rfl, rfl, q _ G H _ (Ext.refl s) (.int _) h⟩
  · exact .inl (rd_add G H x y _ _ R Q s rx ry h q)
instance : OpC K (rAddB K) dAddB := ⟨rd_addB⟩
instance {b : Bool} {j : Int} {R : Dt → Prop} : Wk (dAddB (.bl b) (.int j) R) (R (.int ((if b = true then (1 : Int) else 0) + j))) := ⟨id⟩
instance {i j : Int} {R : Dt → Prop} : Wk (dAddB (.int i) (.int j) R) (R (.int (i + j))) := ⟨id⟩
end
end DL
namespace L2
open PySem PySem.Spec PySem.W PyProof.Rows
def rIsBl : R2 := fun x y H Q => ∃ a b, x = .bl a ∧ y = .bl b ∧ Q (.bl (decide (a = b))) H
def rIsntBl : R2 := fun x y H Q => ∃ a b, x = .bl a ∧ y = .bl b ∧ Q (.bl (!decide (a = b))) H
end L2
namespace DL
open PySem PySem.Spec L2
section
variable {K : PySem.W.Frag} {G : Hp}
theorem reps_intsV : ∀ {ys : List V} {ns : List Int}, Reps K G ys (ns.map Dt.int) → ys = ns.map V.int
  | [], [], _ => rfl
  | [], _ :: _, h => by cases h
  | _ :: _, [], h => by cases h
  | _ :: _, _ :: _, h => by
    cases h with
    | cons a b => cases a; rw [reps_intsV b]; rfl
theorem reps_intsD : ∀ (ns : List Int), Reps K G (ns.map V.int) (ns.map Dt.int)
  | [] => .nil
  | n :: ns => .cons (.int n) (reps_intsD ns)
def dIsBl (x y : Dt) (R : Dt → Prop) : Prop := ∃ a b, x = .bl a ∧ y = .bl b ∧ R (.bl (decide (a = b)))
def dIsntBl (x y : Dt) (R : Dt → Prop) : Prop := ∃ a b, x = .bl a ∧ y = .bl b ∧ R (.bl (!decide (a = b)))
theorem rd_isBl : RD K rIsBl dIsBl := fun G H x y dx dy R Q s rx ry ⟨a, b, e1, e2, p⟩ q => by
  subst e1 e2; cases rx; cases ry
  exact ⟨a, b, rfl, rfl, q _ G H _ (Ext.refl s) (.bl _) p⟩
theorem rd_isntBl : RD K rIsntBl dIsntBl := fun G H x y dx dy R Q s rx ry ⟨a, b, e1, e2, p⟩ q => by
  subst e1 e2; cases rx; cases ry
  exact ⟨a, b, rfl, rfl, q _ G H _ (Ext.refl s) (.bl _) p⟩
instance : OpC K rIsBl dIsBl := ⟨rd_isBl⟩
instance : OpC K rIsntBl dIsntBl := ⟨rd_isntBl⟩
instance {R : Dt → Prop} {a b : Bool} : Wk (dIsBl (.bl a) (.bl b) R) (R (.bl (decide (a = b)))) := ⟨fun h => ⟨a, b, rfl, rfl, h⟩⟩
instance {R : Dt → Prop} {a b : Bool} : Wk (dIsntBl (.bl a) (.bl b) R) (R (.bl (!decide (a = b)))) := ⟨fun h => ⟨a, b, rfl, rfl, h⟩⟩
def IntL (d : Dt) (Q : List Int → Prop) : Prop := ∃ ns : List Int, d = .lst (ns.map .int) ∧ Q ns
instance {ns : List Int} {Q : List Int → Prop} : Wk (IntL (.lst (ns.map .int)) Q) (Q ns) := ⟨fun h => ⟨ns, rfl, h⟩⟩
end
section
variable {K : PySem.W.Frag} {W : WX} {Γ : Gm} {X : XP} {P : Dt → Gm → Prop} {PO : Sl → Gm → Prop} {te : TE}
theorem evo_sorted (h : Ev K W te Γ (fun d Γ1 => IntL d fun ns => Side (ns.length < 64) (∀ ms : List Int, ms.Perm ns → ms.Pairwise (· ≤ ·) → ∀ a, PO (.ol a (ms.map .int)) Γ1)) X) : EvO K W (tCB (rSorted K) (tCons te tNil)) Γ PO X := fun O G H σ Q S0 q x =>
  h O G H σ _ S0 (fun v G1 H1 Γ1 d s1 S1 r1 hh => by
    obtain ⟨ns, rfl, h64, hP⟩ := hh
    cases r1 with
    | @lst p ys _ ha rr =>
      obtain rfl := reps_intsV rr
      exact ⟨p, ns, rfl, SqL.of (S1.g _ _ ha), h64, fun ms l hp hs nl => q (.ref l) G1 _ Γ1 (.ol l _) s1 (S1.own1 nl rfl (.ol upd_same (reps_intsD ms))) (hP ms hp hs l)⟩) x
instance : Wk (EvO K W (tCB (rSorted K) (tCons te tNil)) Γ PO X) (Ev K W te Γ (fun d Γ1 => IntL d fun ns => Side (ns.length < 64) (∀ ms : List Int, ms.Perm ns → ms.Pairwise (· ≤ ·) → ∀ a, PO (.ol a (ms.map .int)) Γ1)) X) := ⟨evo_sorted⟩
instance (priority := low) : Wk (Ev K W (tCB (rSorted K) (tCons te tNil)) Γ P X) (Ev K W te Γ (fun d Γ1 => IntL d fun ns => Side (ns.length < 64) (∀ ms : List Int, ms.Perm ns → ms.Pairwise (· ≤ ·) → P (.lst (ms.map .int)) Γ1)) X) := ⟨fun h => ev_frz (evo_sorted (h.imp fun d Γ2 ⟨ns, e, c, p⟩ => ⟨ns, e, c, fun ms h1 h2 b => ⟨_, .ol b _, p ms h1 h2⟩⟩))⟩
end
end DL
namespace L2
open PySem PySem.Spec PySem.W PyProof.Rows
def rVals (x : V) (H : Hp) (Q : VK) : Prop := ∃ a, x = .ref a ∧ ((∃ kvs : List (Key × V), Rd H a (.dK kvs) ∧ ∀ p, H p = none → Q (.ref p) (upd H p (.lst (kvs.map (·.2))))) ∨ ∃ kvs : List (List Key × V), Rd H a (.dT kvs) ∧ ∀ p, H p = none → Q (.ref p) (upd H p (.lst (kvs.map (·.2)))))
def tVals (to : TE) : TE := fun σ H Q => to σ H fun x H1 => rVals x H1 Q
section
variable {X : Cx} {pins : List (Addr × Obj)} {s : Shared} {σ : St} {H : Hp} {Q : VK} {d : Addr}
def viewO (d : Addr) : Obj := { cls := .type "dict_values", data := .fields #[.ref d] }
theorem vals_fin {n : Nat} {P : Nat → Value → Prop} {OK : Heap → Prop} (hcalm : X.calm = true) (I : Inv X pins σ H s) (KS : KdlSrc X.prog X.w "dict_values" s.heap.objs.size d n P OK) (hok : OK (s.heap.push (viewO d))) (hn : n ≤ sizeLine) (vs : List V) (hl : vs.length ≤ sizeLine)
    (hvs : ∀ acc : Array Value, ItemsOf P acc n → Vals vs acc.toList) (q : ∀ p, H p = none → Q (.ref p) (upd H p (.lst vs))) :
    wpAny (model X.prog X.w) X.A (call (.type "list") [.ref s.heap.objs.size]) (EP X pins σ Q) X.xe { s with heap := s.heap.push (viewO d) } := by
  refine kdl_call KS (I.ok.hd hcalm) hok hn fun h' tk acc c' hk hD hacc => ?_
  exact ⟨.ref _, upd H (s.heap.push (viewO d)).objs.size (.lst vs), I.laid (t' := tk) (fun b o e => hk b o (Heap.get?_push_of_some _ e)) (by simp [Heap.push])
    (show ObjOk X.prog X.w _ _ _ (.lst vs) from ⟨hl, acc.toList, c', hvs acc hacc, by rw [Array.toArray_toList]; exact hD⟩), rfl, q _ (I.hok.fresh (by simp [Heap.push]))⟩
theorem kv_vals : ∀ {kvs : List (Key × V)} {vs : List (Key × Value)}, KV kvs vs → Vals (kvs.map (·.2)) (vs.map (·.2))
  | _, _, .nil => .nil
  | _, _, .cons h t => .cons h.2 (kv_vals t)
theorem kt_vals {H : Hp} : ∀ {kvs : List (List Key × V)} {xs : List (List Key × Addr × Value)}, KT H kvs xs → Vals (kvs.map (·.2)) (xs.map (·.2.2))
  | _, _, .nil => .nil
  | _, _, .cons h t => .cons h.2.2 (kt_vals t)
theorem items_eq {P : Nat → Value → Prop} {n : Nat} {acc : Array Value} {l : List Value} (h : ItemsOf P acc n) (hl : l.length = n) (hp : ∀ i v, P i v → l[i]? = some v) : acc.toList = l := by
  refine List.ext_getElem? fun i => ?_
  rw [Array.getElem?_toList]
  rcases Nat.lt_or_ge i n with q | q
  · have l2 : i < acc.size := by rw [h.1]; exact q
    rw [Array.getElem?_eq_getElem l2]
    exact (hp i _ (h.2 i acc[i] (Array.getElem?_eq_getElem l2))).symm
  · rw [Array.getElem?_eq_none (by rw [h.1]; exact q), List.getElem?_eq_none (by omega)]
end
section
variable {X : Cx} {o : Expr} {to : TE} {p ap mp pos : Pos}
theorem pe_listVals (hcalm : X.calm = true) (hg : Gl X "list") (hm : X.mg "list" = none) (ho : PE X o to)
    (hbase : attributeBase o "values" X.env (eval o X.env) = eval o X.env := by rfl) (hline : (ap.endLine == mp.line) = true := by rfl)
    (he : starEach [Expr.Call (.Attribute o "values" ap) [] [] mp] X.env = (false, eval (Expr.Call (.Attribute o "values" ap) [] [] mp) X.env) :: starEach [] X.env := by rfl)
    (hpl : (backTo pos (starEach [] X.env)).any (·.1) = false := by rfl) :
    PE X (.Call (.Name "list" p) [.Call (.Attribute o "values" ap) [] [] mp] [] pos) (tVals to) := by
  refine ⟨fun pins s σ H Q I h => ?_⟩
  refine wpAny_Call_Name_kw (ld_blt I hg hm (by rfl) ?_ (by decide) (by decide))
  refine PyProof.Rows.callWith_type1 ?_ he hpl
  rw [he]
  show wpAny _ _ (spliced ((false, eval (Expr.Call (.Attribute o "values" ap) [] [] mp) X.env) :: backTo pos (starEach [] X.env))) _ _ s
  refine Calls.spliced_cons ?_
  refine wpAny_Call_method0_late hbase hline (thn (ho.run pins s σ H _ I h) fun v s1 ⟨x, H1, I1, r1, q1⟩ => ?_)
  obtain ⟨a, rfl, q⟩ := q1
  cases r1
  have raw : ∃ es ep, s1.heap.DictRaw a es ep := by
    rcases q with ⟨kvs, hd, q⟩ | ⟨kvs, hd, q⟩
    · obtain ⟨z, lo, vs, rel, dd⟩ := dk_rd I1.hok hd
      obtain ⟨es, ep, hraw, _⟩ := dd.raw
      exact ⟨es, ep, hraw⟩
    · obtain ⟨z, lo, vs, rel, dd⟩ := dt_rd I1.hok hd
      obtain ⟨es, ep, hraw, _⟩ := dd.raw
      exact ⟨es, ep, hraw⟩
  obtain ⟨es0, ep0, raw⟩ := raw
  refine ⟨"dict", "dict.values", PySem.F.plainAttrs_dict, PySem.F.slot_dict_values, PySem.F.type_dict_values, raw.typeIs, fun b e => ?_, Calls.callWith_builtin rfl (PySem.evalArgs_none ?_)⟩
  · cases e
    obtain ⟨o, e, ex, _⟩ := raw
    exact ⟨o, e, ex.2.1⟩
  rcases q with ⟨kvs, hd, q⟩ | ⟨kvs, hd, q⟩
  · obtain ⟨z, lo, vs, rel, dd⟩ := dk_rd I1.hok hd
    obtain ⟨ep, hat⟩ := dd.dictAt
    refine call_meetsIn PySem.F.slot_dict_values dd.typeIs PySem.F.entry_dict_values (PySem.F.args_dict_values_1 _) (meets_dict_values (mixKind X.prog X.w) a lo) ⟨⟨_, dd⟩, Calls.spliced_nil ?_⟩
    refine vals_fin (n := vs.length) hcalm I1 (kdl_values (knd := mixKind X.prog X.w) (kvs := vs) (ep := ep)) ⟨⟨_, Heap.get?_push_size _ rfl, rfl, rfl⟩, hat.push _⟩ (by rw [← rel.length]; exact z) (kvs.map (·.2)) (by rw [List.length_map]; exact z) (fun acc hacc => ?_) q
    rw [items_eq (l := vs.map (·.2)) hacc (by simp) fun i v ⟨k, e⟩ => by rw [List.getElem?_map, e]; rfl]
    exact kv_vals rel
  · obtain ⟨z, lo, ys, rel, dd⟩ := dt_rd I1.hok hd
    obtain ⟨ell, gk⟩ := kt_getQ rel
    obtain ⟨es, ep, hraw, hsz, hes⟩ := dd.raw
    refine call_meetsIn PySem.F.slot_dict_values hraw.typeIs PySem.F.entry_dict_values (PySem.F.args_dict_values_1 _) (meets_dict_values_raw a lo) ⟨⟨_, _, hraw⟩, Calls.spliced_nil ?_⟩
    refine vals_fin (n := es.size) hcalm I1 (KdlSrc.rawValues (es := es) (ep := ep)) ⟨⟨_, Heap.get?_push_size _ rfl, rfl, rfl⟩, hraw.push _⟩ (by rw [hsz, ← ell]; exact z) (kvs.map (·.2)) (by rw [List.length_map]; exact z) (fun acc hacc => ?_) q
    rw [items_eq (l := ys.map (·.2.2)) hacc (by rw [List.length_map, hsz]) fun i v ⟨hi, e⟩ => by
      obtain ⟨y, e1, e2⟩ := hes i hi
      rw [List.getElem?_map, e1, e]
      simp_all]
    exact kt_vals rel
end
end L2
namespace DL
open PySem PySem.Spec L2
section
variable {K : PySem.W.Frag} {G : Hp}
theorem reps_kv2 : ∀ {vs : List (Key × V)} {ds : List (Key × Dt)}, RepK K G vs ds → Reps K G (vs.map (·.2)) (ds.map (·.2))
  | _, _, .nil => .nil
  | _, _, .cons r t => .cons r (reps_kv2 t)
theorem reps_tv2 : ∀ {vs : List (List Key × V)} {ds : List (List Key × Dt)}, RepT K G vs ds → Reps K G (vs.map (·.2)) (ds.map (·.2))
  | _, _, .nil => .nil
  | _, _, .cons r t => .cons r (reps_tv2 t)
def DctP (d : Dt) (Q : List Dt → Prop) : Prop := (∃ ks : List (Key × Dt), d = .dK ks ∧ Q (ks.map (·.2))) ∨ ∃ ks : List (List Key × Dt), d = .dT ks ∧ Q (ks.map (·.2))
instance {ks : List (Key × Dt)} {Q : List Dt → Prop} : Wk (DctP (.dK ks) Q) (Q (ks.map (·.2))) := ⟨fun h => .inl ⟨ks, rfl, h⟩⟩
instance {ks : List (List Key × Dt)} {Q : List Dt → Prop} : Wk (DctP (.dT ks) Q) (Q (ks.map (·.2))) := ⟨fun h => .inr ⟨ks, rfl, h⟩⟩
end
section
variable {K : PySem.W.Frag} {W : WX} {Γ : Gm} {X : XP} {P : Dt → Gm → Prop} {PO : Sl → Gm → Prop} {te : TE} {i : Nat} {a : Addr}
theorem evo_vals (h : Ev K W te Γ (fun d Γ1 => DctP d fun xs => ∀ a, PO (.ol a xs) Γ1) X) : EvO K W (tVals te) Γ PO X := fun O G H σ Q S0 q x =>
  h O G H σ _ S0 (fun v G1 H1 Γ1 d s1 S1 r1 hh => by
    rcases hh with ⟨ks, rfl, hP⟩ | ⟨ks, rfl, hP⟩
    · cases r1 with
      | @dK p ob ys _ ha rr => exact ⟨p, rfl, .inl ⟨ys, .inr ⟨ob, S1.g _ _ ha⟩, fun l nl => q (.ref l) G1 _ Γ1 (.ol l _) s1 (S1.own1 nl rfl (.ol upd_same (reps_kv2 rr))) (hP l)⟩⟩
    · cases r1 with
      | @dT p ob ys _ ha rr => exact ⟨p, rfl, .inr ⟨ys, .inr ⟨ob, S1.g _ _ ha⟩, fun l nl => q (.ref l) G1 _ Γ1 (.ol l _) s1 (S1.own1 nl rfl (.ol upd_same (reps_tv2 rr))) (hP l)⟩⟩) x
instance : Wk (EvO K W (tVals te) Γ PO X) (Ev K W te Γ (fun d Γ1 => DctP d fun xs => ∀ a, PO (.ol a xs) Γ1) X) := ⟨evo_vals⟩
instance (priority := low) : Wk (Ev K W (tVals te) Γ P X) (Ev K W te Γ (fun d Γ1 => DctP d fun xs => P (.lst xs) Γ1) X) := ⟨fun h => ev_frz (evo_vals (h.imp fun d Γ2 hh => by
  rcases hh with ⟨ks, e, p⟩ | ⟨ks, e, p⟩
  · exact .inl ⟨ks, e, fun b => ⟨_, .ol b _, p⟩⟩
  · exact .inr ⟨ks, e, fun b => ⟨_, .ol b _, p⟩⟩))⟩
end
end DL
namespace DL
open PySem PySem.Spec L2
end DL
namespace DL
open PySem PySem.Spec L2
section
variable {K : PySem.W.Frag} {W : WX} {Γ : Gm} {X : XP} {PO : Sl → Gm → Prop} {ta : TE}
theorem evo_lstRg1 (h : Ev K W ta Γ (fun x Γ1 => IsI x fun j => Side (RgOk 0 j) (∀ q, PO (.ol q (rngD 0 j)) Γ1)) X) : EvO K W (tLstRg (tRg1 ta)) Γ PO X := fun O G H σ Q S q x =>
  h O G H σ _ S (fun v1 G1 H1 Γ1 d1 s1 S1 r1 ⟨j, e1, ok, p⟩ => by
    subst e1
    cases r1
    exact ⟨j, rfl, ok, fun qd np => q (.ref qd) G1 _ Γ1 (.ol qd (rngD 0 j)) s1 (S1.own1 np rfl (.ol upd_same (reps_mapI (fun k => 0 + (k : Nat)) _))) (p qd)⟩) x
instance : Wk (EvO K W (tLstRg (tRg1 ta)) Γ PO X) (Ev K W ta Γ (fun x Γ1 => IsI x fun j => Side (RgOk 0 j) (∀ q, PO (.ol q (rngD 0 j)) Γ1)) X) := ⟨evo_lstRg1⟩
instance {P : Dt → Gm → Prop} : Wk (Ev K W (tLstRg (tRg1 ta)) Γ P X) (EvO K W (tLstRg (tRg1 ta)) Γ (fun s Γ2 => Fz s fun d => P d Γ2) X) := ⟨ev_frz⟩
end
end DL
namespace L2
open PySem PySem.Spec PyProof.Rows
end L2
namespace DL
open PySem PySem.Spec L2
section
variable {K : PySem.W.Frag} {W : WX} {Γ : Gm} {X : XP} {P : Sl → Gm → Prop} {tk tv : TE}
end
section
variable {Γ : Gm} {as as' : List Sl} {c : Prop}
instance {a : Addr} {ds es : List (List Key × Dt)} [b : BackC as Γ as' c] : BackC (.oT a ds :: as) (some (.oT a es) :: Γ) (.oT a es :: as') c := ⟨fun h => .own rfl rfl (b.h h)⟩
instance {a : Addr} {ds es : List (Key × Dt)} [b : BackC as Γ as' c] : BackC (.oK a ds :: as) (some (.oK a es) :: Γ) (.oK a es :: as') c := ⟨fun h => .own rfl rfl (b.h h)⟩
end
end DL
namespace L2
open PySem PySem.Spec PyProof.Rows
end L2
namespace DL
open PySem PySem.Spec L2
section
variable {K : PySem.W.Frag} {W : WX} {Γ : Gm} {X : XP} {te : TE} {P : Dt → Gm → Prop} {PI : List Dt → Gm → Prop}
def MinL (d : Dt) (R : Dt → Prop) : Prop := ∃ ns : List Int, d = .lst (ns.map .int) ∧ 0 < ns.length ∧ ∀ m ∈ ns, (∀ y ∈ ns, m ≤ y) → R (.int m)
def MaxL (d : Dt) (R : Dt → Prop) : Prop := ∃ ns : List Int, d = .lst (ns.map .int) ∧ 0 < ns.length ∧ ∀ m ∈ ns, (∀ y ∈ ns, y ≤ m) → R (.int m)
instance {ns : List Int} {R : Dt → Prop} : Wk (MinL (.lst (ns.map .int)) R) (Side (0 < ns.length) (∀ m, m ∈ ns → (∀ y, y ∈ ns → m ≤ y) → R (.int m))) := ⟨fun h => ⟨ns, rfl, h.1, h.2⟩⟩
instance {ns : List Int} {R : Dt → Prop} : Wk (MaxL (.lst (ns.map .int)) R) (Side (0 < ns.length) (∀ m, m ∈ ns → (∀ y, y ∈ ns → y ≤ m) → R (.int m))) := ⟨fun h => ⟨ns, rfl, h.1, h.2⟩⟩
theorem ev_minL (h : Ev K W te Γ (fun d Γ1 => MinL d fun z => P z Γ1) X) : Ev K W (tCB (rMin K) (tCons te tNil)) Γ P X := fun O G H σ Q S0 q x =>
  h O G H σ _ S0 (fun v G1 H1 Γ1 d s1 S1 r1 ⟨ns, e, hl, hP⟩ => by
    subst e
    cases r1 with
    | @lst p ys _ ha rr =>
      obtain rfl := reps_intsV rr
      exact ⟨p, ns, rfl, SqL.of (S1.g _ _ ha), hl, fun m h1 h2 => q (.int m) G1 H1 Γ1 (.int m) s1 S1 (.int m) (hP m h1 h2)⟩) x
theorem ev_maxL (h : Ev K W te Γ (fun d Γ1 => MaxL d fun z => P z Γ1) X) : Ev K W (tCB (rMax K) (tCons te tNil)) Γ P X := fun O G H σ Q S0 q x =>
  h O G H σ _ S0 (fun v G1 H1 Γ1 d s1 S1 r1 ⟨ns, e, hl, hP⟩ => by
    subst e
    cases r1 with
    | @lst p ys _ ha rr =>
      obtain rfl := reps_intsV rr
      exact ⟨p, ns, rfl, SqL.of (S1.g _ _ ha), hl, fun m h1 h2 => q (.int m) G1 H1 Γ1 (.int m) s1 S1 (.int m) (hP m h1 h2)⟩) x
instance : Wk (Ev K W (tCB (rMin K) (tCons te tNil)) Γ P X) (Ev K W te Γ (fun d Γ1 => MinL d fun z => P z Γ1) X) := ⟨ev_minL⟩
instance : Wk (Ev K W (tCB (rMax K) (tCons te tNil)) Γ P X) (Ev K W te Γ (fun d Γ1 => MaxL d fun z => P z Γ1) X) := ⟨ev_maxL⟩
end
end DL
namespace DL
open PySem PySem.Spec L2
section
variable {K : PySem.W.Frag} {W : WX} {Γ : Gm} {nx : Gm → Prop} {rt : Sl → Gm → Prop} {xc : XP} {bk ct : Gm → Prop} {i j l : Nat} {ta : TA}
def Par2Q (ds : List Dt) (R : Dt → Dt → Prop) : Prop := ∃ x y, ds = [x, y] ∧ R x y
def Par3Q (ds : List Dt) (R : Dt → Dt → Dt → Prop) : Prop := ∃ x y z, ds = [x, y, z] ∧ R x y z
instance {x y : Dt} {R : Dt → Dt → Prop} : Wk (Par2Q [x, y] R) (R x y) := ⟨fun h => ⟨x, y, rfl, h⟩⟩
instance {x y z : Dt} {R : Dt → Dt → Dt → Prop} : Wk (Par3Q [x, y, z] R) (R x y z) := ⟨fun h => ⟨x, y, z, rfl, h⟩⟩
theorem go_par2 (h : EvA K W ta Γ (fun ds Γ1 => Par2Q ds fun x y => nx ((Γ1.set i (some (.fr x))).set j (some (.fr y)))) xc) : Go K W (tPar i j ta) Γ ⟨nx, rt, xc, bk, ct⟩ := fun O G H σ D S a b c d e =>
  h O G H σ _ S (fun vs G2 H2 Γ2 ds s1 S2 r ⟨x, y, ed, p⟩ => by
    subst ed
    cases r with
    | cons r1 r => cases r with
      | cons r2 r =>
        cases r
        exact ⟨_, _, rfl, a G2 H2 _ _ s1 ((S2.putF r1 i).putF r2 j) p⟩) (e σ)
theorem go_par3 (h : EvA K W ta Γ (fun ds Γ1 => Par3Q ds fun x y z => nx (((Γ1.set i (some (.fr x))).set j (some (.fr y))).set l (some (.fr z)))) xc) : Go K W (tPar3 i j l ta) Γ ⟨nx, rt, xc, bk, ct⟩ := fun O G H σ D S a b c d e =>
  h O G H σ _ S (fun vs G2 H2 Γ2 ds s1 S2 r ⟨x, y, z, ed, p⟩ => by
    subst ed
    cases r with
    | cons r1 r => cases r with
      | cons r2 r => cases r with
        | cons r3 r =>
          cases r
          exact ⟨_, _, _, rfl, a G2 H2 _ _ s1 (((S2.putF r1 i).putF r2 j).putF r3 l) p⟩) (e σ)
instance : Wk (Go K W (tPar i j ta) Γ ⟨nx, rt, xc, bk, ct⟩) (EvA K W ta Γ (fun ds Γ1 => Par2Q ds fun x y => nx ((Γ1.set i (some (.fr x))).set j (some (.fr y)))) xc) := ⟨go_par2⟩
instance : Wk (Go K W (tPar3 i j l ta) Γ ⟨nx, rt, xc, bk, ct⟩) (EvA K W ta Γ (fun ds Γ1 => Par3Q ds fun x y z => nx (((Γ1.set i (some (.fr x))).set j (some (.fr y))).set l (some (.fr z)))) xc) := ⟨go_par3⟩
end
end DL
namespace L2
open PySem PySem.Spec
end L2
namespace DL
open PySem PySem.Spec L2
section
variable {K : PySem.W.Frag} {W : WX} {Γ : Gm} {X : XP} {te : TE} {t : TA}
end
end DL
namespace DL
open PySem PySem.Spec L2
section
variable {K : PySem.W.Frag} {W : WX} {Γ Γ' : Gm} {i : Nat} {d : Dt} {b C : Addr} {fs : List (Str × Sl)} {nx : Gm → Prop} {rt : Sl → Gm → Prop} {xc : XP} {bk ct : Gm → Prop} {t : TS} {c : Option Addr}
instance [tt : At Γ i (.oo b C fs)] [l : LnC (.oo b C fs) d c] [sg : SetG Γ i (some (.fr (.at_ b d))) Γ'] : Wk (Go K W (tLnS i t) Γ ⟨nx, rt, xc, bk, ct⟩) (Go K W t Γ' ⟨fun Γ2 => LendN c Γ2 i (.oo b C fs) (.at_ b d) True nx, fun r Γ2 => LendN c Γ2 i (.oo b C fs) (.at_ b d) (noXS c r) (rt r), fun _ _ _ => False, fun Γ2 => LendN c Γ2 i (.oo b C fs) (.at_ b d) True bk, fun Γ2 => LendN c Γ2 i (.oo b C fs) (.at_ b d) True ct⟩) :=
  ⟨fun h => go_lnS tt.h l.h rfl (by rw [l.e, sg.h]; exact h)⟩
instance (priority := high) {Γ2 Γ3 : Gm} {j : Nat} {x : Option Sl} {s : Sl} {N : Prop} {Q : Gm → Prop} [sg : SetG Γ2 j x Γ3] : Wk (LendN c (Γ2.set j x) i s d N Q) (LendN c Γ3 i s d N Q) := ⟨fun h => by rw [sg.h]; exact h⟩
end
end DL
namespace RM
abbrev Rw := Int × Int × Bool
def at1 (r : Rw) (t : Int) : Int := r.2.1 + (if r.2.2 then t - r.1 else 0)
def val (r : Rw) : List Rw → Int → Int
  | [], t => at1 r t
  | q :: rs, t => if q.1 > t then at1 r t else val q rs t
def valueAt : List Rw → Int → Int
  | [], _ => 0
  | r :: rs, t => val r rs t
structure Fol (r q : Rw) : Prop where
  s : r.1 < q.1
  v : q.1 ≤ q.2.1
  u : at1 r (q.1 - 1) ≤ q.2.1
  l : r.2.2 = false → q.1 - 1 ≤ r.2.1
def Good : Rw → List Rw → Prop
  | r, [] => r.2.2 = true
  | r, q :: rs => Fol r q ∧ Good q rs
def Right : List Rw → Prop
  | [] => False
  | r :: rs => r.1 = 0 ∧ 0 ≤ r.2.1 ∧ Good r rs
structure Ris (f : Int → Int) : Prop where
  ge : ∀ t, 0 ≤ t → t ≤ f t
  mo : ∀ t, 0 ≤ t → f t ≤ f (t + 1)
theorem Good.first {r : Rw} : ∀ {rs : List Rw}, Good r rs → ∀ q ∈ rs, r.1 < q.1
  | [], _, q, h => by cases h
  | p :: rs, h, q, hq => by
    rcases List.mem_cons.mp hq with rfl | hq
    · exact h.1.s
    · have := h.2.first q hq; have := h.1.s; omega
theorem val_start {r : Rw} {rs : List Rw} (h : Good r rs) : val r rs r.1 = r.2.1 := by
  cases rs with
  | nil => simp [val, at1]
  | cons q rs => have := h.1.s; unfold val; rw [if_pos (by omega)]; simp [at1]
theorem at1_succ (r : Rw) (t : Int) : at1 r (t + 1) = at1 r t + (if r.2.2 then 1 else 0) := by unfold at1; cases r.2.2 <;> simp <;> omega
theorem ris_val : ∀ {r : Rw} {rs : List Rw}, Good r rs → r.1 ≤ r.2.1 → ∀ t, r.1 ≤ t → t ≤ val r rs t ∧ val r rs t ≤ val r rs (t + 1)
  | r, [], h, hv, t, ht => by
    have hg : r.2.2 = true := h
    unfold val at1
    simp only [hg, if_true]; omega
  | r, q :: rs, h, hv, t, ht => by
    have f := h.1
    by_cases h1 : q.1 ≤ t
    · have ih := ris_val h.2 f.v t h1
      have e1 : val r (q :: rs) t = val q rs t := by unfold val; rw [if_neg (by omega)]; cases rs <;> rfl
      have e2 : val r (q :: rs) (t + 1) = val q rs (t + 1) := by unfold val; rw [if_neg (by omega)]; cases rs <;> rfl
      rw [e1, e2]; exact ih
    · have e1 : val r (q :: rs) t = at1 r t := by unfold val; rw [if_pos (by omega)]
      rw [e1]
      by_cases h2 : q.1 = t + 1
      · have e2 : val r (q :: rs) (t + 1) = q.2.1 := by
          unfold val; rw [if_neg (by omega)]
          have := val_start h.2
          rw [h2] at this
          exact this
        rw [e2]
        have hu := f.u
        rw [h2, show t + 1 - 1 = t by omega] at hu
        refine ⟨?_, hu⟩
        unfold at1
        cases hg : r.2.2 with
        | true => simp; omega
        | false => have := f.l hg; simp; omega
      · have e2 : val r (q :: rs) (t + 1) = at1 r (t + 1) := by unfold val; rw [if_pos (by omega)]
        rw [e2, at1_succ]
        refine ⟨?_, by split <;> omega⟩
        unfold at1
        cases hg : r.2.2 with
        | true => simp; omega
        | false => have := f.l hg; simp; omega
theorem ris_of {rs : List Rw} (h : Right rs) : Ris (valueAt rs) := by
  cases rs with
  | nil => exact h.elim
  | cons r rs =>
    obtain ⟨h0, h1, h2⟩ := h
    exact ⟨fun t ht => (ris_val h2 (by omega) t (by omega)).1, fun t ht => (ris_val h2 (by omega) t (by omega)).2⟩
theorem Ris.le {f : Int → Int} (h : Ris f) {s t : Int} (h0 : 0 ≤ s) (hst : s ≤ t) : f s ≤ f t := by
  obtain ⟨n, rfl⟩ : ∃ n : Nat, t = s + n := ⟨(t - s).toNat, by omega⟩
  clear hst
  induction n with
  | zero => simp
  | succ n ih => have := h.mo (s + n) (by omega); have e : s + ((n + 1 : Nat) : Int) = s + n + 1 := by omega
                 rw [e]; omega
def Runs (d : Int → Int) : List (Int × Int) → Prop
  | [] => False
  | [x] => x.2 = 1 ∧ ∀ t, x.1 ≤ t → d t = x.2
  | x :: y :: r => x.1 < y.1 ∧ (∀ t, x.1 ≤ t → t < y.1 → d t = x.2) ∧ Runs d (y :: r)
def Dist : List (Int × Int) → Prop
  | x :: y :: r => x.2 ≠ y.2 ∧ Dist (y :: r)
  | _ => True
theorem runs_uniq {d : Int → Int} : ∀ {l l' : List (Int × Int)}, Runs d l → Runs d l' → Dist l → Dist l' → (l.head?.map (·.1) = l'.head?.map (·.1)) → l = l'
  | [], _, h, _, _, _, _ => h.elim
  | _ :: _, [], _, h, _, _, _ => h.elim
  | [x], [y], h, h', _, _, e => by
    simp at e
    have a := h.2 x.1 (by omega)
    have b := h'.2 y.1 (by omega)
    rw [e] at a
    have : x.2 = y.2 := by rw [← a, ← b]
    exact congrArg (· :: []) (Prod.ext e this)
  | [x], y :: z :: r, h, h', _, D', e => by
    simp at e
    have b := h'.2.1 y.1 (by omega) h'.1
    have a := h.2 y.1 (by omega)
    have c : d z.1 = z.2 := by
      cases r with
      | nil => exact h'.2.2.2 z.1 (by omega)
      | cons w r => exact h'.2.2.2.1 z.1 (by omega) h'.2.2.1
    have := h.2 z.1 (by have := h'.1; omega)
    exact absurd (by rw [← b, a, ← this, c]) D'.1
  | y :: z :: r, [x], h', h, D', _, e => by
    simp at e
    have b := h'.2.1 y.1 (by omega) h'.1
    have a := h.2 y.1 (by omega)
    have c : d z.1 = z.2 := by
      cases r with
      | nil => exact h'.2.2.2 z.1 (by omega)
      | cons w r => exact h'.2.2.2.1 z.1 (by omega) h'.2.2.1
    have := h.2 z.1 (by have := h'.1; omega)
    exact absurd (by rw [← b, a, ← this, c]) D'.1
  | x :: y :: r, x' :: y' :: r', h, h', D, D', e => by
    simp at e
    have a := h.2.1 x.1 (by omega) h.1
    have a' := h'.2.1 x'.1 (by omega) h'.1
    have ex : x = x' := Prod.ext e (by rw [← a, ← a', e])
    subst ex
    have c : d y.1 = y.2 := by
      cases r with
      | nil => exact h.2.2.2 y.1 (by omega)
      | cons w r => exact h.2.2.2.1 y.1 (by omega) h.2.2.1
    have c' : d y'.1 = y'.2 := by
      cases r' with
      | nil => exact h'.2.2.2 y'.1 (by omega)
      | cons w r => exact h'.2.2.2.1 y'.1 (by omega) h'.2.2.1
    have ey : y.1 = y'.1 := by
      rcases Int.lt_trichotomy y.1 y'.1 with q | q | q
      · have := h'.2.1 y.1 (by have := h.1; omega) q
        exact absurd (by rw [← this, c]) D.1
      · exact q
      · have := h.2.1 y'.1 (by have := h'.1; omega) q
        exact absurd (by rw [← this, c']) D'.1
    have ih := runs_uniq h.2.2 h'.2.2 D.2 D'.2 (by simp [ey])
    rw [ih]
def dd : Option Int → List (Int × Int) → List (Int × Int)
  | _, [] => []
  | o, x :: r => if o = some x.2 then dd o r else x :: dd (some x.2) r
def runs1 (r q : Rw) : List (Int × Int) :=
  if q.1 - 1 > r.1 then [(r.1, if r.2.2 then 1 else 0), (q.1 - 1, q.2.1 - at1 r (q.1 - 1))] else [(q.1 - 1, q.2.1 - at1 r (q.1 - 1))]
def raw (r : Rw) : List Rw → List (Int × Int)
  | [] => [(r.1, 1)]
  | q :: rs => runs1 r q ++ raw q rs
def der (f : Int → Int) (t : Int) : Int := f (t + 1) - f t
structure Steps (f : Int → Int) (l : List (Int × Int)) : Prop where
  runs : Runs (der f) l
  dist : Dist l
  zero : l.head?.map (·.1) = some 0
theorem steps_uniq {f g : Int → Int} {l l' : List (Int × Int)} (h : Steps f l) (h' : Steps g l') (e : ∀ t, 0 ≤ t → f t = g t) : l = l' := by
  have conv : ∀ {l : List (Int × Int)}, (∃ m, l.head?.map (·.1) = some m ∧ 0 ≤ m) → Runs (der g) l → Runs (der f) l := by
    intro l
    induction l with
    | nil => intro _ h; exact h
    | cons x r ih =>
      intro ⟨m, hm, h0⟩ h
      have ex : x.1 = m := by simpa using hm
      cases r with
      | nil => exact ⟨h.1, fun t ht => by rw [← h.2 t ht]; unfold der; rw [e t (by omega), e (t + 1) (by omega)]⟩
      | cons y r =>
        refine ⟨h.1, fun t h1 h2 => ?_, ih ⟨y.1, rfl, by have := h.1; omega⟩ h.2.2⟩
        rw [← h.2.1 t h1 h2]; unfold der; rw [e t (by omega), e (t + 1) (by omega)]
  exact runs_uniq h.runs (conv ⟨0, h'.zero, by omega⟩ h'.runs) h.dist h'.dist (by rw [h.zero, h'.zero])
def skip (s : Int) : List (Int × Int) → List (Int × Int)
  | x :: y :: r => if y.1 ≤ s then skip s (y :: r) else x :: y :: r
  | l => l
def ende (s : Int) (x y : Int × Int) : Int := if x.2 < 2 then y.1 else s
inductive Gre (f : Int → Int) : Int → List (Int × Int) → List Rw → Prop
  | last (s : Int) (x : Int × Int) : Gre f s [x] [(s, f s, true)]
  | more {s : Int} {x y : Int × Int} {r : List (Int × Int)} {G : List Rw} : Gre f (ende s x y + 1) (skip (ende s x y + 1) (x :: y :: r)) G → Gre f s (x :: y :: r) ((s, f s, decide (x.2 = 1)) :: G)
theorem gre_uniq {f g : Int → Int} {s : Int} {l : List (Int × Int)} {G G' : List Rw} (h : Gre f s l G) (h' : Gre g s l G') (e : ∀ t, 0 ≤ t → f t = g t) (hs : 0 ≤ s) (hl : ∀ x ∈ l, 0 ≤ x.1) : G = G' := by
  induction h generalizing G' with
  | last s x => cases h'; rw [e s hs]
  | @more s x y r G h ih =>
    cases h' with
    | more h' =>
      have sk : ∀ {l : List (Int × Int)} {s : Int}, (∀ x ∈ l, 0 ≤ x.1) → ∀ x ∈ skip s l, 0 ≤ x.1 := by
        intro l s
        induction l with
        | nil => intro hl x hx; exact hl x hx
        | cons a l ih =>
          intro hl x hx
          cases l with
          | nil => exact hl x hx
          | cons b l =>
            unfold skip at hx
            split at hx
            · exact ih (fun z hz => hl z (List.mem_cons_of_mem _ hz)) x hx
            · exact hl x hx
      have := hl y (by simp)
      rw [ih h' (by unfold ende; split <;> omega) (sk hl), e s hs]
def Hit (s : Int) : List (Int × Int) → Prop
  | [] => False
  | [x] => x.1 ≤ s
  | x :: y :: _ => x.1 ≤ s ∧ s < y.1
theorem skip_at {d : Int → Int} {s : Int} : ∀ {l : List (Int × Int)}, Runs d l → (∀ x, l.head? = some x → x.1 ≤ s) → Hit s (skip s l) ∧ Runs d (skip s l)
  | [], h, _ => h.elim
  | [x], h, hx => ⟨hx x rfl, h⟩
  | x :: y :: r, h, hx => by
    unfold skip
    by_cases c : y.1 ≤ s
    · rw [if_pos c]
      exact skip_at h.2.2 (fun z hz => by simp at hz; subst hz; exact c)
    · rw [if_neg c]
      exact ⟨⟨hx x rfl, by omega⟩, h⟩
theorem der_sum {f : Int → Int} {v s t : Int} (h : ∀ u, s ≤ u → u < t → der f u = v) (hst : s ≤ t) : f t = f s + v * (t - s) := by
  obtain ⟨n, rfl⟩ : ∃ n : Nat, t = s + n := ⟨(t - s).toNat, by omega⟩
  clear hst
  induction n with
  | zero => simp
  | succ n ih =>
    have e1 := ih (fun u a b => h u a (by omega))
    have e2 := h (s + n) (by omega) (by omega)
    unfold der at e2
    have e3 : s + ((n + 1 : Nat) : Int) = s + n + 1 := by omega
    rw [e3]
    have e4 : v * (s + n + 1 - s) = v * (s + n - s) + v := by
      have : s + (n : Int) + 1 - s = (s + n - s) + 1 := by omega
      rw [this, Int.mul_add, Int.mul_one]
    omega
theorem gre_val {f : Int → Int} (R : Ris f) {s : Int} {l : List (Int × Int)} {G : List Rw} (h : Gre f s l G) : Runs (der f) l → Hit s l → 0 ≤ s → ∃ r rs, G = r :: rs ∧ r.1 = s ∧ r.2.1 = f s ∧ Good r rs ∧ ∀ t, s ≤ t → val r rs t = f t := by
  induction h with
  | last s x =>
    intro hr ha h0
    refine ⟨_, _, rfl, rfl, rfl, rfl, fun t ht => ?_⟩
    have ha' : x.1 ≤ s := ha
    have := der_sum (f := f) (v := 1) (s := s) (t := t) (fun u a b => by rw [hr.2 u (by omega), hr.1]) ht
    show f s + (if true = true then t - s else 0) = f t
    simp; omega
  | @more s x y r G h ih =>
    intro hr ha h0
    obtain ⟨ha1, ha2⟩ := ha
    have hes : s ≤ ende s x y := by unfold ende; split <;> omega
    have hey : ende s x y ≤ y.1 := by unfold ende; split <;> omega
    obtain ⟨sa, sr⟩ := skip_at (s := ende s x y + 1) hr (fun z hz => by simp at hz; subst hz; omega)
    obtain ⟨q, rs, rfl, e1, e2, hg, hv⟩ := ih sr sa (by omega)
    have dx : 0 ≤ x.2 := by
      have := hr.2.1 s ha1 ha2
      have := R.mo s h0
      unfold der at *
      omega
    have inner : ∀ t, s ≤ t → t ≤ ende s x y → at1 (s, f s, decide (x.2 = 1)) t = f t := fun t h1 h2 => by
      show f s + (if decide (x.2 = 1) = true then t - s else 0) = f t
      by_cases c : x.2 < 2
      · have he : ende s x y = y.1 := if_pos c
        have := der_sum (f := f) (v := x.2) (s := s) (t := t) (fun u a b => hr.2.1 u (by omega) (by omega)) h1
        have hx : x.2 = 0 ∨ x.2 = 1 := by omega
        rcases hx with hx | hx
        · simp [hx] at this ⊢; omega
        · simp [hx] at this ⊢; omega
      · have he : ende s x y = s := if_neg c
        have : t = s := by omega
        subst this
        simp
    refine ⟨_, _, rfl, rfl, rfl, ⟨⟨?_, ?_, ?_, fun hf => ?_⟩, hg⟩, fun t ht => ?_⟩
    · show s < q.1; omega
    · rw [e2, e1]; exact R.ge _ (by omega)
    · rw [e1, show ende s x y + 1 - 1 = ende s x y by omega, inner _ hes (Int.le_refl _), e2]; exact R.mo _ (by omega)
    · show q.1 - 1 ≤ f s
      have i := inner _ hes (Int.le_refl _)
      have hf' : decide (x.2 = 1) = false := hf
      unfold at1 at i
      simp only [hf'] at i
      have := R.ge (ende s x y) (by omega)
      simp at i
      omega
    · show (if q.1 > t then at1 _ t else val q rs t) = f t
      by_cases c : q.1 > t
      · rw [if_pos c]; exact inner t ht (by omega)
      · rw [if_neg c]; exact hv t (by omega)
def Canon (f : Int → Int) (G : List Rw) : Prop := ∃ l, Steps f l ∧ Gre f 0 l G
theorem Steps.at0 {f : Int → Int} {l : List (Int × Int)} (h : Steps f l) : Hit 0 l := by
  have r := h.runs
  have z := h.zero
  match l with
  | [] => exact r.elim
  | [x] => have : x.1 = 0 := by simpa using z
           show x.1 ≤ 0; omega
  | x :: y :: s => have : x.1 = 0 := by simpa using z
                   have := r.1
                   exact ⟨by omega, by omega⟩
theorem Canon.right {f : Int → Int} {G : List Rw} (R : Ris f) (h : Canon f G) : Right G ∧ ∀ t, 0 ≤ t → valueAt G t = f t := by
  obtain ⟨l, hs, hg⟩ := h
  obtain ⟨r, rs, rfl, e1, e2, g, v⟩ := gre_val R hg hs.runs hs.at0 (Int.le_refl _)
  exact ⟨⟨e1, by rw [e2]; exact R.ge 0 (Int.le_refl _), g⟩, v⟩
theorem runs_pos {d : Int → Int} : ∀ {l : List (Int × Int)}, Runs d l → ∀ m, l.head?.map (·.1) = some m → ∀ x ∈ l, m ≤ x.1
  | [], h, _, _ => h.elim
  | [x], h, m, hm => fun z hz => by simp at hz hm; subst hz; omega
  | x :: y :: r, h, m, hm => fun z hz => by
    have hx : x.1 = m := by simpa using hm
    rcases List.mem_cons.mp hz with rfl | hz
    · omega
    · have := runs_pos h.2.2 y.1 rfl z hz
      have := h.1
      omega
theorem Canon.uniq {f g : Int → Int} {G G' : List Rw} (h : Canon f G) (h' : Canon g G') (e : ∀ t, 0 ≤ t → f t = g t) : G = G' := by
  obtain ⟨l, hs, hg⟩ := h
  obtain ⟨l', hs', hg'⟩ := h'
  obtain rfl := steps_uniq hs hs' e
  exact gre_uniq hg hg' e (Int.le_refl _) (runs_pos hs.runs 0 hs.zero)
end RM
namespace RM
def lastM : List (Int × Int) → Int
  | [] => 0
  | [x] => x.1
  | _ :: y :: r => lastM (y :: r)
theorem last_run {f : Int → Int} {B : Int} (hB : ∀ t, B ≤ t → f (t + 1) = f t + 1) (h0 : 0 ≤ B) : ∀ {l : List (Int × Int)}, Runs (der f) l → Dist l → (∀ x, l.head? = some x → x.1 ≤ B) → lastM l ≤ B
  | [], h, _, _ => h.elim
  | [x], _, _, hx => hx x rfl
  | x :: y :: r, h, d, hx => by
    have : lastM (x :: y :: r) = lastM (y :: r) := rfl
    rw [this]
    refine last_run hB h0 (l := y :: r) h.2.2 d.2 fun z hz => ?_
    have ez : y = z := by simpa using hz
    subst ez
    rcases Int.lt_or_le B y.1 with c | c
    · exfalso
      have dy : der f y.1 = y.2 := by
        cases r with
        | nil => exact h.2.2.2 y.1 (by omega)
        | cons w r => exact h.2.2.2.1 y.1 (by omega) h.2.2.1
      have dx := h.2.1 (y.1 - 1) (by have := h.1; omega) (by omega)
      unfold der at dx dy
      have b1 := hB y.1 (by omega)
      have b2 := hB (y.1 - 1) (by omega)
      exact d.1 (by omega)
    · exact c
theorem hit_last {d : Int → Int} : ∀ {l : List (Int × Int)} {x : Int × Int}, Runs d (x :: l) → x.1 ≤ lastM (x :: l)
  | [], x, _ => Int.le_refl _
  | y :: l, x, h => by have := hit_last h.2.2; have := h.1; show x.1 ≤ lastM (y :: l); omega
theorem lastM_skip {s : Int} : ∀ {l : List (Int × Int)}, lastM (skip s l) = lastM l
  | [] => rfl
  | [x] => rfl
  | x :: y :: r => by
    unfold skip
    split
    · exact lastM_skip (l := y :: r)
    · rfl
theorem gre_bd {f d : Int → Int} {s : Int} {l : List (Int × Int)} {G : List Rw} (h : Gre f s l G) : Runs d l → Hit s l → s ≤ lastM l + 1 → ∀ r ∈ G, r.1 ≤ lastM l + 1 := by
  induction h with
  | last s x => intro _ _ hs r hr; have : r = (s, f s, true) := by simpa using hr
                subst this; exact hs
  | @more s x y r G h ih =>
    intro hr ha hs q hq
    rcases List.mem_cons.mp hq with rfl | hq
    · exact hs
    · have hey : ende s x y ≤ y.1 := by unfold ende; split <;> have := ha.2 <;> omega
      have hes : s ≤ ende s x y := by unfold ende; split <;> have := ha.2 <;> omega
      obtain ⟨sa, sr⟩ := skip_at (s := ende s x y + 1) hr (fun z hz => by simp at hz; subst hz; have := ha.1; omega)
      have hy : y.1 ≤ lastM (x :: y :: r) := hit_last hr.2.2
      have := ih sr sa (by rw [lastM_skip]; omega) q hq
      rw [lastM_skip] at this
      exact this
theorem canon_bd {f : Int → Int} {G : List Rw} (h : Canon f G) {B : Int} (hB : ∀ t, B ≤ t → f (t + 1) = f t + 1) (h0 : 0 ≤ B) : ∀ r ∈ G, r.1 ≤ B + 1 := by
  obtain ⟨l, hs, hg⟩ := h
  have hl : lastM l ≤ B := last_run hB h0 hs.runs hs.dist (fun x hx => by
    have z := hs.zero
    rw [hx] at z
    have : x.1 = 0 := by simpa using z
    omega)
  have h0l : 0 ≤ lastM l := by
    have z := hs.zero
    have r := hs.runs
    cases l with
    | nil => exact r.elim
    | cons x l => have := hit_last r; have : x.1 = 0 := by simpa using z
                  omega
  intro r hr
  have := gre_bd hg hs.runs hs.at0 (by omega) r hr
  omega
end RM
namespace RM
def covs : List Rw → List (Rw × Option Int)
  | [] => []
  | [r] => [(r, none)]
  | r :: q :: rs => (r, some (q.1 - 1)) :: covs (q :: rs)
theorem val_in {r q : Rw} {rs : List Rw} {t : Int} (h : t < q.1) : val r (q :: rs) t = at1 r t := if_pos (by omega)
theorem val_on {r q : Rw} {rs : List Rw} {t : Int} (h : q.1 ≤ t) : val r (q :: rs) t = val q rs t := by
  show (if q.1 > t then _ else _) = _
  rw [if_neg (by omega)]
def pick (most : Bool) (a b : Int) : Int := if most = true then (if b > a then b else a) else (if b < a then b else a)
def bk1 (y : Int) (found : Option Int) (c : Rw × Option Int) : Option Int :=
  if c.1.2.1 ≤ y then (if (c.1.2.2 && (match c.2 with | none => true | some e => decide (c.1.1 + y - c.1.2.1 < e))) = true then some (c.1.1 + y - c.1.2.1) else c.2) else found
def bkR (y : Int) (found : Option Int) (cs : List (Rw × Option Int)) : Option Int := cs.foldl (bk1 y) found
def IsBack (f : Int → Int) (y : Int) : Option Int → Prop
  | none => y < f 0
  | some t => 0 ≤ t ∧ f t ≤ y ∧ y < f (t + 1)
theorem bk_out {y : Int} : ∀ {rs : List Rw} {r : Rw} {o : Option Int}, Good r rs → y < r.2.1 → bkR y o (covs (r :: rs)) = o
  | [], r, o, hg, h => by simp [bkR, covs, bk1]; omega
  | q :: rs, r, o, hg, h => by
    have u := hg.1.u
    have s := hg.1.s
    have : r.2.1 ≤ q.2.1 := by
      unfold at1 at u
      split at u <;> omega
    show bkR y (bk1 y o (r, some (q.1 - 1))) (covs (q :: rs)) = o
    have e : bk1 y o (r, some (q.1 - 1)) = o := by unfold bk1; rw [if_neg (by dsimp only; omega)]
    rw [e]
    exact bk_out hg.2 (by omega)
theorem bk_in {y : Int} : ∀ {rs : List Rw} {r : Rw} {o : Option Int}, Good r rs → r.2.1 ≤ y → ∃ t, bkR y o (covs (r :: rs)) = some t ∧ r.1 ≤ t ∧ val r rs t ≤ y ∧ y < val r rs (t + 1)
  | [], r, o, hg, h => by
    have hgr : r.2.2 = true := hg
    refine ⟨r.1 + y - r.2.1, ?_, by omega, ?_, ?_⟩
    · simp [bkR, covs, bk1, hgr]; omega
    · simp [val, at1, hgr]; omega
    · simp [val, at1, hgr]; omega
  | q :: rs, r, o, hg, h => by
    have u := hg.1.u
    have s := hg.1.s
    show ∃ t, bkR y (bk1 y o (r, some (q.1 - 1))) (covs (q :: rs)) = some t ∧ _
    by_cases hq : q.2.1 ≤ y
    · obtain ⟨t, e, h1, h2, h3⟩ := bk_in (o := bk1 y o (r, some (q.1 - 1))) hg.2 hq
      exact ⟨t, e, by omega, by rw [val_on h1]; exact h2, by rw [val_on (by omega)]; exact h3⟩
    · rw [bk_out hg.2 (by omega)]
      have vq : val r (q :: rs) q.1 = q.2.1 := by rw [val_on (Int.le_refl _)]; exact val_start hg.2
      unfold bk1
      rw [if_pos h]
      cases hgr : r.2.2 with
      | true =>
        simp only [Bool.true_and, decide_eq_true_eq]
        split
        · rename_i hlt
          refine ⟨_, rfl, by omega, ?_, ?_⟩
          · rw [val_in (by omega)]; simp [at1, hgr]; omega
          · rw [val_in (by omega)]; simp [at1, hgr]; omega
        · rename_i hge
          refine ⟨_, rfl, by omega, ?_, ?_⟩
          · rw [val_in (by omega)]; simp [at1, hgr]; omega
          · rw [show q.1 - 1 + 1 = q.1 by omega, vq]; omega
      | false =>
        simp only [Bool.false_and, Bool.false_eq_true, if_false]
        refine ⟨_, rfl, by omega, ?_, ?_⟩
        · rw [val_in (by omega)]; simp [at1, hgr]; omega
        · rw [show q.1 - 1 + 1 = q.1 by omega, vq]; omega
theorem back_is {G : List Rw} (h : Right G) (y : Int) : IsBack (valueAt G) y (bkR y none (covs G)) := by
  cases G with
  | nil => exact h.elim
  | cons r rs =>
    obtain ⟨h0, h1, hg⟩ := h
    by_cases c : r.2.1 ≤ y
    · obtain ⟨t, e, a, b, d⟩ := bk_in (o := none) hg c
      rw [e]
      exact ⟨by omega, b, d⟩
    · rw [bk_out hg (by omega)]
      show y < val r rs 0
      rw [← h0, val_start hg]
      omega
theorem IsBack.uniq {f g : Int → Int} (R : Ris f) {y : Int} {o o' : Option Int} (h : IsBack f y o) (h' : IsBack g y o') (e : ∀ t, 0 ≤ t → f t = g t) : o = o' := by
  cases o with
  | none =>
    cases o' with
    | none => rfl
    | some t =>
      obtain ⟨a, b, c⟩ := h'
      have h : y < f 0 := h
      rw [← e t a] at b
      have := R.le (Int.le_refl 0) a
      omega
  | some t =>
    obtain ⟨a, b, c⟩ := h
    cases o' with
    | none =>
      have h' : y < g 0 := h'
      rw [← e 0 (Int.le_refl _)] at h'
      have := R.le (Int.le_refl 0) a
      omega
    | some u =>
      obtain ⟨a', b', c'⟩ := h'
      rw [← e u a'] at b'
      rw [← e (u + 1) (by omega)] at c'
      congr 1
      rcases Int.lt_trichotomy t u with z | z | z
      · have := R.le (s := t + 1) (t := u) (by omega) (by omega); omega
      · exact z
      · have := R.le (s := u + 1) (t := t) (by omega) (by omega); omega
end RM
namespace RM
inductive Grd (f : Int → Int) : Int → List Rw → Prop
  | last {s : Int} (h : ∀ t, s ≤ t → der f t = 1) : Grd f s [(s, f s, true)]
  | more {s e : Int} {G : List Rw} (l : s ≤ e) (h : ∀ t, s ≤ t → t < e → der f t = der f s) (hn : der f s < 2 → s < e ∧ der f e ≠ der f s) (h2 : 2 ≤ der f s → e = s) (c : Grd f (e + 1) G) : Grd f s ((s, f s, decide (der f s = 1)) :: G)
theorem Grd.uniq {f g : Int → Int} (e : ∀ t, 0 ≤ t → f t = g t) {s : Int} {G G' : List Rw} (h : Grd f s G) (h' : Grd g s G') : 0 ≤ s → G = G' := by
  have de : ∀ t, 0 ≤ t → der f t = der g t := fun t ht => by unfold der; rw [e t ht, e (t + 1) (by omega)]
  induction h generalizing G' with
  | @last s h =>
    intro h0
    cases h' with
    | last h' => rw [e s h0]
    | @more _ e' _ l' k' hn' h2' c' =>
      exfalso
      have d1 : der g s = 1 := by rw [← de s h0]; exact h s (Int.le_refl _)
      have := hn' (by omega)
      exact this.2 (by rw [d1, ← de e' (by omega)]; exact h e' l')
  | @more s e0 G l k hn h2 c ih =>
    intro h0
    cases h' with
    | last h' =>
      exfalso
      have d1 : der f s = 1 := by rw [de s h0]; exact h' s (Int.le_refl _)
      have := hn (by omega)
      exact this.2 (by rw [d1, de e0 (by omega)]; exact h' e0 l)
    | @more _ e' G' l' k' hn' h2' c' =>
      have ds := de s h0
      have ee : e0 = e' := by
        by_cases c2 : der f s < 2
        · have a := hn c2
          have a' := hn' (by omega)
          rcases Int.lt_trichotomy e0 e' with z | z | z
          · exact absurd (show der f e0 = der f s by rw [de e0 (by omega), k' e0 l z, ds]) a.2
          · exact z
          · exact absurd (show der g e' = der g s by rw [← de e' (by omega), k e' l' z, ds]) a'.2
        · rw [h2 (by omega), h2' (by omega)]
      subst ee
      rw [ih c' (by omega), e s h0, ds]
theorem gre_grd {f : Int → Int} (R : Ris f) {s : Int} {l : List (Int × Int)} {G : List Rw} (h : Gre f s l G) : Runs (der f) l → Dist l → Hit s l → 0 ≤ s → Grd f s G := by
  induction h with
  | last s x =>
    intro hr hd ha h0
    have ha : x.1 ≤ s := ha
    exact Grd.last fun t ht => by rw [hr.2 t (by omega), hr.1]
  | @more s x y r G h ih =>
    intro hr hd ha h0
    obtain ⟨ha1, ha2⟩ := ha
    have ds : der f s = x.2 := hr.2.1 s ha1 ha2
    have hes : s ≤ ende s x y := by unfold ende; split <;> omega
    have hey : ende s x y ≤ y.1 := by unfold ende; split <;> omega
    obtain ⟨sa, sr⟩ := skip_at (s := ende s x y + 1) hr (fun z hz => by simp at hz; subst hz; omega)
    have sd : ∀ {l : List (Int × Int)} {u : Int}, Dist l → Dist (skip u l) := by
      intro l u
      induction l with
      | nil => intro h; exact h
      | cons a l ih2 =>
        intro h
        cases l with
        | nil => exact h
        | cons b l =>
          unfold skip
          split
          · exact ih2 h.2
          · exact h
    have g := ih sr (sd hd) sa (by omega)
    rw [← ds]
    refine Grd.more hes (fun t h1 h2 => by rw [ds]; exact hr.2.1 t (by omega) (by omega)) (fun c => ?_) (fun c => ?_) g
    · have he : ende s x y = y.1 := if_pos (by omega)
      rw [he]
      refine ⟨ha2, ?_⟩
      have dy : der f y.1 = y.2 := by
        cases r with
        | nil => exact hr.2.2.2 y.1 (Int.le_refl _)
        | cons z r => exact hr.2.2.2.1 y.1 (Int.le_refl _) hr.2.2.1
      rw [dy, ds]
      exact Ne.symm hd.1
    · exact if_neg (by omega)
theorem Canon.grd {f : Int → Int} (R : Ris f) {G : List Rw} (h : Canon f G) : Grd f 0 G := by
  obtain ⟨l, hs, hg⟩ := h
  exact gre_grd R hg hs.runs hs.dist hs.at0 (Int.le_refl _)
theorem runs_congr {d d' : Int → Int} (e : ∀ t, 0 ≤ t → d t = d' t) : ∀ {l : List (Int × Int)}, (∀ x, l.head? = some x → 0 ≤ x.1) → Runs d l → Runs d' l
  | [], _, h => h.elim
  | [x], h0, h => ⟨h.1, fun t ht => by rw [← e t (by have := h0 x rfl; omega)]; exact h.2 t ht⟩
  | x :: y :: r, h0, h => by
    have h0x := h0 x rfl
    exact ⟨h.1, fun t h1 h2 => by rw [← e t (by omega)]; exact h.2.1 t h1 h2, runs_congr e (fun z hz => by simp at hz; subst hz; have := h.1; omega) h.2.2⟩
theorem gre_congr {f g : Int → Int} (e : ∀ t, 0 ≤ t → f t = g t) {s : Int} {l : List (Int × Int)} {G : List Rw} (h : Gre f s l G) : (∀ x ∈ l, 0 ≤ x.1) → 0 ≤ s → Gre g s l G := by
  induction h with
  | last s x => intro _ h0; rw [e s h0]; exact Gre.last s x
  | @more s x y r G h ih =>
    intro hl h0
    have sk : ∀ {l : List (Int × Int)} {s : Int}, (∀ x ∈ l, 0 ≤ x.1) → ∀ x ∈ skip s l, 0 ≤ x.1 := by
      intro l s
      induction l with
      | nil => intro hl x hx; exact hl x hx
      | cons a l ih =>
        intro hl x hx
        cases l with
        | nil => exact hl x hx
        | cons b l =>
          unfold skip at hx
          split at hx
          · exact ih (fun z hz => hl z (List.mem_cons_of_mem _ hz)) x hx
          · exact hl x hx
    have := hl y (by simp)
    rw [e s h0]
    exact Gre.more (ih (sk hl) (by unfold ende; split <;> omega))
theorem Canon.congr {f g : Int → Int} {G : List Rw} (h : Canon f G) (e : ∀ t, 0 ≤ t → f t = g t) : Canon g G := by
  obtain ⟨l, hs, hg⟩ := h
  have hd : ∀ t, 0 ≤ t → der f t = der g t := fun t ht => by unfold der; rw [e t ht, e (t + 1) (by omega)]
  refine ⟨l, ⟨runs_congr hd (fun x hx => by have z := hs.zero; rw [hx] at z; have : x.1 = 0 := by simpa using z
                                            omega) hs.runs, hs.dist, hs.zero⟩, gre_congr e hg (runs_pos hs.runs 0 hs.zero) (Int.le_refl _)⟩
theorem Ris.congr {f g : Int → Int} (R : Ris f) (e : ∀ t, 0 ≤ t → f t = g t) : Ris g := ⟨fun t ht => by rw [← e t ht]; exact R.ge t ht, fun t ht => by rw [← e t ht, ← e (t + 1) (by omega)]; exact R.mo t ht⟩
def Up (f : Int → Int) : Prop := ∀ t, 4000 ≤ t → f (t + 1) = f t + 1
structure Rz (F : List Rw) : Prop where
  r : Right F
  c : Canon (valueAt F) F
  u : Up (valueAt F)
theorem Rz.ris {F : List Rw} (h : Rz F) : Ris (valueAt F) := ris_of h.r
theorem Rz.bd {F : List Rw} (h : Rz F) : ∀ r ∈ F, r.1 ≤ 4001 := fun r hr => canon_bd h.c (B := 4000) h.u (by decide) r hr
theorem good_start : ∀ {rs : List Rw} {r : Rw}, Good r rs → 0 ≤ r.1 → ∀ q ∈ r :: rs, 0 ≤ q.1
  | [], r, _, h0, q, hq => by simp at hq; subst hq; exact h0
  | p :: rs, r, h, h0, q, hq => by
    rcases List.mem_cons.mp hq with rfl | hq
    · exact h0
    · exact good_start h.2 (by have := h.1.s; omega) q hq
theorem right_start {F : List Rw} (h : Right F) : ∀ q ∈ F, 0 ≤ q.1 := by
  cases F with
  | nil => intro q hq; cases hq
  | cons r rs => exact good_start h.2.2 (by have := h.1; omega)
theorem good_len' : ∀ {r : Rw} {rs : List Rw} {B : Int}, Good r rs → (∀ q ∈ r :: rs, q.1 ≤ B) → r.1 + rs.length ≤ B
  | r, [], B, _, h => by have := h r (by simp); simpa using this
  | r, q :: rs, B, hg, h => by
    have := good_len' hg.2 (fun p hp => h p (List.mem_cons_of_mem _ hp))
    have := hg.1.s
    simp; omega
theorem right_len' {F : List Rw} (h : Right F) {B : Int} (b : ∀ q ∈ F, q.1 ≤ B) : (F.length : Int) ≤ B + 1 := by
  cases F with
  | nil => exact h.elim
  | cons r rs => have := good_len' h.2.2 b; have := h.1; simp; omega
theorem Rz.len {F : List Rw} (h : Rz F) : F.length ≤ 4002 := by
  have := right_len' h.r h.bd
  omega
theorem rz_of {f : Int → Int} (R : Ris f) (u : Up f) {G : List Rw} (c : Canon f G) : Rz G ∧ ∀ t, 0 ≤ t → valueAt G t = f t := by
  obtain ⟨r, v⟩ := c.right R
  refine ⟨⟨r, c.congr fun t ht => (v t ht).symm, fun t ht => ?_⟩, v⟩
  rw [v t (by omega), v (t + 1) (by omega)]
  exact u t ht
theorem Rz.eq {F G : List Rw} (h : Rz F) (k : Rz G) (e : ∀ t, 0 ≤ t → valueAt F t = valueAt G t) : F = G := h.c.uniq k.c e
theorem Rz.grd {F : List Rw} (h : Rz F) {f : Int → Int} (e : ∀ t, 0 ≤ t → valueAt F t = f t) : Grd f 0 F := (h.c.congr e).grd (h.ris.congr e)
theorem ris_pick {f g : Int → Int} (F : Ris f) (G : Ris g) (most : Bool) : Ris fun t => pick most (f t) (g t) := by
  refine ⟨fun t ht => ?_, fun t ht => ?_⟩
  · have := F.ge t ht; have := G.ge t ht
    unfold pick
    cases most <;> simp only [if_true, Bool.false_eq_true, if_false] <;> split <;> omega
  · have := F.mo t ht; have := G.mo t ht
    unfold pick
    cases most <;> simp only [if_true, Bool.false_eq_true, if_false] <;> split <;> split <;> omega
theorem ris_comp {f g : Int → Int} (F : Ris f) (G : Ris g) : Ris fun t => g (f t) := ⟨fun t ht => by
    have a := F.ge t ht; have := G.ge (f t) (by omega); omega, fun t ht => G.le (by have := F.ge t ht; omega) (F.mo t ht)⟩
end RM
namespace RM
def UpX (f : Int → Int) : Prop := ∃ a k, 0 ≤ a ∧ k - a ≤ 100000 ∧ ∀ t, 4001 ≤ t → f t = max (t + a) k
theorem Up.x {f : Int → Int} (R : Ris f) (u : Up f) : UpX f := by
  refine ⟨f 4001 - 4001, 0, by have := R.ge 4001 (by decide); omega, by have := R.ge 4001 (by decide); omega, fun t ht => ?_⟩
  obtain ⟨n, rfl⟩ : ∃ n : Nat, t = 4001 + n := ⟨(t - 4001).toNat, by omega⟩
  have e : f (4001 + n) = f 4001 + n := by
    clear ht
    induction n with
    | zero => simp
    | succ n ih =>
      have := u (4001 + n) (by omega)
      rw [show (4001 : Int) + ((n + 1 : Nat) : Int) = 4001 + n + 1 by omega, this, ih]
      omega
  have := R.ge 4001 (by decide)
  rw [e]
  omega
theorem UpX.congr {f g : Int → Int} (h : UpX f) (e : ∀ t, 0 ≤ t → f t = g t) : UpX g := by
  obtain ⟨a, k, a0, ak, hf⟩ := h
  exact ⟨a, k, a0, ak, fun t ht => by rw [← e t (by omega)]; exact hf t ht⟩
structure Rx (F : List Rw) : Prop where
  r : Right F
  c : Canon (valueAt F) F
  u : UpX (valueAt F)
theorem Rz.x {F : List Rw} (h : Rz F) : Rx F := ⟨h.r, h.c, h.u.x h.ris⟩
theorem Rx.ris {F : List Rw} (h : Rx F) : Ris (valueAt F) := ris_of h.r
theorem Rx.z {F : List Rw} (h : Rx F) {f : Int → Int} (e : ∀ t, 0 ≤ t → valueAt F t = f t) (u : Up f) : Rz F := ⟨h.r, h.c, fun t ht => by rw [e t (by omega), e (t + 1) (by omega)]; exact u t ht⟩
theorem Rx.eq {F G : List Rw} (h : Rx F) (k : Rx G) (e : ∀ t, 0 ≤ t → valueAt F t = valueAt G t) : F = G := h.c.uniq k.c e
theorem Rx.grd {F : List Rw} (h : Rx F) {f : Int → Int} (e : ∀ t, 0 ≤ t → valueAt F t = f t) : Grd f 0 F := (h.c.congr e).grd (h.ris.congr e)
theorem grd_starts {f : Int → Int} {a k : Int} (a0 : 0 ≤ a) (hf : ∀ t, 4001 ≤ t → f t = max (t + a) k) {s : Int} {G : List Rw} (h : Grd f s G) : (s ≤ 4002 ∨ s = k - a + 1) → ∀ q ∈ G, q.1 ≤ 4002 ∨ q.1 = k - a + 1 := by
  induction h with
  | @last s h => intro hs q hq; simp at hq; subst hq; exact hs
  | @more s e G l h hn h2 c ih =>
    intro hs q hq
    rcases List.mem_cons.mp hq with rfl | hq
    · exact hs
    refine ih ?_ q hq
    rcases Int.lt_or_le e 4002 with c1 | c1
    · left; omega
    right
    have c2 : der f s < 2 := by
      rcases Int.lt_or_le (der f s) 2 with z | z
      · exact z
      · have := h2 z
        subst this
        have e1 := hf e (by omega)
        have e2 := hf (e + 1) (by omega)
        unfold der at z
        omega
    obtain ⟨l2, n2⟩ := hn c2
    have d1 : der f (e - 1) = der f s := h (e - 1) (by omega) (by omega)
    rw [← d1] at n2
    unfold der at n2
    rw [show e - 1 + 1 = e by omega, hf e (by omega), hf (e + 1) (by omega), hf (e - 1) (by omega)] at n2
    omega
theorem Rx.bx {F : List Rw} (h : Rx F) : ∃ c, c ≤ 100001 ∧ ∀ r ∈ F, r.1 ≤ 4002 ∨ r.1 = c := by
  obtain ⟨a, k, a0, ak, hf⟩ := h.u
  exact ⟨k - a + 1, by omega, grd_starts a0 hf (h.grd fun t _ => rfl) (.inl (by decide))⟩
theorem Rx.bd {F : List Rw} (h : Rx F) : ∀ r ∈ F, r.1 ≤ 100001 := fun r hr => by
  obtain ⟨c, hc, hb⟩ := h.bx
  rcases hb r hr with z | z <;> omega
theorem good_nd : ∀ {r : Rw} {rs : List Rw}, Good r rs → ((r :: rs).map (·.1)).Nodup
  | r, [], _ => by simp
  | r, q :: rs, h => by
    rw [List.map_cons, List.nodup_cons]
    refine ⟨fun z => ?_, good_nd h.2⟩
    obtain ⟨p, hp, e⟩ := List.mem_map.mp z
    have := h.first p hp
    omega
theorem right_nd {F : List Rw} (h : Right F) : (F.map (·.1)).Nodup := by
  cases F with
  | nil => exact h.elim
  | cons r rs => exact good_nd h.2.2
def uX (c d : Int) : List Int := c :: d :: (List.range 4003).map Int.ofNat
theorem uX_len (c d : Int) : (uX c d).length ≤ 4090 := by unfold uX; rw [List.length_cons, List.length_cons, List.length_map, List.length_range]; decide
theorem uX_small {c d k : Int} (h : 0 ≤ k ∧ k ≤ 4002) : k ∈ uX c d := List.mem_cons_of_mem _ (List.mem_cons_of_mem _ (List.mem_map.mpr ⟨k.toNat, List.mem_range.mpr (by omega), by show ((k.toNat : Nat) : Int) = k; omega⟩))
theorem nd_sub : ∀ {l m : List Int}, l.Nodup → (∀ k ∈ l, k ∈ m) → l.length ≤ m.length
  | [], m, _, _ => by simp
  | a :: l, m, nd, h => by
    have ha : a ∈ m := h a (by simp)
    obtain ⟨h1, h2⟩ := List.nodup_cons.mp nd
    have := nd_sub (l := l) (m := m.erase a) h2 fun k hk => (List.mem_erase_of_ne (fun e : k = a => h1 (by rw [← e]; exact hk))).mpr (h k (List.mem_cons_of_mem _ hk))
    rw [List.length_erase_of_mem ha] at this
    have := List.length_pos_of_mem ha
    simp
    omega
theorem Rx.len {F : List Rw} (h : Rx F) : F.length ≤ 4090 := by
  obtain ⟨c, _, hb⟩ := h.bx
  have := nd_sub (m := uX c c) (right_nd h.r) fun k hk => by
    obtain ⟨q, hq, rfl⟩ := List.mem_map.mp hk
    rcases hb q hq with z | z
    · exact uX_small ⟨right_start h.r q hq, z⟩
    · rw [z]; simp [uX]
  rw [List.length_map] at this
  exact Nat.le_trans this (uX_len c c)
end RM
namespace PW
open RM
section
variable {α : Type}
abbrev AR (α : Type) := α → α → Int → Int → Prop
structure Ok (R : AR α) : Prop where
  up : ∀ {p q : α} {t v w : Int}, R p q t v → v ≤ w → R p q t w
  dn : ∀ {p q : α} {s t v : Int}, R p q t v → 0 ≤ s → s ≤ t → R p q s v
  ge : ∀ {p q : α} {t v : Int}, R p q t v → t ≤ v
  z : ∀ {p q : α} {t v : Int}, R p q t v → 0 ≤ t
  no : ∀ {p q : α} {t v : Int}, R p q t v → p ≠ q
def stR (m : α) (R : AR α) : AR α := fun p q t v => R p q t v ∨ (p ≠ q ∧ ∃ u, R p m t u ∧ R m q u v)
theorem Ok.st {R : AR α} (h : Ok R) (m : α) : Ok (stR m R) := by
  refine ⟨?_, ?_, ?_, ?_, ?_⟩
  · rintro p q t v w (h1 | ⟨n, u, h1, h2⟩) hw
    · exact .inl (h.up h1 hw)
    · exact .inr ⟨n, u, h1, h.up h2 hw⟩
  · rintro p q s t v (h1 | ⟨n, u, h1, h2⟩) h0 hs
    · exact .inl (h.dn h1 h0 hs)
    · exact .inr ⟨n, u, h.dn h1 h0 hs, h2⟩
  · rintro p q t v (h1 | ⟨n, u, h1, h2⟩)
    · exact h.ge h1
    · have := h.ge h1; have := h.ge h2; omega
  · rintro p q t v (h1 | ⟨n, u, h1, h2⟩)
    · exact h.z h1
    · exact h.z h1
  · rintro p q t v (h1 | ⟨n, _⟩)
    · exact h.no h1
    · exact n
def Cl (m : α) (R : AR α) : Prop := ∀ {p q : α} {t u v : Int}, p ≠ q → R p m t u → R m q u v → R p q t v
theorem Cl.self {R : AR α} (h : Ok R) (m : α) : Cl m (stR m R) := by
  intro p q t u v n h1 h2
  have e1 : R p m t u := by
    rcases h1 with h1 | ⟨_, w, _, h3⟩
    · exact h1
    · exact absurd rfl (h.no h3)
  have e2 : R m q u v := by
    rcases h2 with h2 | ⟨_, w, h3, _⟩
    · exact h2
    · exact absurd rfl (h.no h3)
  exact .inr ⟨n, u, e1, e2⟩
theorem Cl.keep [DecidableEq α] {R : AR α} (h : Ok R) {m' : α} (c : Cl m' R) (m : α) : Cl m' (stR m R) := by
  intro p q t u v n h1 h2
  rcases h1 with h1 | ⟨n1, u1, a1, a2⟩
  · rcases h2 with h2 | ⟨n2, w, b1, b2⟩
    · exact .inl (c n h1 h2)
    · by_cases e : p = m
      · subst e
        exact .inl (h.dn b2 (h.z h1) (by have := h.ge h1; have := h.ge b1; omega))
      · exact .inr ⟨n, w, c e h1 b1, b2⟩
  · rcases h2 with h2 | ⟨n2, w, b1, b2⟩
    · by_cases e : m = q
      · subst e
        exact .inl (h.up a1 (by have := h.ge a2; have := h.ge h2; omega))
      · exact .inr ⟨n, u1, a1, c e a2 h2⟩
    · exact .inr ⟨n, u1, a1, h.dn b2 (h.z a2) (by have := h.ge a2; have := h.ge b1; omega)⟩
def fwR (ms : List α) (R : AR α) : AR α := ms.foldl (fun R m => stR m R) R
theorem fwR_ok : ∀ {ms : List α} {R : AR α}, Ok R → Ok (fwR ms R)
  | [], _, h => h
  | m :: ms, _, h => fwR_ok (ms := ms) (h.st m)
theorem fwR_mono : ∀ {ms : List α} {R : AR α} {p q : α} {t v : Int}, R p q t v → fwR ms R p q t v
  | [], _, _, _, _, _, h => h
  | m :: ms, _, _, _, _, _, h => fwR_mono (ms := ms) (.inl h)
theorem fwR_keep [DecidableEq α] : ∀ {ms : List α} {R : AR α}, Ok R → ∀ {m : α}, Cl m R → Cl m (fwR ms R)
  | [], _, _, _, c => c
  | x :: ms, _, h, _, c => fwR_keep (ms := ms) (h.st x) (c.keep h x)
theorem fwR_cl [DecidableEq α] : ∀ {ms : List α} {R : AR α}, Ok R → ∀ m ∈ ms, Cl m (fwR ms R)
  | x :: ms, R, h, m, hm => by
    rcases List.mem_cons.mp hm with e | hm
    · subst e; exact fwR_keep (ms := ms) (h.st m) (Cl.self h m)
    · exact fwR_cl (ms := ms) (h.st x) m hm
inductive Wlk (E : AR α) (p : α) (t : Int) : α → Int → Prop
  | nil {v : Int} : 0 ≤ t → t ≤ v → Wlk E p t p v
  | snoc {r q : α} {u v : Int} : Wlk E p t r u → E r q u v → Wlk E p t q v
theorem Wlk.up {E : AR α} (h : Ok E) {p q : α} {t v w : Int} (k : Wlk E p t q v) (hw : v ≤ w) : Wlk E p t q w := by
  cases k with
  | nil h0 h1 => exact .nil h0 (by omega)
  | snoc a b => exact .snoc a (h.up b hw)
theorem Wlk.ge {E : AR α} (h : Ok E) {p q : α} {t v : Int} (k : Wlk E p t q v) : t ≤ v := by
  induction k with
  | nil h0 h1 => exact h1
  | snoc a b ih => have := h.ge b; omega
theorem Wlk.z {E : AR α} {p q : α} {t v : Int} (k : Wlk E p t q v) : 0 ≤ t := by
  induction k with
  | nil h0 h1 => exact h0
  | snoc a b ih => exact ih
theorem Wlk.trans {E : AR α} (h : Ok E) {p q r : α} {t u v : Int} (a : Wlk E p t r u) (b : Wlk E r u q v) : Wlk E p t q v := by
  induction b with
  | nil _ h1 => exact a.up h h1
  | snoc _ e ih => exact .snoc ih e
theorem fwR_sound {E : AR α} (h : Ok E) : ∀ {ms : List α} {R : AR α}, Ok R → (∀ {p q t v}, R p q t v → Wlk E p t q v) → ∀ {p q : α} {t v : Int}, fwR ms R p q t v → Wlk E p t q v
  | [], _, _, k, _, _, _, _, z => k z
  | m :: ms, R, ok, k, _, _, _, _, z => fwR_sound h (ms := ms) (ok.st m) (fun {p q t v} z => by
      rcases z with z | ⟨_, u, a, b⟩
      · exact k z
      · exact (k a).trans h (k b)) z
theorem wlk_one {E : AR α} (h : Ok E) {p q : α} {t v : Int} (e : E p q t v) : Wlk E p t q v := .snoc (.nil (h.z e) (Int.le_refl _)) e
theorem fwR_compl [DecidableEq α] {E : AR α} (h : Ok E) {ms : List α} (hm : ∀ {p q t v}, E p q t v → p ∈ ms) {p q : α} {t v : Int} (k : Wlk E p t q v) : (q = p ∧ t ≤ v) ∨ fwR ms E p q t v := by
  induction k with
  | nil _ h1 => exact .inl ⟨rfl, h1⟩
  | @snoc r q u v a b ih =>
    have ok := fwR_ok (ms := ms) h
    rcases ih with ⟨e, hu⟩ | ih
    · subst e
      exact .inr (fwR_mono (h.dn b a.z hu))
    · by_cases e : q = p
      · left
        have := ok.ge ih; have := h.ge b
        exact ⟨e, by omega⟩
      · exact .inr (fwR_cl h r (hm b) (fun z => e z.symm) ih (fwR_mono b))
theorem fwR_iff [DecidableEq α] {E : AR α} (h : Ok E) {ms : List α} (hm : ∀ {p q t v}, E p q t v → p ∈ ms) {p q : α} {t v : Int} (n : p ≠ q) : fwR ms E p q t v ↔ Wlk E p t q v :=
  ⟨fwR_sound h h (fun z => wlk_one h z), fun k => (fwR_compl h hm k).resolve_left fun z => n z.1.symm⟩
end
section
variable {α : Type} [DecidableEq α]
abbrev FT (α : Type) := α → α → Option (Int → Int)
def fwE (m s : α) (T : FT α) (e : α) : FT α :=
  if s = e then T else match T s m, T m e with
    | some f, some g => fun p q => if p = s ∧ q = e then some (match T s e with | some h => fun t => pick false (g (f t)) (h t) | none => fun t => g (f t)) else T p q
    | _, _ => T
def fwM (ps : List α) (T : FT α) (m : α) : FT α := ps.foldl (fun T s => ps.foldl (fwE m s) T) T
def fw (ps : List α) (T : FT α) : FT α := ps.foldl (fwM ps) T
theorem fwE_same {m s : α} {T : FT α} : fwE m s T s = T := if_pos rfl
theorem fwE_no1 {m s e : α} {T : FT α} (h : T s m = none) : fwE m s T e = T := by unfold fwE; split <;> simp [h]
theorem fwE_no2 {m s e : α} {T : FT α} (h : T m e = none) : fwE m s T e = T := by
  unfold fwE
  split
  · rfl
  · cases T s m <;> simp [h]
structure TF (T : FT α) : Prop where
  ris : ∀ {p q : α} {f : Int → Int}, T p q = some f → Ris f
  self : ∀ p : α, T p p = none
def Arr (T : FT α) : AR α := fun p q t v => 0 ≤ t ∧ ∃ f, T p q = some f ∧ f t ≤ v
theorem TF.ok {T : FT α} (h : TF T) : Ok (Arr T) := by
  refine ⟨?_, ?_, ?_, ?_, ?_⟩
  · rintro p q t v w ⟨h0, f, e, hv⟩ hw; exact ⟨h0, f, e, by omega⟩
  · rintro p q s t v ⟨h0, f, e, hv⟩ hs hst; exact ⟨hs, f, e, by have := (h.ris e).le hs hst; omega⟩
  · rintro p q t v ⟨h0, f, e, hv⟩; have := (h.ris e).ge t h0; omega
  · rintro p q t v ⟨h0, _⟩; exact h0
  · rintro p q t v ⟨h0, f, e, hv⟩ z; subst z; rw [h.self p] at e; cases e
theorem fwE_TF {T : FT α} (h : TF T) (m s e : α) : TF (fwE m s T e) := by
  unfold fwE
  by_cases n : s = e
  · rw [if_pos n]; exact h
  · rw [if_neg n]
    cases e1 : T s m with
    | none => exact h
    | some f =>
      cases e2 : T m e with
      | none => exact h
      | some g =>
        refine ⟨fun {p q k} hk => ?_, fun p => ?_⟩
        · dsimp only at hk
          split at hk
          · have rc : Ris fun t => g (f t) := ris_comp (h.ris e1) (h.ris e2)
            cases e3 : T s e with
            | none => rw [e3] at hk; cases hk; exact rc
            | some k0 => rw [e3] at hk; cases hk; exact ris_pick rc (h.ris e3) false
          · exact h.ris hk
        · dsimp only
          rw [if_neg (fun z => n (z.1.symm.trans z.2))]
          exact h.self p
theorem fwE_arr {T : FT α} (h : TF T) {m s e : α} {p q : α} {t v : Int} : Arr (fwE m s T e) p q t v ↔ Arr T p q t v ∨ (p = s ∧ q = e ∧ s ≠ e ∧ ∃ u, Arr T s m t u ∧ Arr T m e u v) := by
  by_cases n : s = e
  · subst n
    rw [fwE_same]
    exact ⟨.inl, fun z => z.elim id fun z => absurd rfl z.2.2.1⟩
  · cases e1 : T s m with
    | none =>
      rw [fwE_no1 e1]
      exact ⟨.inl, fun z => z.elim id fun ⟨_, _, _, u, ⟨_, f, ef, _⟩, _⟩ => by rw [e1] at ef; cases ef⟩
    | some f =>
      cases e2 : T m e with
      | none =>
        rw [fwE_no2 e2]
        exact ⟨.inl, fun z => z.elim id fun ⟨_, _, _, u, _, ⟨_, f, ef, _⟩⟩ => by rw [e2] at ef; cases ef⟩
      | some g =>
        have eT : fwE m s T e = fun p q => if p = s ∧ q = e then some (match T s e with | some h => fun t => pick false (g (f t)) (h t) | none => fun t => g (f t)) else T p q := by
          unfold fwE
          rw [if_neg n, e1, e2]
        rw [eT]
        by_cases c : p = s ∧ q = e
        · obtain ⟨rfl, rfl⟩ := c
          unfold Arr
          dsimp only
          rw [if_pos ⟨rfl, rfl⟩]
          constructor
          · rintro ⟨h0, k, ek, hv⟩
            have a2 : ∀ w, g (f t) ≤ w → ∃ u, (0 ≤ t ∧ ∃ f, T p m = some f ∧ f t ≤ u) ∧ 0 ≤ u ∧ ∃ f, T m q = some f ∧ f u ≤ w := fun w hw => ⟨f t, ⟨h0, f, e1, Int.le_refl _⟩, by have := (h.ris e1).ge t h0; omega, g, e2, hw⟩
            cases e3 : T p q with
            | none => rw [e3] at ek; cases ek; exact .inr ⟨rfl, rfl, n, a2 v hv⟩
            | some k0 =>
              rw [e3] at ek
              cases ek
              dsimp only at hv
              by_cases c2 : k0 t < g (f t)
              · refine .inl ⟨h0, k0, rfl, ?_⟩
                unfold pick at hv
                rw [if_neg (by simp), if_pos c2] at hv
                exact hv
              · refine .inr ⟨rfl, rfl, n, a2 v ?_⟩
                unfold pick at hv
                rw [if_neg (by simp), if_neg c2] at hv
                exact hv
          · rintro (⟨h0, k, ek, hv⟩ | ⟨_, _, _, u, ⟨h0, f', ef, hu⟩, hu0, g', eg, hv⟩)
            · refine ⟨h0, _, rfl, ?_⟩
              rw [ek]
              dsimp only
              unfold pick
              rw [if_neg (by simp)]
              split <;> omega
            · rw [e1] at ef
              rw [e2] at eg
              cases ef
              cases eg
              refine ⟨h0, _, rfl, ?_⟩
              have hg : g (f t) ≤ v := by
                have := (h.ris e1).ge t h0
                have := (h.ris e2).le (show 0 ≤ f t by omega) hu
                omega
              cases T p q with
              | none => exact hg
              | some k0 =>
                dsimp only
                unfold pick
                rw [if_neg (by simp)]
                split <;> omega
        · unfold Arr
          dsimp only
          rw [if_neg c]
          exact ⟨.inl, fun z => z.elim id fun z => absurd ⟨z.1, z.2.1⟩ c⟩
theorem fwE_row {T : FT α} (h : TF T) {m s e : α} (x : α) : fwE m s T e x m = T x m ∧ fwE m s T e m x = T m x := by
  by_cases n : s = e
  · subst n; rw [fwE_same]; exact ⟨rfl, rfl⟩
  · cases e1 : T s m with
    | none => rw [fwE_no1 e1]; exact ⟨rfl, rfl⟩
    | some f =>
      cases e2 : T m e with
      | none => rw [fwE_no2 e2]; exact ⟨rfl, rfl⟩
      | some g =>
        have n1 : s ≠ m := fun z => by rw [z, h.self m] at e1; cases e1
        have n2 : m ≠ e := fun z => by rw [z, h.self e] at e2; cases e2
        unfold fwE
        rw [if_neg n, e1, e2]
        dsimp only
        exact ⟨if_neg fun z => n2 z.2, if_neg fun z => n1 z.1.symm⟩
structure Mid (m : α) (T0 T : FT α) (D : α → α → Prop) : Prop where
  tf : TF T
  row : ∀ x, T x m = T0 x m ∧ T m x = T0 m x
  arr : ∀ {p q : α} {t v : Int}, Arr T p q t v ↔ Arr T0 p q t v ∨ (D p q ∧ p ≠ q ∧ ∃ u, Arr T0 p m t u ∧ Arr T0 m q u v)
theorem arr_congr {T T0 : FT α} {p q : α} (e : T p q = T0 p q) {t v : Int} : Arr T p q t v ↔ Arr T0 p q t v := by unfold Arr; rw [e]
theorem Mid.step {m : α} {T0 T : FT α} {D : α → α → Prop} (h : Mid m T0 T D) (s e : α) : Mid m T0 (fwE m s T e) (fun p q => D p q ∨ (p = s ∧ q = e)) := by
  refine ⟨fwE_TF h.tf m s e, fun x => ?_, fun {p q t v} => ?_⟩
  · have := fwE_row h.tf (m := m) (s := s) (e := e) x
    exact ⟨this.1.trans (h.row x).1, this.2.trans (h.row x).2⟩
  · rw [fwE_arr h.tf, h.arr]
    have r1 : ∀ {u}, Arr T s m t u ↔ Arr T0 s m t u := arr_congr (h.row s).1
    have r2 : ∀ {u}, Arr T m e u v ↔ Arr T0 m e u v := arr_congr (h.row e).2
    constructor
    · rintro ((a | ⟨d, n, b⟩) | ⟨e1, e2, n, u, b1, b2⟩)
      · exact .inl a
      · exact .inr ⟨.inl d, n, b⟩
      · rw [e1, e2]; exact .inr ⟨.inr ⟨rfl, rfl⟩, n, u, r1.mp b1, r2.mp b2⟩
    · rintro (a | ⟨d | ⟨e1, e2⟩, n, u, b1, b2⟩)
      · exact .inl (.inl a)
      · exact .inl (.inr ⟨d, n, u, b1, b2⟩)
      · subst e1 e2; exact .inr ⟨rfl, rfl, n, u, r1.mpr b1, r2.mpr b2⟩
theorem Mid.imp {m : α} {T0 T : FT α} {D D' : α → α → Prop} (h : Mid m T0 T D) (k : ∀ p q, D p q ↔ D' p q) : Mid m T0 T D' := ⟨h.tf, h.row, fun {p q t v} => by rw [h.arr, k p q]⟩
theorem Mid.inner {m : α} {T0 : FT α} (s : α) : ∀ (l : List α) {T : FT α} {D : α → α → Prop}, Mid m T0 T D → Mid m T0 (l.foldl (fwE m s) T) (fun p q => D p q ∨ (p = s ∧ q ∈ l))
  | [], _, _, h => h.imp fun p q => by simp
  | e :: l, _, _, h => (Mid.inner s l (h.step s e)).imp fun p q => by
      simp only [List.mem_cons]
      constructor
      · rintro ((a | b) | c)
        · exact .inl a
        · exact .inr ⟨b.1, .inl b.2⟩
        · exact .inr ⟨c.1, .inr c.2⟩
      · rintro (a | ⟨b, c | c⟩)
        · exact .inl (.inl a)
        · exact .inl (.inr ⟨b, c⟩)
        · exact .inr ⟨b, c⟩
theorem Mid.outer {m : α} {T0 : FT α} (ps : List α) : ∀ (l : List α) {T : FT α} {D : α → α → Prop}, Mid m T0 T D → Mid m T0 (l.foldl (fun T s => ps.foldl (fwE m s) T) T) (fun p q => D p q ∨ (p ∈ l ∧ q ∈ ps))
  | [], _, _, h => h.imp fun p q => by simp
  | s :: l, _, _, h => (Mid.outer ps l (h.inner s ps)).imp fun p q => by
      simp only [List.mem_cons]
      constructor
      · rintro ((a | b) | c)
        · exact .inl a
        · exact .inr ⟨.inl b.1, b.2⟩
        · exact .inr ⟨.inr c.1, c.2⟩
      · rintro (a | ⟨b | b, c⟩)
        · exact .inl (.inl a)
        · exact .inl (.inr ⟨b, c⟩)
        · exact .inr ⟨b, c⟩
def InP (ps : List α) (T : FT α) : Prop := ∀ {p q : α} {f : Int → Int}, T p q = some f → p ∈ ps ∧ q ∈ ps
theorem arr_in {ps : List α} {T : FT α} (i : InP ps T) {p q : α} {t v : Int} (a : Arr T p q t v) : p ∈ ps ∧ q ∈ ps := by
  obtain ⟨_, f, e, _⟩ := a
  exact i e
theorem fwM_mid {ps : List α} {T : FT α} (h : TF T) (m : α) : Mid m T (fwM ps T m) (fun p q => p ∈ ps ∧ q ∈ ps) :=
  (Mid.outer ps ps (T := T) (D := fun _ _ => False) ⟨h, fun x => ⟨rfl, rfl⟩, fun {p q t v} => by simp⟩).imp fun p q => by simp
theorem fwM_in {ps : List α} {T : FT α} (h : TF T) (i : InP ps T) (m : α) : InP ps (fwM ps T m) := by
  intro p q f e
  have k := fwM_mid (ps := ps) h m
  have a : Arr (fwM ps T m) p q 0 (f 0) := ⟨Int.le_refl _, f, e, Int.le_refl _⟩
  rcases k.arr.mp a with a | ⟨d, _⟩
  · exact arr_in i a
  · exact d
theorem fwM_arr {ps : List α} {T : FT α} (h : TF T) (i : InP ps T) (m : α) {p q : α} {t v : Int} : Arr (fwM ps T m) p q t v ↔ stR m (Arr T) p q t v := by
  rw [(fwM_mid h m).arr]
  unfold stR
  constructor
  · rintro (a | ⟨d, n, b⟩)
    · exact .inl a
    · exact .inr ⟨n, b⟩
  · rintro (a | ⟨n, u, b1, b2⟩)
    · exact .inl a
    · exact .inr ⟨⟨(arr_in i b1).1, (arr_in i b2).2⟩, n, u, b1, b2⟩
theorem fwR_congr {R R' : AR α} (e : ∀ {p q t v}, R p q t v ↔ R' p q t v) (ms : List α) : ∀ {p q : α} {t v : Int}, fwR ms R p q t v ↔ fwR ms R' p q t v := by
  have : R = R' := by funext p q t v; exact propext e
  rw [this]; intros; exact Iff.rfl
theorem fold_arr {ps : List α} : ∀ (l : List α) {T : FT α}, TF T → InP ps T → TF (l.foldl (fwM ps) T) ∧ InP ps (l.foldl (fwM ps) T) ∧ ∀ {p q : α} {t v : Int}, Arr (l.foldl (fwM ps) T) p q t v ↔ fwR l (Arr T) p q t v
  | [], T, h, i => ⟨h, i, Iff.rfl⟩
  | m :: l, T, h, i => by
    obtain ⟨a, b, c⟩ := fold_arr l (fwM_mid (ps := ps) h m).tf (fwM_in h i m)
    refine ⟨a, b, fun {p q t v} => ?_⟩
    show Arr (l.foldl (fwM ps) (fwM ps T m)) p q t v ↔ fwR l (stR m (Arr T)) p q t v
    rw [c]
    exact fwR_congr (fun {p q t v} => fwM_arr h i m) l
theorem fw_arr {ps : List α} {T : FT α} (h : TF T) (i : InP ps T) {p q : α} (n : p ≠ q) {t v : Int} : Arr (fw ps T) p q t v ↔ Wlk (Arr T) p t q v := by
  show Arr (ps.foldl (fwM ps) T) p q t v ↔ _
  rw [(fold_arr ps h i).2.2]
  exact fwR_iff h.ok (fun a => (arr_in i a).1) n
end
end PW
namespace PW
open RM
section
variable {α : Type} [DecidableEq α]
inductive PthN (E : AR α) (p : α) (t : Int) : Nat → α → Int → Prop
  | nil {n : Nat} {v : Int} : 0 ≤ t → t ≤ v → PthN E p t n p v
  | snoc {n : Nat} {r q : α} {u v : Int} : PthN E p t n r u → E r q u v → PthN E p t (n + 1) q v
theorem PthN.more {E : AR α} {p : α} {t : Int} {n : Nat} {q : α} {v : Int} (h : PthN E p t n q v) : ∀ {m : Nat}, n ≤ m → PthN E p t m q v := by
  induction h with
  | nil h0 h1 => intro m _; exact .nil h0 h1
  | @snoc n r q u v a b ih =>
    intro m hm
    obtain ⟨k, rfl⟩ : ∃ k, m = k + 1 := ⟨m - 1, by omega⟩
    exact .snoc (ih (by omega)) b
inductive Lp (E : AR α) (p : α) (t : Int) : List α → Int → Prop
  | nil {v : Int} : 0 ≤ t → t ≤ v → Lp E p t [p] v
  | snoc {r q : α} {l : List α} {u v : Int} : Lp E p t (r :: l) u → E r q u v → q ∉ r :: l → Lp E p t (q :: r :: l) v
theorem Lp.up {E : AR α} (h : Ok E) {p : α} {t v w : Int} {l : List α} (k : Lp E p t l v) (hw : v ≤ w) : Lp E p t l w := by
  cases k with
  | nil h0 h1 => exact .nil h0 (by omega)
  | snoc a b c => exact .snoc a (h.up b hw) c
theorem Lp.nodup {E : AR α} {p : α} {t v : Int} {l : List α} (k : Lp E p t l v) : l.Nodup := by
  induction k with
  | nil _ _ => simp
  | snoc a b c ih => exact List.nodup_cons.mpr ⟨c, ih⟩
theorem Lp.pre {E : AR α} (h : Ok E) {p q : α} {t v : Int} {l : List α} (k : Lp E p t l v) : q ∈ l → ∃ l2, Lp E p t (q :: l2) v := by
  induction k with
  | nil h0 h1 =>
    intro hq
    rw [List.mem_singleton] at hq
    subst hq
    exact ⟨[], .nil h0 h1⟩
  | @snoc r x l u v a b c ih =>
    intro hq
    rcases List.mem_cons.mp hq with e | hq
    · subst e; exact ⟨_, .snoc a b c⟩
    · obtain ⟨l2, k2⟩ := ih hq
      exact ⟨l2, k2.up h (h.ge b)⟩
theorem wlk_lp {E : AR α} (h : Ok E) {p q : α} {t v : Int} (k : Wlk E p t q v) : ∃ l, Lp E p t (q :: l) v := by
  induction k with
  | nil h0 h1 => exact ⟨[], .nil h0 h1⟩
  | @snoc r q u v a b ih =>
    obtain ⟨l, k⟩ := ih
    by_cases c : q ∈ r :: l
    · exact (k.up h (h.ge b)).pre h c
    · exact ⟨_, .snoc k b c⟩
theorem Lp.len {E : AR α} {p : α} {t v : Int} {l : List α} (k : Lp E p t l v) : ∀ q r, l = q :: r → PthN E p t r.length q v := by
  induction k with
  | nil h0 h1 => intro q r e; cases e; exact .nil h0 h1
  | @snoc r x l u v a b c ih => intro q r' e; cases e; exact .snoc (ih r l rfl) b
theorem Lp.mem {E : AR α} {ps : List α} (hE : ∀ {p q t v}, E p q t v → q ∈ ps) {p : α} (hp : p ∈ ps) {t v : Int} {l : List α} (k : Lp E p t l v) : ∀ x ∈ l, x ∈ ps := by
  induction k with
  | nil _ _ => intro x hx; rw [List.mem_singleton] at hx; rw [hx]; exact hp
  | snoc a b c ih =>
    intro x hx
    rcases List.mem_cons.mp hx with e | hx
    · rw [e]; exact hE b
    · exact ih x hx
theorem sub_len' : ∀ {l m : List α}, l.Nodup → (∀ k ∈ l, k ∈ m) → l.length ≤ m.length
  | [], m, _, _ => by simp
  | a :: l, m, nd, h => by
    obtain ⟨n1, n2⟩ := List.nodup_cons.mp nd
    have := sub_len' (m := m.erase a) n2 (fun k hk => (List.mem_erase_of_ne (fun e => n1 (by rw [← e]; exact hk))).mpr (h k (List.mem_cons_of_mem _ hk)))
    rw [List.length_erase_of_mem (h a (List.mem_cons_self ..))] at this
    have hp := List.length_pos_of_mem (h a (List.mem_cons_self ..))
    simp only [List.length_cons]
    omega
def bf1 (T : FT α) (D : α → Option Int) (e : α × α) : α → Option Int :=
  match D e.1, T e.1 e.2 with
  | some u, some f => fun x => if x = e.2 then (match D x with | none => some (f u) | some w => if f u < w then some (f u) else some w) else D x
  | _, _ => D
def bfP (T : FT α) (es : List (α × α)) (D : α → Option Int) : α → Option Int := es.foldl (bf1 T) D
def bfN (T : FT α) (es : List (α × α)) : Nat → (α → Option Int) → α → Option Int
  | 0, D => D
  | n + 1, D => bfN T es n (bfP T es D)
def LeD (D D' : α → Option Int) : Prop := ∀ q w, D q = some w → ∃ w', D' q = some w' ∧ w' ≤ w
theorem LeD.refl (D : α → Option Int) : LeD D D := fun _ w h => ⟨w, h, Int.le_refl _⟩
theorem LeD.trans {D D' D2 : α → Option Int} (a : LeD D D') (b : LeD D' D2) : LeD D D2 := fun q w h => by
  obtain ⟨w1, e1, l1⟩ := a q w h
  obtain ⟨w2, e2, l2⟩ := b q w1 e1
  exact ⟨w2, e2, by omega⟩
theorem bf1_le (T : FT α) (D : α → Option Int) (e : α × α) : LeD D (bf1 T D e) := by
  intro q w h
  unfold bf1
  cases e1 : D e.1 with
  | none => exact ⟨w, h, Int.le_refl _⟩
  | some u =>
    cases e2 : T e.1 e.2 with
    | none => exact ⟨w, h, Int.le_refl _⟩
    | some f =>
      dsimp only
      by_cases c : q = e.2
      · rw [if_pos c, h]
        dsimp only
        by_cases c2 : f u < w
        · rw [if_pos c2]; exact ⟨_, rfl, by omega⟩
        · rw [if_neg c2]; exact ⟨_, rfl, Int.le_refl _⟩
      · rw [if_neg c]; exact ⟨w, h, Int.le_refl _⟩
theorem bf1_edge {T : FT α} {D : α → Option Int} {r q : α} {f : Int → Int} {u : Int} (ef : T r q = some f) (eu : D r = some u) : ∃ w, bf1 T D (r, q) q = some w ∧ w ≤ f u := by
  unfold bf1
  dsimp only
  rw [eu, ef]
  dsimp only
  rw [if_pos rfl]
  cases D q with
  | none => exact ⟨_, rfl, Int.le_refl _⟩
  | some w =>
    dsimp only
    by_cases c2 : f u < w
    · rw [if_pos c2]; exact ⟨_, rfl, Int.le_refl _⟩
    · rw [if_neg c2]; exact ⟨_, rfl, by omega⟩
def Snd (T : FT α) (p : α) (t : Int) (D : α → Option Int) : Prop := ∀ q v, D q = some v → Wlk (Arr T) p t q v
theorem wlk_pos {T : FT α} (h : TF T) {p q : α} {t v : Int} (k : Wlk (Arr T) p t q v) : 0 ≤ v := by
  have := k.z; have := k.ge h.ok; omega
theorem bf1_snd {T : FT α} (h : TF T) {p : α} {t : Int} {D : α → Option Int} (s : Snd T p t D) (e : α × α) : Snd T p t (bf1 T D e) := by
  intro q v hv
  unfold bf1 at hv
  cases e1 : D e.1 with
  | none => rw [e1] at hv; exact s q v hv
  | some u =>
    cases e2 : T e.1 e.2 with
    | none => rw [e1, e2] at hv; exact s q v hv
    | some f =>
      rw [e1, e2] at hv
      dsimp only at hv
      have k1 := s _ _ e1
      have kf : Wlk (Arr T) p t e.2 (f u) := .snoc k1 ⟨wlk_pos h k1, f, e2, Int.le_refl _⟩
      by_cases c : q = e.2
      · rw [if_pos c] at hv
        cases e3 : D q with
        | none => rw [e3] at hv; cases hv; rw [c]; exact kf
        | some w =>
          rw [e3] at hv
          dsimp only at hv
          by_cases c2 : f u < w
          · rw [if_pos c2] at hv; cases hv; rw [c]; exact kf
          · rw [if_neg c2] at hv; cases hv; exact s _ _ e3
      · rw [if_neg c] at hv; exact s q v hv
theorem bfP_le (T : FT α) : ∀ (es : List (α × α)) (D : α → Option Int), LeD D (bfP T es D)
  | [], D => LeD.refl D
  | e :: es, D => (bf1_le T D e).trans (bfP_le T es (bf1 T D e))
theorem bfP_snd {T : FT α} (h : TF T) {p : α} {t : Int} : ∀ (es : List (α × α)) {D : α → Option Int}, Snd T p t D → Snd T p t (bfP T es D)
  | [], _, s => s
  | e :: es, _, s => bfP_snd h es (bf1_snd h s e)
theorem bfP_edge {T : FT α} (h : TF T) {p : α} {t : Int} {r q : α} {f : Int → Int} (ef : T r q = some f) : ∀ (es : List (α × α)) {D : α → Option Int} {u : Int}, Snd T p t D → D r = some u → (r, q) ∈ es → ∃ w, bfP T es D q = some w ∧ w ≤ f u
  | e :: es, D, u, s, eu, hm => by
    rcases List.mem_cons.mp hm with z | hm
    · subst z
      obtain ⟨w, e1, l1⟩ := bf1_edge ef eu
      obtain ⟨w', e2, l2⟩ := bfP_le T es (bf1 T D (r, q)) q w e1
      exact ⟨w', e2, by omega⟩
    · obtain ⟨u', e1, l1⟩ := bf1_le T D e r u eu
      have s' := bf1_snd h s e
      obtain ⟨w, e2, l2⟩ := bfP_edge h ef es s' e1 hm
      have := (h.ris ef).le (wlk_pos h (s' _ _ e1)) l1
      exact ⟨w, e2, by omega⟩
def Cov (T : FT α) (p : α) (t : Int) (n : Nat) (D : α → Option Int) : Prop := ∀ q v, PthN (Arr T) p t n q v → ∃ w, D q = some w ∧ w ≤ v
theorem bfP_cov {T : FT α} (h : TF T) {p : α} {t : Int} {es : List (α × α)} (hes : ∀ r q f, T r q = some f → (r, q) ∈ es) {n : Nat} {D : α → Option Int} (s : Snd T p t D) (c : Cov T p t n D) : Cov T p t (n + 1) (bfP T es D) := by
  intro q v k
  cases k with
  | nil h0 h1 =>
    obtain ⟨w, e1, l1⟩ := c p v (.nil h0 h1)
    obtain ⟨w', e2, l2⟩ := bfP_le T es D p w e1
    exact ⟨w', e2, by omega⟩
  | @snoc _ r _ u v a b =>
    obtain ⟨w, e1, l1⟩ := c r u a
    obtain ⟨hu, f, ef, hv⟩ := b
    obtain ⟨w', e2, l2⟩ := bfP_edge h ef es s e1 (hes r q f ef)
    have := (h.ris ef).le (wlk_pos h (s _ _ e1)) l1
    exact ⟨w', e2, by omega⟩
theorem bfN_all {T : FT α} (h : TF T) {p : α} {t : Int} {es : List (α × α)} (hes : ∀ r q f, T r q = some f → (r, q) ∈ es) : ∀ (n k : Nat) {D : α → Option Int}, Snd T p t D → Cov T p t k D → Snd T p t (bfN T es n D) ∧ Cov T p t (k + n) (bfN T es n D)
  | 0, _, _, s, c => ⟨s, c⟩
  | n + 1, k, D, s, c => by
    have := bfN_all h hes n (k + 1) (bfP_snd h es s) (bfP_cov h hes s c)
    rw [show k + (n + 1) = k + 1 + n by omega]
    exact this
def bf0 (p : α) (t : Int) : α → Option Int := fun x => if x = p then some t else none
theorem bf_iff {ps : List α} {T : FT α} (h : TF T) (i : InP ps T) {es : List (α × α)} (hes : ∀ r q f, T r q = some f → (r, q) ∈ es) {p : α} (hp : p ∈ ps) {t : Int} (h0 : 0 ≤ t) {q : α} {v : Int} : (∃ w, bfN T es ps.length (bf0 p t) q = some w ∧ w ≤ v) ↔ Wlk (Arr T) p t q v := by
  have s0 : Snd T p t (bf0 p t) := fun q v e => by
    unfold bf0 at e
    split at e
    · rename_i c; cases e; rw [c]; exact .nil h0 (Int.le_refl _)
    · cases e
  have c0 : Cov T p t 0 (bf0 p t) := fun q v k => by
    cases k with
    | nil _ h1 => exact ⟨t, if_pos rfl, h1⟩
  obtain ⟨s, c⟩ := bfN_all h hes ps.length 0 s0 c0
  constructor
  · rintro ⟨w, e, l⟩
    exact (s q w e).up h.ok l
  · intro k
    obtain ⟨l, kl⟩ := wlk_lp h.ok k
    have hl := sub_len' kl.nodup (kl.mem (ps := ps) (fun a => (arr_in i a).2) hp)
    exact c q v ((kl.len q l rfl).more (by simp at hl; omega))
theorem le_eq {a b : Int} (h : ∀ v, a ≤ v ↔ b ≤ v) : a = b := by
  have h1 := (h b).mpr (Int.le_refl _)
  have h2 := (h a).mp (Int.le_refl _)
  omega
theorem bf_fw {ps : List α} {T : FT α} (h : TF T) (i : InP ps T) {es : List (α × α)} (hes : ∀ r q f, T r q = some f → (r, q) ∈ es) {p q : α} (hp : p ∈ ps) (n : p ≠ q) {t : Int} (h0 : 0 ≤ t) : bfN T es ps.length (bf0 p t) q = (fw ps T p q).map (· t) := by
  have k : ∀ v, (∃ w, bfN T es ps.length (bf0 p t) q = some w ∧ w ≤ v) ↔ Arr (fw ps T) p q t v := fun v => (bf_iff h i hes hp h0).trans (fw_arr h i n).symm
  cases e1 : bfN T es ps.length (bf0 p t) q with
  | none =>
    cases e2 : fw ps T p q with
    | none => rfl
    | some f =>
      obtain ⟨w, e, _⟩ := (k (f t)).mpr ⟨h0, f, e2, Int.le_refl _⟩
      rw [e1] at e; cases e
  | some w =>
    obtain ⟨_, f, ef, _⟩ := (k w).mp ⟨w, e1, Int.le_refl _⟩
    rw [ef]
    simp only [Option.map_some, Option.some.injEq]
    refine le_eq fun v => ⟨fun hv => ?_, fun hv => ?_⟩
    · obtain ⟨_, f', ef', hv'⟩ := (k v).mp ⟨w, e1, hv⟩
      rw [ef] at ef'; cases ef'; exact hv'
    · obtain ⟨w', ew, l⟩ := (k v).mpr ⟨h0, f, ef, hv⟩
      rw [e1] at ew; cases ew; exact l
theorem bf_self {ps : List α} {T : FT α} (h : TF T) (i : InP ps T) {es : List (α × α)} (hes : ∀ r q f, T r q = some f → (r, q) ∈ es) {p : α} (hp : p ∈ ps) {t : Int} (h0 : 0 ≤ t) : bfN T es ps.length (bf0 p t) p = some t := by
  obtain ⟨w, e, l⟩ := (bf_iff h i hes hp h0 (q := p) (v := t)).mpr (.nil h0 (Int.le_refl _))
  have := ((bf_iff h i hes hp h0 (q := p) (v := w)).mp ⟨w, e, Int.le_refl _⟩).ge h.ok
  rw [e]
  congr 1
  omega
end
end PW
namespace DH
open PySem PySem.W PySem.Calls PyProof.Rows HandSHeadRun
def vS (x : String) (t : Nat) : Value := .str (Str.ofString x) t
def vI (i : Int) (t : Nat) : Value := .int i t
def vR (a : Nat) : Value := .ref a
def vT (x : String) : Value := .type x
def vB (x : String) : Value := .builtin x
def vL (b : Bool) : Value := .bool b
def ot (c : Value) (d : Option Addr) (x : Data) (s : List (Option Value)) : Obj := ⟨c, d, x, s.toArray⟩
def tu (l : List Value) : Obj := ot (.type "tuple") none (.seq l.toArray 0) []
def co (l : List Value) : Obj := ot (.type "code") none (.fields l.toArray) []
def fs (l : List Value) : Obj := ot .none none (.fields l.toArray) []
def di (n : Nat) (l : List DictEntry) : Obj := ot (.type "dict") none (.dict l.toArray n) []
def en (p : Params) (x : String) (t : Nat) (v : Value) : DictEntry := ⟨PyData.keyHash p (Str.ofString x), vS x t, v⟩
def fu (c : Value) (st : Stmt) (name qual : String) (g : Nat) (cl : List (String × Nat)) (df kd dc pm : Value) (an : Option Nat) (cd ct : Value) (bt : Nat) : Obj :=
  ot c none (.func ⟨Str.ofString name, Str.ofString qual, L2.defArgs st, .stmts (L2.defBody st), L2.defScope st, g, cl.map fun x => (Str.ofString x.1, x.2), df, kd, dc, pm, an, cd, ct, bt⟩) []
def cl (name qual : String) (bases mro : List Value) (ns : Nat) (hd : Bool) (sub : List Value) (s : List (Option Value)) : Obj :=
  ot (.type "type") none (.cls ⟨Str.ofString name, bases, mro, ns, Str.ofString qual, hd, [], sub, false, none, false⟩) s
def nd (o : Obj) (l r : PySem.W.BT) : PySem.W.BT := .node o l r
def lf (o : Obj) : PySem.W.BT := .node o .nil .nil
section
variable (f : SharedT → Thread → Option (SharedT × Thread)) (b0 : Nat) (av : Option Value)
def seg : Nat → SharedT → Thread → Option (Flow × SharedT × Code × Pos)
  | 0, _, _ => none
  | k + 1, x, y => match endAt 1 y with
    | some z => some (z, x, y.code, y.pos)
    | none => match stepOk b0 av y with
      | false => none
      | true => match f x y with
        | none => none
        | some (x2, y2) => frS x2 fun x3 => seg k x3 y2
def pre : Nat → SharedT → Thread → Option (SharedT × Thread)
  | 0, x, y => some (x, y)
  | k + 1, x, y => match through y with
    | true => none
    | false => match stepOk b0 av y with
      | false => none
      | true => match f x y with
        | none => none
        | some (x2, y2) => frS x2 fun x3 => pre k x3 y2
end
variable {tb : String → Option Builtin} {p : Program} {w : World} {b0 : Nat} {av : Option Value}
theorem seg_ok : ∀ {k : Nat} {x x2 : SharedT} {y : Thread} {z : Flow} {c : Code} {r : Pos}, seg (stepT (denote tb) p w) b0 av k x y = some (z, x2, c, r) → segRun tb p w b0 av 1 k x.abs y = some (z, x2.abs, c, r)
  | 0, _, _, _, _, _, _, h => by cases h
  | k + 1, x, x2, y, z, c, r, h => by
    have h1 : (match endAt 1 y with
      | some z => some (z, x, y.code, y.pos)
      | none => match stepOk b0 av y with
        | false => none
        | true => match stepT (denote tb) p w x y with
          | none => none
          | some (x2, y2) => frS x2 fun x3 => seg (stepT (denote tb) p w) b0 av k x3 y2) = some (z, x2, c, r) := h
    unfold segRun
    cases e1 : endAt 1 y with
    | some v => rw [e1] at h1; cases h1; rfl
    | none =>
      rw [e1] at h1
      cases e2 : stepOk b0 av y with
      | false => rw [e2] at h1; cases h1
      | true =>
        rw [e2] at h1
        cases e3 : stepT (denote tb) p w x y with
        | none => rw [e3] at h1; cases h1
        | some v =>
          obtain ⟨x3, y3⟩ := v
          rw [e3] at h1
          have h2 : (frS x3 fun x3 => seg (stepT (denote tb) p w) b0 av k x3 y3) = some (z, x2, c, r) := h1
          rw [frS_eq] at h2
          dsimp only
          rw [stepT_spec e3]
          exact seg_ok h2
theorem pre_ok : ∀ {k : Nat} {x x2 : SharedT} {y y2 : Thread}, pre (stepT (denote tb) p w) b0 av k x y = some (x2, y2) → topGo tb p w b0 av k x.abs y = some (x2.abs, y2)
  | 0, x, x2, y, y2, h => by cases h; rfl
  | k + 1, x, x2, y, y2, h => by
    have h1 : (match through y with
      | true => none
      | false => match stepOk b0 av y with
        | false => none
        | true => match stepT (denote tb) p w x y with
          | none => none
          | some (x2, y2) => frS x2 fun x3 => pre (stepT (denote tb) p w) b0 av k x3 y2) = some (x2, y2) := h
    unfold topGo
    cases e1 : through y with
    | true => rw [e1] at h1; cases h1
    | false =>
      rw [e1] at h1
      cases e2 : stepOk b0 av y with
      | false => rw [e2] at h1; cases h1
      | true =>
        rw [e2] at h1
        cases e3 : stepT (denote tb) p w x y with
        | none => rw [e3] at h1; cases h1
        | some v =>
          obtain ⟨x3, y3⟩ := v
          rw [e3] at h1
          have h2 : (frS x3 fun x3 => pre (stepT (denote tb) p w) b0 av k x3 y3) = some (x2, y2) := h1
          rw [frS_eq] at h2
          dsimp only
          rw [stepT_spec e3]
          exact pre_ok h2
noncomputable abbrev stQ (p : Program) (w : World) : SharedT → Thread → Option (SharedT × Thread) := stepQ (denQ tabQ) p w
theorem stQ_eq (p : Program) (w : World) : stQ p w = stepT (denote treeTable) p w := by
  show stepQ (denQ tabQ) p w = _
  rw [← stepQ_eq, ← denQ_eq, ← tabQ_eq]
section
variable {env : Env} {q : Pos} {b : List Stmt} {c : Code} {r : Shared}
theorem at_seg {k N a n : Nat} {x x2 : SharedT} {p1 p2 : Pos} (h : seg (stQ p w) b0 av k x (piecesOf ((b.drop a).take n) env c p1 [topFrame q]) = some (.next, x2, c, p2))
    (z : topRun treeTable p w b0 av N x2.abs (restOf (b.drop (a + n)) env c p2 [topFrame q]) = some r) :
    topRun treeTable p w b0 av (k + N) x.abs (restOf (b.drop a) env c p1 [topFrame q]) = some r := by
  rw [stQ_eq] at h
  rw [← List.take_append_drop n (b.drop a), List.drop_drop]
  exact piece_app (seg_ok h) z
theorem at_end {N M : Nat} {x x2 : SharedT} {p1 : Pos} (e : b.drop N = []) (h : goF (stQ p w) b0 av M x ⟨doneF .next, c, p1, [topFrame q]⟩ = some x2) :
    topRun treeTable p w b0 av M x.abs (restOf (b.drop N) env c p1 [topFrame q]) = some x2.abs := by
  rw [stQ_eq] at h
  rw [e]
  exact piece_nil (goF_ok h)
theorem at_block {k N : Nat} {x x2 : SharedT} {p1 p2 : Pos} (h : seg (stQ p w) b0 av k x (blockOf b env c p1 [topFrame q]) = some (.next, x2, c, p2))
    (z : topRun treeTable p w b0 av N x2.abs (restOf (b.drop 0) env c p2 [topFrame q]) = some r) :
    topRun treeTable p w b0 av (k + N) x.abs ⟨denote treeTable (.body b env), c, p1, [topFrame q]⟩ = some r := by
  rw [stQ_eq] at h
  exact piece_block (seg_ok h) z
theorem at_pre {k N : Nat} {x x2 : SharedT} {y : Thread} {p1 : Pos} (h : pre (stQ p w) b0 av k x y = some (x2, ⟨denQ tabQ (.body b env), c, p1, [topFrame q]⟩))
    (z : topRun treeTable p w b0 av N x2.abs ⟨denote treeTable (.body b env), c, p1, [topFrame q]⟩ = some r) : topRun treeTable p w b0 av (k + N) x.abs y = some r := by
  rw [stQ_eq, ← denQ_eq, ← tabQ_eq] at h
  exact go_top (pre_ok h) z
end
theorem boot_abs {t : PySem.W.BT} {n : Nat} {os : OsState} (e : putAll (boot_heap w.params).objs.toList .nil 0 = some (t, n)) :
    (bootT w os (t, n)).abs = ⟨boot_heap w.params, #[], boot_drawn, boot_toks, os⟩ ∧ (boot_heap w.params).objs.size = n := by
  have h := putAll_heap e
  constructor
  · show Shared.mk (absHeap t n (boot_heap w.params).life) #[] boot_drawn boot_toks os = _
    rw [h]
  · rw [← h]
    exact absHeap_size t n _
structure Ran (p : Program) (M b0 : Nat) (S : World → OsState → SharedT) : Prop where
  go : ∀ (w : World) (os : OsState), ∃ t : PySem.W.BT, putAll (boot_heap w.params).objs.toList .nil 0 = some (t, b0) ∧ topRun treeTable p w b0 (bootAnn w) M (bootT w os (t, b0)).abs (topStub p) = some (S w os).abs
theorem left_ran {p q : Program} {loose : List Str} {Xt : Shared → Bool} {α : Type} {Yf : Shared → α} {Ya : World → α} {N M b0 : Nat} {S : World → OsState → SharedT} (R : Ran p M b0 S)
    (e : opening p = plainProg p.main.scope.names) (hN : Nat.ble 600 N = true) (hf : ∀ s, fenceModules? p s = some s) (le : Nat.ble M N = true)
    (h1 : ∀ (w : World) (os : OsState), looksF p (boot_heap w.params) (S w os).abs = true)
    (h2 : ∀ (w : World) (os : OsState), openSeen q loose (importedModules p.main.body) Xt true (S w os).abs = openGood q loose)
    (h3 : ∀ (w : World) (os : OsState), Yf (S w os).abs = Ya w) : LeftO p q loose Xt Yf Ya N true := fun w => by
  obtain ⟨⟨h, gs, d, k, os⟩, a, a'⟩ := Option.map_eq_some_iff.mp (boot_open e hN hf w)
  obtain ⟨rfl, rfl, rfl, rfl⟩ : h = boot_heap w.params ∧ gs = Array.mk [] ∧ d = boot_drawn ∧ k = boot_toks := by simpa using a'
  obtain ⟨t, b1, b2⟩ := R.go w os
  obtain ⟨c1, c2⟩ := boot_abs (os := os) b1
  rw [c1] at b2
  have b3 := topRun_mono (N - M) _ _ _ _ b2
  rw [Nat.add_sub_cancel' (Nat.le_of_ble_eq_true le), ← c2] at b3
  have g1 := h1 w os
  have b4 : topFrom treeTable p w N ⟨boot_heap w.params, Array.mk [], boot_drawn, boot_toks, os⟩ = some (S w os).abs := by
    unfold topFrom
    dsimp only
    rw [boot_ns]
    change (topRun treeTable p w _ (bootAnn w) N _ (topStub p)).bind _ = _
    rw [b3]
    unfold looksF at g1
    change (match _ with | true => _ | false => _) = _
    rw [g1]
  unfold openEnds
  rw [a]
  change (topFrom treeTable p w N _).map _ = _
  rw [b4, Option.map_some, h2 w os, h3 w os]
theorem head_ran {r : OpenRow} {q : Program} {H : Hook} {M b0 : Nat} {loose : List PySem.Str} {d : DefRec} {kwd : List (PySem.Str × PySem.Expr)} {S : World → OsState → SharedT} (R : Ran r.prog M b0 S)
    (h1 : ∀ (w : World) (os : OsState), looksF r.prog (boot_heap w.params) (S w os).abs = true)
    (h2 : ∀ (w : World) (os : OsState), seenQ q loose (importedModules r.prog.main.body) (fun s => xlAt q [] s && recOk r.toRowW.records s) (S w os).abs = openGood q loose)
    (h3 : ∀ (w : World) (os : OsState), H.obs (S w os).abs = H.val w)
    (e : opening r.prog = plainProg r.prog.main.scope.names) (hf : ∀ s, fenceModules? r.prog s = some s)
    (hdef : defOf q r.name = some (d, kwd)) (hp : r.prog.theDef r.name = some (d.params, d.body, d.scope)) (hk : kwWritten? d.params.kwonlyargs d.params.kw_defaults = some kwd)
    (hwr : (!r.writes || r.records.isEmpty) = true) (k1 : r.wellSaid = true) (ok : (chainsOk q && opensWell r.prog && (frees r.toRowW && r.within.isEmpty)) = true) (hb : r.prog.bare) (hw : r.toRowW.promised)
    (call : WalkO q loose (XL q []) H.says r.toRowW d kwd fun f vs => PySem.call f vs) : r.Holds := by
  have le : Nat.ble 600 (M + 600) = true ∧ Nat.ble M (M + 600) = true := ⟨Nat.ble_eq_true_of_le (by omega), Nat.ble_eq_true_of_le (by omega)⟩
  have left : LeftO r.prog q loose (fun s => xlAt q [] s && recOk r.toRowW.records s) H.obs H.val (M + 600) true :=
    left_ran R e le.1 hf le.2 h1 (fun w os => by rw [seenQ_eq]; exact h2 w os) h3
  exact holds_open (q := q) (loose := loose) (XP := XL q []) (YP := H.says) (d := d) (kwd := kwd) left H.of H.keeps
    (fun s z => xl_of s (Bool.and_eq_true_iff.mp z).1) XL.keeps hdef hp hk (fun s z => recFacts_of (Bool.and_eq_true_iff.mp z).2) hwr k1 ok hb hw call
end DH
namespace LW
open PySem PySem.Spec L2 DL PySem.NumText
def letB (c : Nat) : Bool := decide (97 ≤ c ∧ c ≤ 122)
def nameS (cs : List Nat) : Bool := decide (1 ≤ cs.length) && decide (cs.length ≤ 8) && cs.all letB
def nameB : Dt → Bool
  | .str z => nameS z.cps.toList
  | _ => false
def upB (i : Int) : Dt → Bool
  | .int h => decide (i ≤ h)
  | _ => true
def numB (lo : Int) (h : Dt) : Dt → Bool
  | .int i => decide (lo ≤ i) && upB i h
  | _ => false
inductive Hi : Dt → Prop
  | non : Hi .non
  | int (i : Int) : Hi (.int i)
theorem numB_yes {lo i h : Int} (a : lo ≤ i) (b : i ≤ h) : numB lo (.int h) (.int i) = true := by
  unfold numB upB; simp only [Bool.and_eq_true, decide_eq_true_eq]; exact ⟨a, b⟩
theorem numB_yesN {lo i : Int} (a : lo ≤ i) : numB lo .non (.int i) = true := by
  unfold numB upB; simp only [Bool.and_eq_true, decide_eq_true_eq]; exact ⟨a, trivial⟩
theorem numB_lo {lo i : Int} {h : Dt} (a : i < lo) : numB lo h (.int i) = false := by
  show (decide (lo ≤ i) && upB i h) = false
  rw [decide_eq_false (by omega)]; rfl
theorem numB_hi {lo i h : Int} (a : h < i) : numB lo (.int h) (.int i) = false := by
  show (decide (lo ≤ i) && decide (i ≤ h)) = false
  rw [decide_eq_false (show ¬ i ≤ h by omega), Bool.and_false]
theorem numB_odd {lo : Int} {h d : Dt} (a : isInt d = false) : numB lo h d = false := by
  cases d <;> first | rfl | cases a
def NmS (z : Str) : Prop := z.length ≤ 8 ∧ nameS z.cps.toList = true
def Nms (ss : List Str) : Prop := (∀ z ∈ ss, NmS z) ∧ ss.Nodup
theorem NmS.fl {z : Str} (h : NmS z) : Fl (.str z) := .str (by have := h.1; omega)
theorem NmS.ok {z : Str} (h : NmS z) : PyData.strOk z = true := by
  have h2 := h.2
  unfold nameS at h2
  simp only [Bool.and_eq_true, List.all_eq_true] at h2
  unfold PyData.strOk
  rw [← Array.all_toList, List.all_eq_true]
  intro c hc
  have := h2.2 c hc
  unfold letB at this
  rw [decide_eq_true_eq] at this ⊢
  omega
theorem NmS.nm {z : Str} (h : NmS z) : nameB (.str z) = true := h.2
open RM
abbrev rowD (r : Rw) : Dt := .tup [.int r.1, .int r.2.1, .bl r.2.2]
def rowsD (rs : List Rw) : List Dt := rs.map rowD
class SeqC (d : Dt) (xs : outParam (List Dt)) : Prop where
  h : d = .lst xs ∨ d = .tup xs
instance {xs : List Dt} : SeqC (.lst xs) xs := ⟨.inl rfl⟩
instance {xs : List Dt} : SeqC (.tup xs) xs := ⟨.inr rfl⟩
def Cov : List Rw → Int → Prop
  | [], _ => False
  | r :: _, t => r.1 ≤ t
abbrev ORow := Dt × Dt × Bool
def intOf : Dt → Int
  | .int i => i
  | _ => 0
def toO (r : Rw) : ORow := (.int r.1, .int r.2.1, r.2.2)
abbrev risD (K : PySem.W.Frag) (G : List Rw) : Dt := .obj (He.ga K "Rising") [("rows", .tup (rowsD G))]
theorem row_eq (x y : Rw) : eqD (rowD x) (rowD y) = true ↔ x = y := by
  obtain ⟨a, b, c⟩ := x; obtain ⟨d, e, f⟩ := y
  simp [eqD, eqDs]
theorem eqD_rows (A B : List Rw) : eqD (.tup (rowsD A)) (.tup (rowsD B)) = decide (A = B) := by
  rw [Bool.eq_iff_iff, decide_eq_true_eq]
  exact eqDs_map row_eq
theorem eq_rowsT {A B : List Rw} {R : Dt → Prop} (r : R (.bl (decide (A = B)))) : dEq (.tup (rowsD A)) (.tup (rowsD B)) R := by
  refine q_eq 2 (pls_map fun _ _ => rfl) (pls_map fun _ _ => rfl) ?_
  rw [eqD_rows]
  exact r
theorem ne_rowsT {A B : List Rw} {R : Dt → Prop} (r : R (.bl (!decide (A = B)))) : dNe (.tup (rowsD A)) (.tup (rowsD B)) R := by
  refine q_ne 2 (pls_map fun _ _ => rfl) (pls_map fun _ _ => rfl) ?_
  rw [eqD_rows]
  exact r
instance {A B : List Rw} {R : Dt → Prop} : Wk (dEq (.tup (rowsD A)) (.tup (rowsD B)) R) (R (.bl (decide (A = B)))) := ⟨eq_rowsT⟩
instance {A B : List Rw} {R : Dt → Prop} : Wk (dNe (.tup (rowsD A)) (.tup (rowsD B)) R) (R (.bl (!decide (A = B)))) := ⟨ne_rowsT⟩
def ridBad : List Dt → Option (Str × Dt)
  | [] => none
  | m :: r => if numB 0 (.int 600) m = true then ridBad r else some ("riding", m)
def slotBad (l : Dt) (ms : List Dt) : Option (Str × Dt) :=
  if numB 1 (.int 720) l = true then (if numB 1 (.int 48) (.int (ms.length : Nat)) = true then ridBad ms else some ("slots", .int (ms.length : Nat))) else some ("length", l)
def FlL (ms : List Dt) : Prop := ∀ m ∈ ms, Fl m
def slotRows (s e m : Int) : Option Int → List Rw
  | none => [(s, s + m, true)]
  | some b => if b - m > e then [(s, s + m, true)] else if b - m ≤ s then [(s, b, false)] else [(s, s + m, true), (b - m, b, false)]
def oD : Option Int → Dt
  | none => .non
  | some i => .int i
def sb (L : Int) : Int → List Int → Option Int
  | _, [] => none
  | s, m :: r => some (match sb L (s + L) r with | none => s + m | some b => if s + m < b then s + m else b)
def sr (L : Int) : Int → List Int → List Rw
  | _, [] => []
  | s, m :: r => slotRows s (s + L - 1) m (sb L (s + L) r) ++ sr L (s + L) r
theorem sr_good {L : Int} (hL : 1 ≤ L) : ∀ (ms : List Int) (s : Int), 0 ≤ s → (∀ m ∈ ms, 0 ≤ m) → ms ≠ [] → ∃ q tl b, sr L s ms = q :: tl ∧ sb L s ms = some b ∧ q.1 = s ∧ q.2.1 = b ∧ s ≤ b ∧ Good q tl
  | [], _, _, _, h => absurd rfl h
  | [m], s, hs, hm, _ => ⟨(s, s + m, true), [], s + m, rfl, rfl, rfl, rfl, by have := hm m (by simp); omega, rfl⟩
  | m :: m2 :: r, s, hs, hm, _ => by
    have m0 := hm m (by simp)
    obtain ⟨q, tl, b, e1, e2, e3, e4, e5, e6⟩ := sr_good hL (m2 :: r) (s + L) (by omega) (fun x hx => hm x (List.mem_cons_of_mem _ hx)) (by simp)
    have es : sb L s (m :: m2 :: r) = some (if s + m < b then s + m else b) := by
      show some (match sb L (s + L) (m2 :: r) with | none => s + m | some b => if s + m < b then s + m else b) = _
      rw [e2]
    have er : sr L s (m :: m2 :: r) = slotRows s (s + L - 1) m (some b) ++ q :: tl := by
      show slotRows s (s + L - 1) m (sb L (s + L) (m2 :: r)) ++ sr L (s + L) (m2 :: r) = _
      rw [e2, e1]
    rw [es, er]
    unfold slotRows
    dsimp only
    split
    · rename_i h
      refine ⟨(s, s + m, true), q :: tl, _, rfl, rfl, rfl, ?_, ?_, ⟨⟨?_, ?_, ?_, ?_⟩, e6⟩⟩
      · show s + m = _; rw [if_pos (by omega)]
      · rw [if_pos (by omega)]; omega
      · show s < q.1; omega
      · omega
      · show at1 (s, s + m, true) (q.1 - 1) ≤ q.2.1
        unfold at1; simp; omega
      · intro h; cases h
    · split
      · rename_i h1 h
        refine ⟨(s, b, false), q :: tl, _, rfl, rfl, rfl, ?_, ?_, ⟨⟨?_, ?_, ?_, ?_⟩, e6⟩⟩
        · show b = _; rw [if_neg (by omega)]
        · rw [if_neg (by omega)]; omega
        · show s < q.1; omega
        · omega
        · show at1 (s, b, false) (q.1 - 1) ≤ q.2.1
          unfold at1; simp; omega
        · intro _; show q.1 - 1 ≤ b; omega
      · rename_i h1 h
        refine ⟨(s, s + m, true), (b - m, b, false) :: q :: tl, _, rfl, rfl, rfl, ?_, ?_, ⟨⟨?_, ?_, ?_, ?_⟩, ⟨⟨?_, ?_, ?_, ?_⟩, e6⟩⟩⟩
        · show s + m = _; rw [if_pos (by omega)]
        · rw [if_pos (by omega)]; omega
        · show s < b - m; omega
        · show b - m ≤ b; omega
        · show at1 (s, s + m, true) (b - m - 1) ≤ b
          unfold at1; simp; omega
        · intro h; cases h
        · show b - m < q.1; omega
        · omega
        · show at1 (b - m, b, false) (q.1 - 1) ≤ q.2.1
          unfold at1; simp; omega
        · intro _; show q.1 - 1 ≤ b; omega
theorem sr_right {L : Int} (hL : 1 ≤ L) {ms : List Int} (h : ∀ m ∈ ms, 0 ≤ m) (hn : ms ≠ []) : Right (sr L 0 ms) := by
  obtain ⟨q, tl, b, e1, e2, e3, e4, e5, e6⟩ := sr_good hL ms 0 (by omega) h hn
  rw [e1]
  exact ⟨e3, by omega, e6⟩
theorem slotRows_bd {s e m : Int} {o : Option Int} (h : s ≤ e) : (∀ q ∈ slotRows s e m o, q.1 ≤ e) ∧ (slotRows s e m o).length ≤ 2 := by
  unfold slotRows
  split
  · exact ⟨fun q hq => by simp at hq; subst hq; exact h, by simp⟩
  · split
    · exact ⟨fun q hq => by simp at hq; subst hq; exact h, by simp⟩
    · split
      · exact ⟨fun q hq => by simp at hq; subst hq; exact h, by simp⟩
      · refine ⟨fun q hq => ?_, by simp⟩
        simp at hq
        rcases hq with rfl | rfl
        · exact h
        · show _ ≤ e; omega
theorem int_of_int (ns : List Int) : (ns.map Dt.int).map intOf = ns := by
  rw [List.map_map]
  exact List.map_id'' (fun _ => rfl) ns
def rideF (L : Int) (ns : List Int) (t : Int) : Int := t + ns.getD (if (ns.length : Int) - 1 < t / L then (ns.length : Int) - 1 else t / L).toNat 0
def pl (L : Int) : Int → List Int → Int → Int
  | _, [], t => t
  | s, m :: r, t => if r.isEmpty = true ∨ t < s + L then t + m else pl L (s + L) r t
def av (L : Int) : Int → List Int → Int → Int
  | _, [], _ => 0
  | s, m :: r, t => match sb L (s + L) r with
    | none => t + m
    | some b => if t < s + L then (if t + m < b then t + m else b) else av L (s + L) r t
theorem val_skip : ∀ (as : List Rw) (r b : Rw) (tl : List Rw) (t : Int), (∀ q ∈ as, q.1 ≤ t) → b.1 ≤ t → val r (as ++ b :: tl) t = val b tl t
  | [], r, b, tl, t, _, h => by show (if b.1 > t then _ else _) = _; rw [if_neg (by omega)]
  | a :: as, r, b, tl, t, ha, h => by
    show (if a.1 > t then _ else val a (as ++ b :: tl) t) = _
    rw [if_neg (by have := ha a (by simp); omega)]
    exact val_skip as a b tl t (fun q hq => ha q (List.mem_cons_of_mem _ hq)) h
theorem av_one {L s m t : Int} : av L s [m] t = t + m := rfl
theorem av_more {L s m b t : Int} {r : List Int} (h : sb L (s + L) r = some b) : av L s (m :: r) t = if t < s + L then (if t + m < b then t + m else b) else av L (s + L) r t := by
  show (match sb L (s + L) r with | none => t + m | some b => if t < s + L then (if t + m < b then t + m else b) else av L (s + L) r t) = _
  rw [h]
theorem val_sr {L : Int} (hL : 1 ≤ L) : ∀ (ns : List Int) (s t : Int), 0 ≤ s → (∀ m ∈ ns, 0 ≤ m) → ns ≠ [] → s ≤ t → valueAt (sr L s ns) t = av L s ns t
  | [], _, _, _, _, h, _ => absurd rfl h
  | [m], s, t, _, _, _, _ => by
    show at1 (s, s + m, true) t = t + m
    unfold at1; simp; omega
  | m :: m2 :: r, s, t, hs, hm, _, ht => by
    have m0 := hm m (by simp)
    have hm2 : ∀ x ∈ m2 :: r, 0 ≤ x := fun x hx => hm x (List.mem_cons_of_mem _ hx)
    obtain ⟨q, tl, b, e1, e2, e3, e4, e5, e6⟩ := sr_good hL (m2 :: r) (s + L) (by omega) hm2 (by simp)
    have er : sr L s (m :: m2 :: r) = slotRows s (s + L - 1) m (some b) ++ q :: tl := by
      show slotRows s (s + L - 1) m (sb L (s + L) (m2 :: r)) ++ sr L (s + L) (m2 :: r) = _
      rw [e2, e1]
    rw [av_more e2, er]
    by_cases c : t < s + L
    · rw [if_pos c]
      unfold slotRows
      dsimp only
      split
      · show (if q.1 > t then at1 (s, s + m, true) t else _) = _
        rw [if_pos (by omega), if_pos (by omega)]
        unfold at1; simp; omega
      · split
        · show (if q.1 > t then at1 (s, b, false) t else _) = _
          rw [if_pos (by omega), if_neg (by omega)]
          unfold at1; simp
        · show (if b - m > t then at1 (s, s + m, true) t else if q.1 > t then at1 (b - m, b, false) t else _) = _
          by_cases c2 : b - m > t
          · rw [if_pos c2, if_pos (by omega)]
            unfold at1; simp; omega
          · rw [if_neg c2, if_pos (by omega), if_neg (by omega)]
            unfold at1; simp
    · rw [if_neg c]
      have ih := val_sr hL (m2 :: r) (s + L) t (by omega) hm2 (by simp) (by omega)
      rw [← ih, e1]
      have hb := (slotRows_bd (s := s) (e := s + L - 1) (m := m) (o := some b) (by omega)).1
      cases hx : slotRows s (s + L - 1) m (some b) with
      | nil => rfl
      | cons x xs =>
        rw [hx] at hb
        exact val_skip xs x q tl t (fun y hy => by have := hb y (List.mem_cons_of_mem _ hy); omega) (by omega)
theorem sb_some {L : Int} : ∀ {ns : List Int} {s : Int}, ns ≠ [] → ∃ b, sb L s ns = some b
  | [], _, h => absurd rfl h
  | m :: r, s, _ => ⟨_, rfl⟩
theorem sb_head {L : Int} (hL : 1 ≤ L) {ns : List Int} {s b : Int} (hs : 0 ≤ s) (hm : ∀ m ∈ ns, 0 ≤ m) (hn : ns ≠ []) (h : sb L s ns = some b) : av L s ns s = b := by
  obtain ⟨q, tl, b', e1, e2, e3, e4, e5, e6⟩ := sr_good hL ns s hs hm hn
  rw [h] at e2
  cases e2
  rw [← val_sr hL ns s s hs hm hn (Int.le_refl _), e1]
  show val q tl s = _
  have : at1 q s = b := by unfold at1; rw [e3, e4]; split <;> omega
  cases tl with
  | nil => exact this
  | cons x tl =>
    show (if x.1 > s then _ else _) = _
    have := e6.1.s
    rw [if_pos (by omega)]
    assumption
theorem pl_one {L s m t : Int} : pl L s [m] t = t + m := by show (if _ then t + m else _) = _; rw [if_pos (.inl rfl)]
theorem pl_more {L s m m2 t : Int} {r : List Int} : pl L s (m :: m2 :: r) t = if t < s + L then t + m else pl L (s + L) (m2 :: r) t := by
  show (if (m2 :: r).isEmpty = true ∨ t < s + L then t + m else pl L (s + L) (m2 :: r) t) = _
  by_cases c : t < s + L
  · rw [if_pos c, if_pos (.inr c)]
  · rw [if_neg c, if_neg (by simp; omega)]
theorem av_le {L : Int} : ∀ (ns : List Int) (s t : Int), ns ≠ [] → av L s ns t ≤ pl L s ns t
  | [], _, _, h => absurd rfl h
  | [m], s, t, _ => by rw [pl_one, av_one]; omega
  | m :: m2 :: r, s, t, _ => by
    obtain ⟨b, e⟩ := sb_some (L := L) (ns := m2 :: r) (s := s + L) (by simp)
    rw [av_more e, pl_more]
    by_cases c : t < s + L
    · rw [if_pos c, if_pos c]; split <;> omega
    · rw [if_neg c, if_neg c]
      exact av_le (m2 :: r) (s + L) t (by simp)
theorem av_step {L : Int} (hL : 1 ≤ L) : ∀ (ns : List Int) (s t : Int), 0 ≤ s → (∀ m ∈ ns, 0 ≤ m) → ns ≠ [] → s ≤ t → av L s ns t = if pl L s ns t < av L s ns (t + 1) then pl L s ns t else av L s ns (t + 1)
  | [], _, _, _, _, h, _ => absurd rfl h
  | [m], s, t, _, _, _, _ => by
    have : pl L s [m] t = t + m := by show (if _ then t + m else _) = _; rw [if_pos (.inl rfl)]
    rw [this, av_one, av_one, if_pos (by omega)]
  | m :: m2 :: r, s, t, hs, hm, _, ht => by
    have hm2 : ∀ x ∈ m2 :: r, 0 ≤ x := fun x hx => hm x (List.mem_cons_of_mem _ hx)
    obtain ⟨b, e⟩ := sb_some (L := L) (ns := m2 :: r) (s := s + L) (by simp)
    have hd := sb_head hL (by omega) hm2 (by simp) e
    have ep : pl L s (m :: m2 :: r) t = if t < s + L then t + m else pl L (s + L) (m2 :: r) t := pl_more
    rw [av_more e, av_more e, ep]
    by_cases c : t < s + L
    · rw [if_pos c, if_pos c]
      by_cases c2 : t + 1 < s + L
      · rw [if_pos c2]
        split <;> (try split) <;> (try split) <;> omega
      · rw [if_neg c2, show t + 1 = s + L by omega, hd]
    · rw [if_neg c, if_neg c, if_neg (show ¬ (t + 1 < s + L) by omega)]
      exact av_step hL (m2 :: r) (s + L) t (by omega) hm2 (by simp) (by omega)
theorem last_cons {m m2 : Int} {r : List Int} : (m :: m2 :: r).getLastD 0 = (m2 :: r).getLastD 0 := by simp [List.getLastD]
theorem av_last {L : Int} (hL : 1 ≤ L) : ∀ (ns : List Int) (s t : Int), ns ≠ [] → s + L * ((ns.length : Int) - 1) ≤ t → av L s ns t = t + ns.getLastD 0 ∧ pl L s ns t = t + ns.getLastD 0
  | [], _, _, h, _ => absurd rfl h
  | [m], s, t, _, _ => ⟨rfl, pl_one⟩
  | m :: m2 :: r, s, t, _, ht => by
    obtain ⟨b, e⟩ := sb_some (L := L) (ns := m2 :: r) (s := s + L) (by simp)
    have el : L * (((m :: m2 :: r).length : Int) - 1) = L + L * (((m2 :: r).length : Int) - 1) := by
      rw [show ((m :: m2 :: r).length : Int) - 1 = 1 + (((m2 :: r).length : Int) - 1) by simp only [List.length_cons]; omega, Int.mul_add, Int.mul_one]
    have e0 : 0 ≤ L * (((m2 :: r).length : Int) - 1) := Int.mul_nonneg (by omega) (by simp only [List.length_cons]; omega)
    obtain ⟨i1, i2⟩ := av_last hL (m2 :: r) (s + L) t (by simp) (by omega)
    rw [av_more e, if_neg (by omega), last_cons]
    refine ⟨i1, ?_⟩
    show (if (m2 :: r).isEmpty = true ∨ t < s + L then t + m else pl L (s + L) (m2 :: r) t) = _
    rw [if_neg (by simp; omega)]
    exact i2
theorem sb_min {L : Int} : ∀ {ns : List Int} {s b : Int}, sb L s ns = some b → (∃ (j : Nat) (y : Int), ns[j]? = some y ∧ b = s + j * L + y) ∧ ∀ (j : Nat) (y : Int), ns[j]? = some y → b ≤ s + j * L + y
  | [], _, _, h => by cases h
  | m :: r, s, b, h => by
    have nx : ∀ j : Nat, s + ((j + 1 : Nat) : Int) * L = s + L + j * L := fun j => by rw [Int.natCast_add, Int.add_mul]; simp; omega
    have z0 : s + ((0 : Nat) : Int) * L = s := by simp
    cases e : sb L (s + L) r with
    | none =>
      have hb : b = s + m := by
        have h' : some (match sb L (s + L) r with | none => s + m | some b => if s + m < b then s + m else b) = some b := h
        rw [e] at h'
        exact (Option.some.inj h').symm
      have hr : r = [] := by
        cases r with
        | nil => rfl
        | cons x r => cases e
      subst hb hr
      refine ⟨⟨0, m, rfl, by rw [z0]⟩, fun j y hy => ?_⟩
      cases j with
      | zero => have : m = y := by simpa using hy
                subst this; rw [z0]; omega
      | succ j => simp at hy
    | some c =>
      have hb : b = if s + m < c then s + m else c := by
        have h' : some (match sb L (s + L) r with | none => s + m | some b => if s + m < b then s + m else b) = some b := h
        rw [e] at h'
        exact (Option.some.inj h').symm
      obtain ⟨⟨j, y, h1, h2⟩, h3⟩ := sb_min e
      refine ⟨?_, fun j y hy => ?_⟩
      · by_cases c2 : s + m < c
        · exact ⟨0, m, rfl, by rw [z0, hb, if_pos c2]⟩
        · exact ⟨j + 1, y, by simpa using h1, by rw [nx, hb, if_neg c2]; exact h2⟩
      · cases j with
        | zero => have : m = y := by simpa using hy
                  subst this; rw [z0, hb]; split <;> omega
        | succ j =>
          have := h3 j y (by simpa using hy)
          rw [nx, hb]; split <;> omega
structure IsArr (L s : Int) (ns : List Int) (t v : Int) : Prop where
  one : v = pl L s ns t ∨ ∃ (j : Nat) (y : Int), ns[j]? = some y ∧ t < s + j * L ∧ v = s + j * L + y
  le : v ≤ pl L s ns t
  all : ∀ (j : Nat) (y : Int), ns[j]? = some y → t < s + j * L → v ≤ s + j * L + y
theorem IsArr.uniq {L s t v w : Int} {ns : List Int} (h : IsArr L s ns t v) (k : IsArr L s ns t w) : v = w := by
  have h1 : v ≤ w := by
    rcases k.one with e | ⟨j, y, e1, e2, e3⟩
    · rw [e]; exact h.le
    · rw [e3]; exact h.all j y e1 e2
  have h2 : w ≤ v := by
    rcases h.one with e | ⟨j, y, e1, e2, e3⟩
    · rw [e]; exact k.le
    · rw [e3]; exact k.all j y e1 e2
  omega
theorem isArr_av {L : Int} (hL : 1 ≤ L) : ∀ (ns : List Int) (s t : Int), ns ≠ [] → s ≤ t → IsArr L s ns t (av L s ns t)
  | [], _, _, h, _ => absurd rfl h
  | [m], s, t, _, ht => by
    have : pl L s [m] t = t + m := by show (if _ then t + m else _) = _; rw [if_pos (.inl rfl)]
    rw [av_one]
    refine ⟨.inl this.symm, by rw [this]; omega, fun j y hy hj => ?_⟩
    cases j with
    | zero => simp at hj; omega
    | succ j => simp at hy
  | m :: m2 :: r, s, t, _, ht => by
    obtain ⟨b, e⟩ := sb_some (L := L) (ns := m2 :: r) (s := s + L) (by simp)
    have nx : ∀ j : Nat, s + ((j + 1 : Nat) : Int) * L = s + L + j * L := fun j => by rw [Int.natCast_add, Int.add_mul]; simp; omega
    have z0 : s + ((0 : Nat) : Int) * L = s := by simp
    have ep : pl L s (m :: m2 :: r) t = if t < s + L then t + m else pl L (s + L) (m2 :: r) t := pl_more
    rw [av_more e]
    by_cases c : t < s + L
    · rw [if_pos c]
      rw [if_pos c] at ep
      obtain ⟨⟨j, y, h1, h2⟩, h3⟩ := sb_min e
      have j0 : 0 ≤ (j : Int) * L := Int.mul_nonneg (by omega) (by omega)
      refine ⟨?_, by rw [ep]; split <;> omega, fun j y hy hj => ?_⟩
      · by_cases c2 : t + m < b
        · rw [if_pos c2]; exact .inl ep.symm
        · rw [if_neg c2]; exact .inr ⟨j + 1, y, by simpa using h1, by rw [nx]; omega, by rw [nx]; exact h2⟩
      · cases j with
        | zero => rw [z0] at hj; omega
        | succ j =>
          have := h3 j y (by simpa using hy)
          rw [nx]; split <;> omega
    · rw [if_neg c]
      rw [if_neg c] at ep
      have ih := isArr_av hL (m2 :: r) (s + L) t (by simp) (by omega)
      refine ⟨?_, by rw [ep]; exact ih.le, fun j y hy hj => ?_⟩
      · rcases ih.one with h | ⟨j, y, h1, h2, h3⟩
        · exact .inl (by rw [ep]; exact h)
        · exact .inr ⟨j + 1, y, by simpa using h1, by rw [nx]; exact h2, by rw [nx]; exact h3⟩
      · cases j with
        | zero => rw [z0] at hj; omega
        | succ j => rw [nx] at hj ⊢; exact ih.all j y (by simpa using hy) hj
theorem pl_ride {L : Int} (hL : 1 ≤ L) : ∀ (ns : List Int) (s t : Int), ns ≠ [] → s ≤ t → pl L s ns t = t + ns.getD (if (ns.length : Int) - 1 < (t - s) / L then (ns.length : Int) - 1 else (t - s) / L).toNat 0
  | [], _, _, h, _ => absurd rfl h
  | [m], s, t, _, ht => by
    have : pl L s [m] t = t + m := by show (if _ then t + m else _) = _; rw [if_pos (.inl rfl)]
    have h0 : 0 ≤ (t - s) / L := Int.ediv_nonneg (by omega) (by omega)
    rw [this]
    have : (if (([m] : List Int).length : Int) - 1 < (t - s) / L then (([m] : List Int).length : Int) - 1 else (t - s) / L).toNat = 0 := by
      simp; split <;> omega
    rw [this]; rfl
  | m :: m2 :: r, s, t, _, ht => by
    show (if (m2 :: r).isEmpty = true ∨ t < s + L then t + m else pl L (s + L) (m2 :: r) t) = _
    by_cases c : t < s + L
    · rw [if_pos (.inr c), Int.ediv_eq_zero_of_lt (by omega) (by omega), if_neg (by simp; omega)]
      rfl
    · rw [if_neg (by simp; omega), pl_ride hL (m2 :: r) (s + L) t (by simp) (by omega)]
      have e : (t - s) / L = (t - (s + L)) / L + 1 := by
        rw [show t - s = t - (s + L) + 1 * L by omega, Int.add_mul_ediv_right _ _ (by omega)]
      have h0 : 0 ≤ (t - (s + L)) / L := Int.ediv_nonneg (by omega) (by omega)
      rw [e]
      generalize (t - (s + L)) / L = q at *
      have el : ((m :: m2 :: r).length : Int) = (m2 :: r).length + 1 := by simp
      have l1 : 1 ≤ ((m2 :: r).length : Int) := by simp; omega
      rw [el]
      generalize ((m2 :: r).length : Int) = n at *
      have : (if n + 1 - 1 < q + 1 then n + 1 - 1 else q + 1).toNat = (if n - 1 < q then n - 1 else q).toNat + 1 := by
        split <;> split <;> omega
      rw [this, List.getD_cons_succ]
structure Slo (L : Int) (ns : List Int) : Prop where
  l1 : 1 ≤ L
  l2 : L ≤ 720
  ne : ns ≠ []
  ln : ns.length ≤ 48
  el : ∀ n ∈ ns, 0 ≤ n ∧ n ≤ 600
def sv (L : Int) (ns : List Int) (t : Int) : Int := valueAt (sr L 0 ns) t
section
variable {L t : Int} {ns : List Int}
theorem Slo.bad (h : Slo L ns) : slotBad (.int L) (ns.map .int) = none := by
  unfold slotBad
  rw [if_pos (numB_yes h.l1 h.l2), if_pos (numB_yes (by have := List.length_pos_iff.mpr h.ne; simp; omega) (by have := h.ln; simp; omega))]
  have : ∀ l : List Int, (∀ n ∈ l, 0 ≤ n ∧ n ≤ 600) → ridBad (l.map .int) = none := by
    intro l
    induction l with
    | nil => intro _; rfl
    | cons a l ih =>
      intro hl
      show (if numB 0 (.int 600) (.int a) = true then ridBad (l.map .int) else _) = _
      rw [if_pos (numB_yes (hl a (by simp)).1 (hl a (by simp)).2)]
      exact ih fun n hn => hl n (List.mem_cons_of_mem _ hn)
  exact this ns h.el
theorem Slo.av (h : Slo L ns) (ht : 0 ≤ t) : sv L ns t = av L 0 ns t := val_sr h.l1 ns 0 t (Int.le_refl _) (fun m hm => (h.el m hm).1) h.ne ht
theorem Slo.pl (h : Slo L ns) (ht : 0 ≤ t) : rideF L ns t = pl L 0 ns t := by
  rw [pl_ride h.l1 ns 0 t h.ne ht]
  unfold rideF
  simp
theorem Slo.arr (h : Slo L ns) (ht : 0 ≤ t) : IsArr L 0 ns t (sv L ns t) := by rw [h.av ht]; exact isArr_av h.l1 ns 0 t h.ne ht
theorem Slo.le (h : Slo L ns) (ht : 0 ≤ t) : sv L ns t ≤ rideF L ns t := by rw [h.av ht, h.pl ht]; exact av_le ns 0 t h.ne
theorem Slo.step (h : Slo L ns) (ht : 0 ≤ t) : sv L ns t = if rideF L ns t < sv L ns (t + 1) then rideF L ns t else sv L ns (t + 1) := by
  rw [h.av ht, h.av (t := t + 1) (by omega), h.pl ht]
  exact av_step h.l1 ns 0 t (Int.le_refl _) (fun m hm => (h.el m hm).1) h.ne ht
theorem Slo.big (h : Slo L ns) (ht : L * ((ns.length : Int) - 1) ≤ t) : sv L ns t = t + ns.getLastD 0 ∧ rideF L ns t = t + ns.getLastD 0 := by
  have l1 := List.length_pos_iff.mpr h.ne
  have : 0 ≤ L * ((ns.length : Int) - 1) := Int.mul_nonneg (by have := h.l1; omega) (by omega)
  rw [h.av (by omega), h.pl (by omega)]
  exact av_last h.l1 ns 0 t h.ne (by omega)
theorem Slo.right (h : Slo L ns) : Right (sr L 0 ns) := sr_right h.l1 (fun m hm => (h.el m hm).1) h.ne
end
theorem flL_ints (l : List Int) : FlL (l.map .int) := fun m hm => by
  obtain ⟨z, _, rfl⟩ := List.mem_map.mp hm
  exact .int z
section
variable {L : Int} {ns : List Int}
theorem Slo.up (h : Slo L ns) (hb : L * ((ns.length : Int) - 1) ≤ 4000) : Up (sv L ns) := fun t ht => by
  rw [(h.big (t := t + 1) (by omega)).1, (h.big (t := t) (by omega)).1]; omega
theorem Slo.pre (h : Slo L ns) : Fl (.int L) ∧ FlL (ns.map .int) ∧ (ns.map Dt.int).length ≤ 2000 := ⟨.int _, flL_ints ns, by rw [List.length_map]; have := h.ln; omega⟩
theorem Slo.ok (h : Slo L ns) : (slotBad (.int L) (ns.map .int)).isNone = true := by rw [h.bad]; rfl
theorem Slo.rz (h : Slo L ns) (hb : L * ((ns.length : Int) - 1) ≤ 4000) {G : List Rw} (c : Canon (valueAt (sr (intOf (.int L)) 0 ((ns.map Dt.int).map intOf))) G) : Rz G ∧ ∀ t, 0 ≤ t → valueAt G t = sv L ns t := by
  rw [int_of_int] at c
  exact rz_of (f := sv L ns) (ris_of h.right) (h.up hb) c
end
abbrev Tab := List ((Str × Str) × List Rw)
abbrev tabD (K : PySem.W.Frag) (tab : Tab) : List (List Key × Dt) := mapT ky2 (risD K) tab
structure TOk (ps : List Str) (tab : Tab) : Prop where
  nd : (tab.map (·.1)).Nodup
  rz : ∀ e ∈ tab, Rz e.2
  ks : ∀ e ∈ tab, e.1.1 ∈ ps ∧ e.1.2 ∈ ps ∧ e.1.1 ≠ e.1.2
theorem sub_lenG {α : Type} [DecidableEq α] : ∀ {l m : List α}, l.Nodup → (∀ k ∈ l, k ∈ m) → l.length ≤ m.length
  | [], m, _, _ => by simp
  | a :: l, m, nd, h => by
    obtain ⟨n1, n2⟩ := List.nodup_cons.mp nd
    have := sub_lenG (m := m.erase a) n2 (fun k hk => (List.mem_erase_of_ne (fun e => n1 (by rw [← e]; exact hk))).mpr (h k (List.mem_cons_of_mem _ hk)))
    rw [List.length_erase_of_mem (h a (List.mem_cons_self ..))] at this
    have hp := List.length_pos_of_mem (h a (List.mem_cons_self ..))
    simp only [List.length_cons]
    omega
theorem TOk.len {ps : List Str} {tab : Tab} (h : TOk ps tab) (hl : ps.length ≤ 6) : tab.length ≤ 36 := by
  have h1 := sub_lenG (l := tab.map (·.1)) (m := ps.flatMap fun p => ps.map fun q => (p, q)) h.nd (fun k hk => by
    obtain ⟨e, he, rfl⟩ := List.mem_map.mp hk
    obtain ⟨k1, k2, _⟩ := h.ks e he
    exact List.mem_flatMap.mpr ⟨e.1.1, k1, List.mem_map.mpr ⟨e.1.2, k2, rfl⟩⟩)
  have h2 : (ps.flatMap fun p => ps.map fun q => (p, q)).length = ps.length * ps.length := by
    have g : ∀ l : List Str, (l.flatMap fun p => ps.map fun q => (p, q)).length = l.length * ps.length := by
      intro l
      induction l with
      | nil => simp
      | cons x l ih => rw [List.flatMap_cons, List.length_append, ih, List.length_map, List.length_cons, Nat.succ_mul, Nat.add_comm]
    exact g ps
  have h3 : ps.length * ps.length ≤ 6 * 6 := Nat.mul_le_mul hl hl
  rw [List.length_map] at h1
  omega
theorem TOk.nil (ps : List Str) : TOk ps [] := ⟨by simp, fun e h => (nomatch h), fun e h => (nomatch h)⟩
theorem TOk.put {ps : List Str} {tab : Tab} (h : TOk ps tab) {s e : Str} {F : List Rw} (hs : s ∈ ps) (he : e ∈ ps) (n : s ≠ e) (hF : Rz F) : TOk ps (pA tab (s, e) F) :=
  ⟨pA_nodup h.nd _ _, fun x hx => (pA_mem hx).elim (h.rz x) (fun z => by rw [z]; exact hF), fun x hx => (pA_mem hx).elim (h.ks x) (fun z => by rw [z]; exact ⟨hs, he, n⟩)⟩
theorem TOk.at {ps : List Str} {tab : Tab} (h : TOk ps tab) {k : Str × Str} {F : List Rw} (e : vA tab k = some F) : Rz F := h.rz _ (vA_mem e)
open PW
def EqM : Option (List Rw) → Option (Int → Int) → Prop
  | none, none => True
  | some F, some f => ∀ t, 0 ≤ t → valueAt F t = f t
  | _, _ => False
def TR (tab : Tab) (T : FT Str) : Prop := ∀ p q, EqM (vA tab (p, q)) (T p q)
def tf (tab : Tab) : FT Str := fun p q => (vA tab (p, q)).map valueAt
theorem TR.tf (tab : Tab) : TR tab (LW.tf tab) := fun p q => by
  show EqM _ ((vA tab (p, q)).map valueAt)
  cases vA tab (p, q) with
  | none => exact trivial
  | some F => exact fun t _ => rfl
theorem EqM.some {F : List Rw} {o : Option (Int → Int)} (h : EqM (some F) o) : ∃ f, o = some f ∧ ∀ t, 0 ≤ t → valueAt F t = f t := by
  cases o with
  | none => exact h.elim
  | some f => exact ⟨f, rfl, h⟩
theorem EqM.none {o : Option (Int → Int)} (h : EqM none o) : o = none := by
  cases o with
  | none => rfl
  | some f => exact h.elim
def Clo (ps : List Str) (tab clo : Tab) : Prop := TOk ps clo ∧ TR clo (fw ps (tf tab))
theorem TR.put {tab : Tab} {T : FT Str} (h : TR tab T) {m s e : Str} {F G H : List Rw} (n : s ≠ e) (hF : vA tab (s, m) = some F) (hG : vA tab (m, e) = some G) (rF : Rz F)
    (hH : ∀ t, 0 ≤ t → valueAt H t = match vA tab (s, e) with | some E => pick false (valueAt G (valueAt F t)) (valueAt E t) | none => valueAt G (valueAt F t)) : TR (pA tab (s, e) H) (fwE m s T e) := by
  obtain ⟨f, ef, vf⟩ := EqM.some (by rw [← hF]; exact h s m)
  obtain ⟨g, eg, vg⟩ := EqM.some (by rw [← hG]; exact h m e)
  have gf : ∀ t, 0 ≤ t → valueAt G (valueAt F t) = g (f t) := fun t ht => by
    have := rF.ris.ge t ht
    rw [vg _ (by omega), vf t ht]
  intro p q
  unfold fwE
  rw [if_neg n, ef, eg]
  dsimp only
  rw [vA_put]
  by_cases c : p = s ∧ q = e
  · rw [if_pos c, if_pos (by rw [c.1, c.2])]
    have he := h s e
    cases hE : vA tab (s, e) with
    | none =>
      rw [hE] at he hH
      rw [EqM.none he]
      exact fun t ht => by rw [hH t ht]; exact gf t ht
    | some E =>
      rw [hE] at he hH
      obtain ⟨k, ek, vk⟩ := EqM.some he
      rw [ek]
      exact fun t ht => by rw [hH t ht]; dsimp only; rw [gf t ht, vk t ht]
  · rw [if_neg c, if_neg (fun z => c (Prod.mk.inj z))]
    exact h p q
theorem noX_ris {K : PySem.W.Frag} {C : Addr} {F : List Rw} (h : He.ga K "Rising" ≠ C) : noX (some C) (risD K F) := by
  simp only [noX, noXf, and_true]
  exact ⟨fun e => h (Option.some.inj e), noXs_map (fun r => by simp [noX, noXs]) F⟩
theorem noXv_tab {K : PySem.W.Frag} {C : Addr} {tab : Tab} (h : He.ga K "Rising" ≠ C) : noXv (some C) (tabD K tab) := by
  intro p hp
  obtain ⟨e, _, rfl⟩ := List.mem_map.mp hp
  exact noX_ris h
theorem noX_risN {K : PySem.W.Frag} {F : List Rw} : noX none (risD K F) := by
  simp only [noX, noXf, and_true]
  exact ⟨fun e => (by cases e), noXs_map (fun r => by simp [noX, noXs]) F⟩
theorem noXv_tabN {K : PySem.W.Frag} {tab : Tab} : noXv none (tabD K tab) := by
  intro p hp
  obtain ⟨e, _, rfl⟩ := List.mem_map.mp hp
  exact noX_risN
instance {K : PySem.W.Frag} {C : Addr} {F : List Rw} [h : NeC (He.ga K "Rising") C] : NoXC (some C) (risD K F) True := ⟨fun _ => noX_ris h.h⟩
instance {K : PySem.W.Frag} {C : Addr} {tab : Tab} [h : NeC (He.ga K "Rising") C] : NoXvC (some C) (tabD K tab) True := ⟨fun _ => noXv_tab h.h⟩
instance {K : PySem.W.Frag} {F : List Rw} : NoXC none (risD K F) True := ⟨fun _ => noX_risN⟩
instance {K : PySem.W.Frag} {tab : Tab} : NoXvC none (tabD K tab) True := ⟨fun _ => noXv_tabN⟩
structure Mt where
  nm : Str
  pl : Str
  op : Int
  la : Int
  ln : Int
structure Pe where
  nm : Str
  hm : Str
  lv : Int
  rw : List Str
def inO : Option (List Str) → Str → Bool
  | none, _ => true
  | some ps, x => decide (x ∈ ps)
structure Dy where
  ms : List Mt
  ps : List Pe
  mp : Tab
  sq : List Str
def legsP (ps : List Pe) : List (Str × Str) := ps.flatMap fun p => p.rw.map fun n => (p.nm, n)
def byT (ms : List Mt) : List (Str × Mt) := ms.map fun m => (m.nm, m)
def peT (ps : List Pe) : List (Str × Pe) := ps.map fun p => (p.nm, p)
theorem pe_at {ps : List Pe} {n : Str} {q : Pe} (h : vA (peT ps) n = some q) : q ∈ ps ∧ q.nm = n := by
  obtain ⟨p, hp, e⟩ := List.mem_map.mp (vA_mem h)
  cases e
  exact ⟨hp, rfl⟩
theorem mt_at {ms : List Mt} {n : Str} {q : Mt} (h : vA (byT ms) n = some q) : q ∈ ms ∧ q.nm = n := by
  obtain ⟨p, hp, e⟩ := List.mem_map.mp (vA_mem h)
  cases e
  exact ⟨hp, rfl⟩
structure DOk (d : Dy) : Prop where
  rl : ∀ q ∈ d.ps, q.rw.length ≤ 1000
  pl : d.ps.length ≤ 1000
  ml : d.ms.length ≤ 1000
  sl : d.sq.length ≤ 1000
  mp : ∀ q ∈ d.ps, ∀ n ∈ q.rw, ∃ F, vA d.mp (q.nm, n) = some F ∧ Rz F
  nd : (d.ms.map (·.nm)).Nodup
  pd : (d.ps.map (·.nm)).Nodup
  op : ∀ m ∈ d.ms, 0 ≤ m.op ∧ 0 ≤ m.ln
  lv : ∀ q ∈ d.ps, 0 ≤ q.lv
  sm : ∀ n, n ∈ d.sq ↔ n ∈ d.ms.map (·.nm)
  sd : d.sq.Nodup
  so : ∀ l1 n l2, d.sq = l1 ++ n :: l2 → ∀ q ∈ d.ps, n ∈ q.rw → ∀ b, (if q.rw.idxOf n = 0 then none else q.rw[q.rw.idxOf n - 1]?) = some b → b ∈ l1
def prevS (rw : List Str) (n : Str) : Option Str := if rw.idxOf n = 0 then none else rw[rw.idxOf n - 1]?
abbrev ST := List (Str × Int)
def DepQ (d : Dy) (st : ST) (p n : Str) (q : Pe) : Prop := vA (peT d.ps) p = some q ∧ n ∈ q.rw ∧ ∀ b, prevS q.rw n = some b → ∃ s m, vA st b = some s ∧ 0 ≤ s ∧ vA (byT d.ms) b = some m
def depV (d : Dy) (st : ST) (n : Str) (q : Pe) : Int := match prevS q.rw n with
  | none => q.lv
  | some b => (vA st b).getD 0 + ((vA (byT d.ms) b).map (·.ln)).getD 0
def DepP (d : Dy) (st : ST) (p n : Str) : Prop := ∃ q, DepQ d st p n q
def depW (d : Dy) (st : ST) (p n : Str) : Int := match vA (peT d.ps) p with
  | none => 0
  | some q => depV d st n q
def arrW (d : Dy) (st : ST) (p n : Str) : Int := valueAt ((vA d.mp (p, n)).getD []) (depW d st p n)
theorem DepQ.w {d : Dy} {st : ST} {p n : Str} {q : Pe} (h : DepQ d st p n q) : depW d st p n = depV d st n q := by unfold depW; rw [h.1]
theorem DepQ.ge {d : Dy} {st : ST} {p n : Str} {q : Pe} (hd : DOk d) (h : DepQ d st p n q) : 0 ≤ depV d st n q := by
  unfold depV
  cases hp : prevS q.rw n with
  | none => exact hd.lv q (pe_at h.1).1
  | some b =>
    obtain ⟨s, m, h1, h2, h3⟩ := h.2.2 b hp
    dsimp only
    rw [h1, h3]
    have := (hd.op m (mt_at h3).1).2
    simp only [Option.getD_some, Option.map_some]
    omega
def mBad (o : Option (List Str)) : List Str → List Mt → Option Str
  | _, [] => none
  | seen, m :: r => if m.nm ∈ seen then some m.nm else if inO o m.pl = true then mBad o (seen ++ [m.nm]) r else some m.pl
def pBad (o : Option (List Str)) (names : List Str) : List Str → List Pe → Option Str
  | _, [] => none
  | seen, p :: r => if p.nm ∈ seen then some p.nm else if inO o p.hm = true then (match p.rw.find? (fun x => decide (x ∉ names)) with | some x => some x | none => pBad o names (seen ++ [p.nm]) r) else some p.hm
def opW (d : Dy) (n : Str) : Int := ((vA (byT d.ms) n).map (·.op)).getD 0
def attP (d : Dy) (n : Str) : List Str := (d.ps.filter fun p => decide (n ∈ p.rw)).map (·.nm)
def strW (d : Dy) (st : ST) (n : Str) : Int := (attP d n).foldl (fun s p => max s (arrW d st p n)) (opW d n)
def earW (d : Dy) : List Str → ST → ST := fun ns st => ns.foldl (fun st n => pA st n (strW d st n)) st
def earlyW (d : Dy) : ST := earW d d.sq []
def eS (d : Dy) (n : Str) : Int := (vA (earlyW d) n).getD 0
theorem fold_max_ge {α : Type} (f : α → Int) : ∀ (l : List α) (a : Int), a ≤ l.foldl (fun s p => max s (f p)) a
  | [], a => Int.le_refl _
  | x :: l, a => Int.le_trans (Int.le_max_left ..) (fold_max_ge f l _)
theorem nd_at {ms : List Mt} (nd : (ms.map (·.nm)).Nodup) {m : Mt} (h : m ∈ ms) : vA (byT ms) m.nm = some m := vA_of (kvs := byT ms) (by unfold byT; rw [List.map_map]; exact nd) (List.mem_map.mpr ⟨m, h, rfl⟩)
theorem nd_pe {ps : List Pe} (nd : (ps.map (·.nm)).Nodup) {m : Pe} (h : m ∈ ps) : vA (peT ps) m.nm = some m := vA_of (kvs := peT ps) (by unfold peT; rw [List.map_map]; exact nd) (List.mem_map.mpr ⟨m, h, rfl⟩)
def lateP (d : Dy) : List Mt := d.ms.filter fun m => decide (m.la < eS d m.nm)
abbrev BTb := List (Str × List Str)
def bg (bt : BTb) (n : Str) : List Str := (vA bt n).getD []
def bNew (bt : BTb) (last : Option Str) (n : Str) : List Str := match last with
  | none => bg bt n
  | some l => bg bt n ++ [l]
def bRow : List Str → Option Str → BTb → BTb
  | [], _, bt => bt
  | n :: r, last, bt => bRow r (some n) (pA bt n (bNew bt last n))
def befW (ps : List Pe) : BTb := ps.foldl (fun bt p => bRow p.rw none bt) []
def rdy (bt : BTb) (left : List Str) : List Str := left.filter fun n => !((bg bt n).any fun o => decide (o ∈ left))
def ordN (bt : BTb) : Nat → List Str → List Str → List Str × List Str
  | 0, found, left => (found, left)
  | k + 1, found, left => match rdy bt left with
    | [] => (found, left)
    | r :: _ => ordN bt k (found ++ [r]) (left.erase r)
def ordW (names : List Str) (ps : List Pe) : List Str × List Str := ordN (befW ps) names.length [] names
theorem rdy_sub {bt : BTb} {left : List Str} {r : Str} {t : List Str} (h : rdy bt left = r :: t) : r ∈ left := (List.mem_filter.mp (show r ∈ rdy bt left by rw [h]; simp)).1
end LW
namespace LW
open PySem PySem.Spec L2 DL PySem.NumText
open RM PW
theorem bg_nil (n : Str) : bg [] n = [] := rfl
theorem bg_pA (bt : BTb) (m n : Str) (l : List Str) : bg (pA bt m l) n = if n = m then l else bg bt n := by
  unfold bg
  rw [vA_put]
  by_cases e : n = m
  · rw [if_pos e, if_pos e]; rfl
  · rw [if_neg e, if_neg e]
theorem bNew_sub (bt : BTb) (last : Option Str) (m n x : Str) (h : x ∈ bg bt n) : x ∈ bg (pA bt m (bNew bt last m)) n := by
  rw [bg_pA]
  by_cases e : n = m
  · subst e
    rw [if_pos rfl]
    cases last with
    | none => exact h
    | some l => exact List.mem_append_left _ h
  · rw [if_neg e]; exact h
theorem bRow_sub : ∀ (rw : List Str) (last : Option Str) (bt : BTb) (n x : Str), x ∈ bg bt n → x ∈ bg (bRow rw last bt) n
  | [], _, _, _, _, h => h
  | m :: r, last, bt, n, x, h => bRow_sub r (some m) _ n x (bNew_sub bt last m n x h)
def Adj (b n : Str) (rw : List Str) : Prop := ∃ l1 l2, rw = l1 ++ b :: n :: l2
theorem Adj.cons {b n m : Str} {rw : List Str} : Adj b n (m :: rw) ↔ (b = m ∧ rw.head? = some n) ∨ Adj b n rw := by
  constructor
  · rintro ⟨l1, l2, e⟩
    cases l1 with
    | nil => rw [List.nil_append, List.cons.injEq] at e; exact .inl ⟨e.1.symm, by rw [e.2]; rfl⟩
    | cons y l1 => rw [List.cons_append, List.cons.injEq] at e; exact .inr ⟨l1, l2, e.2⟩
  · rintro (⟨rfl, h⟩ | ⟨l1, l2, rfl⟩)
    · cases rw with
      | nil => cases h
      | cons y r => cases h; exact ⟨[], r, rfl⟩
    · exact ⟨m :: l1, l2, rfl⟩
theorem bRow_adj : ∀ (rw : List Str) (last : Option Str) (bt : BTb) (b n : Str), (last = some b ∧ rw.head? = some n) ∨ Adj b n rw → b ∈ bg (bRow rw last bt) n
  | [], last, bt, b, n, h => by
    rcases h with ⟨_, h⟩ | ⟨l1, l2, h⟩
    · cases h
    · simp at h
  | m :: r, last, bt, b, n, h => by
    show b ∈ bg (bRow r (some m) (pA bt m (bNew bt last m))) n
    rcases h with ⟨rfl, h⟩ | h
    · cases h
      refine bRow_sub r (some m) _ m b ?_
      rw [bg_pA, if_pos rfl]
      exact List.mem_append_right _ (by simp)
    · rw [Adj.cons] at h
      rcases h with ⟨rfl, h⟩ | h
      · exact bRow_adj r (some b) _ b n (.inl ⟨rfl, h⟩)
      · exact bRow_adj r (some m) _ b n (.inr h)
theorem fold_sub : ∀ (ps : List Pe) (bt : BTb) (n x : Str), x ∈ bg bt n → x ∈ bg (ps.foldl (fun bt p => bRow p.rw none bt) bt) n
  | [], _, _, _, h => h
  | p :: ps, bt, n, x, h => fold_sub ps _ n x (bRow_sub p.rw none bt n x h)
theorem fold_adj : ∀ (ps : List Pe) (bt : BTb) (b n : Str) (q : Pe), q ∈ ps → Adj b n q.rw → b ∈ bg (ps.foldl (fun bt p => bRow p.rw none bt) bt) n
  | [], _, _, _, _, h, _ => nomatch h
  | p :: ps, bt, b, n, q, h, a => by
    rcases List.mem_cons.mp h with e | h
    · subst e
      exact fold_sub ps _ n b (bRow_adj q.rw none bt b n (.inr a))
    · exact fold_adj ps _ b n q h a
theorem befW_adj {ps : List Pe} {b n : Str} {q : Pe} (hq : q ∈ ps) (a : Adj b n q.rw) : b ∈ bg (befW ps) n := fold_adj ps [] b n q hq a
theorem bRow_only : ∀ (rw : List Str) (last : Option Str) (bt : BTb) (b n : Str), b ∈ bg (bRow rw last bt) n → b ∈ bg bt n ∨ (last = some b ∧ rw.head? = some n) ∨ Adj b n rw
  | [], last, bt, b, n, h => .inl h
  | m :: r, last, bt, b, n, h => by
    have h : b ∈ bg (bRow r (some m) (pA bt m (bNew bt last m))) n := h
    rcases bRow_only r (some m) _ b n h with h | ⟨h1, h2⟩ | h
    · rw [bg_pA] at h
      by_cases e : n = m
      · subst e
        rw [if_pos rfl] at h
        cases last with
        | none => exact .inl h
        | some l =>
          rcases List.mem_append.mp h with h | h
          · exact .inl h
          · have : b = l := by simpa using h
            subst this
            exact .inr (.inl ⟨rfl, rfl⟩)
      · rw [if_neg e] at h; exact .inl h
    · cases h1
      exact .inr (.inr (Adj.cons.mpr (.inl ⟨rfl, h2⟩)))
    · exact .inr (.inr (Adj.cons.mpr (.inr h)))
theorem fold_only : ∀ (ps : List Pe) (bt : BTb) (b n : Str), b ∈ bg (ps.foldl (fun bt p => bRow p.rw none bt) bt) n → b ∈ bg bt n ∨ ∃ q ∈ ps, Adj b n q.rw
  | [], _, _, _, h => .inl h
  | p :: ps, bt, b, n, h => by
    rcases fold_only ps _ b n h with h | ⟨q, hq, a⟩
    · rcases bRow_only p.rw none bt b n h with h | ⟨h1, _⟩ | h
      · exact .inl h
      · cases h1
      · exact .inr ⟨p, List.mem_cons_self .., h⟩
    · exact .inr ⟨q, List.mem_cons_of_mem _ hq, a⟩
theorem befW_only {ps : List Pe} {b n : Str} (h : b ∈ bg (befW ps) n) : ∃ q ∈ ps, Adj b n q.rw := by
  rcases fold_only ps [] b n h with h | h
  · rw [bg_nil] at h; cases h
  · exact h
theorem prevS_adj {rw : List Str} {n b : Str} (hn : n ∈ rw) (h : prevS rw n = some b) : Adj b n rw := by
  unfold prevS at h
  by_cases e : rw.idxOf n = 0
  · rw [if_pos e] at h; cases h
  · rw [if_neg e] at h
    obtain ⟨hl, hb⟩ := List.getElem?_eq_some_iff.mp h
    have hn : rw.idxOf n < rw.length := List.idxOf_lt_length_iff.mpr hn
    · refine ⟨rw.take (rw.idxOf n - 1), rw.drop (rw.idxOf n + 1), ?_⟩
      have e1 : rw[rw.idxOf n] = n := List.getElem_idxOf hn
      have e2 : rw.drop (rw.idxOf n) = n :: rw.drop (rw.idxOf n + 1) := by rw [List.drop_eq_getElem_cons hn, e1]
      have e3 : rw.drop (rw.idxOf n - 1) = b :: rw.drop (rw.idxOf n) := by
        rw [List.drop_eq_getElem_cons hl, hb, Nat.sub_add_cancel (by omega)]
      rw [← e2, ← e3, List.take_append_drop]
def Along (rk : Str → Nat) (ps : List Pe) : Prop := ∀ q ∈ ps, ∀ b n, Adj b n q.rw → rk b < rk n
theorem min_of (rk : Str → Nat) : ∀ (l : List Str), l ≠ [] → ∃ n ∈ l, ∀ m ∈ l, rk n ≤ rk m
  | [], h => absurd rfl h
  | [x], _ => ⟨x, by simp, fun m hm => by have : m = x := by simpa using hm
                                          rw [this]; exact Nat.le_refl _⟩
  | x :: y :: r, _ => by
    obtain ⟨n, h1, h2⟩ := min_of rk (y :: r) (by simp)
    by_cases c : rk x ≤ rk n
    · exact ⟨x, by simp, fun m hm => by
        rcases List.mem_cons.mp hm with rfl | hm
        · exact Nat.le_refl _
        · exact Nat.le_trans c (h2 m hm)⟩
    · exact ⟨n, List.mem_cons_of_mem _ h1, fun m hm => by
        rcases List.mem_cons.mp hm with rfl | hm
        · omega
        · exact h2 m hm⟩
theorem rdy_some {rk : Str → Nat} {ps : List Pe} (ha : Along rk ps) {left : List Str} (h : left ≠ []) : rdy (befW ps) left ≠ [] := by
  obtain ⟨n, h1, h2⟩ := min_of rk left h
  intro e
  have : n ∈ rdy (befW ps) left := by
    refine List.mem_filter.mpr ⟨h1, ?_⟩
    cases c : (bg (befW ps) n).any fun o => decide (o ∈ left) with
    | false => rfl
    | true =>
      obtain ⟨o, ho, hl⟩ := List.any_eq_true.mp c
      obtain ⟨q, hq, a⟩ := befW_only ho
      have := ha q hq o n a
      have := h2 o (of_decide_eq_true hl)
      omega
  rw [e] at this
  cases this
theorem ordN_all {rk : Str → Nat} {ps : List Pe} (ha : Along rk ps) : ∀ (k : Nat) (found left : List Str), left.length = k → (ordN (befW ps) k found left).2 = []
  | 0, found, left, h => List.length_eq_zero_iff.mp h
  | k + 1, found, left, h => by
    show (match rdy (befW ps) left with | [] => (found, left) | r :: _ => ordN (befW ps) k (found ++ [r]) (left.erase r)).2 = []
    cases hr : rdy (befW ps) left with
    | nil => exact absurd hr (rdy_some ha (fun e => by rw [e] at h; cases h))
    | cons r t =>
      refine ordN_all ha k _ _ ?_
      rw [List.length_erase_of_mem (rdy_sub hr)]
      omega
theorem ordW_all {rk : Str → Nat} {ps : List Pe} (ha : Along rk ps) (names : List Str) : (ordW names ps).2 = [] := ordN_all ha _ _ _ rfl
structure OrdI (ps : List Pe) (names found left : List Str) : Prop where
  pm : (found ++ left).Perm names
  so : ∀ l1 n l2, found = l1 ++ n :: l2 → ∀ b, b ∈ names → b ∈ bg (befW ps) n → b ∈ l1
theorem ordN_ok {ps : List Pe} {names : List Str} : ∀ (k : Nat) (found left : List Str), names.Nodup → OrdI ps names found left → OrdI ps names (ordN (befW ps) k found left).1 (ordN (befW ps) k found left).2
  | 0, _, _, _, h => h
  | k + 1, found, left, nd, h => by
    show OrdI ps names (match rdy (befW ps) left with | [] => (found, left) | r :: _ => ordN (befW ps) k (found ++ [r]) (left.erase r)).1 (match rdy (befW ps) left with | [] => (found, left) | r :: _ => ordN (befW ps) k (found ++ [r]) (left.erase r)).2
    cases hr : rdy (befW ps) left with
    | nil => exact h
    | cons r t =>
      refine ordN_ok k _ _ nd ⟨?_, ?_⟩
      · have h1 := rdy_sub hr
        refine List.Perm.trans ?_ h.pm
        rw [List.append_assoc]
        exact List.Perm.append_left _ (List.perm_cons_erase h1).symm
      · intro l1 n l2 e b hb hg
        rcases List.eq_nil_or_concat l2 with rfl | ⟨l3, z, rfl⟩
        · have e1 : found = l1 ∧ r = n := by
            have := List.append_inj' e rfl
            exact ⟨this.1, by simpa using this.2⟩
          obtain ⟨rfl, rfl⟩ := e1
          have h2 : r ∈ rdy (befW ps) left := by rw [hr]; simp
          have h3 := (List.mem_filter.mp h2).2
          have h4 : b ∉ left := fun hl => by
            have : ((bg (befW ps) r).any fun o => decide (o ∈ left)) = true := List.any_eq_true.mpr ⟨b, hg, decide_eq_true hl⟩
            rw [this] at h3
            cases h3
          have h5 := h.pm.mem_iff.mpr hb
          rcases List.mem_append.mp h5 with h5 | h5
          · exact h5
          · exact absurd h5 h4
        · have e1 : found = l1 ++ n :: l3 := by
            rw [List.concat_eq_append, show l1 ++ n :: (l3 ++ [z]) = (l1 ++ n :: l3) ++ [z] by simp] at e
            exact (List.append_inj' e rfl).1
          exact h.so l1 n l3 e1 b hb hg
theorem ordW_ok (ps : List Pe) {names : List Str} (nd : names.Nodup) : OrdI ps names (ordW names ps).1 (ordW names ps).2 :=
  ordN_ok _ _ _ nd ⟨by simp, fun l1 n l2 e => by cases l1 <;> cases e⟩
structure DPre (ms : List Mt) (ps : List Pe) (tab : Tab) : Prop where
  rl : (ps.map (fun p => p.rw.length)).sum ≤ 1000
  pl : ps.length ≤ 1000
  ml : ms.length ≤ 1000
  mp : ∀ q ∈ ps, ∀ n ∈ q.rw, ∃ F, vA tab (q.nm, n) = some F ∧ Rz F
  nd : (ms.map (·.nm)).Nodup
  pd : (ps.map (·.nm)).Nodup
  op : ∀ m ∈ ms, 0 ≤ m.op ∧ 0 ≤ m.ln
  lv : ∀ q ∈ ps, 0 ≤ q.lv
  kn : ∀ q ∈ ps, ∀ n ∈ q.rw, n ∈ ms.map (·.nm)
def mkDy (ms : List Mt) (ps : List Pe) (tab : Tab) : Dy := ⟨ms, ps, tab, (ordW (ms.map (·.nm)) ps).1⟩
theorem DPre.ok {ms : List Mt} {ps : List Pe} {tab : Tab} (h : DPre ms ps tab) (hl : (ordW (ms.map (·.nm)) ps).2 = []) : DOk (mkDy ms ps tab) := by
  have o := ordW_ok ps h.nd
  have pm := o.pm
  rw [hl, List.append_nil] at pm
  have len := pm.length_eq
  rw [List.length_map] at len
  refine ⟨fun q hq => ?_, h.pl, h.ml, Nat.le_trans (Nat.le_of_eq len) h.ml, h.mp, h.nd, h.pd, h.op, h.lv, fun n => pm.mem_iff, pm.nodup_iff.mpr h.nd, ?_⟩
  · have : ∀ (l : List Pe), q ∈ l → q.rw.length ≤ (l.map (fun p => p.rw.length)).sum := by
      intro l
      induction l with
      | nil => intro h; cases h
      | cons p r ih =>
        intro h
        rw [List.map_cons, List.sum_cons]
        rcases List.mem_cons.mp h with rfl | h
        · omega
        · have := ih h; omega
    exact Nat.le_trans (this ps hq) h.rl
  · intro l1 n l2 e q hq hn b hb
    have a := prevS_adj (rw := q.rw) (n := n) (b := b) hn hb
    refine o.so l1 n l2 e b ?_ (befW_adj hq a)
    obtain ⟨x, y, e2⟩ := a
    exact h.kn q hq b (by rw [e2]; simp)
theorem mBad_nd {o : Option (List Str)} : ∀ {ms : List Mt} {seen : List Str}, mBad o seen ms = none → (ms.map (·.nm)).Nodup ∧ (∀ m ∈ ms, m.nm ∉ seen) ∧ ∀ m ∈ ms, inO o m.pl = true
  | [], _, _ => ⟨by simp, fun _ h => (nomatch h), fun _ h => (nomatch h)⟩
  | m :: r, seen, h => by
    have h : (if m.nm ∈ seen then some m.nm else if inO o m.pl = true then mBad o (seen ++ [m.nm]) r else some m.pl) = none := h
    by_cases c : m.nm ∈ seen
    · rw [if_pos c] at h; cases h
    · rw [if_neg c] at h
      by_cases c2 : inO o m.pl = true
      · rw [if_pos c2] at h
        obtain ⟨h1, h2, h3⟩ := mBad_nd h
        refine ⟨?_, ?_, ?_⟩
        · rw [List.map_cons, List.nodup_cons]
          refine ⟨fun z => ?_, h1⟩
          obtain ⟨x, hx, e⟩ := List.mem_map.mp z
          exact h2 x hx (by rw [e]; simp)
        · intro x hx
          rcases List.mem_cons.mp hx with rfl | hx
          · exact c
          · exact fun z => h2 x hx (List.mem_append_left _ z)
        · intro x hx
          rcases List.mem_cons.mp hx with rfl | hx
          · exact c2
          · exact h3 x hx
      · rw [if_neg c2] at h; cases h
theorem pBad_nd {o : Option (List Str)} {names : List Str} : ∀ {ps : List Pe} {seen : List Str}, pBad o names seen ps = none → (ps.map (·.nm)).Nodup ∧ (∀ p ∈ ps, p.nm ∉ seen) ∧ (∀ p ∈ ps, inO o p.hm = true) ∧ ∀ p ∈ ps, ∀ n ∈ p.rw, n ∈ names
  | [], _, _ => ⟨by simp, fun _ h => (nomatch h), fun _ h => (nomatch h), fun _ h => (nomatch h)⟩
  | p :: r, seen, h => by
    have h : (if p.nm ∈ seen then some p.nm else if inO o p.hm = true then (match p.rw.find? (fun x => decide (x ∉ names)) with | some x => some x | none => pBad o names (seen ++ [p.nm]) r) else some p.hm) = none := h
    by_cases c : p.nm ∈ seen
    · rw [if_pos c] at h; cases h
    · rw [if_neg c] at h
      by_cases c2 : inO o p.hm = true
      · rw [if_pos c2] at h
        cases f : p.rw.find? (fun x => decide (x ∉ names)) with
        | some x => rw [f] at h; cases h
        | none =>
          rw [f] at h
          obtain ⟨h1, h2, h3, h4⟩ := pBad_nd h
          refine ⟨?_, ?_, ?_, ?_⟩
          · rw [List.map_cons, List.nodup_cons]
            refine ⟨fun z => ?_, h1⟩
            obtain ⟨x, hx, e⟩ := List.mem_map.mp z
            exact h2 x hx (by rw [e]; simp)
          · intro x hx
            rcases List.mem_cons.mp hx with rfl | hx
            · exact c
            · exact fun z => h2 x hx (List.mem_append_left _ z)
          · intro x hx
            rcases List.mem_cons.mp hx with rfl | hx
            · exact c2
            · exact h3 x hx
          · intro x hx
            rcases List.mem_cons.mp hx with rfl | hx
            · intro n hn
              have := List.find?_eq_none.mp f n hn
              simpa using this
            · exact h4 x hx
      · rw [if_neg c2] at h; cases h
theorem legs_mem {ps : List Pe} {l : Str × Str} : l ∈ legsP ps ↔ ∃ q ∈ ps, l.1 = q.nm ∧ l.2 ∈ q.rw := by
  unfold legsP
  rw [List.mem_flatMap]
  constructor
  · rintro ⟨q, hq, h⟩
    obtain ⟨n, hn, rfl⟩ := List.mem_map.mp h
    exact ⟨q, hq, rfl, hn⟩
  · rintro ⟨q, hq, e, h⟩
    exact ⟨q, hq, List.mem_map.mpr ⟨l.2, h, by rw [← e]⟩⟩
theorem legs_len (ps : List Pe) : (legsP ps).length = (ps.map (fun p => p.rw.length)).sum := by
  unfold legsP
  rw [List.length_flatMap]
  congr 1
  exact List.map_congr_left fun p _ => by rw [List.length_map]
def idF : List Rw := [(0, 0, true)]
theorem idF_at (t : Int) : valueAt idF t = t := by simp [idF, RM.valueAt, RM.val, RM.at1]
theorem idF_rz : Rz idF := by
  refine ⟨⟨rfl, Int.le_refl _, rfl⟩, ⟨[(0, 1)], ⟨⟨rfl, fun t _ => ?_⟩, trivial, rfl⟩, ?_⟩, fun t _ => by rw [idF_at, idF_at]⟩
  · unfold der
    rw [idF_at, idF_at]
    show t + 1 - t = 1
    omega
  · have := Gre.last (f := valueAt idF) 0 (0, 1)
    rw [idF_at] at this
    exact this
def plOf (ms : List Mt) (n : Str) : Str := ((vA (byT ms) n).map (·.pl)).getD ""
def stOf (ms : List Mt) (q : Pe) (n : Str) : Str := match prevS q.rw n with
  | none => q.hm
  | some b => plOf ms b
def wayF (clo : Tab) (x y : Str) : List Rw := if x = y then idF else (vA clo (x, y)).getD []
def legF (ms : List Mt) (ps : List Pe) (clo : Tab) (l : Str × Str) : List Rw := match vA (peT ps) l.1 with
  | none => []
  | some q => wayF clo (stOf ms q l.2) (plOf ms l.2)
def tabOf (ls : List (Str × Str)) (f : Str × Str → List Rw) : Tab := ls.foldl (fun t l => pA t l (f l)) []
theorem tabOf_at (f : Str × Str → List Rw) (k : Str × Str) : ∀ (ls : List (Str × Str)) (t : Tab), vA (ls.foldl (fun t l => pA t l (f l)) t) k = if k ∈ ls then some (f k) else vA t k
  | [], t => by simp
  | l :: ls, t => by
    rw [List.foldl_cons, tabOf_at f k ls, vA_put]
    by_cases c : k ∈ ls
    · rw [if_pos c, if_pos (List.mem_cons_of_mem _ c)]
    · rw [if_neg c]
      by_cases e : k = l
      · rw [if_pos e, if_pos (by rw [e]; simp), e]
      · rw [if_neg e, if_neg (by simp [e, c])]
theorem tabOf_vA (f : Str × Str → List Rw) (k : Str × Str) (ls : List (Str × Str)) : vA (tabOf ls f) k = if k ∈ ls then some (f k) else none := tabOf_at f k ls []
inductive DSrc where
  | wy (wps : List Str) (tab clo : Tab)
  | mp (tab : Tab)
def DSrc.pl : DSrc → Option (List Str)
  | .wy wps _ _ => some wps
  | .mp _ => none
def DSrc.tab (ms : List Mt) (ps : List Pe) : DSrc → Tab
  | .wy _ _ clo => tabOf (legsP ps) (legF ms ps clo)
  | .mp t => tabOf (legsP ps) fun l => (vA t l).getD []
def DSrc.Ok (ms : List Mt) (ps : List Pe) : DSrc → Prop
  | .wy wps _ clo => (∀ x y F, vA clo (x, y) = some F → Rz F) ∧ ∀ q ∈ ps, ∀ n ∈ q.rw, stOf ms q n ≠ plOf ms n → (vA clo (stOf ms q n, plOf ms n)).isSome = true
  | .mp t => ∀ q ∈ ps, ∀ n ∈ q.rw, ∃ F, vA t (q.nm, n) = some F ∧ Rz F
theorem wayF_rz {clo : Tab} {x y : Str} (h : ∀ x y F, vA clo (x, y) = some F → Rz F) (k : x ≠ y → (vA clo (x, y)).isSome = true) : Rz (wayF clo x y) := by
  unfold wayF
  by_cases e : x = y
  · rw [if_pos e]; exact idF_rz
  · rw [if_neg e]
    cases v : vA clo (x, y) with
    | none => rw [v] at k; cases k e
    | some F => exact h x y F v
theorem DSrc.rz {ms : List Mt} {ps : List Pe} {o : DSrc} (pd : (ps.map (·.nm)).Nodup) (h : o.Ok ms ps) : ∀ q ∈ ps, ∀ n ∈ q.rw, ∃ F, vA (o.tab ms ps) (q.nm, n) = some F ∧ Rz F := by
  intro q hq n hn
  have hl : (q.nm, n) ∈ legsP ps := legs_mem.mpr ⟨q, hq, rfl, hn⟩
  cases o with
  | wy wps tab clo =>
    refine ⟨legF ms ps clo (q.nm, n), ?_, ?_⟩
    · show vA (tabOf (legsP ps) (legF ms ps clo)) (q.nm, n) = _
      rw [tabOf_vA, if_pos hl]
    · unfold legF
      dsimp only
      rw [nd_pe pd hq]
      exact wayF_rz h.1 (h.2 q hq n hn)
  | mp t =>
    obtain ⟨F, h1, h2⟩ := h q hq n hn
    refine ⟨F, ?_, h2⟩
    show vA (tabOf (legsP ps) fun l => (vA t l).getD []) (q.nm, n) = _
    rw [tabOf_vA, if_pos hl, h1]
    rfl
theorem plOf_in {ms : List Mt} {wps : List Str} (nd : (ms.map (·.nm)).Nodup) (h : ∀ m ∈ ms, inO (some wps) m.pl = true) {n : Str} (hn : n ∈ ms.map (·.nm)) : plOf ms n ∈ wps ∧ (vA (byT ms) n).isSome = true := by
  obtain ⟨m, hm, rfl⟩ := List.mem_map.mp hn
  have v := nd_at nd hm
  refine ⟨?_, by rw [v]; rfl⟩
  unfold plOf
  rw [v]
  exact of_decide_eq_true (h m hm)
instance (priority := 50) {d : Dt} {xs : List Dt} {R : Dt → Prop} [h : SeqC d xs] : Wk (dLen [d] R) (R (.int xs.length)) := ⟨fun q => by
  rcases h.h with e | e
  · subst e; exact l_lenL q
  · subst e; exact l_lenT q⟩
instance (priority := 50) {d : Dt} {xs : List Dt} {R : Dt → Prop} [h : SeqC d xs] : Wk (dTuple [d] R) (R (.tup xs)) := ⟨fun q => by
  rcases h.h with e | e
  · subst e; exact l_tupleL q
  · subst e; exact l_tupleT q⟩
instance (priority := 50) {d : Dt} {xs : List Dt} {Q : List Dt → Prop} [h : SeqC d xs] : Wk (SeqQ d Q) (Q xs) := ⟨fun q => by
  rcases h.h with e | e
  · subst e; exact ⟨_, .lst xs, q⟩
  · subst e; exact ⟨_, .tup xs, q⟩⟩
end LW
namespace LW
open PySem PySem.Spec L2 DL PySem.NumText
open RM PW
abbrev Slt := Int × List Int
abbrev Tdt := List ((Str × Str) × Slt)
structure Raw where
  pl : List Str
  td : Tdt
  mt : List Mt
  pe : List Pe
  od : List Str
  ex : List ((Str × Str) × Int)
structure TdB (ps : List Str) (td : Tdt) : Prop where
  nd : (td.map (·.1)).Nodup
  ks : ∀ e ∈ td, e.1.1 ∈ ps ∧ e.1.2 ∈ ps ∧ e.1.1 ≠ e.1.2
  sl : ∀ e ∈ td, Slo e.2.1 e.2.2 ∧ e.2.1 * ((e.2.2.length : Int) - 1) ≤ 4000
theorem TdB.nil (ps : List Str) : TdB ps [] := ⟨by simp, fun e h => (nomatch h), fun e h => (nomatch h)⟩
theorem TdB.put {ps : List Str} {td : Tdt} (h : TdB ps td) {s e : Str} {w : Slt} (hs : s ∈ ps) (he : e ∈ ps) (n : s ≠ e) (hw : Slo w.1 w.2 ∧ w.1 * ((w.2.length : Int) - 1) ≤ 4000) : TdB ps (pA td (s, e) w) :=
  ⟨pA_nodup h.nd _ _, fun x hx => (pA_mem hx).elim (h.ks x) (fun z => by rw [z]; exact ⟨hs, he, n⟩), fun x hx => (pA_mem hx).elim (h.sl x) (fun z => by rw [z]; exact hw)⟩
theorem TdB.len {ps : List Str} {td : Tdt} (h : TdB ps td) (hl : ps.length ≤ 6) : td.length ≤ 36 := by
  have h1 := sub_lenG (l := td.map (·.1)) (m := ps.flatMap fun p => ps.map fun q => (p, q)) h.nd (fun k hk => by
    obtain ⟨e, he, rfl⟩ := List.mem_map.mp hk
    obtain ⟨k1, k2, _⟩ := h.ks e he
    exact List.mem_flatMap.mpr ⟨e.1.1, k1, List.mem_map.mpr ⟨e.1.2, k2, rfl⟩⟩)
  have h2 : (ps.flatMap fun p => ps.map fun q => (p, q)).length = ps.length * ps.length := by
    have g : ∀ l : List Str, (l.flatMap fun p => ps.map fun q => (p, q)).length = l.length * ps.length := by
      intro l
      induction l with
      | nil => simp
      | cons x l ih => rw [List.flatMap_cons, List.length_append, ih, List.length_map, List.length_cons, Nat.succ_mul, Nat.add_comm]
    exact g ps
  have h3 : ps.length * ps.length ≤ 6 * 6 := Nat.mul_le_mul hl hl
  rw [List.length_map] at h1
  omega
def nx (n k : Nat) : Nat := (k + 1) % n
def Near (ps : List Str) (td : Tdt) (k : Nat) : Prop := ∀ i, i < k → 2 ≤ ps.length → ∀ x y, ps[i]? = some x → ps[nx ps.length i]? = some y → (vA td (x, y)).isSome = true
structure TdOk (ps : List Str) (td : Tdt) : Prop where
  b : TdB ps td
  n : Near ps td ps.length
theorem Near.put {ps : List Str} {td : Tdt} {k : Nat} (h : Near ps td k) (a : Str × Str) (w : Slt) : Near ps (pA td a w) k := fun i hi h2 x y hx hy => by
  rw [vA_put]
  split
  · rfl
  · exact h i hi h2 x y hx hy
structure PeB (ps od : List Str) (p : Pe) : Prop where
  nm : NmS p.nm
  hm : p.hm ∈ ps
  lv : 0 ≤ p.lv ∧ p.lv ≤ 2000
  rw : p.rw.Sublist od
structure MtB (ps : List Str) (m : Mt) : Prop where
  nm : NmS m.nm
  pl : m.pl ∈ ps
  op : 0 ≤ m.op ∧ m.op ≤ 2880
  la : m.op ≤ m.la ∧ m.la ≤ 2880
  ln : 0 ≤ m.ln ∧ m.ln ≤ 600
structure RawOk (r : Raw) : Prop where
  pl : Nms r.pl ∧ 1 ≤ r.pl.length ∧ r.pl.length ≤ 3
  td : TdOk r.pl r.td
  od : Nms r.od ∧ r.od.length ≤ 4
  mt : (∀ m ∈ r.mt, MtB r.pl m) ∧ (r.mt.map (·.nm)).Perm r.od
  pe : (∀ p ∈ r.pe, PeB r.pl r.od p) ∧ (r.pe.map (·.nm)).Nodup ∧ r.pe.length ≤ 4
  ex : r.ex.length ≤ 1000
def tdT (td : Tdt) : FT Str := fun p q => (vA td (p, q)).map fun w => sv w.1 w.2
def rideW (r : Raw) (x y : Str) (t : Int) : Int := (bfN (tdT r.td) (r.td.map (·.1)) r.pl.length (bf0 x t) y).getD 0
theorem TdB.at {ps : List Str} {td : Tdt} (h : TdB ps td) {k : Str × Str} {w : Slt} (e : vA td k = some w) : Slo w.1 w.2 ∧ w.1 * ((w.2.length : Int) - 1) ≤ 4000 := h.sl _ (vA_mem e)
theorem TdB.tf {ps : List Str} {td : Tdt} (h : TdB ps td) : TF (tdT td) := by
  constructor
  · intro p q f e
    unfold tdT at e
    cases v : vA td (p, q) with
    | none => rw [v] at e; cases e
    | some w =>
      rw [v] at e; cases e
      exact ris_of (h.at v).1.right
  · intro p
    unfold tdT
    cases v : vA td (p, p) with
    | none => rfl
    | some w => exact absurd rfl (h.ks _ (vA_mem v)).2.2
theorem TdB.inp {ps : List Str} {td : Tdt} (h : TdB ps td) : InP ps (tdT td) := by
  intro p q f e
  unfold tdT at e
  cases v : vA td (p, q) with
  | none => rw [v] at e; cases e
  | some w => exact ⟨(h.ks _ (vA_mem v)).1, (h.ks _ (vA_mem v)).2.1⟩
theorem td_hes {td : Tdt} : ∀ r q f, tdT td r q = some f → (r, q) ∈ td.map (·.1) := by
  intro r q f e
  unfold tdT at e
  cases v : vA td (r, q) with
  | none => rw [v] at e; cases e
  | some w => exact List.mem_map.mpr ⟨_, vA_mem v, rfl⟩
def TdTab (td : Tdt) (tab : Tab) : Prop := ∀ k, match vA td k, vA tab k with
  | none, none => True
  | some w, some F => Rz F ∧ ∀ t, 0 ≤ t → valueAt F t = sv w.1 w.2 t
  | _, _ => False
theorem TdTab.nil : TdTab [] [] := fun k => trivial
theorem TdTab.put {td : Tdt} {tab : Tab} (h : TdTab td tab) {k : Str × Str} {w : Slt} {F : List Rw} (hF : Rz F ∧ ∀ t, 0 ≤ t → valueAt F t = sv w.1 w.2 t) : TdTab (pA td k w) (pA tab k F) := fun j => by
  rw [vA_put, vA_put]
  by_cases e : j = k
  · rw [if_pos e, if_pos e]; exact hF
  · rw [if_neg e, if_neg e]; exact h j
theorem TdTab.arr {td : Tdt} {tab : Tab} (h : TdTab td tab) {p q : Str} {t v : Int} : Arr (tf tab) p q t v ↔ Arr (tdT td) p q t v := by
  have hk := h (p, q)
  unfold Arr tf tdT
  cases e1 : vA td (p, q) with
  | none =>
    cases e2 : vA tab (p, q) with
    | none => simp
    | some F => rw [e1, e2] at hk; exact hk.elim
  | some w =>
    cases e2 : vA tab (p, q) with
    | none => rw [e1, e2] at hk; exact hk.elim
    | some F =>
      rw [e1, e2] at hk
      constructor
      · rintro ⟨h0, f, e, hv⟩
        cases e
        exact ⟨h0, _, rfl, by show sv w.1 w.2 t ≤ v; rw [← hk.2 t h0]; exact hv⟩
      · rintro ⟨h0, f, e, hv⟩
        cases e
        exact ⟨h0, _, rfl, by show RM.valueAt F t ≤ v; rw [hk.2 t h0]; exact hv⟩
theorem TdTab.tf {ps : List Str} {td : Tdt} {tab : Tab} (h : TdTab td tab) (b : TdB ps td) : TF (LW.tf tab) ∧ InP ps (LW.tf tab) := by
  have key : ∀ p q f, LW.tf tab p q = some f → ∃ w F, vA td (p, q) = some w ∧ f = valueAt F ∧ Rz F := by
    intro p q f e
    have hk := h (p, q)
    unfold LW.tf at e
    cases e2 : vA tab (p, q) with
    | none => rw [e2] at e; cases e
    | some F =>
      rw [e2] at e hk
      cases e
      cases e1 : vA td (p, q) with
      | none => rw [e1] at hk; exact hk.elim
      | some w => rw [e1] at hk; exact ⟨w, F, rfl, rfl, hk.1⟩
  refine ⟨⟨fun e => ?_, fun p => ?_⟩, fun e => ?_⟩
  · obtain ⟨w, F, _, rfl, z⟩ := key _ _ _ e
    exact z.ris
  · cases e : LW.tf tab p p with
    | none => rfl
    | some f =>
      obtain ⟨w, F, e1, _, _⟩ := key _ _ _ e
      exact absurd rfl (b.ks _ (vA_mem e1)).2.2
  · obtain ⟨w, F, e1, _, _⟩ := key _ _ _ e
    exact ⟨(b.ks _ (vA_mem e1)).1, (b.ks _ (vA_mem e1)).2.1⟩
theorem wlk_congr {E E' : AR Str} (e : ∀ {p q t v}, E p q t v ↔ E' p q t v) {p q : Str} {t v : Int} (h : Wlk E p t q v) : Wlk E' p t q v := by
  induction h with
  | nil a b => exact .nil a b
  | snoc _ k ih => exact .snoc ih (e.mp k)
theorem clo_ride {r : Raw} (hr : RawOk r) {tab clo : Tab} (ht : TdTab r.td tab) (hc : Clo r.pl tab clo) {x y : Str} (hx : x ∈ r.pl) (n : x ≠ y) {t : Int} (h0 : 0 ≤ t) :
    bfN (tdT r.td) (r.td.map (·.1)) r.pl.length (bf0 x t) y = (vA clo (x, y)).map fun F => RM.valueAt F t := by
  obtain ⟨g1, g2⟩ := ht.tf hr.td.b
  rw [bf_fw hr.td.b.tf hr.td.b.inp td_hes hx n h0]
  have e := hc.2 x y
  have k : ∀ v, Arr (fw r.pl (tdT r.td)) x y t v ↔ Arr (fw r.pl (tf tab)) x y t v := fun v =>
    ((fw_arr hr.td.b.tf hr.td.b.inp n).trans ⟨wlk_congr fun {p q t v} => ht.arr.symm, wlk_congr fun {p q t v} => ht.arr⟩).trans (fw_arr g1 g2 n).symm
  cases e1 : fw r.pl (tdT r.td) x y with
  | none =>
    cases e2 : vA clo (x, y) with
    | none => rfl
    | some F =>
      rw [e2] at e
      obtain ⟨f, ef, vf⟩ := EqM.some e
      obtain ⟨_, f', ef', _⟩ := (k (f t)).mpr ⟨h0, f, ef, Int.le_refl _⟩
      rw [e1] at ef'; cases ef'
  | some f =>
    obtain ⟨_, g, eg, _⟩ := (k (f t)).mp ⟨h0, f, e1, Int.le_refl _⟩
    cases e2 : vA clo (x, y) with
    | none => rw [e2] at e; rw [EqM.none e] at eg; cases eg
    | some F =>
      rw [e2] at e
      obtain ⟨g', eg', vg⟩ := EqM.some e
      rw [eg] at eg'; cases eg'
      simp only [Option.map_some, Option.some.injEq]
      rw [vg t h0]
      refine le_eq fun v => ⟨fun hv => ?_, fun hv => ?_⟩
      · obtain ⟨_, f', ef', hv'⟩ := (k v).mp ⟨h0, f, e1, hv⟩
        rw [eg] at ef'; cases ef'; exact hv'
      · obtain ⟨_, f', ef', hv'⟩ := (k v).mpr ⟨h0, g, eg, hv⟩
        rw [e1] at ef'; cases ef'; exact hv'
theorem near_wlk {r : Raw} (hr : RawOk r) {i : Nat} {x : Str} (hx : r.pl[i]? = some x) {t : Int} (h0 : 0 ≤ t) (h2 : 2 ≤ r.pl.length) : ∀ m y, r.pl[(i + m) % r.pl.length]? = some y → ∃ v, Wlk (Arr (tdT r.td)) x t y v
  | 0, y, hy => by
    have hi := (List.getElem?_eq_some_iff.mp hx).1
    rw [Nat.add_zero, Nat.mod_eq_of_lt hi, hx] at hy
    cases hy
    exact ⟨t, .nil h0 (Int.le_refl _)⟩
  | m + 1, y, hy => by
    have hl : (i + m) % r.pl.length < r.pl.length := Nat.mod_lt _ (by omega)
    obtain ⟨v, hv⟩ := near_wlk hr hx h0 h2 m r.pl[(i + m) % r.pl.length] (by simp)
    have e : nx r.pl.length ((i + m) % r.pl.length) = (i + (m + 1)) % r.pl.length := by
      unfold nx
      rw [Nat.mod_add_mod]
      rfl
    have hn := hr.td.n _ hl h2 (r.pl[(i + m) % r.pl.length]) y (by simp) (by rw [e]; exact hy)
    obtain ⟨w, hw⟩ := Option.isSome_iff_exists.mp hn
    have hT : tdT r.td (r.pl[(i + m) % r.pl.length]) y = some (sv w.1 w.2) := by unfold tdT; rw [hw]; rfl
    have hv0 := wlk_pos hr.td.b.tf hv
    exact ⟨sv w.1 w.2 v, .snoc hv ⟨hv0, _, hT, Int.le_refl _⟩⟩
theorem reach {r : Raw} (hr : RawOk r) {x y : Str} (hx : x ∈ r.pl) (hy : y ∈ r.pl) {t : Int} (h0 : 0 ≤ t) : ∃ v, Wlk (Arr (tdT r.td)) x t y v := by
  obtain ⟨i, hi⟩ := List.getElem?_of_mem hx
  obtain ⟨j, hj⟩ := List.getElem?_of_mem hy
  have li := (List.getElem?_eq_some_iff.mp hi).1
  have lj := (List.getElem?_eq_some_iff.mp hj).1
  by_cases h2 : 2 ≤ r.pl.length
  · refine near_wlk hr hi h0 h2 (j + r.pl.length - i) y ?_
    rw [show i + (j + r.pl.length - i) = j + r.pl.length by omega, Nat.add_mod_right, Nat.mod_eq_of_lt lj]
    exact hj
  · have e : i = j := by omega
    subst e
    rw [hi] at hj
    cases hj
    exact ⟨t, .nil h0 (Int.le_refl _)⟩
theorem ride_way {r : Raw} (hr : RawOk r) {tab clo : Tab} (ht : TdTab r.td tab) (hc : Clo r.pl tab clo) {x y : Str} (hx : x ∈ r.pl) (hy : y ∈ r.pl) {t : Int} (h0 : 0 ≤ t) :
    bfN (tdT r.td) (r.td.map (·.1)) r.pl.length (bf0 x t) y = some (rideW r x y t) ∧ rideW r x y t = valueAt (wayF clo x y) t ∧ (x ≠ y → (vA clo (x, y)).isSome = true) := by
  have hs : ∃ v, bfN (tdT r.td) (r.td.map (·.1)) r.pl.length (bf0 x t) y = some v := by
    obtain ⟨v, hv⟩ := reach hr hx hy h0
    obtain ⟨w, e, _⟩ := (bf_iff hr.td.b.tf hr.td.b.inp td_hes hx h0).mpr hv
    exact ⟨w, e⟩
  obtain ⟨v, hv⟩ := hs
  have e1 : rideW r x y t = v := by unfold rideW; rw [hv]; rfl
  refine ⟨by rw [e1]; exact hv, ?_, ?_⟩
  · rw [e1]
    unfold wayF
    by_cases n : x = y
    · subst n
      rw [bf_self hr.td.b.tf hr.td.b.inp td_hes hx h0] at hv
      rw [if_pos rfl, idF_at]
      exact (Option.some.inj hv).symm
    · rw [if_neg n]
      rw [clo_ride hr ht hc hx n h0] at hv
      cases e2 : vA clo (x, y) with
      | none => rw [e2] at hv; cases hv
      | some F => rw [e2] at hv; exact (Option.some.inj hv).symm
  · intro n
    rw [clo_ride hr ht hc hx n h0] at hv
    cases e2 : vA clo (x, y) with
    | none => rw [e2] at hv; cases hv
    | some F => rfl
def NearK (ps : List Str) (td : Tdt) (k j : Nat) : Prop := nx ps.length k < j → 2 ≤ ps.length → ∀ x y, ps[k]? = some x → ps[nx ps.length k]? = some y → (vA td (x, y)).isSome = true
theorem NearK.put {ps : List Str} {td : Tdt} {k j : Nat} (h : NearK ps td k j) {x y : Str} (hx : ps[k]? = some x) (hy : ps[j]? = some y) (w : Slt) : NearK ps (pA td (x, y) w) k (j + 1) := fun h1 h2 x2 y2 hx2 hy2 => by
  rw [hx] at hx2
  cases hx2
  rw [vA_put]
  by_cases e : (x, y2) = (x, y)
  · rw [if_pos e]; rfl
  · rw [if_neg e]
    rcases Nat.lt_or_ge (nx ps.length k) j with l | l
    · exact h l h2 x y2 hx hy2
    · have : nx ps.length k = j := by omega
      rw [this, hy] at hy2
      cases hy2
      exact absurd rfl e
theorem NearK.skip {ps : List Str} {td : Tdt} {k j : Nat} (h : NearK ps td k j) (n : j ≠ nx ps.length k) : NearK ps td k (j + 1) := fun h1 => h (by omega)
theorem Near.more {ps : List Str} {td : Tdt} {k : Nat} (h : Near ps td k) (g : NearK ps td k ps.length) : Near ps td (k + 1) := fun i hi h2 x y hx hy => by
  rcases Nat.lt_or_ge i k with l | l
  · exact h i l h2 x y hx hy
  · have : i = k := by omega
    subst this
    exact g (Nat.mod_lt _ (by omega)) h2 x y hx hy
theorem ixAny {ds : List Dt} {n : Int} {R : Dt → Prop} (h0 : 0 ≤ n) (h1 : n < ds.length) (r : ∀ d ∈ ds, R d) : dIx (.lst ds) (.int n) R := by
  have hlt : n.toNat < ds.length := by omega
  have := (ix_of (pic := id) (ys := ds) (y := ds[n.toNat]) h0 (by simp) (r _ (List.getElem_mem hlt))).1
  simpa using this
theorem mBad_ok {o : Option (List Str)} : ∀ {ms : List Mt} {seen : List Str}, (ms.map (·.nm)).Nodup → (∀ m ∈ ms, m.nm ∉ seen) → (∀ m ∈ ms, inO o m.pl = true) → mBad o seen ms = none
  | [], _, _, _, _ => rfl
  | m :: r, seen, h1, h2, h3 => by
    show (if m.nm ∈ seen then some m.nm else if inO o m.pl = true then mBad o (seen ++ [m.nm]) r else some m.pl) = none
    rw [if_neg (h2 m (by simp)), if_pos (h3 m (by simp))]
    rw [List.map_cons, List.nodup_cons] at h1
    refine mBad_ok h1.2 (fun x hx z => ?_) (fun x hx => h3 x (List.mem_cons_of_mem _ hx))
    rcases List.mem_append.mp z with z | z
    · exact h2 x (List.mem_cons_of_mem _ hx) z
    · have : x.nm = m.nm := by simpa using z
      exact h1.1 (by rw [← this]; exact List.mem_map.mpr ⟨x, hx, rfl⟩)
theorem pBad_ok {o : Option (List Str)} {names : List Str} : ∀ {ps : List Pe} {seen : List Str}, (ps.map (·.nm)).Nodup → (∀ p ∈ ps, p.nm ∉ seen) → (∀ p ∈ ps, inO o p.hm = true) → (∀ p ∈ ps, ∀ n ∈ p.rw, n ∈ names) → pBad o names seen ps = none
  | [], _, _, _, _, _ => rfl
  | p :: r, seen, h1, h2, h3, h4 => by
    show (if p.nm ∈ seen then some p.nm else if inO o p.hm = true then (match p.rw.find? (fun x => decide (x ∉ names)) with | some x => some x | none => pBad o names (seen ++ [p.nm]) r) else some p.hm) = none
    have f : p.rw.find? (fun x => decide (x ∉ names)) = none := List.find?_eq_none.mpr fun n hn => by simpa using h4 p (by simp) n hn
    rw [if_neg (h2 p (by simp)), if_pos (h3 p (by simp)), f]
    rw [List.map_cons, List.nodup_cons] at h1
    refine pBad_ok h1.2 (fun x hx z => ?_) (fun x hx => h3 x (List.mem_cons_of_mem _ hx)) (fun x hx => h4 x (List.mem_cons_of_mem _ hx))
    rcases List.mem_append.mp z with z | z
    · exact h2 x (List.mem_cons_of_mem _ hx) z
    · have : x.nm = p.nm := by simpa using z
      exact h1.1 (by rw [← this]; exact List.mem_map.mpr ⟨x, hx, rfl⟩)
theorem idx_ne {x b : Str} {l : List Str} (h : x ≠ b) : (x :: l).idxOf b = l.idxOf b + 1 := by
  rw [List.idxOf_cons]
  have : (x == b) = false := by simpa using h
  rw [this]; rfl
theorem sub_rank : ∀ {od : List Str} {b n : Str}, od.Nodup → [b, n].Sublist od → od.idxOf b < od.idxOf n
  | [], b, n, _, h => by cases h
  | x :: od, b, n, nd, h => by
    rw [List.nodup_cons] at nd
    cases h with
    | cons _ h =>
      have hb : b ∈ od := h.subset (by simp)
      have hn : n ∈ od := h.subset (by simp)
      have := sub_rank nd.2 h
      rw [idx_ne (fun e => nd.1 (by rw [e]; exact hb)), idx_ne (fun e => nd.1 (by rw [e]; exact hn))]
      omega
    | cons_cons _ h =>
      have hn : n ∈ od := h.subset (by simp)
      rw [List.idxOf_cons_self, idx_ne (fun e => nd.1 (by rw [e]; exact hn))]
      omega
theorem adj_sub {b n : Str} {rw : List Str} (h : Adj b n rw) : [b, n].Sublist rw := by
  obtain ⟨l1, l2, rfl⟩ := h
  exact ((List.Sublist.refl [b, n]).append (List.nil_sublist l2)).trans (List.sublist_append_right l1 _)
section
variable {r : Raw} (hr : RawOk r)
include hr
theorem RawOk.nd : (r.mt.map (·.nm)).Nodup := hr.mt.2.nodup_iff.mpr hr.od.1.2
theorem RawOk.names {n : Str} : n ∈ r.mt.map (·.nm) ↔ n ∈ r.od := hr.mt.2.mem_iff
theorem RawOk.ml : r.mt.length ≤ 4 := by
  have := hr.mt.2.length_eq
  rw [List.length_map] at this
  have := hr.od.2
  omega
theorem RawOk.mb : mBad (some r.pl) [] r.mt = none := mBad_ok hr.nd (fun _ _ h => (nomatch h)) fun m hm => decide_eq_true (hr.mt.1 m hm).pl
theorem RawOk.pb : pBad (some r.pl) (r.mt.map (·.nm)) [] r.pe = none := pBad_ok hr.pe.2.1 (fun _ _ h => (nomatch h)) (fun p hp => decide_eq_true (hr.pe.1 p hp).hm) fun p hp n hn => hr.names.mpr ((hr.pe.1 p hp).rw.subset hn)
theorem RawOk.along : Along (fun n => r.od.idxOf n) r.pe := fun q hq b n a => sub_rank hr.od.1.2 ((adj_sub a).trans (hr.pe.1 q hq).rw)
theorem RawOk.ord : (ordW (r.mt.map (·.nm)) r.pe).2 = [] := ordW_all hr.along _
theorem RawOk.rl {q : Pe} (hq : q ∈ r.pe) : q.rw.length ≤ 4 := Nat.le_trans (hr.pe.1 q hq).rw.length_le hr.od.2
theorem RawOk.sum : (r.pe.map (fun p => p.rw.length)).sum ≤ 16 := by
  have : ∀ l : List Pe, (∀ q ∈ l, q.rw.length ≤ 4) → (l.map (fun p => p.rw.length)).sum ≤ 4 * l.length := by
    intro l
    induction l with
    | nil => intro _; simp
    | cons p l ih =>
      intro h
      have h1 := ih fun q hq => h q (List.mem_cons_of_mem _ hq)
      have h2 := h p (by simp)
      rw [List.map_cons, List.sum_cons, List.length_cons]
      omega
  have h1 := this r.pe fun q hq => hr.rl hq
  have h2 := hr.pe.2.2
  omega
theorem RawOk.plc {n : Str} (hn : n ∈ r.mt.map (·.nm)) : plOf r.mt n ∈ r.pl := (plOf_in hr.nd (fun m hm => decide_eq_true (hr.mt.1 m hm).pl) hn).1
theorem RawOk.rwn {q : Pe} (hq : q ∈ r.pe) {n : Str} (hn : n ∈ q.rw) : n ∈ r.mt.map (·.nm) := hr.names.mpr ((hr.pe.1 q hq).rw.subset hn)
theorem RawOk.stc {q : Pe} (hq : q ∈ r.pe) {n : Str} (hn : n ∈ q.rw) : stOf r.mt q n ∈ r.pl := by
  unfold stOf
  cases hp : prevS q.rw n with
  | none => exact (hr.pe.1 q hq).hm
  | some b =>
    obtain ⟨x, y, e2⟩ := prevS_adj hn hp
    exact hr.plc (hr.rwn hq (by rw [e2]; simp))
theorem RawOk.src {tab clo : Tab} (ht : TdTab r.td tab) (hc : Clo r.pl tab clo) : (DSrc.wy r.pl tab clo).Ok r.mt r.pe :=
  ⟨fun x y F e => hc.1.at e, fun q hq n hn ne => (ride_way hr ht hc (hr.stc hq hn) (hr.plc (hr.rwn hq hn)) (Int.le_refl 0)).2.2 ne⟩
end
def RawDay (r : Raw) (d : Dy) : Prop := ∃ tab clo, TdTab r.td tab ∧ Clo r.pl tab clo ∧ d = mkDy r.mt r.pe ((DSrc.wy r.pl tab clo).tab r.mt r.pe)
theorem DOk.of_src {ms : List Mt} {ps : List Pe} {o : DSrc} (h : o.Ok ms ps) (h1 : mBad o.pl [] ms = none) (h2 : pBad o.pl (ms.map (·.nm)) [] ps = none) (h3 : (ordW (ms.map (·.nm)) ps).2 = [])
    (l1 : (ps.map (fun p => p.rw.length)).sum ≤ 1000) (l2 : ps.length ≤ 1000) (l3 : ms.length ≤ 1000) (op : ∀ m ∈ ms, 0 ≤ m.op ∧ 0 ≤ m.ln) (lv : ∀ q ∈ ps, 0 ≤ q.lv) : DOk (mkDy ms ps (o.tab ms ps)) :=
  DPre.ok ⟨l1, l2, l3, DSrc.rz (pBad_nd h2).1 h, (mBad_nd h1).1, (pBad_nd h2).1, op, lv, (pBad_nd h2).2.2.2⟩ h3
theorem RawDay.ok {r : Raw} (hr : RawOk r) {d : Dy} (h : RawDay r d) : DOk d := by
  obtain ⟨tab, clo, h1, h2, rfl⟩ := h
  exact DOk.of_src (hr.src h1 h2) hr.mb hr.pb hr.ord (Nat.le_trans hr.sum (by decide)) (Nat.le_trans hr.pe.2.2 (by decide)) (Nat.le_trans hr.ml (by decide)) (fun m hm => ⟨(hr.mt.1 m hm).op.1, (hr.mt.1 m hm).ln.1⟩) (fun q hq => (hr.pe.1 q hq).lv.1)
theorem TdTab.more {dn : Tdt} {e : (Str × Str) × Slt} {l : Tdt} {tab : Tab} (nd : ((dn ++ e :: l).map (·.1)).Nodup) (h : TdTab dn tab) {F : List Rw} (hF : Rz F ∧ ∀ t, 0 ≤ t → RM.valueAt F t = sv e.2.1 e.2.2 t) : TdTab (dn ++ [e]) (pA tab e.1 F) := by
  have hn : vA dn e.1 = none := vA_none.mpr fun hm => by
    rw [List.map_append, List.map_cons] at nd
    exact (List.nodup_append.mp nd).2.2 _ hm _ (by simp) rfl
  have e1 : dn ++ [e] = pA dn e.1 e.2 := (pA_new e.2 hn).symm
  rw [e1]
  exact h.put hF
structure PeOk (p : Pe) : Prop where
  nm : NmS p.nm
  hm : NmS p.hm
  lv : 0 ≤ p.lv ∧ p.lv ≤ 2880
  rw : Nms p.rw
  rl : p.rw.length ≤ 4
theorem nms_sub {ss ts : List Str} (h : Nms ss) (s : ts.Sublist ss) : Nms ts := ⟨fun z hz => h.1 z (s.subset hz), s.nodup h.2⟩
theorem RawOk.peOk {r : Raw} (hr : RawOk r) {q : Pe} (hq : q ∈ r.pe) : PeOk q := by
  have h := hr.pe.1 q hq
  exact ⟨h.nm, hr.pl.1.1 _ h.hm, ⟨h.lv.1, by have := h.lv.2; omega⟩, nms_sub hr.od.1 h.rw, hr.rl hq⟩
end LW
namespace LW
open PySem PySem.Spec L2 DL PySem.NumText
open RM PW
def stf (st : ST) (n : Str) : Int := (vA st n).getD 0
def lnO (d : Dy) (b : Str) : Int := ((vA (byT d.ms) b).map (·.ln)).getD 0
def depF (d : Dy) (s : Str → Int) (q : Pe) (n : Str) : Int := match prevS q.rw n with
  | none => q.lv
  | some b => s b + lnO d b
def arrF (d : Dy) (s : Str → Int) (q : Pe) (n : Str) : Int := RM.valueAt ((vA d.mp (q.nm, n)).getD []) (depF d s q n)
def attQ (d : Dy) (n : Str) : List Pe := d.ps.filter fun q => decide (n ∈ q.rw)
def strF (d : Dy) (s : Str → Int) (n : Str) : Int := (attQ d n).foldl (fun a q => max a (arrF d s q n)) (opW d n)
theorem depF_congr {d : Dy} {s s' : Str → Int} {q : Pe} {n : Str} (h : ∀ b, prevS q.rw n = some b → s b = s' b) : depF d s q n = depF d s' q n := by
  unfold depF
  cases e : prevS q.rw n with
  | none => rfl
  | some b => dsimp only; rw [h b e]
theorem fold_congr {α β : Type} {f g : β → α → β} : ∀ (l : List α) (a : β), (∀ a, ∀ x ∈ l, f a x = g a x) → l.foldl f a = l.foldl g a
  | [], _, _ => rfl
  | x :: l, a, h => by
    rw [List.foldl_cons, List.foldl_cons, h a x (by simp)]
    exact fold_congr l _ fun a y hy => h a y (List.mem_cons_of_mem _ hy)
theorem strF_congr {d : Dy} {s s' : Str → Int} {n : Str} (h : ∀ q ∈ d.ps, n ∈ q.rw → ∀ b, prevS q.rw n = some b → s b = s' b) : strF d s n = strF d s' n := by
  unfold strF
  refine fold_congr _ _ fun a q hq => ?_
  obtain ⟨h1, h2⟩ := List.mem_filter.mp hq
  unfold arrF
  rw [depF_congr (h q h1 (of_decide_eq_true h2))]
theorem DOk.so' {d : Dy} (hd : DOk d) {l1 l2 : List Str} {n : Str} (e : d.sq = l1 ++ n :: l2) {q : Pe} (hq : q ∈ d.ps) (hn : n ∈ q.rw) {b : Str} (hb : prevS q.rw n = some b) : b ∈ l1 := hd.so l1 n l2 e q hq hn b hb
theorem strW_F {d : Dy} (hd : DOk d) (st : ST) (n : Str) : strW d st n = strF d (stf st) n := by
  unfold strW strF attP attQ
  rw [List.foldl_map]
  refine fold_congr _ _ fun a q hq => ?_
  obtain ⟨h1, h2⟩ := List.mem_filter.mp hq
  congr 1
  unfold arrW arrF depW
  rw [nd_pe hd.pd h1]
  rfl
theorem earW_keep {d : Dy} : ∀ (l : List Str) (st : ST) {n : Str}, n ∉ l → vA (earW d l st) n = vA st n
  | [], _, _, _ => rfl
  | m :: l, st, n, h => by
    show vA (earW d l (pA st m (strW d st m))) n = _
    rw [earW_keep l _ (fun z => h (List.mem_cons_of_mem _ z)), vA_put, if_neg (fun z => h (by rw [z]; simp))]
theorem earW_app {d : Dy} (l1 l2 : List Str) (st : ST) : earW d (l1 ++ l2) st = earW d l2 (earW d l1 st) := by
  unfold earW
  rw [List.foldl_append]
theorem eS_sol {d : Dy} (hd : DOk d) {n : Str} (hn : n ∈ d.sq) : eS d n = strF d (eS d) n := by
  obtain ⟨l1, l2, e⟩ := List.append_of_mem hn
  have nd := hd.sd
  rw [e, List.nodup_append] at nd
  obtain ⟨n1, n2, n3⟩ := nd
  rw [List.nodup_cons] at n2
  have e2 : earlyW d = earW d l2 (pA (earW d l1 []) n (strW d (earW d l1 []) n)) := by
    unfold earlyW
    rw [e, earW_app]
    rfl
  have e3 : vA (earlyW d) n = some (strW d (earW d l1 []) n) := by
    rw [e2, earW_keep l2 _ n2.1, vA_put, if_pos rfl]
  have e4 : eS d n = strW d (earW d l1 []) n := by unfold eS; rw [e3]; rfl
  rw [e4, strW_F hd]
  refine strF_congr fun q hq hm b hb => ?_
  have hb1 := hd.so' e hq hm hb
  have hbn : b ≠ n := fun z => by rw [z] at hb1; exact n3 n hb1 n (by simp) rfl
  have hb2 : b ∉ l2 := fun z => n3 b hb1 b (List.mem_cons_of_mem _ z) rfl
  unfold stf eS
  rw [e2, earW_keep l2 _ hb2, vA_put, if_neg hbn]
theorem sol_uniq {d : Dy} (hd : DOk d) {s s' : Str → Int} (h : ∀ n ∈ d.sq, s n = strF d s n) (h' : ∀ n ∈ d.sq, s' n = strF d s' n) : ∀ n ∈ d.sq, s n = s' n := by
  have key : ∀ k (l1 l2 : List Str), l1.length = k → d.sq = l1 ++ l2 → ∀ n ∈ l1, s n = s' n := by
    intro k
    induction k with
    | zero =>
      intro l1 l2 hl e n hn
      rw [List.length_eq_zero_iff.mp hl] at hn
      cases hn
    | succ k ih =>
      intro l1 l2 hl e n hn
      rcases List.eq_nil_or_concat l1 with rfl | ⟨l0, m, rfl⟩
      · cases hn
      · rw [List.concat_eq_append] at *
        have e1 : d.sq = l0 ++ (m :: l2) := by rw [e]; simp
        have h0 := ih l0 (m :: l2) (by simpa using hl) e1
        rcases List.mem_append.mp hn with hn | hn
        · exact h0 n hn
        · have : n = m := by simpa using hn
          subst this
          have hs : n ∈ d.sq := by rw [e]; simp
          rw [h n hs, h' n hs]
          exact strF_congr fun q hq hm b hb => h0 b (hd.so' e1 hq hm hb)
  exact fun n hn => key d.sq.length d.sq [] rfl (by simp) n hn
theorem eS_ge {d : Dy} (hd : DOk d) {n : Str} (hn : n ∈ d.sq) : opW d n ≤ eS d n := by
  rw [eS_sol hd hn]
  exact fold_max_ge _ _ _
theorem opW_at {d : Dy} (hd : DOk d) {m : Mt} (hm : m ∈ d.ms) : opW d m.nm = m.op := by unfold opW; rw [nd_at hd.nd hm]; rfl
theorem eS_pos {d : Dy} (hd : DOk d) {n : Str} (hn : n ∈ d.sq) : 0 ≤ eS d n := by
  obtain ⟨m, hm, rfl⟩ := List.mem_map.mp ((hd.sm n).mp hn)
  have := eS_ge hd hn
  rw [opW_at hd hm] at this
  have := (hd.op m hm).1
  omega
def bfK (q : Pe) (k : Nat) : Option Str := if k = 0 then none else q.rw[k - 1]?
def lnR (x : Raw) (b : Str) : Int := ((vA (byT x.mt) b).map (·.ln)).getD 0
def opR (x : Raw) (b : Str) : Int := ((vA (byT x.mt) b).map (·.op)).getD 0
def minR (x : Raw) (s : Str → Int) (q : Pe) (k : Nat) : Int := match bfK q k with
  | none => q.lv
  | some b => s b + lnR x b
def plcR (x : Raw) (q : Pe) (k : Nat) : Str := match bfK q k with
  | none => q.hm
  | some b => plOf x.mt b
def exR (x : Raw) (p n : Str) : Int := (vA x.ex (p, n)).getD 0
def arrR (x : Raw) (s : Str → Int) (q : Pe) (k : Nat) : Int := rideW x (plcR x q k) (plOf x.mt (q.rw.getD k "")) (minR x s q k) + exR x q.nm (q.rw.getD k "")
def rowR (x : Raw) (s : Str → Int) (n : Str) (q : Pe) (k : Nat) (a : Int) : Int := (List.range k).foldl (fun a k => if q.rw[k]? = some n then max a (arrR x s q k) else a) a
def strR (x : Raw) (s : Str → Int) (n : Str) : Int := x.pe.foldl (fun a q => rowR x s n q q.rw.length a) (opR x n)
def erlP (x : Raw) (dn : List Str) : ST := dn.foldl (fun st n => st ++ [(n, strR x (stf st) n)]) []
theorem erlP_more (x : Raw) (dn : List Str) (n : Str) : erlP x (dn ++ [n]) = erlP x dn ++ [(n, strR x (stf (erlP x dn)) n)] := by
  unfold erlP
  rw [List.foldl_append]
  rfl
theorem erlP_keys (x : Raw) (dn : List Str) : (erlP x dn).map (·.1) = dn := by
  have : ∀ (l : List Str) (st : ST), (l.foldl (fun st n => st ++ [(n, strR x (stf st) n)]) st).map (·.1) = st.map (·.1) ++ l := by
    intro l
    induction l with
    | nil => intro st; simp
    | cons n l ih => intro st; rw [List.foldl_cons, ih]; simp
  exact this dn []
theorem vA_app {α : Type} {l : List (Str × α)} {n m : Str} {v : α} : vA (l ++ [(n, v)]) m = match vA l m with | some w => some w | none => if m = n then some v else none := by
  induction l with
  | nil =>
    rw [List.nil_append, vA_cons, vA_nil]
    by_cases e : m = n
    · rw [if_pos e.symm]; simp [vA, e]
    · rw [if_neg (fun z => e z.symm)]; simp [vA, e]
  | cons p l ih =>
    rw [List.cons_append, vA_cons, vA_cons]
    by_cases e : p.1 = m
    · rw [if_pos e, if_pos e]
    · rw [if_neg e, if_neg e, ih]
theorem idx_at {l : List Str} (nd : l.Nodup) {k : Nat} {n : Str} (h : l[k]? = some n) : l.idxOf n = k ∧ n ∈ l := by
  obtain ⟨hk, e⟩ := List.getElem?_eq_some_iff.mp h
  have hm : n ∈ l := List.mem_of_getElem? h
  refine ⟨?_, hm⟩
  have h1 : l.idxOf n < l.length := List.idxOf_lt_length_iff.mpr hm
  have h2 : l[l.idxOf n] = n := List.getElem_idxOf h1
  exact (List.getElem_inj nd).mp (by rw [h2, e])
theorem bfK_at {q : Pe} (nd : q.rw.Nodup) {k : Nat} {n : Str} (h : q.rw[k]? = some n) : prevS q.rw n = bfK q k := by
  unfold prevS bfK
  rw [(idx_at nd h).1]
theorem rowR_no {x : Raw} {s : Str → Int} {n : Str} {q : Pe} : ∀ (k : Nat) (a : Int), (∀ j, j < k → q.rw[j]? ≠ some n) → rowR x s n q k a = a
  | 0, _, _ => rfl
  | k + 1, a, h => by
    have := rowR_no (x := x) (s := s) k a fun j hj => h j (by omega)
    unfold rowR at this ⊢
    rw [List.range_succ, List.foldl_append, this]
    show (if q.rw[k]? = some n then _ else _) = _
    rw [if_neg (h k (by omega))]
theorem rowR_yes {x : Raw} {s : Str → Int} {n : Str} {q : Pe} (nd : q.rw.Nodup) {i : Nat} (hi : q.rw[i]? = some n) : ∀ (k : Nat) (a : Int), i < k → rowR x s n q k a = max a (arrR x s q i)
  | 0, _, h => by omega
  | k + 1, a, h => by
    have e : rowR x s n q (k + 1) a = if q.rw[k]? = some n then max (rowR x s n q k a) (arrR x s q k) else rowR x s n q k a := by
      unfold rowR
      rw [List.range_succ, List.foldl_append]
      rfl
    rw [e]
    by_cases c : k = i
    · subst c
      rw [if_pos hi, rowR_no k a fun j hj z => by have := (idx_at nd hi).1; rw [(idx_at nd z).1] at this; omega]
    · rw [if_neg (fun z => c (by rw [← (idx_at nd z).1, (idx_at nd hi).1])), rowR_yes nd hi k a (by omega)]
section
variable {x : Raw} (hx : RawOk x) {d : Dy} (hd : RawDay x d)
include hx hd
theorem RawDay.ms : d.ms = x.mt ∧ d.ps = x.pe := by obtain ⟨_, _, _, _, rfl⟩ := hd; exact ⟨rfl, rfl⟩
theorem RawDay.rnd {q : Pe} (hq : q ∈ x.pe) : q.rw.Nodup := (hx.pe.1 q hq).rw.nodup hx.od.1.2
theorem RawDay.leg {q : Pe} (hq : q ∈ x.pe) {n : Str} (hn : n ∈ q.rw) : ∃ F, vA d.mp (q.nm, n) = some F ∧ Rz F ∧ ∀ t, 0 ≤ t → RM.valueAt F t = rideW x (stOf x.mt q n) (plOf x.mt n) t := by
  obtain ⟨tab, clo, h1, h2, rfl⟩ := hd
  have hl : (q.nm, n) ∈ legsP x.pe := legs_mem.mpr ⟨q, hq, rfl, hn⟩
  refine ⟨wayF clo (stOf x.mt q n) (plOf x.mt n), ?_, ?_, fun t ht => ?_⟩
  · show vA (tabOf (legsP x.pe) (legF x.mt x.pe clo)) (q.nm, n) = _
    rw [tabOf_vA, if_pos hl]
    unfold legF
    dsimp only
    rw [nd_pe hx.pe.2.1 hq]
  · exact wayF_rz (hx.src h1 h2).1 ((hx.src h1 h2).2 q hq n hn)
  · exact (ride_way hx h1 h2 (hx.stc hq hn) (hx.plc (hx.rwn hq hn)) ht).2.1.symm
theorem RawDay.dep {s : Str → Int} {q : Pe} (hq : q ∈ x.pe) {k : Nat} {n : Str} (hk : q.rw[k]? = some n) : minR x s q k = depF d s q n ∧ plcR x q k = stOf x.mt q n := by
  have nd := RawDay.rnd hx hd hq
  unfold minR depF plcR stOf lnR lnO
  rw [bfK_at nd hk, (RawDay.ms hx hd).1]
  exact ⟨rfl, rfl⟩
theorem RawDay.arr {s : Str → Int} {q : Pe} (hq : q ∈ x.pe) {k : Nat} {n : Str} (hk : q.rw[k]? = some n) (h0 : 0 ≤ depF d s q n) : arrR x s q k = arrF d s q n + exR x q.nm n := by
  obtain ⟨F, h1, h2, h3⟩ := RawDay.leg hx hd hq (List.mem_of_getElem? hk)
  obtain ⟨e1, e2⟩ := RawDay.dep hx hd hq hk (s := s)
  unfold arrR arrF
  have e3 : q.rw.getD k "" = n := by rw [List.getD_eq_getElem?_getD, hk]; rfl
  rw [h1, e3, e1, e2]
  show _ = RM.valueAt F _ + _
  rw [h3 _ h0]
theorem RawDay.dep0 {s : Str → Int} {q : Pe} (hq : q ∈ x.pe) {n : Str} (hs : ∀ b, prevS q.rw n = some b → 0 ≤ s b) : 0 ≤ depF d s q n := by
  have ho := RawDay.ok hx hd
  unfold depF
  cases e : prevS q.rw n with
  | none => exact ho.lv q (by rw [(RawDay.ms hx hd).2]; exact hq)
  | some b =>
    dsimp only
    have h1 := hs b e
    have h2 : 0 ≤ lnO d b := by
      unfold lnO
      cases v : vA (byT d.ms) b with
      | none => exact Int.le_refl _
      | some m => exact (ho.op m (mt_at v).1).2
    omega
theorem RawDay.str (hex : ∀ p n, exR x p n = 0) {s : Str → Int} {n : Str} (hs : ∀ q ∈ x.pe, n ∈ q.rw → ∀ b, prevS q.rw n = some b → 0 ≤ s b) : strR x s n = strF d s n := by
  obtain ⟨e1, e2⟩ := RawDay.ms hx hd
  unfold strR strF attQ
  rw [e2]
  have eo : opR x n = opW d n := by unfold opR opW; rw [e1]
  rw [eo]
  have key : ∀ (l : List Pe), (∀ q ∈ l, q ∈ x.pe) → ∀ a, l.foldl (fun a q => rowR x s n q q.rw.length a) a = (l.filter fun q => decide (n ∈ q.rw)).foldl (fun a q => max a (arrF d s q n)) a := by
    intro l
    induction l with
    | nil => intro _ a; rfl
    | cons q l ih =>
      intro h a
      have hq := h q (by simp)
      have nd := RawDay.rnd hx hd hq
      rw [List.foldl_cons]
      by_cases hn : n ∈ q.rw
      · obtain ⟨k, hk⟩ := List.getElem?_of_mem hn
        have hkl := (List.getElem?_eq_some_iff.mp hk).1
        rw [List.filter_cons_of_pos (by simpa using hn), List.foldl_cons, rowR_yes nd hk _ _ hkl, RawDay.arr hx hd hq hk (RawDay.dep0 hx hd hq (hs q hq hn)), hex, Int.add_zero]
        exact ih (fun q hq => h q (List.mem_cons_of_mem _ hq)) _
      · rw [List.filter_cons_of_neg (by simpa using hn), rowR_no _ _ fun j _ z => hn (List.mem_of_getElem? z)]
        exact ih (fun q hq => h q (List.mem_cons_of_mem _ hq)) _
  exact key x.pe (fun _ h => h) _
theorem RawDay.before {dn l : List Str} {n : Str} (e : dn ++ n :: l = x.od) {q : Pe} (hq : q ∈ x.pe) (hn : n ∈ q.rw) {b : Str} (hb : prevS q.rw n = some b) : b ∈ dn := by
  have h1 : [b, n].Sublist x.od := (adj_sub (prevS_adj hn hb)).trans (hx.pe.1 q hq).rw
  have nd := hx.od.1.2
  have h2 := sub_rank nd h1
  rw [← e] at h2 nd
  have h3 : (dn ++ n :: l).idxOf n = dn.length := by
    refine (idx_at nd (k := dn.length) ?_).1
    simp
  rw [h3] at h2
  have hm : b ∈ dn ++ n :: l := by rw [e]; exact h1.subset (by simp)
  obtain ⟨k, hk⟩ := List.getElem?_of_mem hm
  have := (idx_at nd hk).1
  rw [List.getElem?_append_left (by omega)] at hk
  exact List.mem_of_getElem? hk
theorem RawDay.sq {n : Str} : n ∈ x.od ↔ n ∈ d.sq := by
  have ho := RawDay.ok hx hd
  rw [ho.sm n, (RawDay.ms hx hd).1]
  exact hx.names.symm
theorem RawDay.erl (hex : ∀ p n, exR x p n = 0) : ∀ (dn l : List Str), dn ++ l = x.od → erlP x dn = dn.map fun n => (n, eS d n) := by
  have ho := RawDay.ok hx hd
  have key : ∀ k (dn l : List Str), dn.length = k → dn ++ l = x.od → erlP x dn = dn.map fun n => (n, eS d n) := by
    intro k
    induction k with
    | zero => intro dn l hl e; rw [List.length_eq_zero_iff.mp hl]; rfl
    | succ k ih =>
      intro dn l hl e
      rcases List.eq_nil_or_concat dn with rfl | ⟨d0, n, rfl⟩
      · cases hl
      · rw [List.concat_eq_append] at *
        have e1 : d0 ++ (n :: l) = x.od := by rw [← e]; simp
        have h0 := ih d0 (n :: l) (by simpa using hl) e1
        have hst : ∀ b ∈ d0, stf (erlP x d0) b = eS d b := fun b hb => by
          unfold stf
          rw [h0, vA_of (k := b) (v := eS d b) (by rw [List.map_map]; have := hx.od.1.2; rw [← e1, List.nodup_append] at this; exact (List.map_id d0).symm ▸ this.1) (List.mem_map.mpr ⟨b, hb, rfl⟩)]
          rfl
        have hsq : ∀ m, m ∈ x.od → m ∈ d.sq := fun m => (RawDay.sq hx hd).mp
        rw [erlP_more, List.map_append]
        refine congr (congrArg _ h0) ?_
        show [(n, strR x (stf (erlP x d0)) n)] = [(n, eS d n)]
        have hb : ∀ q ∈ x.pe, n ∈ q.rw → ∀ b, prevS q.rw n = some b → stf (erlP x d0) b = eS d b := fun q hq hn b hb => hst b (RawDay.before hx hd e1 hq hn hb)
        rw [RawDay.str hx hd hex (s := stf (erlP x d0)) (n := n) (fun q hq hn b hbb => by
          rw [hb q hq hn b hbb]
          exact eS_pos ho (hsq b (by rw [← e1]; exact List.mem_append_left _ (RawDay.before hx hd e1 hq hn hbb)))), eS_sol ho (hsq n (by rw [← e1]; simp))]
        congr 2
        refine strF_congr fun q hq hn b hbb => ?_
        rw [(RawDay.ms hx hd).2] at hq
        exact hb q hq hn b hbb
  exact fun dn l e => key dn.length dn l rfl e
end
theorem RawOk.mt_some {x : Raw} (hx : RawOk x) {n : Str} (hn : n ∈ x.od) : ∃ m, vA (byT x.mt) n = some m ∧ m ∈ x.mt ∧ m.nm = n := by
  obtain ⟨m, hm, rfl⟩ := List.mem_map.mp (hx.names.mpr hn)
  exact ⟨m, nd_at hx.nd hm, hm, rfl⟩
def latR (x : Raw) : List Mt := x.mt.filter fun m => decide (m.la < stf (erlP x x.od) m.nm)
theorem stf_last {l : ST} {n : Str} {v : Int} (h : n ∉ l.map (·.1)) {b : Str} (hb : b ≠ n) : stf (l ++ [(n, v)]) b = stf l b := by
  unfold stf
  rw [vA_app]
  cases e : vA l b with
  | some w => rfl
  | none => dsimp only; rw [if_neg hb]
theorem RawOk.bfk {x : Raw} (hx : RawOk x) {dn l : List Str} {n : Str} (e : dn ++ n :: l = x.od) {q : Pe} (hq : q ∈ x.pe) {k : Nat} (hk : q.rw[k]? = some n) {b : Str} (hb : bfK q k = some b) : b ∈ dn ∧ b ≠ n := by
  have nd := (hx.pe.1 q hq).rw.nodup hx.od.1.2
  have hb2 : prevS q.rw n = some b := by rw [bfK_at nd hk]; exact hb
  have h1 : [b, n].Sublist x.od := (adj_sub (prevS_adj (List.mem_of_getElem? hk) hb2)).trans (hx.pe.1 q hq).rw
  have ndo := hx.od.1.2
  have h2 := sub_rank ndo h1
  refine ⟨?_, fun z => by rw [z] at h2; omega⟩
  rw [← e] at h2 ndo
  have h3 : (dn ++ n :: l).idxOf n = dn.length := (idx_at ndo (k := dn.length) (by simp)).1
  rw [h3] at h2
  have hm : b ∈ dn ++ n :: l := by rw [e]; exact h1.subset (by simp)
  obtain ⟨j, hj⟩ := List.getElem?_of_mem hm
  have := (idx_at ndo hj).1
  rw [List.getElem?_append_left (by omega)] at hj
  exact List.mem_of_getElem? hj
section
variable {x : Raw} (hx : RawOk x) {d : Dy} (hd : RawDay x d)
include hx hd
theorem RawDay.stf (hex : ∀ p n, exR x p n = 0) {n : Str} (hn : n ∈ x.od) : vA (erlP x x.od) n = some (eS d n) := by
  rw [RawDay.erl hx hd hex x.od [] (by simp)]
  exact vA_of (k := n) (v := eS d n) (by rw [List.map_map]; exact (List.map_id x.od).symm ▸ hx.od.1.2) (List.mem_map.mpr ⟨n, hn, rfl⟩)
theorem RawDay.late (hex : ∀ p n, exR x p n = 0) : latR x = lateP d := by
  unfold latR lateP
  rw [(RawDay.ms hx hd).1]
  refine List.filter_congr fun m hm => ?_
  have := RawDay.stf hx hd hex (hx.names.mp (List.mem_map.mpr ⟨m, hm, rfl⟩))
  show decide (m.la < (vA (erlP x x.od) m.nm).getD 0) = _
  rw [this]
  rfl
end
end LW
namespace LW
open PySem PySem.Spec L2 DL PySem.NumText
open RM PW
structure StOk (d : Dy) (st : ST) : Prop where
  ks : ∀ n, n ∈ st.map (·.1) ↔ n ∈ d.ms.map (·.nm)
  ps : ∀ n s, vA st n = some s → 0 ≤ s
theorem StOk.at {d : Dy} {st : ST} (h : StOk d st) {n : Str} (hn : n ∈ d.ms.map (·.nm)) : vA st n = some (stf st n) ∧ 0 ≤ stf st n := by
  cases v : vA st n with
  | none => exact absurd ((h.ks n).mpr hn) (vA_none.mp v)
  | some s =>
    have : stf st n = s := by unfold stf; rw [v]; rfl
    rw [this]
    exact ⟨rfl, h.ps n s v⟩
def fltM (d : Dy) (st : ST) (m : Mt) : Option Dt :=
  if stf st m.nm < m.op then some (.tup [.str m.nm, .str "early", .non])
  else if m.la < stf st m.nm then some (.tup [.str m.nm, .str "late", .non])
  else ((attP d m.nm).find? fun p => decide (stf st m.nm < arrW d st p m.nm)).map fun p => .tup [.str m.nm, .str "arrives", .str p]
def fltW (d : Dy) (st : ST) : Dt := (d.ms.findSome? (fltM d st)).getD .non
theorem StOk.dep {d : Dy} (hd : DOk d) {st : ST} (h : StOk d st) (kn : ∀ q ∈ d.ps, ∀ n ∈ q.rw, n ∈ d.ms.map (·.nm)) {n p : Str} (hp : p ∈ attP d n) : DepP d st p n := by
  obtain ⟨q, hq, rfl⟩ := List.mem_map.mp hp
  obtain ⟨hq, hn⟩ := List.mem_filter.mp hq
  have hn := of_decide_eq_true hn
  refine ⟨q, nd_pe hd.pd hq, hn, fun b hb => ?_⟩
  obtain ⟨x, y, e⟩ := prevS_adj hn hb
  have hbn := kn q hq b (by rw [e]; simp)
  obtain ⟨e1, e2⟩ := h.at hbn
  obtain ⟨m, hm, rfl⟩ := List.mem_map.mp hbn
  exact ⟨_, m, e1, e2, nd_at hd.nd hm⟩
def KnP (d : Dy) : Prop := ∀ q ∈ d.ps, ∀ n ∈ q.rw, n ∈ d.ms.map (·.nm)
theorem RawDay.kn {x : Raw} (hx : RawOk x) {d : Dy} (hd : RawDay x d) : KnP d := by
  intro q hq n hn
  rw [(RawDay.ms hx hd).2] at hq
  rw [(RawDay.ms hx hd).1]
  exact hx.rwn hq hn
def dueP (x : Raw) (s : Str → Int) (n : Str) (q : Pe) : Bool := (List.range q.rw.length).any fun k => decide (q.rw[k]? = some n) && decide (s n < arrR x s q k)
def dueM (x : Raw) (s : Str → Int) (m : Mt) : Option Dt :=
  if s m.nm < m.op then some (.tup [.str m.nm, .str "early", .non])
  else if m.la < s m.nm then some (.tup [.str m.nm, .str "late", .non])
  else (x.pe.find? (dueP x s m.nm)).map fun q => .tup [.str m.nm, .str "arrives", .str q.nm]
def dueW (x : Raw) (s : Str → Int) : Dt := (x.mt.findSome? (dueM x s)).getD .non
section
variable {x : Raw} (hx : RawOk x) {d : Dy} (hd : RawDay x d)
include hx hd
theorem RawDay.arrX (hex : ∀ p n, exR x p n = 0) {st : ST} (hs : StOk d st) {q : Pe} (hq : q ∈ x.pe) {k : Nat} {n : Str} (hk : q.rw[k]? = some n) : arrR x (LW.stf st) q k = arrW d st q.nm n := by
  have ho := RawDay.ok hx hd
  have h0 : 0 ≤ depF d (LW.stf st) q n := RawDay.dep0 hx hd hq fun b hb => by
    obtain ⟨y, z, e⟩ := prevS_adj (List.mem_of_getElem? hk) hb
    have hbn := RawDay.kn hx hd q (by rw [(RawDay.ms hx hd).2]; exact hq) b (by rw [e]; simp)
    exact (hs.at hbn).2
  rw [RawDay.arr hx hd hq hk h0, hex, Int.add_zero]
  unfold arrW arrF depW
  have e2 : vA (peT d.ps) q.nm = some q := nd_pe ho.pd (by rw [(RawDay.ms hx hd).2]; exact hq)
  rw [e2]
  rfl
theorem RawDay.dueX (hex : ∀ p n, exR x p n = 0) {st : ST} (hs : StOk d st) {q : Pe} (hq : q ∈ x.pe) (n : Str) : dueP x (LW.stf st) n q = (decide (n ∈ q.rw) && decide (LW.stf st n < arrW d st q.nm n)) := by
  unfold LW.dueP
  rw [Bool.eq_iff_iff, List.any_eq_true, Bool.and_eq_true, decide_eq_true_eq, decide_eq_true_eq]
  constructor
  · rintro ⟨k, hk, h⟩
    rw [Bool.and_eq_true, decide_eq_true_eq, decide_eq_true_eq] at h
    rw [RawDay.arrX hx hd hex hs hq h.1] at h
    exact ⟨List.mem_of_getElem? h.1, h.2⟩
  · rintro ⟨h1, h2⟩
    obtain ⟨k, hk⟩ := List.getElem?_of_mem h1
    refine ⟨k, List.mem_range.mpr (List.getElem?_eq_some_iff.mp hk).1, ?_⟩
    rw [Bool.and_eq_true, decide_eq_true_eq, decide_eq_true_eq, RawDay.arrX hx hd hex hs hq hk]
    exact ⟨hk, h2⟩
theorem RawDay.flt (hex : ∀ p n, exR x p n = 0) {st : ST} (hs : StOk d st) : dueW x (LW.stf st) = fltW d st := by
  obtain ⟨e1, e2⟩ := RawDay.ms hx hd
  unfold dueW fltW
  rw [e1]
  congr 1
  have key : ∀ m, dueM x (LW.stf st) m = fltM d st m := by
    intro m
    unfold dueM fltM
    have : (x.pe.find? (LW.dueP x (LW.stf st) m.nm)).map (·.nm) = (attP d m.nm).find? fun p => decide (LW.stf st m.nm < arrW d st p m.nm) := by
      unfold attP
      rw [e2, List.find?_map, List.find?_filter]
      have : ∀ l : List Pe, (∀ q ∈ l, q ∈ x.pe) → l.find? (LW.dueP x (LW.stf st) m.nm) = l.find? (fun a => decide (m.nm ∈ a.rw) && ((fun p => decide (LW.stf st m.nm < arrW d st p m.nm)) ∘ fun x => x.nm) a) := by
        intro l
        induction l with
        | nil => intro _; rfl
        | cons q l ih =>
          intro h
          have hq := RawDay.dueX hx hd hex hs (h q (by simp)) m.nm
          rw [List.find?_cons, List.find?_cons, hq, ih fun q hq => h q (List.mem_cons_of_mem _ hq)]
          rfl
      rw [this x.pe fun _ h => h]
      congr 2
      funext a
      simp
    rw [← this, Option.map_map]
    rfl
  exact congrArg (fun f => List.findSome? f x.mt) (funext key)
end
theorem StOk.of {x : Raw} (hx : RawOk x) {d : Dy} (hd : RawDay x d) {st : ST} (hk : ∀ n, n ∈ st.map (·.1) ↔ n ∈ x.mt.map (·.nm)) (hp : ∀ n s, vA st n = some s → 0 ≤ s) : StOk d st :=
  ⟨fun n => by rw [hk n, (RawDay.ms hx hd).1], hp⟩
theorem StOk.od {x : Raw} (hx : RawOk x) {d : Dy} (hd : RawDay x d) {st : ST} (h : StOk d st) : ∀ n, n ∈ x.od → ∃ s, vA st n = some s ∧ 0 ≤ s := fun n hn => by
  obtain ⟨a, b⟩ := h.at (n := n) (by rw [(RawDay.ms hx hd).1]; exact hx.names.mpr hn)
  exact ⟨_, a, b⟩
end LW
namespace LW
open PySem PySem.Spec L2 DL PySem.NumText
open RM PW
def folS (rw : List Str) (n : Str) : Option Str := rw[rw.idxOf n + 1]?
theorem folS_prev {rw : List Str} (nd : rw.Nodup) {n f : Str} (hn : n ∈ rw) (h : folS rw n = some f) : f ∈ rw ∧ prevS rw f = some n := by
  unfold folS at h
  have h1 : rw.idxOf n < rw.length := List.idxOf_lt_length_iff.mpr hn
  have h2 : rw[rw.idxOf n] = n := List.getElem_idxOf h1
  obtain ⟨e, hm⟩ := idx_at nd h
  refine ⟨hm, ?_⟩
  unfold prevS
  rw [e, if_neg (by omega), Nat.add_sub_cancel, List.getElem?_eq_getElem h1, h2]
def laW (d : Dy) (n : Str) : Int := ((vA (byT d.ms) n).map (·.la)).getD 0
def bkF (d : Dy) (q : Pe) (f : Str) (y : Int) : Option Int := bkR y none (covs ((vA d.mp (q.nm, f)).getD []))
def lbF (d : Dy) (s : Str → Int) (q : Pe) (n f : Str) : Int := (bkF d q f (s f)).getD 0 - lnO d n
def ltF (d : Dy) (s : Str → Int) (n : Str) : Int := (attQ d n).foldl (fun a q => match folS q.rw n with | none => a | some f => min a (lbF d s q n f)) (laW d n)
def latT (d : Dy) (ns : List Str) (st : ST) : ST := ns.foldl (fun st n => pA st n (ltF d (stf st) n)) st
def lastW (d : Dy) : ST := latT d d.sq.reverse []
def lS (d : Dy) (n : Str) : Int := stf (lastW d) n
theorem ltF_congr {d : Dy} {s s' : Str → Int} {n : Str} (h : ∀ q ∈ d.ps, n ∈ q.rw → ∀ f, folS q.rw n = some f → s f = s' f) : ltF d s n = ltF d s' n := by
  unfold ltF
  refine fold_congr _ _ fun a q hq => ?_
  obtain ⟨h1, h2⟩ := List.mem_filter.mp hq
  have h2 := of_decide_eq_true h2
  cases e : folS q.rw n with
  | none => rfl
  | some f => dsimp only; unfold lbF; rw [h q h1 h2 f e]
theorem latT_keep {d : Dy} : ∀ (l : List Str) (st : ST) {n : Str}, n ∉ l → vA (latT d l st) n = vA st n
  | [], _, _, _ => rfl
  | m :: l, st, n, h => by
    show vA (latT d l (pA st m (ltF d (stf st) m))) n = _
    rw [latT_keep l _ (fun z => h (List.mem_cons_of_mem _ z)), vA_put, if_neg (fun z => h (by rw [z]; simp))]
theorem latT_app {d : Dy} (l1 l2 : List Str) (st : ST) : latT d (l1 ++ l2) st = latT d l2 (latT d l1 st) := by
  unfold latT
  rw [List.foldl_append]
structure DOk2 (d : Dy) : Prop where
  o : DOk d
  k : KnP d
  r : ∀ q ∈ d.ps, q.rw.Nodup
theorem RawDay.ok2 {x : Raw} (hx : RawOk x) {d : Dy} (hd : RawDay x d) : DOk2 d :=
  ⟨RawDay.ok hx hd, RawDay.kn hx hd, fun q hq => RawDay.rnd hx hd (by rw [(RawDay.ms hx hd).2] at hq; exact hq)⟩
section
variable {d : Dy} (h2 : DOk2 d)
include h2
theorem fol_after {l1 l2 : List Str} {n : Str} (e : d.sq = l1 ++ n :: l2) {q : Pe} (hq : q ∈ d.ps) (hn : n ∈ q.rw) {f : Str} (hf : folS q.rw n = some f) : f ∈ l2 := by
  obtain ⟨f1, f2⟩ := folS_prev (h2.r q hq) hn hf
  have fs : f ∈ d.sq := (h2.o.sm f).mpr (h2.k q hq f f1)
  rw [e] at fs
  rcases List.mem_append.mp fs with fs | fs
  · exfalso
    obtain ⟨a, b, eb⟩ := List.append_of_mem fs
    have e3 : d.sq = a ++ f :: (b ++ n :: l2) := by rw [e, eb]; simp
    have hn1 := h2.o.so' e3 hq f1 f2
    have nd := h2.o.sd
    rw [e3, List.nodup_append] at nd
    exact nd.2.2 n hn1 n (by simp) rfl
  · rcases List.mem_cons.mp fs with rfl | fs
    · exfalso
      have hn1 := h2.o.so' e hq f1 f2
      have nd := h2.o.sd
      rw [e, List.nodup_append] at nd
      exact nd.2.2 f hn1 f (by simp) rfl
    · exact fs
theorem lS_sol {n : Str} (hn : n ∈ d.sq) : vA (lastW d) n = some (lS d n) ∧ lS d n = ltF d (lS d) n := by
  obtain ⟨l1, l2, e⟩ := List.append_of_mem hn
  have nd := h2.o.sd
  rw [e, List.nodup_append] at nd
  obtain ⟨n1, n2, n3⟩ := nd
  rw [List.nodup_cons] at n2
  have er : d.sq.reverse = l2.reverse ++ ([n] ++ l1.reverse) := by rw [e]; simp
  have e2 : lastW d = latT d l1.reverse (pA (latT d l2.reverse []) n (ltF d (stf (latT d l2.reverse [])) n)) := by
    unfold lastW
    rw [er, latT_app, latT_app]
    rfl
  have hnl : n ∉ l1.reverse := fun z => n3 n (List.mem_reverse.mp z) n (by simp) rfl
  have e3 : vA (lastW d) n = some (ltF d (stf (latT d l2.reverse [])) n) := by
    rw [e2, latT_keep _ _ hnl, vA_put, if_pos rfl]
  have e4 : lS d n = ltF d (stf (latT d l2.reverse [])) n := by unfold lS stf; rw [e3]; rfl
  refine ⟨by rw [e3, e4], ?_⟩
  rw [e4]
  refine ltF_congr fun q hq hm f hf => ?_
  have hf2 := fol_after h2 e hq hm hf
  have hfn : f ≠ n := fun z => n2.1 (by rw [← z]; exact hf2)
  have hf1 : f ∉ l1.reverse := fun z => n3 f (List.mem_reverse.mp z) f (List.mem_cons_of_mem _ hf2) rfl
  unfold lS stf
  rw [e2, latT_keep _ _ hf1, vA_put, if_neg hfn]
theorem leg_at {q : Pe} (hq : q ∈ d.ps) {n : Str} (hn : n ∈ q.rw) : ∃ F, vA d.mp (q.nm, n) = some F ∧ Rz F ∧ ∀ s, arrF d s q n = RM.valueAt F (depF d s q n) := by
  obtain ⟨F, h1, r⟩ := h2.o.mp q hq n hn
  exact ⟨F, h1, r, fun s => by unfold arrF; rw [h1]; rfl⟩
theorem fold_ge {α : Type} (f : α → Int) {l : List α} {a : Int} {x : α} (hx : x ∈ l) : f x ≤ l.foldl (fun s p => max s (f p)) a := by
  induction l generalizing a with
  | nil => cases hx
  | cons y l ih =>
    rw [List.foldl_cons]
    rcases List.mem_cons.mp hx with rfl | hx
    · exact Int.le_trans (Int.le_max_right ..) (fold_max_ge f l _)
    · exact ih hx
theorem eS_arr {q : Pe} (hq : q ∈ d.ps) {n : Str} (hn : n ∈ q.rw) : arrF d (eS d) q n ≤ eS d n := by
  have hs : n ∈ d.sq := (h2.o.sm n).mpr (h2.k q hq n hn)
  rw [eS_sol h2.o hs]
  exact fold_ge h2 (fun q => arrF d (eS d) q n) (List.mem_filter.mpr ⟨hq, decide_eq_true hn⟩)
theorem bk_some {q : Pe} (hq : q ∈ d.ps) {n f : Str} (hn : n ∈ q.rw) (hf : folS q.rw n = some f) {y : Int} (hy : eS d f ≤ y) : ∃ t, bkF d q f y = some t ∧ eS d n + lnO d n ≤ t := by
  obtain ⟨f1, f2⟩ := folS_prev (h2.r q hq) hn hf
  obtain ⟨F, hF, rz, ha⟩ := leg_at h2 hq f1
  have hs : n ∈ d.sq := (h2.o.sm n).mpr (h2.k q hq n hn)
  have hd : depF d (eS d) q f = eS d n + lnO d n := by unfold depF; rw [f2]
  have hv := eS_arr h2 hq f1
  rw [ha, hd] at hv
  have h0 : 0 ≤ eS d n + lnO d n := by
    have := eS_pos h2.o hs
    have hl : 0 ≤ lnO d n := by
      unfold lnO
      cases v : vA (byT d.ms) n with
      | none => exact Int.le_refl _
      | some m => exact (h2.o.op m (mt_at v).1).2
    omega
  have hb := back_is rz.r y
  have eb : bkF d q f y = bkR y none (covs F) := by unfold bkF; rw [hF]; rfl
  rw [eb]
  cases c : bkR y none (covs F) with
  | none =>
    rw [c] at hb
    have hb : y < RM.valueAt F 0 := hb
    have := rz.ris.le (Int.le_refl 0) h0
    omega
  | some t =>
    rw [c] at hb
    refine ⟨t, rfl, ?_⟩
    rcases Int.lt_or_le t (eS d n + lnO d n) with l | l
    · exfalso
      have h3 := hb.2.2
      have := rz.ris.le (show 0 ≤ t + 1 by have := hb.1; omega) (show t + 1 ≤ eS d n + lnO d n by omega)
      omega
    · exact l
def Kept (d : Dy) : Prop := ∀ m ∈ d.ms, eS d m.nm ≤ m.la
theorem laW_at {m : Mt} (hm : m ∈ d.ms) : laW d m.nm = m.la := by unfold laW; rw [nd_at h2.o.nd hm]; rfl
theorem fold_min_ge {α : Type} (g : Int → α → Int) (x : Int) : ∀ (l : List α) (a : Int), x ≤ a → (∀ a, x ≤ a → ∀ q ∈ l, x ≤ g a q) → x ≤ l.foldl g a
  | [], _, h, _ => h
  | q :: l, a, h, k => fold_min_ge g x l _ (k a h q (by simp)) fun a ha p hp => k a ha p (List.mem_cons_of_mem _ hp)
theorem back_ind {P : Str → Prop} (h : ∀ l1 n l2, d.sq = l1 ++ n :: l2 → (∀ f ∈ l2, P f) → P n) : ∀ n ∈ d.sq, P n := by
  have key : ∀ (l2 l1 : List Str), d.sq = l1 ++ l2 → ∀ f ∈ l2, P f := by
    intro l2
    induction l2 with
    | nil => intro _ _ f hf; cases hf
    | cons n l2 ih =>
      intro l1 e f hf
      have h0 := ih (l1 ++ [n]) (by rw [e]; simp)
      rcases List.mem_cons.mp hf with rfl | hf
      · exact h l1 f l2 e h0
      · exact h0 f hf
  exact fun n hn => key d.sq [] rfl n hn
theorem lS_ge (hk : Kept d) : ∀ n ∈ d.sq, eS d n ≤ lS d n := by
  refine back_ind h2 fun l1 n l2 e ih => ?_
  have hn : n ∈ d.sq := by rw [e]; simp
  rw [(lS_sol h2 hn).2]
  unfold ltF
  obtain ⟨m, hm, rfl⟩ := List.mem_map.mp ((h2.o.sm n).mp hn)
  refine fold_min_ge h2 _ _ _ _ (by rw [laW_at h2 hm]; exact hk m hm) fun a ha q hq => ?_
  obtain ⟨q1, q2⟩ := List.mem_filter.mp hq
  have q2 := of_decide_eq_true q2
  cases hf : folS q.rw m.nm with
  | none => exact ha
  | some f =>
    obtain ⟨t, e1, e2⟩ := bk_some h2 q1 q2 hf (ih f (fol_after h2 e q1 q2 hf))
    dsimp only
    unfold lbF
    rw [e1, Option.getD_some]
    omega
theorem fold_min_le {α : Type} (g : Int → α → Int) (hg : ∀ a q, g a q ≤ a) : ∀ (l : List α) (a : Int), l.foldl g a ≤ a ∧ ∀ q ∈ l, ∃ b, l.foldl g a ≤ g b q
  | [], a => ⟨Int.le_refl _, fun _ h => (nomatch h)⟩
  | q :: l, a => by
    obtain ⟨h1, h3⟩ := fold_min_le g hg l (g a q)
    refine ⟨Int.le_trans h1 (hg a q), fun p hp => ?_⟩
    rcases List.mem_cons.mp hp with rfl | hp
    · exact ⟨a, h1⟩
    · exact h3 p hp
theorem lS_le {n : Str} (hn : n ∈ d.sq) : lS d n ≤ laW d n ∧ ∀ q ∈ d.ps, n ∈ q.rw → ∀ f, folS q.rw n = some f → lS d n ≤ lbF d (lS d) q n f := by
  have hg : ∀ (a : Int) (q : Pe), (match folS q.rw n with | none => a | some f => min a (lbF d (lS d) q n f)) ≤ a := by
    intro a q
    cases folS q.rw n with
    | none => exact Int.le_refl _
    | some f => exact Int.min_le_left ..
  obtain ⟨h1, h3⟩ := fold_min_le h2 _ hg (attQ d n) (laW d n)
  rw [(lS_sol h2 hn).2]
  refine ⟨h1, fun q hq hm f hf => ?_⟩
  obtain ⟨b, hb⟩ := h3 q (List.mem_filter.mpr ⟨hq, decide_eq_true hm⟩)
  rw [hf] at hb
  exact Int.le_trans hb (Int.min_le_right ..)
end
end LW
namespace LW
open PySem PySem.Spec L2 DL PySem.NumText
open RM PW
section
variable {d : Dy} (h2 : DOk2 d)
include h2
end
def pinM (n : Str) (t : Int) (m : Mt) : Mt := if m.nm = n then ⟨n, m.pl, t, t, m.ln⟩ else m
def pinR (x : Raw) (n : Str) (t : Int) : Raw := ⟨x.pl, x.td, x.mt.map (pinM n t), x.pe, x.od, x.ex⟩
theorem pinM_nm (n : Str) (t : Int) (m : Mt) : (pinM n t m).nm = m.nm := by unfold pinM; split <;> simp_all
theorem pinM_pl (n : Str) (t : Int) (m : Mt) : (pinM n t m).pl = m.pl := by unfold pinM; split <;> rfl
theorem by_map (f : Mt → Mt) (hf : ∀ m, (f m).nm = m.nm) (n : Str) : ∀ l : List Mt, vA (byT (l.map f)) n = (vA (byT l) n).map f
  | [] => rfl
  | m :: l => by
    show vA (((f m).nm, f m) :: byT (l.map f)) n = (vA ((m.nm, m) :: byT l) n).map f
    rw [vA_cons, vA_cons, hf m, by_map f hf n l]
    split <;> rfl
theorem pin_nms (x : Raw) (n : Str) (t : Int) : (pinR x n t).mt.map (·.nm) = x.mt.map (·.nm) := by
  show (x.mt.map (pinM n t)).map (·.nm) = _
  rw [List.map_map]
  exact List.map_congr_left fun m _ => pinM_nm n t m
theorem pin_ok {x : Raw} (hx : RawOk x) {n : Str} {t : Int} (ht : 0 ≤ t ∧ t ≤ 2880) : RawOk (pinR x n t) := by
  refine ⟨hx.pl, hx.td, hx.od, ⟨fun m hm => ?_, by rw [pin_nms]; exact hx.mt.2⟩, hx.pe, hx.ex⟩
  obtain ⟨m0, h0, rfl⟩ := List.mem_map.mp hm
  have hb := hx.mt.1 m0 h0
  unfold pinM
  split
  · rename_i e
    exact ⟨by rw [← e]; exact hb.nm, hb.pl, ht, ⟨Int.le_refl _, ht.2⟩, hb.ln⟩
  · exact hb
section
variable {x : Raw} (hx : RawOk x) {d : Dy} (hd : RawDay x d)
include hx hd
def fitB (x : Raw) (s : Str → Int) : Bool := x.pe.all fun q => (List.range q.rw.length).all fun k => decide (arrR x s q k ≤ s (q.rw.getD k ""))
omit hx hd in
theorem fitB_def (x : Raw) (s : Str → Int) : LW.fitB x s = x.pe.all fun q => (List.range q.rw.length).all fun k => decide (arrR x s q k ≤ s (q.rw.getD k "")) := rfl
end
end LW
namespace LW
open PySem PySem.Spec L2 DL PySem.NumText
open RM PW
section
variable {d : Dy} (h2 : DOk2 d)
include h2
end
section
variable {x : Raw} (hx : RawOk x) {d : Dy} (hd : RawDay x d) {n : Str} {t : Int} (ht : 0 ≤ t ∧ t ≤ 2880) {d' : Dy} (hd' : RawDay (pinR x n t) d') (hex : ∀ p n, exR x p n = 0)
include hx hd ht hd' hex
end
section
variable {x : Raw} (hx : RawOk x) {d : Dy} (hd : RawDay x d) (hex : ∀ p n, exR x p n = 0) (hk : Kept d)
include hx hd hex hk
end
end LW
namespace LW
open PySem PySem.Spec L2 DL PySem.NumText
open RM PW
def xF (x : Raw) (d : Dy) (s : Str → Int) (n : Str) : Int := (attQ d n).foldl (fun a q => max a (arrF d s q n + exR x q.nm n)) (opW d n)
theorem xF_congr {x : Raw} {d : Dy} {s s' : Str → Int} {n : Str} (h : ∀ q ∈ d.ps, n ∈ q.rw → ∀ b, prevS q.rw n = some b → s b = s' b) : xF x d s n = xF x d s' n := by
  unfold xF
  refine fold_congr _ _ fun a q hq => ?_
  obtain ⟨h1, h2⟩ := List.mem_filter.mp hq
  have h2 := of_decide_eq_true h2
  have : arrF d s q n = arrF d s' q n := by unfold arrF; rw [depF_congr fun b hb => h q h1 h2 b hb]
  rw [this]
section
variable {x : Raw} (hx : RawOk x) {d : Dy} (hd : RawDay x d)
include hx hd
theorem RawDay.strX {s : Str → Int} {n : Str} (hs : ∀ q ∈ x.pe, n ∈ q.rw → ∀ b, prevS q.rw n = some b → 0 ≤ s b) : strR x s n = xF x d s n := by
  obtain ⟨e1, e2⟩ := RawDay.ms hx hd
  unfold strR xF attQ
  rw [e2]
  have eo : opR x n = opW d n := by unfold opR opW; rw [e1]
  rw [eo]
  have key : ∀ (l : List Pe), (∀ q ∈ l, q ∈ x.pe) → ∀ a, l.foldl (fun a q => rowR x s n q q.rw.length a) a = (l.filter fun q => decide (n ∈ q.rw)).foldl (fun a q => max a (arrF d s q n + exR x q.nm n)) a := by
    intro l
    induction l with
    | nil => intro _ a; rfl
    | cons q l ih =>
      intro h a
      have hq := h q (by simp)
      have nd := RawDay.rnd hx hd hq
      rw [List.foldl_cons]
      by_cases hn : n ∈ q.rw
      · obtain ⟨k, hk⟩ := List.getElem?_of_mem hn
        have hkl := (List.getElem?_eq_some_iff.mp hk).1
        rw [List.filter_cons_of_pos (by simpa using hn), List.foldl_cons, rowR_yes nd hk _ _ hkl, RawDay.arr hx hd hq hk (RawDay.dep0 hx hd hq (hs q hq hn))]
        exact ih (fun q hq => h q (List.mem_cons_of_mem _ hq)) _
      · rw [List.filter_cons_of_neg (by simpa using hn), rowR_no _ _ fun j _ z => hn (List.mem_of_getElem? z)]
        exact ih (fun q hq => h q (List.mem_cons_of_mem _ hq)) _
  exact key x.pe (fun _ h => h) _
theorem RawDay.sol : ∀ n ∈ x.od, 0 ≤ LW.stf (erlP x x.od) n ∧ LW.stf (erlP x x.od) n = xF x d (LW.stf (erlP x x.od)) n := by
  have ho := RawDay.ok hx hd
  have key : ∀ k (dn l : List Str), dn.length = k → dn ++ l = x.od → ∀ n ∈ dn, 0 ≤ LW.stf (erlP x dn) n ∧ LW.stf (erlP x dn) n = xF x d (LW.stf (erlP x dn)) n := by
    intro k
    induction k with
    | zero => intro dn l hl e n hn; rw [List.length_eq_zero_iff.mp hl] at hn; cases hn
    | succ k ih =>
      intro dn l hl e
      rcases List.eq_nil_or_concat dn with rfl | ⟨d0, n, rfl⟩
      · cases hl
      · rw [List.concat_eq_append] at *
        have e1 : d0 ++ (n :: l) = x.od := by rw [← e]; simp
        have h0 := ih d0 (n :: l) (by simpa using hl) e1
        have ndo := hx.od.1.2
        have nd1 := ndo
        rw [← e1, List.nodup_append] at nd1
        have hnn : n ∉ (erlP x d0).map (·.1) := by
          rw [erlP_keys]
          intro z
          exact nd1.2.2 n z n (by simp) rfl
        have hne : ∀ b ∈ d0, b ≠ n := fun b hb z => nd1.2.2 b hb n (by simp) z
        have hb : ∀ q ∈ x.pe, ∀ m, m ∈ q.rw → ∀ b, prevS q.rw m = some b → m ∈ d0 ++ [n] → b ∈ d0 := fun q hq m hm b hbb hmd => by
          rcases List.mem_append.mp hmd with h | h
          · obtain ⟨u, v, eu⟩ := List.append_of_mem h
            have e2 : u ++ m :: (v ++ n :: l) = x.od := by rw [← e1, eu]; simp
            rw [eu]
            exact List.mem_append_left _ (RawDay.before hx hd e2 hq hm hbb)
          · have : m = n := by simpa using h
            subst this
            exact RawDay.before hx hd e1 hq hm hbb
        rw [erlP_more]
        have hkeep : ∀ b ∈ d0, LW.stf (erlP x d0 ++ [(n, strR x (LW.stf (erlP x d0)) n)]) b = LW.stf (erlP x d0) b := fun b hb => stf_last hnn (hne b hb)
        have hself : LW.stf (erlP x d0 ++ [(n, strR x (LW.stf (erlP x d0)) n)]) n = strR x (LW.stf (erlP x d0)) n := by
          unfold LW.stf
          rw [vA_app, vA_none.mpr hnn]
          dsimp only
          rw [if_pos rfl]
          rfl
        have e2 := (RawDay.ms hx hd).2
        intro m hm
        have hcong : xF x d (LW.stf (erlP x d0 ++ [(n, strR x (LW.stf (erlP x d0)) n)])) m = xF x d (LW.stf (erlP x d0)) m := xF_congr fun q hq hmq b hbb => hkeep b (hb q (by rw [← e2]; exact hq) m hmq b hbb hm)
        rw [hcong]
        rcases List.mem_append.mp hm with h | h
        · rw [hkeep m h]
          exact h0 m h
        · have : m = n := by simpa using h
          subst this
          rw [hself, RawDay.strX hx hd fun q hq hmq b hbb => (h0 b (hb q hq m hmq b hbb hm)).1]
          refine ⟨?_, rfl⟩
          have hno : m ∈ x.od := by rw [← e1]; simp
          obtain ⟨m0, vm, hm0, _⟩ := hx.mt_some hno
          have h1 := fold_max_ge (fun q => arrF d (LW.stf (erlP x d0)) q m + exR x q.nm m) (attQ d m) (opW d m)
          have h3 : opW d m = m0.op := by unfold opW; rw [(RawDay.ms hx hd).1, vm]; rfl
          have := (hx.mt.1 m0 hm0).op.1
          unfold xF
          omega
  exact key x.od.length x.od [] rfl (by simp)
end
end LW
namespace LW
open PySem PySem.Spec L2 DL PySem.NumText
open RM PW
section
variable {x : Raw} (hx : RawOk x) {d : Dy} (hd : RawDay x d)
include hx hd
end
section
variable {x : Raw} (hx : RawOk x) {d : Dy} (hd : RawDay x d) (hk : Kept d)
include hx hd hk
end
end LW
namespace LW
open PySem PySem.Spec L2 DL PySem.NumText
open RM PW
section
variable {d : Dy} (h2 : DOk2 d)
include h2
end
end LW
namespace LW
open PySem PySem.Spec L2 DL PySem.NumText
open RM PW
structure RawG (x : Raw) (d : Dy) : Prop where
  ms : d.ms = x.mt
  ps : d.ps = x.pe
  ok : DOk2 d
  leg : ∀ q ∈ x.pe, ∀ n ∈ q.rw, ∃ F, vA d.mp (q.nm, n) = some F ∧ ∀ t, 0 ≤ t → RM.valueAt F t = rideW x (stOf x.mt q n) (plOf x.mt n) t + exR x q.nm n
section
variable {x : Raw} (hx : RawOk x) {d0 : Dy} (hd0 : RawDay x d0) {d : Dy} (hg : RawG x d)
include hx hd0 hg
theorem RawG.dep (s : Str → Int) (q : Pe) (n : Str) : depF d s q n = depF d0 s q n := by
  unfold depF lnO
  rw [hg.ms, (RawDay.ms hx hd0).1]
theorem RawG.arrF {s : Str → Int} {q : Pe} (hq : q ∈ x.pe) {n : Str} (hn : n ∈ q.rw) (hs : ∀ b, prevS q.rw n = some b → 0 ≤ s b) : LW.arrF d s q n = LW.arrF d0 s q n + exR x q.nm n := by
  obtain ⟨F, h1, h2⟩ := hg.leg q hq n hn
  obtain ⟨F0, g1, _, g2⟩ := RawDay.leg hx hd0 hq hn
  have h0 := RawDay.dep0 hx hd0 hq hs
  unfold LW.arrF
  rw [RawG.dep hx hd0 hg, h1, g1]
  show RM.valueAt F _ = RM.valueAt F0 _ + _
  rw [h2 _ h0, g2 _ h0]
theorem RawG.strF {s : Str → Int} {n : Str} (hs : ∀ q ∈ x.pe, n ∈ q.rw → ∀ b, prevS q.rw n = some b → 0 ≤ s b) : LW.strF d s n = xF x d0 s n := by
  obtain ⟨e1, e2⟩ := RawDay.ms hx hd0
  have ea : attQ d n = attQ d0 n := by unfold attQ; rw [hg.ps, e2]
  have eo : opW d n = opW d0 n := by unfold opW; rw [hg.ms, e1]
  unfold LW.strF xF
  rw [ea, eo]
  refine fold_congr _ _ fun a q hq => ?_
  obtain ⟨h1, h2⟩ := List.mem_filter.mp hq
  have h2 := of_decide_eq_true h2
  rw [e2] at h1
  rw [RawG.arrF hx hd0 hg h1 h2 (hs q h1 h2)]
theorem RawG.sq {n : Str} : n ∈ x.od ↔ n ∈ d.sq := by
  rw [hg.ok.o.sm n, hg.ms]
  exact hx.names.symm
theorem RawG.prev {q : Pe} (hq : q ∈ x.pe) {n b : Str} (hn : n ∈ q.rw) (hb : prevS q.rw n = some b) : b ∈ x.od := by
  obtain ⟨y, z, e⟩ := prevS_adj hn hb
  exact (hx.pe.1 q hq).rw.subset (by rw [e]; simp)
theorem RawG.stf {n : Str} (hn : n ∈ x.od) : LW.stf (erlP x x.od) n = eS d n := by
  have hE := RawDay.sol hx hd0
  refine sol_uniq hg.ok.o (fun m hm => ?_) (fun m hm => eS_sol hg.ok.o hm) n ((RawG.sq hx hd0 hg).mp hn)
  have h1 := hE m ((RawG.sq hx hd0 hg).mpr hm)
  rw [RawG.strF hx hd0 hg fun q hq hmq b hb => (hE b (RawG.prev hx hd0 hg hq hmq hb)).1]
  exact h1.2
theorem RawG.late : latR x = lateP d := by
  unfold latR lateP
  rw [hg.ms]
  refine List.filter_congr fun m hm => ?_
  have := RawG.stf hx hd0 hg (hx.names.mp (List.mem_map.mpr ⟨m, hm, rfl⟩))
  show decide (m.la < (vA (erlP x x.od) m.nm).getD 0) = _
  rw [show (vA (erlP x x.od) m.nm).getD 0 = LW.stf (erlP x x.od) m.nm from rfl, this]
end
theorem RawDay.g {x : Raw} (hx : RawOk x) {d : Dy} (hd : RawDay x d) (hex : ∀ p n, exR x p n = 0) : RawG x d := by
  obtain ⟨em, ep⟩ := RawDay.ms hx hd
  refine ⟨em, ep, RawDay.ok2 hx hd, fun q hq n hn => ?_⟩
  obtain ⟨F, h1, _, h3⟩ := RawDay.leg hx hd hq hn
  exact ⟨F, h1, fun t ht => by rw [h3 t ht, hex, Int.add_zero]⟩
theorem mkDy_ok2 {ms : List Mt} {ps : List Pe} {tab : Tab} (h : DPre ms ps tab) (hl : (ordW (ms.map (·.nm)) ps).2 = []) (hr : ∀ q ∈ ps, q.rw.Nodup) : DOk2 (mkDy ms ps tab) := ⟨h.ok hl, h.kn, hr⟩
def newT (ps : List Pe) (t1 t2 : Tab) : Tab := tabOf (legsP ps) fun l => ((vA t2 l).getD ((vA t1 l).getD []))
theorem newT_at {ps : List Pe} {t1 t2 : Tab} {q : Pe} (hq : q ∈ ps) {n : Str} (hn : n ∈ q.rw) : vA (newT ps t1 t2) (q.nm, n) = some ((vA t2 (q.nm, n)).getD ((vA t1 (q.nm, n)).getD [])) := by
  unfold newT
  rw [tabOf_vA, if_pos (legs_mem.mpr ⟨q, hq, rfl, hn⟩)]
end LW
namespace LW
open PySem PySem.Spec L2 DL PySem.NumText
open RM PW
theorem tabOf_congr {ls : List (Str × Str)} {f g : Str × Str → List Rw} (h : ∀ l ∈ ls, f l = g l) : tabOf ls f = tabOf ls g := by
  unfold tabOf
  exact fold_congr ls [] fun t l hl => by rw [h l hl]
theorem pin_plOf (ms : List Mt) (n : Str) (t : Int) (b : Str) : plOf (ms.map (pinM n t)) b = plOf ms b := by
  unfold plOf
  rw [by_map _ (pinM_nm n t) b ms]
  cases vA (byT ms) b with
  | none => rfl
  | some m => exact pinM_pl n t m
theorem pin_legF (ms : List Mt) (n : Str) (t : Int) (ps : List Pe) (clo : Tab) (l : Str × Str) : legF (ms.map (pinM n t)) ps clo l = legF ms ps clo l := by
  unfold legF
  cases vA (peT ps) l.1 with
  | none => rfl
  | some q =>
    dsimp only
    have : stOf (ms.map (pinM n t)) q l.2 = stOf ms q l.2 := by
      unfold stOf
      cases prevS q.rw l.2 with
      | none => rfl
      | some b => exact pin_plOf ms n t b
    rw [this, pin_plOf]
def pinY (d : Dy) (n : Str) (t : Int) : Dy := mkDy (d.ms.map (pinM n t)) d.ps (newT d.ps d.mp d.mp)
theorem pin_raw {x : Raw} {d : Dy} (hd : RawDay x d) (n : Str) (t : Int) : RawDay (pinR x n t) (pinY d n t) := by
  obtain ⟨tab, clo, h1, h2, rfl⟩ := hd
  refine ⟨tab, clo, h1, h2, ?_⟩
  show mkDy _ x.pe (newT x.pe _ _) = mkDy _ x.pe (tabOf (legsP x.pe) (legF (x.mt.map (pinM n t)) x.pe clo))
  congr 1
  unfold newT
  refine tabOf_congr fun l hl => ?_
  show ((vA (tabOf (legsP x.pe) (legF x.mt x.pe clo)) l).getD _) = _
  rw [tabOf_vA, if_pos hl, pin_legF]
  rfl
section
variable {x : Raw} (hx : RawOk x) {d : Dy} (hd : RawDay x d) (hex : ∀ p n, exR x p n = 0) {m : Mt} (hm : m ∈ x.mt) {t : Int} (h1 : m.op ≤ t) (h3 : t ≤ m.la)
include hx hd hex hm h1 h3
omit h1 h3 in
theorem pin_self (ht : 0 ≤ t ∧ t ≤ 2880) (hk : Kept (pinY d m.nm t)) : eS (pinY d m.nm t) m.nm = t ∧ lS (pinY d m.nm t) m.nm = t := by
  have hx' := pin_ok hx (n := m.nm) ht
  have hd' := pin_raw hd m.nm t
  have h2' := RawDay.ok2 hx' hd'
  obtain ⟨em', ep'⟩ := RawDay.ms hx' hd'
  have hm' : (⟨m.nm, m.pl, t, t, m.ln⟩ : Mt) ∈ (pinY d m.nm t).ms := by rw [em']; exact List.mem_map.mpr ⟨m, hm, if_pos rfl⟩
  have hs : m.nm ∈ (pinY d m.nm t).sq := (h2'.o.sm m.nm).mpr (List.mem_map.mpr ⟨_, hm', rfl⟩)
  have a1 := eS_ge h2'.o hs
  have a2 := opW_at h2'.o hm'
  have a3 := lS_ge h2' hk m.nm hs
  have a4 := (lS_le h2' hs).1
  have a5 := laW_at h2' hm'
  dsimp only at a2 a5
  rw [a2] at a1
  rw [a5] at a4
  omega
end
theorem tabOf_keys (f : Str × Str → List Rw) (ls : List (Str × Str)) : ((tabOf ls f).map (·.1)).Nodup ∧ (tabOf ls f).length ≤ ls.length := by
  have : ∀ (ls : List (Str × Str)) (t : Tab), (t.map (·.1)).Nodup → ((ls.foldl (fun t l => pA t l (f l)) t).map (·.1)).Nodup ∧ (ls.foldl (fun t l => pA t l (f l)) t).length ≤ t.length + ls.length := by
    intro ls
    induction ls with
    | nil => exact fun t h => ⟨h, Nat.le_refl _⟩
    | cons l ls ih =>
      intro t h
      rw [List.foldl_cons]
      have h1 := ih (pA t l (f l)) (pA_nodup h _ _)
      have h2 := pA_len t l (f l)
      refine ⟨h1.1, ?_⟩
      have := h1.2
      rw [List.length_cons]
      omega
  have h := this ls [] (by simp)
  exact ⟨h.1, by simpa [tabOf] using h.2⟩
structure DOk3 (d : Dy) : Prop where
  t : DOk2 d
  nd : (d.mp.map (·.1)).Nodup
  ml : d.mp.length ≤ 1000
  m10 : d.ms.length ≤ 10
  p4 : d.ps.length ≤ 4
  sum : (d.ps.map (fun p => p.rw.length)).sum ≤ 1000
  nm : ∀ m ∈ d.ms, NmS m.nm ∧ NmS m.pl
  pn : ∀ q ∈ d.ps, PeOk q
  rk : (ordW (d.ms.map (·.nm)) d.ps).2 = []
theorem inO_none (s : Str) : inO none s = true := rfl
theorem DOk3.mb {d : Dy} (h : DOk3 d) : mBad none [] d.ms = none := mBad_ok h.t.o.nd (fun _ _ h => (nomatch h)) fun _ _ => inO_none _
theorem DOk3.pb {d : Dy} (h : DOk3 d) : pBad none (d.ms.map (·.nm)) [] d.ps = none := pBad_ok h.t.o.pd (fun _ _ h => (nomatch h)) (fun _ _ => inO_none _) h.t.k
structure NewOk (d : Dy) (ms : List Mt) (ps : List Pe) (t2 : Tab) : Prop where
  mb : mBad none [] ms = none
  pb : pBad none (ms.map (·.nm)) [] ps = none
  rk : (ordW (ms.map (·.nm)) ps).2 = []
  mp : ∀ q ∈ ps, ∀ n ∈ q.rw, ∃ F, (vA t2 (q.nm, n)).getD ((vA d.mp (q.nm, n)).getD []) = F ∧ Rz F ∧ (vA t2 (q.nm, n) = none → (vA d.mp (q.nm, n)).isSome = true)
  m10 : ms.length ≤ 10
  p4 : ps.length ≤ 4
  sum : (ps.map (fun p => p.rw.length)).sum ≤ 1000
  nd : (d.mp.map (·.1)).Nodup
  ml : d.mp.length ≤ 1000
  tl : t2.length ≤ 1000
  tn : (t2.map (·.1)).Nodup
theorem NewOk.day {d : Dy} {ms : List Mt} {ps : List Pe} {t2 : Tab} (h : NewOk d ms ps t2) (op : ∀ m ∈ ms, 0 ≤ m.op ∧ 0 ≤ m.ln) (nm : ∀ m ∈ ms, NmS m.nm ∧ NmS m.pl) (pn : ∀ q ∈ ps, PeOk q) : DOk3 (mkDy ms ps (newT ps d.mp t2)) := by
  have pre : DPre ms ps (newT ps d.mp t2) := ⟨h.sum, Nat.le_trans h.p4 (by decide), Nat.le_trans h.m10 (by decide), fun q hq n hn => by
    obtain ⟨F, e, r, _⟩ := h.mp q hq n hn
    exact ⟨F, by rw [newT_at hq hn, e], r⟩, (mBad_nd h.mb).1, (pBad_nd h.pb).1, op, fun q hq => (pn q hq).lv.1, (pBad_nd h.pb).2.2.2⟩
  have k := tabOf_keys (fun l => ((vA t2 l).getD ((vA d.mp l).getD []))) (legsP ps)
  exact ⟨mkDy_ok2 pre h.rk (fun q hq => (pn q hq).rw.2), k.1, Nat.le_trans k.2 (by rw [legs_len]; exact h.sum), h.m10, h.p4, h.sum, nm, pn, h.rk⟩
theorem DOk3.self {d : Dy} (h : DOk3 d) : NewOk d d.ms d.ps d.mp := ⟨h.mb, h.pb, h.rk, fun q hq n hn => by
  obtain ⟨F, e, r⟩ := h.t.o.mp q hq n hn
  exact ⟨F, by rw [e]; rfl, r, fun z => by rw [e] at z; cases z⟩, h.m10, h.p4, h.sum, h.nd, h.ml, h.ml, h.nd⟩
theorem pinM_nms (ms : List Mt) (n : Str) (t : Int) : (ms.map (pinM n t)).map (·.nm) = ms.map (·.nm) := by
  rw [List.map_map]
  exact List.map_congr_left fun m _ => pinM_nm n t m
theorem DOk3.pin {d : Dy} (h : DOk3 d) (n : Str) (t : Int) : NewOk d (d.ms.map (pinM n t)) d.ps d.mp := by
  have s := h.self
  refine ⟨mBad_ok (by rw [pinM_nms]; exact h.t.o.nd) (fun _ _ h => (nomatch h)) fun _ _ => inO_none _, by rw [pinM_nms]; exact h.pb, by rw [pinM_nms]; exact h.rk, s.mp, by rw [List.length_map]; exact h.m10, h.p4, h.sum, h.nd, h.ml, h.ml, h.nd⟩
theorem DOk3.pinY {d : Dy} (h : DOk3 d) (n : Str) {t : Int} (ht : 0 ≤ t) : DOk3 (LW.pinY d n t) := by
  refine (h.pin n t).day (fun m hm => ?_) (fun m hm => ?_) h.pn
  all_goals obtain ⟨m0, h0, rfl⟩ := List.mem_map.mp hm
  · have := h.t.o.op m0 h0
    unfold pinM
    split
    · exact ⟨ht, this.2⟩
    · exact this
  · rw [pinM_nm, pinM_pl]
    exact h.nm m0 h0
theorem RawDay.ok3 {x : Raw} (hx : RawOk x) {d : Dy} (hd : RawDay x d) : DOk3 d := by
  have h2 := RawDay.ok2 hx hd
  obtain ⟨em, ep⟩ := RawDay.ms hx hd
  have hl := hx.ml
  have hs := hx.sum
  obtain ⟨tab, clo, _, _, rfl⟩ := hd
  have k := tabOf_keys (legF x.mt x.pe clo) (legsP x.pe)
  exact ⟨h2, k.1, Nat.le_trans k.2 (by rw [legs_len]; omega), Nat.le_trans hl (by decide), hx.pe.2.2, Nat.le_trans hs (by decide), fun m hm => ⟨(hx.mt.1 m hm).nm, hx.pl.1.1 _ (hx.mt.1 m hm).pl⟩, fun q hq => hx.peOk hq, hx.ord⟩
end LW
namespace LW
open PySem PySem.Spec L2 DL PySem.NumText
open RM PW
theorem legs_nd {d : Dy} (h3 : DOk3 d) : (legsP d.ps).Nodup := by
  have r := h3.t.r
  have pd := h3.t.o.pd
  have : ∀ l : List Pe, (∀ q ∈ l, q.rw.Nodup) → (l.map (·.nm)).Nodup → (legsP l).Nodup := by
    intro l
    induction l with
    | nil => intro _ _; simp [legsP]
    | cons p l ih =>
      intro h1 h2
      rw [List.map_cons, List.nodup_cons] at h2
      show (p.rw.map (fun n => (p.nm, n)) ++ legsP l).Nodup
      rw [List.nodup_append]
      refine ⟨?_, ih (fun q hq => h1 q (List.mem_cons_of_mem _ hq)) h2.2, ?_⟩
      · have hp := h1 p (by simp)
        refine List.pairwise_map.mpr (hp.imp fun hab e => hab ?_)
        exact (Prod.mk.inj e).2
      · intro a ha b hb e
        obtain ⟨x, _, rfl⟩ := List.mem_map.mp ha
        obtain ⟨q, hq, e1, _⟩ := legs_mem.mp hb
        rw [← e] at e1
        exact h2.1 (List.mem_map.mpr ⟨q, hq, e1.symm⟩)
  exact this d.ps r pd
section
variable {x : Raw} (hx : RawOk x) {d : Dy} (hd : RawDay x d) (hex : ∀ p n, exR x p n = 0)
include hx hd hex
end
end LW
namespace LW
open PySem PySem.Spec L2 DL PySem.NumText
open RM PW
section
variable {x : Raw} (hx : RawOk x) {d : Dy} (hd : RawDay x d) (hex : ∀ p n, exR x p n = 0)
include hx hd hex
end
end LW
namespace LW
open PySem PySem.Spec L2 DL PySem.NumText
open RM PW
def hatM (m : Mt) : Mt := ⟨m.nm, m.pl, 0, 0, m.ln⟩
def hatP (q : Pe) : Pe := ⟨q.nm, q.hm, 0, q.rw⟩
def hatR (x : Raw) : Raw := ⟨x.pl, x.td, x.mt.map hatM, x.pe.map hatP, x.od, x.ex⟩
structure RawW (x : Raw) : Prop where
  h : RawOk (hatR x)
  op : ∀ m ∈ x.mt, 0 ≤ m.op
  lv : ∀ q ∈ x.pe, 0 ≤ q.lv
structure MtW (ps : List Str) (m : Mt) : Prop where
  nm : NmS m.nm
  pl : m.pl ∈ ps
  op : 0 ≤ m.op
  ln : 0 ≤ m.ln ∧ m.ln ≤ 600
structure PeW (ps od : List Str) (p : Pe) : Prop where
  nm : NmS p.nm
  hm : p.hm ∈ ps
  lv : 0 ≤ p.lv ∧ True
  rw : p.rw.Sublist od
theorem hat_nms (x : Raw) : (hatR x).mt.map (·.nm) = x.mt.map (·.nm) := by
  show (x.mt.map hatM).map _ = _
  rw [List.map_map]; rfl
theorem hat_pns (x : Raw) : (hatR x).pe.map (·.nm) = x.pe.map (·.nm) := by
  show (x.pe.map hatP).map _ = _
  rw [List.map_map]; rfl
theorem RawOk.w {x : Raw} (h : RawOk x) : RawW x := by
  refine ⟨⟨h.pl, h.td, h.od, ⟨fun m hm => ?_, by rw [hat_nms]; exact h.mt.2⟩, ⟨fun q hq => ?_, by rw [hat_pns]; exact h.pe.2.1, by show (x.pe.map hatP).length ≤ 4; rw [List.length_map]; exact h.pe.2.2⟩, h.ex⟩, fun m hm => (h.mt.1 m hm).op.1, fun q hq => (h.pe.1 q hq).lv.1⟩
  · obtain ⟨m, hm0, rfl⟩ := List.mem_map.mp hm
    have b := h.mt.1 m hm0
    exact ⟨b.nm, b.pl, by simp [hatM], by simp [hatM], b.ln⟩
  · obtain ⟨q, hq0, rfl⟩ := List.mem_map.mp hq
    have b := h.pe.1 q hq0
    exact ⟨b.nm, b.hm, by simp [hatP], b.rw⟩
section
variable {x : Raw} (hx : RawW x)
include hx
theorem RawW.pl : Nms x.pl ∧ 1 ≤ x.pl.length ∧ x.pl.length ≤ 3 := hx.h.pl
theorem RawW.td : TdOk x.pl x.td := hx.h.td
theorem RawW.od : Nms x.od ∧ x.od.length ≤ 4 := hx.h.od
theorem RawW.ex : x.ex.length ≤ 1000 := hx.h.ex
theorem RawW.mt : (∀ m ∈ x.mt, MtW x.pl m) ∧ (x.mt.map (·.nm)).Perm x.od := by
  refine ⟨fun m hm => ?_, by have := hx.h.mt.2; rw [hat_nms] at this; exact this⟩
  have b := hx.h.mt.1 (hatM m) (List.mem_map.mpr ⟨m, hm, rfl⟩)
  exact ⟨b.nm, b.pl, hx.op m hm, b.ln⟩
theorem RawW.pe : (∀ p ∈ x.pe, PeW x.pl x.od p) ∧ (x.pe.map (·.nm)).Nodup ∧ x.pe.length ≤ 4 := by
  refine ⟨fun q hq => ?_, by have := hx.h.pe.2.1; rw [hat_pns] at this; exact this, by have := hx.h.pe.2.2; simpa [hatR] using this⟩
  have b := hx.h.pe.1 (hatP q) (List.mem_map.mpr ⟨q, hq, rfl⟩)
  exact ⟨b.nm, b.hm, ⟨hx.lv q hq, trivial⟩, b.rw⟩
theorem RawW.nd : (x.mt.map (·.nm)).Nodup := hx.mt.2.nodup_iff.mpr hx.od.1.2
theorem RawW.names {n : Str} : n ∈ x.mt.map (·.nm) ↔ n ∈ x.od := hx.mt.2.mem_iff
theorem RawW.ml : x.mt.length ≤ 4 := by
  have := hx.mt.2.length_eq
  rw [List.length_map] at this
  have := hx.od.2
  omega
theorem RawW.rl {q : Pe} (hq : q ∈ x.pe) : q.rw.length ≤ 4 := Nat.le_trans (hx.pe.1 q hq).rw.length_le hx.od.2
theorem RawW.mt_some {n : Str} (hn : n ∈ x.od) : ∃ m, vA (byT x.mt) n = some m ∧ m ∈ x.mt ∧ m.nm = n := by
  obtain ⟨m, hm, rfl⟩ := List.mem_map.mp (hx.names.mpr hn)
  exact ⟨m, nd_at hx.nd hm, hm, rfl⟩
theorem RawW.bfk {dn l : List Str} {n : Str} (e : dn ++ n :: l = x.od) {q : Pe} (hq : q ∈ x.pe) {k : Nat} (hk : q.rw[k]? = some n) {b : Str} (hb : bfK q k = some b) : b ∈ dn ∧ b ≠ n :=
  RawOk.bfk (x := hatR x) hx.h e (q := hatP q) (List.mem_map.mpr ⟨q, hq, rfl⟩) hk hb
theorem RawW.rnd {q : Pe} (hq : q ∈ x.pe) : q.rw.Nodup := (hx.pe.1 q hq).rw.nodup hx.od.1.2
end
section
variable {x : Raw} (hx : RawW x) {d : Dy} (hg : RawG x d)
include hx hg
theorem RawW.dep0 {s : Str → Int} {q : Pe} (hq : q ∈ x.pe) {n : Str} (hs : ∀ b, prevS q.rw n = some b → 0 ≤ s b) : 0 ≤ depF d s q n := by
  have ho := hg.ok.o
  unfold depF
  cases e : prevS q.rw n with
  | none => exact ho.lv q (by rw [hg.ps]; exact hq)
  | some b =>
    dsimp only
    have h1 := hs b e
    have h2 : 0 ≤ lnO d b := by
      unfold lnO
      cases v : vA (byT d.ms) b with
      | none => exact Int.le_refl _
      | some m => exact (ho.op m (mt_at v).1).2
    omega
theorem RawW.arr {s : Str → Int} {q : Pe} (hq : q ∈ x.pe) {k : Nat} {n : Str} (hk : q.rw[k]? = some n) (h0 : 0 ≤ depF d s q n) : arrR x s q k = arrF d s q n := by
  obtain ⟨F, h1, h3⟩ := hg.leg q hq n (List.mem_of_getElem? hk)
  have nd := hx.rnd hq
  have e12 : minR x s q k = depF d s q n ∧ plcR x q k = stOf x.mt q n := by
    unfold minR depF plcR stOf lnR lnO
    rw [bfK_at nd hk, hg.ms]
    exact ⟨rfl, rfl⟩
  obtain ⟨e1, e2⟩ := e12
  unfold arrR arrF
  have e3 : q.rw.getD k "" = n := by rw [List.getD_eq_getElem?_getD, hk]; rfl
  rw [h1, e3, e1, e2]
  show _ = RM.valueAt F _
  rw [h3 _ h0]
theorem RawW.str {s : Str → Int} {n : Str} (hs : ∀ q ∈ x.pe, n ∈ q.rw → ∀ b, prevS q.rw n = some b → 0 ≤ s b) : strR x s n = strF d s n := by
  unfold strR strF attQ
  rw [hg.ps]
  have eo : opR x n = opW d n := by unfold opR opW; rw [hg.ms]
  rw [eo]
  have key : ∀ (l : List Pe), (∀ q ∈ l, q ∈ x.pe) → ∀ a, l.foldl (fun a q => rowR x s n q q.rw.length a) a = (l.filter fun q => decide (n ∈ q.rw)).foldl (fun a q => max a (arrF d s q n)) a := by
    intro l
    induction l with
    | nil => intro _ a; rfl
    | cons q l ih =>
      intro h a
      have hq := h q (by simp)
      have nd := hx.rnd hq
      rw [List.foldl_cons]
      by_cases hn : n ∈ q.rw
      · obtain ⟨k, hk⟩ := List.getElem?_of_mem hn
        have hkl := (List.getElem?_eq_some_iff.mp hk).1
        rw [List.filter_cons_of_pos (by simpa using hn), List.foldl_cons, rowR_yes nd hk _ _ hkl, RawW.arr hx hg hq hk (RawW.dep0 hx hg hq (hs q hq hn))]
        exact ih (fun q hq => h q (List.mem_cons_of_mem _ hq)) _
      · rw [List.filter_cons_of_neg (by simpa using hn), rowR_no _ _ fun j _ z => hn (List.mem_of_getElem? z)]
        exact ih (fun q hq => h q (List.mem_cons_of_mem _ hq)) _
  exact key x.pe (fun _ h => h) _
theorem RawW.sq {n : Str} : n ∈ x.od ↔ n ∈ d.sq := by
  rw [hg.ok.o.sm n, hg.ms]
  exact hx.names.symm
theorem RawW.before {dn l : List Str} {n : Str} (e : dn ++ n :: l = x.od) {q : Pe} (hq : q ∈ x.pe) (hn : n ∈ q.rw) {b : Str} (hb : prevS q.rw n = some b) : b ∈ dn := by
  obtain ⟨k, hk⟩ := List.getElem?_of_mem hn
  exact (hx.bfk e hq hk (by rw [← bfK_at (hx.rnd hq) hk]; exact hb)).1
theorem RawW.erl : ∀ (dn l : List Str), dn ++ l = x.od → erlP x dn = dn.map fun n => (n, eS d n) := by
  have ho := hg.ok.o
  have key : ∀ k (dn l : List Str), dn.length = k → dn ++ l = x.od → erlP x dn = dn.map fun n => (n, eS d n) := by
    intro k
    induction k with
    | zero => intro dn l hl e; rw [List.length_eq_zero_iff.mp hl]; rfl
    | succ k ih =>
      intro dn l hl e
      rcases List.eq_nil_or_concat dn with rfl | ⟨d0, n, rfl⟩
      · cases hl
      · rw [List.concat_eq_append] at *
        have e1 : d0 ++ (n :: l) = x.od := by rw [← e]; simp
        have h0 := ih d0 (n :: l) (by simpa using hl) e1
        have hst : ∀ b ∈ d0, stf (erlP x d0) b = eS d b := fun b hb => by
          unfold stf
          rw [h0, vA_of (k := b) (v := eS d b) (by rw [List.map_map]; have := hx.od.1.2; rw [← e1, List.nodup_append] at this; exact (List.map_id d0).symm ▸ this.1) (List.mem_map.mpr ⟨b, hb, rfl⟩)]
          rfl
        have hsq : ∀ m, m ∈ x.od → m ∈ d.sq := fun m => (RawW.sq hx hg).mp
        rw [erlP_more, List.map_append]
        refine congr (congrArg _ h0) ?_
        show [(n, strR x (stf (erlP x d0)) n)] = [(n, eS d n)]
        have hb : ∀ q ∈ x.pe, n ∈ q.rw → ∀ b, prevS q.rw n = some b → stf (erlP x d0) b = eS d b := fun q hq hn b hb => hst b (RawW.before hx hg e1 hq hn hb)
        rw [RawW.str hx hg (s := stf (erlP x d0)) (n := n) (fun q hq hn b hbb => by
          rw [hb q hq hn b hbb]
          exact eS_pos ho (hsq b (by rw [← e1]; exact List.mem_append_left _ (RawW.before hx hg e1 hq hn hbb)))), eS_sol ho (hsq n (by rw [← e1]; simp))]
        congr 2
        refine strF_congr fun q hq hn b hbb => ?_
        rw [hg.ps] at hq
        exact hb q hq hn b hbb
  exact fun dn l e => key dn.length dn l rfl e
theorem RawW.stf {n : Str} (hn : n ∈ x.od) : LW.stf (erlP x x.od) n = eS d n := by
  rw [RawW.erl hx hg x.od [] (by simp)]
  unfold LW.stf
  rw [vA_of (k := n) (v := eS d n) (by rw [List.map_map]; exact (List.map_id x.od).symm ▸ hx.od.1.2) (List.mem_map.mpr ⟨n, hn, rfl⟩)]
  rfl
theorem RawW.late : latR x = lateP d := by
  unfold latR lateP
  rw [hg.ms]
  refine List.filter_congr fun m hm => ?_
  rw [RawW.stf hx hg (hx.names.mp (List.mem_map.mpr ⟨m, hm, rfl⟩))]
end
end LW
namespace LW
open PySem PySem.Spec L2 DL PySem.NumText
open RM PW
section
variable {d : Dy} (h2 : DOk2 d) (p : Str)
include h2
end
end LW
namespace LW
open PySem PySem.Spec L2 DL PySem.NumText
open RM PW
section
variable {x : Raw} (hx : RawOk x) {d : Dy} (hd : RawDay x d)
include hx hd
end
end LW
namespace LW
open PySem PySem.Spec L2 DL PySem.NumText
open RM PW
end LW
namespace LW
open PySem PySem.Spec L2 DL PySem.NumText
open RM PW
end LW
namespace LW
open PySem PySem.Spec L2 DL PySem.NumText
open RM PW
section
variable {d : Dy} (h2 : DOk2 d) (p : Str)
include h2
end
end LW
namespace RM
end RM
namespace LW
open PySem PySem.Spec L2 DL PySem.NumText
open RM PW
end LW
namespace LW
open PySem PySem.Spec L2 DL PySem.NumText
open RM PW
end LW
namespace LW
open PySem PySem.Spec L2 DL PySem.NumText
open RM PW
end LW
namespace LW
open L2
end LW
namespace LW
open PySem PySem.Spec L2 DL PySem.NumText
open RM PW
end LW
namespace LW
open PySem PySem.Spec L2 DL PySem.NumText
open RM PW
instance : DecidableEq Mt := fun a b => decidable_of_iff ((a.nm, a.pl, a.op, a.la, a.ln) = (b.nm, b.pl, b.op, b.la, b.ln)) (by cases a; cases b; simp)
instance : DecidableEq Pe := fun a b => decidable_of_iff ((a.nm, a.hm, a.lv, a.rw) = (b.nm, b.hm, b.lv, b.rw)) (by cases a; cases b; simp)
def KeyP (d : Dy) : Prop := d.mp.map (·.1) = legsP d.ps ∧ (legsP d.ps).Nodup
theorem tabOf_ks (f : Str × Str → List Rw) : ∀ (ls : List (Str × Str)) (t : Tab), (t.map (·.1) ++ ls).Nodup → (ls.foldl (fun t l => pA t l (f l)) t).map (·.1) = t.map (·.1) ++ ls
  | [], t, _ => by simp
  | l :: ls, t, nd => by
    have hn : vA t l = none := vA_none.mpr fun z => by
      rw [List.nodup_append] at nd
      exact nd.2.2 l z l (by simp) rfl
    rw [List.foldl_cons, pA_new _ hn, tabOf_ks f ls _ (by simpa using nd)]
    simp
theorem KeyP.mk' {ms : List Mt} {ps : List Pe} (f : Str × Str → List Rw) (nd : (legsP ps).Nodup) : KeyP (mkDy ms ps (tabOf (legsP ps) f)) := by
  refine ⟨?_, nd⟩
  show (tabOf (legsP ps) f).map (·.1) = legsP ps
  unfold tabOf
  rw [tabOf_ks f _ [] (by simpa using nd)]
  simp
end LW
namespace LW
open PySem PySem.Spec L2 DL PySem.NumText
open RM PW
theorem RawDay.uniq {x : Raw} (hx : RawOk x) {d e : Dy} (hd : RawDay x d) (he : RawDay x e) : d = e := by
  have kd := fun q hq n hn => RawDay.leg hx hd (q := q) hq (n := n) hn
  have ke := fun q hq n hn => RawDay.leg hx he (q := q) hq (n := n) hn
  obtain ⟨tab, clo, h1, h2, rfl⟩ := hd
  obtain ⟨tab', clo', h1', h2', rfl⟩ := he
  have : (DSrc.wy x.pl tab clo).tab x.mt x.pe = (DSrc.wy x.pl tab' clo').tab x.mt x.pe := by
    refine tabOf_congr fun l hl => ?_
    obtain ⟨q, hq, e1, hn⟩ := legs_mem.mp hl
    obtain ⟨F, a1, a2, a3⟩ := kd q hq l.2 hn
    obtain ⟨G, b1, b2, b3⟩ := ke q hq l.2 hn
    have el : (q.nm, l.2) = l := by rw [← e1]
    rw [el] at a1 b1
    have c1 : vA (tabOf (legsP x.pe) (legF x.mt x.pe clo)) l = some F := a1
    have c2 : vA (tabOf (legsP x.pe) (legF x.mt x.pe clo')) l = some G := b1
    rw [tabOf_vA, if_pos hl] at c1 c2
    rw [Option.some.inj c1, Option.some.inj c2]
    exact a2.eq b2 fun t ht => by rw [a3 t ht, b3 t ht]
  show mkDy _ _ _ = mkDy _ _ _
  rw [this]
theorem RawDay.key {x : Raw} (hx : RawOk x) {d : Dy} (hd : RawDay x d) : KeyP d := by
  have nd := legs_nd (RawDay.ok3 hx hd)
  obtain ⟨tab, clo, h1, h2, rfl⟩ := hd
  exact KeyP.mk' _ nd
end LW
namespace LW
open PySem PySem.Spec L2 DL PySem.NumText
open RM PW
end LW
namespace LW
open PySem PySem.Spec L2 DL PySem.NumText
open RM PW
section
variable {x : Raw} (hx : RawOk x) {d0 : Dy} (hd0 : RawDay x d0) {d : Dy} (hg : RawG x d)
include hx hd0 hg
end
end LW
namespace LW
open PySem PySem.Spec L2 DL PySem.NumText
open RM PW
end LW
namespace LW
open PySem PySem.Spec L2 DL PySem.NumText
open RM PW
theorem cut_lo {xs : List Dt} {n : Int} (h0 : 0 ≤ n) (h1 : n ≤ xs.length) : cutD xs none (some n) = xs.take n.toNat := by
  unfold cutD
  rw [HT.sIx_none, List.drop_zero, Nat.sub_zero]
  have : HT.sIx xs.length xs.length (some n) = n.toNat := by
    show (if n < 0 then (n + (xs.length : Int)).toNat else min n.toNat xs.length) = _
    rw [if_neg (by omega)]
    omega
  rw [this]
end LW
namespace LW
open PySem PySem.Spec L2 DL PySem.NumText
def top (i : Nat) : Stmt := PySem.Challenge.pw_laterways_k45_changes.main.body.getD i (.Pass ⟨0, 0, 0, 0⟩)
abbrev s_law_start : Stmt := top 13
abbrev s_law_draw : Stmt := top 14
abbrev s_is_integer : Stmt := top 5
abbrev s_check_integer : Stmt := top 6
abbrev s_check_number : Stmt := top 7
abbrev s_ChangesZZ_initZZ : Stmt := inClass (top 11) 0
abbrev s_law_failed : Stmt := top 15
abbrev s_law_minutes : Stmt := top 16
abbrev s_law_due : Stmt := top 17
abbrev s_law : Stmt := top 18
theorem sc_law_start : FnScope ["_law_script", "_law_first"] ["_law_script"] (defScope s_law_start) := ⟨rfl, rfl, rfl, by decide +kernel, rfl, by decide +kernel, by decide +kernel⟩
theorem sc_law_draw : FnScope ["_law_script", "_law_state", "_law_limit", "_law_number", "_law_cell", "_law_mixed"] ["_law_script", "_law_state", "_law_limit"] (defScope s_law_draw) := ⟨rfl, rfl, rfl, by decide +kernel, rfl, by decide +kernel, by decide +kernel⟩
theorem sc_is_integer : FnScope ["value"] ["value"] (defScope s_is_integer) := ⟨rfl, rfl, rfl, by decide +kernel, rfl, by decide +kernel, by decide +kernel⟩
theorem sc_check_integer : FnScope ["what", "value"] ["what", "value"] (defScope s_check_integer) := ⟨rfl, rfl, rfl, by decide +kernel, rfl, by decide +kernel, by decide +kernel⟩
theorem sc_check_number : FnScope ["what", "value", "low", "high"] ["what", "value", "low", "high"] (defScope s_check_number) := ⟨rfl, rfl, rfl, by decide +kernel, rfl, by decide +kernel, by decide +kernel⟩
theorem sc_ChangesZZ_initZZ : FnScope ["self", "legs", "lengths", "most", "extra", "leg", "name"] ["self", "legs", "lengths", "most"] (defScope s_ChangesZZ_initZZ) := ⟨rfl, rfl, rfl, by decide +kernel, rfl, by decide +kernel, by decide +kernel⟩
theorem sc_law_failed : FnScope ["_law_action", "_law_told", "e"] ["_law_action"] (defScope s_law_failed) := ⟨rfl, rfl, rfl, by decide +kernel, rfl, by decide +kernel, by decide +kernel⟩
theorem sc_law_minutes : FnScope ["_law_script", "_law_state", "_law_odd", "_law_kind"] ["_law_script", "_law_state"] (defScope s_law_minutes) := ⟨rfl, rfl, rfl, by decide +kernel, rfl, by decide +kernel, by decide +kernel⟩
theorem sc_law_due : FnScope ["_law_legs", "_law_lengths", "_law_most", "_law_value", "_law_leg", "_law_name"] ["_law_legs", "_law_lengths", "_law_most"] (defScope s_law_due) := ⟨rfl, rfl, rfl, by decide +kernel, rfl, by decide +kernel, by decide +kernel⟩
theorem sc_law : FnScope ["_law_script", "_law_state", "_law_k", "_law_name", "_law_kept", "_law_due_here", "_law_changes", "_law_mine", "_law_theirs", "_law_legs", "_law_lengths", "_law_most", "_law_leg"] ["_law_script"] (defScope s_law) := ⟨rfl, rfl, rfl, by decide +kernel, rfl, by decide +kernel, by decide +kernel⟩
structure Tx (P : Program) (K : PySem.W.Frag) (mg : Str → Option Value) : Prop where
  b_abs : mg "abs" = none
  b_bool : mg "bool" = none
  b_int : mg "int" = none
  b_isinstance : mg "isinstance" = none
  b_len : mg "len" = none
  b_list : mg "list" = none
  b_range : mg "range" = none
  c_MOST_CHANGES : ∃ t, mg "MOST_CHANGES" = some (.int 20 t)
  c_MOST_EXTRA : ∃ t, mg "MOST_EXTRA" = some (.int 600 t)
  g_BadName : mg "BadName" = some (.ref (He.ga K "BadName"))
  g_BadNumber : mg "BadNumber" = some (.ref (He.ga K "BadNumber"))
  g_CalendarError : mg "CalendarError" = some (.ref (He.ga K "CalendarError"))
  g_Changes : mg "Changes" = some (.ref (He.ga K "Changes"))
  E_BadName : ErrK P K mg "BadName" (He.ga K "BadName") ["name"]
  E_BadNumber : ErrK P K mg "BadNumber" (He.ga K "BadNumber") ["what", "value"]
  f_law_start : ∃ fd, FunD K "_law_start" "_law_start" (defArgs s_law_start) (defBody s_law_start) (defScope s_law_start) [] [] (He.fAd K ("_law_start", none)) fd
  g_law_start : mg "_law_start" = some (.ref (He.ga K "_law_start"))
  f_law_draw : ∃ fd, FunD K "_law_draw" "_law_draw" (defArgs s_law_draw) (defBody s_law_draw) (defScope s_law_draw) [] [] (He.fAd K ("_law_draw", none)) fd
  g_law_draw : mg "_law_draw" = some (.ref (He.ga K "_law_draw"))
  f_is_integer : ∃ fd, FunD K "is_integer" "is_integer" (defArgs s_is_integer) (defBody s_is_integer) (defScope s_is_integer) [] [] (He.fAd K ("is_integer", none)) fd
  g_is_integer : mg "is_integer" = some (.ref (He.ga K "is_integer"))
  f_check_integer : ∃ fd, FunD K "check_integer" "check_integer" (defArgs s_check_integer) (defBody s_check_integer) (defScope s_check_integer) [] [] (He.fAd K ("check_integer", none)) fd
  g_check_integer : mg "check_integer" = some (.ref (He.ga K "check_integer"))
  f_check_number : ∃ fd, FunD K "check_number" "check_number" (defArgs s_check_number) (defBody s_check_number) (defScope s_check_number) [] [] (He.fAd K ("check_number", none)) fd
  g_check_number : mg "check_number" = some (.ref (He.ga K "check_number"))
  f_ChangesZZ_initZZ : ∃ fd, FunD K "__init__" "Changes.__init__" (defArgs s_ChangesZZ_initZZ) (defBody s_ChangesZZ_initZZ) (defScope s_ChangesZZ_initZZ) [] [] (He.fAd K ("Changes", some "__init__")) fd
  f_law_failed : ∃ fd, FunD K "_law_failed" "_law_failed" (defArgs s_law_failed) (defBody s_law_failed) (defScope s_law_failed) [] [] (He.fAd K ("_law_failed", none)) fd
  g_law_failed : mg "_law_failed" = some (.ref (He.ga K "_law_failed"))
  f_law_minutes : ∃ fd, FunD K "_law_minutes" "_law_minutes" (defArgs s_law_minutes) (defBody s_law_minutes) (defScope s_law_minutes) [] [] (He.fAd K ("_law_minutes", none)) fd
  g_law_minutes : mg "_law_minutes" = some (.ref (He.ga K "_law_minutes"))
  f_law_due : ∃ fd, FunD K "_law_due" "_law_due" (defArgs s_law_due) (defBody s_law_due) (defScope s_law_due) [] [] (He.fAd K ("_law_due", none)) fd
  g_law_due : mg "_law_due" = some (.ref (He.ga K "_law_due"))
  f_law : ∃ fd, FunD K "law" "law" (defArgs s_law) (defBody s_law) (defScope s_law) [] [] (He.fAd K ("law", none)) fd
  g_law : mg "law" = some (.ref (He.ga K "law"))
  x_MN : PySem.W.exmOne K (.ref (He.ga K "BadNumber")) (.ref (He.ga K "BadName")) = some false
  x_MM : PySem.W.exmOne K (.ref (He.ga K "BadNumber")) (.ref (He.ga K "BadNumber")) = some true
  m_Changes : Mk K (He.ga K "Changes") (He.fAd K ("Changes", some "__init__"))
  cl_Changes : Cls K (He.ga K "Changes")
  if_Changes : InsF K (He.ga K "Changes")
  na_Changes_legs : NoAttr K (He.ga K "Changes") "legs"
  na_Changes_lengths : NoAttr K (He.ga K "Changes") "lengths"
  na_Changes_most : NoAttr K (He.ga K "Changes") "most"
noncomputable section
open PySem.W PySem.Calls PyProof.Rows HandSHeadRun DH
def hE : Env := { scope := PySem.Challenge.pw_laterways_k45_changes.main.scope, locals := mainNs, globals := mainNs, cells := [], code := (vR 13), frame := (some 14) }
abbrev hB : List Stmt := behindTheImports PySem.Challenge.pw_laterways_k45_changes
abbrev hC : Code := .body hB hE
abbrev hA : Option Value := some (vR 6)
abbrev hQ : Pos := { line := 0, col := 0, endLine := 0, endCol := 0 }
def o11_0 (p : Params) : Obj := tu []
def o12_0 (p : Params) : Obj := fs []
def o13_0 (p : Params) : Obj := co [(vS "<module>" 182), (vS "<module>" 183), (vS "/claim/cut.py" 184), (vI 1 0), (vI 0 0), (vI 0 0), (vI 0 0), (vI 0 0), (vR 11), (vL false), (vI 181 0), (vR 12), .none, .none, .none, .none, (vI 185 0), (vI 1 0), (vS "/claim/cut.py" 186)]
def o14_0 (p : Params) : Obj := ot (vT "frame") none (.plain) [some (vR 13), some (vR 3), some (vR 3), none, some (vS "__main__" 164), none, some (vR 0)]
def hT0 (p : Params) : PySem.W.BT := (nd (boot_o_0 p) (nd (boot_o_1 p) (nd (boot_o_3 p) (lf (boot_o_7 p)) (lf (o11_0 p))) (nd (boot_o_5 p) (lf (boot_o_9 p)) (lf (o13_0 p)))) (nd (boot_o_2 p) (nd (boot_o_4 p) (lf (boot_o_8 p)) (lf (o12_0 p))) (nd (boot_o_6 p) (lf (boot_o_10 p)) (lf (o14_0 p)))))
def hS0 (w : World) (os : OsState) : SharedT := ⟨hT0 w.params, 15, (boot_heap w.params).life, #[], boot_drawn, 187, os⟩
abbrev hP0 : Pos := { line := 0, col := 0, endLine := 0, endCol := 0 }
def hT1 (p : Params) : PySem.W.BT := (nd (boot_o_0 p) (nd (boot_o_1 p) (nd (boot_o_3 p) (lf (boot_o_7 p)) (lf (o11_0 p))) (nd (boot_o_5 p) (lf (boot_o_9 p)) (lf (o13_0 p)))) (nd (boot_o_2 p) (nd (boot_o_4 p) (lf (boot_o_8 p)) (lf (o12_0 p))) (nd (boot_o_6 p) (lf (boot_o_10 p)) (lf (o14_0 p)))))
def hS1 (w : World) (os : OsState) : SharedT := ⟨hT1 w.params, 15, (boot_heap w.params).life, #[], boot_drawn, 187, os⟩
abbrev hP1 : Pos := { line := 0, col := 0, endLine := 0, endCol := 0 }
def o3_2 (p : Params) : Obj := di 21 [en p "__name__" 165 (vS "law_laterways_k45_changes" 325), en p "__doc__" 166 .none, en p "__package__" 167 .none, en p "__loader__" 168 (vB "__main__.__loader__#opaque"), en p "__spec__" 169 .none, en p "__annotations__" 170 (vR 6), en p "__builtins__" 171 (vR 4), en p "__file__" 173 (vS "/claim/cut.py" 172), en p "__cached__" 174 .none, en p "CalendarError" 206 (vR 24), en p "BadName" 233 (vR 46), en p "BadNumber" 262 (vR 67), en p "is_integer" 271 (vR 76), en p "check_integer" 279 (vR 83), en p "check_number" 289 (vR 90), en p "MOST_EXTRA" 293 (vI 600 292), en p "MOST_CHANGES" 295 (vI 20 294), en p "Changes" 324 (vR 105), en p "_law_start" 334 (vR 116), en p "_law_draw" 346 (vR 123), en p "_law_failed" 355 (vR 130)]
def o12_2 (p : Params) : Obj := fs [(vI 2 0), (vI 0 0), (vR 20), (vI 4 0), (vI 0 0), (vR 34), (vI 9 0), (vI 0 0), (vR 55), (vI 16 0), (vI 0 0), (vR 75), (vI 18 0), (vI 0 0), (vR 82), (vI 22 0), (vI 0 0), (vR 89), (vI 30 0), (vI 0 0), (vR 96), (vI 39 0), (vI 0 0), (vR 115), (vI 44 0), (vI 0 0), (vR 122), (vI 60 0), (vI 0 0), (vR 129)]
def o15_2 (p : Params) : Obj := tu [(vT "ValueError")]
def o16_2 (p : Params) : Obj := ot (vT "builtin_function_or_method") none (.fields [(vB "type.__prepare__"), (vT "type")].toArray) []
def o17_2 (p : Params) : Obj := di 4 [en p "__module__" 196 (vS "laterways.errors" 187), en p "__qualname__" 198 (vS "CalendarError" 197), en p "__firstlineno__" 200 (vI 2 199), en p "__static_attributes__" 201 (vR 22)]
def o18_2 (p : Params) : Obj := tu []
def o19_2 (p : Params) : Obj := fs []
def o20_2 (p : Params) : Obj := co [(vS "CalendarError" 191), (vS "CalendarError" 192), (vS "/claim/cut.py" 193), (vI 2 0), (vI 0 0), (vI 0 0), (vI 0 0), (vI 0 0), (vR 18), (vL false), (vI 181 0), (vR 19), .none, .none, .none, .none, (vI 194 0), (vI 2 0), (vS "/claim/cut.py" 195)]
def o21_2 (p : Params) : Obj := ot (vT "frame") none (.plain) [some (vR 20), some (vR 3), some (vR 17), none, some (vS "laterways.errors" 187), none, some (vR 0)]
def o22_2 (p : Params) : Obj := tu []
def o23_2 (p : Params) : Obj := di 3 [en p "__module__" 196 (vS "laterways.errors" 187), en p "__firstlineno__" 200 (vI 2 199), en p "__static_attributes__" 201 (vR 22), en p "__weakref__" 203 (vR 25), en p "__doc__" 204 .none]
def o24_2 (p : Params) : Obj := cl "CalendarError" "CalendarError" [(vT "ValueError")] [(vR 24), (vT "ValueError"), (vT "Exception"), (vT "BaseException"), (vT "object")] 23 true [(vR 46), (vR 67)] [some (vR 15), none, some (vS "CalendarError" 189), some (vS "CalendarError" 197), some (vB "ValueError.__new__"), some (vL true)]
def o25_2 (p : Params) : Obj := ot (vT "getset_descriptor") none (.fields [(vS "__weakref__" 202), (vR 24), (vB "ExceptionGroup.__weakref__"), .none].toArray) []
def o26_2 (p : Params) : Obj := ot (vT "super") none (.fields [(vR 24), (vR 24), (vR 24)].toArray) []
def o27_2 (p : Params) : Obj := ot (vT "builtin_function_or_method") none (.fields [(vB "object.__init_subclass__"), (vR 24)].toArray) []
def o28_2 (p : Params) : Obj := tu [(vR 24)]
def o29_2 (p : Params) : Obj := ot (vT "builtin_function_or_method") none (.fields [(vB "type.__prepare__"), (vT "type")].toArray) []
def o30_2 (p : Params) : Obj := di 6 [en p "__module__" 214 (vS "laterways.errors" 187), en p "__qualname__" 216 (vS "BadName" 215), en p "__firstlineno__" 218 (vI 4 217), en p "__init__" 227 (vR 43), en p "__static_attributes__" 229 (vR 44), en p "__classcell__" 230 (vR 31)]
def o31_2 (p : Params) : Obj := ot (vT "cell") none (.cell (some (vR 46))) []
def o32_2 (p : Params) : Obj := tu []
def o33_2 (p : Params) : Obj := fs [(vI 6 0), (vI 4 0), (vR 42)]
def o34_2 (p : Params) : Obj := co [(vS "BadName" 209), (vS "BadName" 210), (vS "/claim/cut.py" 211), (vI 4 0), (vI 0 0), (vI 0 0), (vI 0 0), (vI 0 0), (vR 32), (vL false), (vI 181 0), (vR 33), .none, .none, .none, .none, (vI 212 0), (vI 4 0), (vS "/claim/cut.py" 213)]
def o35_2 (p : Params) : Obj := ot (vT "frame") none (.plain) [some (vR 34), some (vR 3), some (vR 30), none, some (vS "laterways.errors" 187), none, some (vR 0)]
def o36_2 (p : Params) : Obj := tu [(vR 31)]
def o37_2 (p : Params) : Obj := tu [(vS "__class__" 222)]
def o38_2 (p : Params) : Obj := fs []
def o39_2 (p : Params) : Obj := tu [(vS "self" 223), (vS "name" 224)]
def o40_2 (p : Params) : Obj := tu []
def o41_2 (p : Params) : Obj := fu .none (inClass (top 2) 0) "__init__" "BadName.__init__" 0 [] .none .none .none .none none .none .none 0
def o42_2 (p : Params) : Obj := co [(vS "__init__" 219), (vS "BadName.__init__" 220), (vS "/claim/cut.py" 221), (vI 6 0), (vI 2 0), (vI 0 0), (vI 0 0), (vI 3 0), (vR 37), (vL true), (vI 181 0), (vR 38), .none, (vR 39), (vR 40), (vR 41), (vI 225 0), (vI 6 0), (vS "/claim/cut.py" 226)]
def o43_2 (p : Params) : Obj := fu (vT "function") (inClass (top 2) 0) "__init__" "BadName.__init__" 3 [("__class__", 31)] .none .none .none (vS "laterways.errors" 187) none (vR 42) (vR 36) 0
def o44_2 (p : Params) : Obj := tu [(vS "name" 228)]
def o45_2 (p : Params) : Obj := di 3 [en p "__module__" 214 (vS "laterways.errors" 187), en p "__firstlineno__" 218 (vI 4 217), en p "__init__" 227 (vR 43), en p "__static_attributes__" 229 (vR 44), en p "__doc__" 231 .none]
def o46_2 (p : Params) : Obj := cl "BadName" "BadName" [(vR 24)] [(vR 46), (vR 24), (vT "ValueError"), (vT "Exception"), (vT "BaseException"), (vT "object")] 45 true [] [some (vR 28), none, some (vS "BadName" 207), some (vS "BadName" 215), some (vB "ValueError.__new__"), some (vL true)]
def o47_2 (p : Params) : Obj := ot (vT "super") none (.fields [(vR 46), (vR 46), (vR 46)].toArray) []
def o48_2 (p : Params) : Obj := ot (vT "builtin_function_or_method") none (.fields [(vB "object.__init_subclass__"), (vR 46)].toArray) []
def o49_2 (p : Params) : Obj := tu [(vR 24)]
def o50_2 (p : Params) : Obj := ot (vT "builtin_function_or_method") none (.fields [(vB "type.__prepare__"), (vT "type")].toArray) []
def o51_2 (p : Params) : Obj := di 6 [en p "__module__" 241 (vS "laterways.errors" 187), en p "__qualname__" 243 (vS "BadNumber" 242), en p "__firstlineno__" 245 (vI 9 244), en p "__init__" 255 (vR 64), en p "__static_attributes__" 258 (vR 65), en p "__classcell__" 259 (vR 52)]
def o52_2 (p : Params) : Obj := ot (vT "cell") none (.cell (some (vR 67))) []
def o53_2 (p : Params) : Obj := tu []
def o54_2 (p : Params) : Obj := fs [(vI 11 0), (vI 4 0), (vR 63)]
def o55_2 (p : Params) : Obj := co [(vS "BadNumber" 236), (vS "BadNumber" 237), (vS "/claim/cut.py" 238), (vI 9 0), (vI 0 0), (vI 0 0), (vI 0 0), (vI 0 0), (vR 53), (vL false), (vI 181 0), (vR 54), .none, .none, .none, .none, (vI 239 0), (vI 9 0), (vS "/claim/cut.py" 240)]
def o56_2 (p : Params) : Obj := ot (vT "frame") none (.plain) [some (vR 55), some (vR 3), some (vR 51), none, some (vS "laterways.errors" 187), none, some (vR 0)]
def o57_2 (p : Params) : Obj := tu [(vR 52)]
def o58_2 (p : Params) : Obj := tu [(vS "__class__" 249)]
def o59_2 (p : Params) : Obj := fs []
def o60_2 (p : Params) : Obj := tu [(vS "self" 250), (vS "what" 251), (vS "value" 252)]
def o61_2 (p : Params) : Obj := tu []
def o62_2 (p : Params) : Obj := fu .none (inClass (top 3) 0) "__init__" "BadNumber.__init__" 0 [] .none .none .none .none none .none .none 0
def o63_2 (p : Params) : Obj := co [(vS "__init__" 246), (vS "BadNumber.__init__" 247), (vS "/claim/cut.py" 248), (vI 11 0), (vI 3 0), (vI 0 0), (vI 0 0), (vI 3 0), (vR 58), (vL true), (vI 181 0), (vR 59), .none, (vR 60), (vR 61), (vR 62), (vI 253 0), (vI 11 0), (vS "/claim/cut.py" 254)]
def o64_2 (p : Params) : Obj := fu (vT "function") (inClass (top 3) 0) "__init__" "BadNumber.__init__" 3 [("__class__", 52)] .none .none .none (vS "laterways.errors" 187) none (vR 63) (vR 57) 0
def o65_2 (p : Params) : Obj := tu [(vS "value" 256), (vS "what" 257)]
def o66_2 (p : Params) : Obj := di 3 [en p "__module__" 241 (vS "laterways.errors" 187), en p "__firstlineno__" 245 (vI 9 244), en p "__init__" 255 (vR 64), en p "__static_attributes__" 258 (vR 65), en p "__doc__" 260 .none]
def o67_2 (p : Params) : Obj := cl "BadNumber" "BadNumber" [(vR 24)] [(vR 67), (vR 24), (vT "ValueError"), (vT "Exception"), (vT "BaseException"), (vT "object")] 66 true [] [some (vR 49), none, some (vS "BadNumber" 234), some (vS "BadNumber" 242), some (vB "ValueError.__new__"), some (vL true)]
def o68_2 (p : Params) : Obj := ot (vT "super") none (.fields [(vR 67), (vR 67), (vR 67)].toArray) []
def o69_2 (p : Params) : Obj := ot (vT "builtin_function_or_method") none (.fields [(vB "object.__init_subclass__"), (vR 67)].toArray) []
def o70_2 (p : Params) : Obj := tu []
def o71_2 (p : Params) : Obj := fs []
def o72_2 (p : Params) : Obj := tu [(vS "value" 268)]
def o73_2 (p : Params) : Obj := tu []
def o74_2 (p : Params) : Obj := fu .none (top 5) "is_integer" "is_integer" 0 [] .none .none .none .none none .none .none 0
def o75_2 (p : Params) : Obj := co [(vS "is_integer" 265), (vS "is_integer" 266), (vS "/claim/cut.py" 267), (vI 16 0), (vI 1 0), (vI 0 0), (vI 0 0), (vI 3 0), (vR 70), (vL true), (vI 181 0), (vR 71), .none, (vR 72), (vR 73), (vR 74), (vI 269 0), (vI 16 0), (vS "/claim/cut.py" 270)]
def o76_2 (p : Params) : Obj := fu (vT "function") (top 5) "is_integer" "is_integer" 3 [] .none .none .none (vS "laterways.words" 263) none (vR 75) .none 0
def o77_2 (p : Params) : Obj := tu []
def o78_2 (p : Params) : Obj := fs []
def o79_2 (p : Params) : Obj := tu [(vS "what" 275), (vS "value" 276)]
def o80_2 (p : Params) : Obj := tu []
def o81_2 (p : Params) : Obj := fu .none (top 6) "check_integer" "check_integer" 0 [] .none .none .none .none none .none .none 0
def o82_2 (p : Params) : Obj := co [(vS "check_integer" 272), (vS "check_integer" 273), (vS "/claim/cut.py" 274), (vI 18 0), (vI 2 0), (vI 0 0), (vI 0 0), (vI 3 0), (vR 77), (vL true), (vI 181 0), (vR 78), .none, (vR 79), (vR 80), (vR 81), (vI 277 0), (vI 18 0), (vS "/claim/cut.py" 278)]
def o83_2 (p : Params) : Obj := fu (vT "function") (top 6) "check_integer" "check_integer" 3 [] .none .none .none (vS "laterways.words" 263) none (vR 82) .none 0
def o84_2 (p : Params) : Obj := tu []
def o85_2 (p : Params) : Obj := fs []
def o86_2 (p : Params) : Obj := tu [(vS "what" 283), (vS "value" 284), (vS "low" 285), (vS "high" 286)]
def o87_2 (p : Params) : Obj := tu []
def o88_2 (p : Params) : Obj := fu .none (top 7) "check_number" "check_number" 0 [] .none .none .none .none none .none .none 0
def o89_2 (p : Params) : Obj := co [(vS "check_number" 280), (vS "check_number" 281), (vS "/claim/cut.py" 282), (vI 22 0), (vI 4 0), (vI 0 0), (vI 0 0), (vI 3 0), (vR 84), (vL true), (vI 181 0), (vR 85), .none, (vR 86), (vR 87), (vR 88), (vI 287 0), (vI 22 0), (vS "/claim/cut.py" 288)]
def o90_2 (p : Params) : Obj := fu (vT "function") (top 7) "check_number" "check_number" 3 [] .none .none .none (vS "laterways.words" 263) none (vR 89) .none 0
def o91_2 (p : Params) : Obj := tu []
def o92_2 (p : Params) : Obj := ot (vT "builtin_function_or_method") none (.fields [(vB "type.__prepare__"), (vT "type")].toArray) []
def o93_2 (p : Params) : Obj := di 5 [en p "__module__" 303 (vS "laterways.changes" 290), en p "__qualname__" 305 (vS "Changes" 304), en p "__firstlineno__" 307 (vI 30 306), en p "__init__" 313 (vR 102), en p "__static_attributes__" 317 (vR 103)]
def o94_2 (p : Params) : Obj := tu []
def o95_2 (p : Params) : Obj := fs [(vI 32 0), (vI 4 0), (vR 101)]
def o96_2 (p : Params) : Obj := co [(vS "Changes" 298), (vS "Changes" 299), (vS "/claim/cut.py" 300), (vI 30 0), (vI 0 0), (vI 0 0), (vI 0 0), (vI 0 0), (vR 94), (vL false), (vI 181 0), (vR 95), .none, .none, .none, .none, (vI 301 0), (vI 30 0), (vS "/claim/cut.py" 302)]
def o97_2 (p : Params) : Obj := ot (vT "frame") none (.plain) [some (vR 96), some (vR 3), some (vR 93), none, some (vS "laterways.changes" 290), none, some (vR 0)]
def o98_2 (p : Params) : Obj := tu []
def o99_2 (p : Params) : Obj := fs []
def o100_2 (p : Params) : Obj := fu .none (inClass (top 11) 0) "__init__" "Changes.__init__" 0 [] .none .none .none .none none .none .none 0
def o101_2 (p : Params) : Obj := co [(vS "__init__" 308), (vS "Changes.__init__" 309), (vS "/claim/cut.py" 310), (vI 32 0), (vI 4 0), (vI 0 0), (vI 0 0), (vI 3 0), (vR 98), (vL true), (vI 181 0), (vR 99), .none, .none, .none, (vR 100), (vI 311 0), (vI 32 0), (vS "/claim/cut.py" 312)]
def o102_2 (p : Params) : Obj := fu (vT "function") (inClass (top 11) 0) "__init__" "Changes.__init__" 3 [] .none .none .none (vS "laterways.changes" 290) none (vR 101) .none 0
def o103_2 (p : Params) : Obj := tu [(vS "legs" 314), (vS "lengths" 315), (vS "most" 316)]
def o104_2 (p : Params) : Obj := di 4 [en p "__module__" 303 (vS "laterways.changes" 290), en p "__firstlineno__" 307 (vI 30 306), en p "__init__" 313 (vR 102), en p "__static_attributes__" 317 (vR 103), en p "__dict__" 319 (vR 106), en p "__weakref__" 321 (vR 107), en p "__doc__" 322 .none]
def o105_2 (p : Params) : Obj := cl "Changes" "Changes" [(vT "object")] [(vR 105), (vT "object")] 104 true [] [none, none, some (vS "Changes" 296), some (vS "Changes" 304), some (vB "object.__new__"), some (vL true)]
def o106_2 (p : Params) : Obj := ot (vT "getset_descriptor") none (.fields [(vS "__dict__" 318), (vR 105), (vB "function.__dict__"), (vB "function.__dict__#set")].toArray) []
def o107_2 (p : Params) : Obj := ot (vT "getset_descriptor") none (.fields [(vS "__weakref__" 320), (vR 105), (vB "ExceptionGroup.__weakref__"), .none].toArray) []
def o108_2 (p : Params) : Obj := ot (vT "super") none (.fields [(vR 105), (vR 105), (vR 105)].toArray) []
def o109_2 (p : Params) : Obj := ot (vT "builtin_function_or_method") none (.fields [(vB "object.__init_subclass__"), (vR 105)].toArray) []
def o110_2 (p : Params) : Obj := tu []
def o111_2 (p : Params) : Obj := fs []
def o112_2 (p : Params) : Obj := tu [(vS "_law_script" 330), (vS "_law_first" 331)]
def o113_2 (p : Params) : Obj := tu []
def o114_2 (p : Params) : Obj := fu .none (top 13) "_law_start" "_law_start" 0 [] .none .none .none .none none .none .none 0
def o115_2 (p : Params) : Obj := co [(vS "_law_start" 327), (vS "_law_start" 328), (vS "/claim/cut.py" 329), (vI 39 0), (vI 1 0), (vI 0 0), (vI 0 0), (vI 3 0), (vR 110), (vL true), (vI 181 0), (vR 111), .none, (vR 112), (vR 113), (vR 114), (vI 332 0), (vI 39 0), (vS "/claim/cut.py" 333)]
def o116_2 (p : Params) : Obj := fu (vT "function") (top 13) "_law_start" "_law_start" 3 [] .none .none .none (vS "law_laterways_k45_changes" 325) none (vR 115) .none 0
def o117_2 (p : Params) : Obj := tu []
def o118_2 (p : Params) : Obj := fs []
def o119_2 (p : Params) : Obj := tu [(vS "_law_script" 338), (vS "_law_state" 339), (vS "_law_limit" 340), (vS "_law_number" 341), (vS "_law_cell" 342), (vS "_law_mixed" 343)]
def o120_2 (p : Params) : Obj := tu []
def o121_2 (p : Params) : Obj := fu .none (top 14) "_law_draw" "_law_draw" 0 [] .none .none .none .none none .none .none 0
def o122_2 (p : Params) : Obj := co [(vS "_law_draw" 335), (vS "_law_draw" 336), (vS "/claim/cut.py" 337), (vI 44 0), (vI 3 0), (vI 0 0), (vI 0 0), (vI 3 0), (vR 117), (vL true), (vI 181 0), (vR 118), .none, (vR 119), (vR 120), (vR 121), (vI 344 0), (vI 44 0), (vS "/claim/cut.py" 345)]
def o123_2 (p : Params) : Obj := fu (vT "function") (top 14) "_law_draw" "_law_draw" 3 [] .none .none .none (vS "law_laterways_k45_changes" 325) none (vR 122) .none 0
def o124_2 (p : Params) : Obj := tu []
def o125_2 (p : Params) : Obj := fs []
def o126_2 (p : Params) : Obj := tu [(vS "_law_action" 350), (vS "_law_told" 351), (vS "e" 352)]
def o127_2 (p : Params) : Obj := tu []
def o128_2 (p : Params) : Obj := fu .none (top 15) "_law_failed" "_law_failed" 0 [] .none .none .none .none none .none .none 0
def o129_2 (p : Params) : Obj := co [(vS "_law_failed" 347), (vS "_law_failed" 348), (vS "/claim/cut.py" 349), (vI 60 0), (vI 1 0), (vI 0 0), (vI 0 0), (vI 3 0), (vR 124), (vL true), (vI 181 0), (vR 125), .none, (vR 126), (vR 127), (vR 128), (vI 353 0), (vI 60 0), (vS "/claim/cut.py" 354)]
def o130_2 (p : Params) : Obj := fu (vT "function") (top 15) "_law_failed" "_law_failed" 3 [] .none .none .none (vS "law_laterways_k45_changes" 325) none (vR 129) .none 0
def hT2 (p : Params) : PySem.W.BT := (nd (boot_o_0 p) (nd (boot_o_1 p) (nd (o3_2 p) (nd (boot_o_7 p) (nd (o15_2 p) (nd (o31_2 p) (nd (o63_2 p) (lf (o127_2 p)) .nil) (lf (o95_2 p))) (nd (o47_2 p) (lf (o79_2 p)) (lf (o111_2 p)))) (nd (o23_2 p) (nd (o39_2 p) (lf (o71_2 p)) (lf (o103_2 p))) (nd (o55_2 p) (lf (o87_2 p)) (lf (o119_2 p))))) (nd (o11_0 p) (nd (o19_2 p) (nd (o35_2 p) (lf (o67_2 p)) (lf (o99_2 p))) (nd (o51_2 p) (lf (o83_2 p)) (lf (o115_2 p)))) (nd (o27_2 p) (nd (o43_2 p) (lf (o75_2 p)) (lf (o107_2 p))) (nd (o59_2 p) (lf (o91_2 p)) (lf (o123_2 p)))))) (nd (boot_o_5 p) (nd (boot_o_9 p) (nd (o17_2 p) (nd (o33_2 p) (nd (o65_2 p) (lf (o129_2 p)) .nil) (lf (o97_2 p))) (nd (o49_2 p) (lf (o81_2 p)) (lf (o113_2 p)))) (nd (o25_2 p) (nd (o41_2 p) (lf (o73_2 p)) (lf (o105_2 p))) (nd (o57_2 p) (lf (o89_2 p)) (lf (o121_2 p))))) (nd (o13_0 p) (nd (o21_2 p) (nd (o37_2 p) (lf (o69_2 p)) (lf (o101_2 p))) (nd (o53_2 p) (lf (o85_2 p)) (lf (o117_2 p)))) (nd (o29_2 p) (nd (o45_2 p) (lf (o77_2 p)) (lf (o109_2 p))) (nd (o61_2 p) (lf (o93_2 p)) (lf (o125_2 p))))))) (nd (boot_o_2 p) (nd (boot_o_4 p) (nd (boot_o_8 p) (nd (o16_2 p) (nd (o32_2 p) (nd (o64_2 p) (lf (o128_2 p)) .nil) (lf (o96_2 p))) (nd (o48_2 p) (lf (o80_2 p)) (lf (o112_2 p)))) (nd (o24_2 p) (nd (o40_2 p) (lf (o72_2 p)) (lf (o104_2 p))) (nd (o56_2 p) (lf (o88_2 p)) (lf (o120_2 p))))) (nd (o12_2 p) (nd (o20_2 p) (nd (o36_2 p) (lf (o68_2 p)) (lf (o100_2 p))) (nd (o52_2 p) (lf (o84_2 p)) (lf (o116_2 p)))) (nd (o28_2 p) (nd (o44_2 p) (lf (o76_2 p)) (lf (o108_2 p))) (nd (o60_2 p) (lf (o92_2 p)) (lf (o124_2 p)))))) (nd (boot_o_6 p) (nd (boot_o_10 p) (nd (o18_2 p) (nd (o34_2 p) (nd (o66_2 p) (lf (o130_2 p)) .nil) (lf (o98_2 p))) (nd (o50_2 p) (lf (o82_2 p)) (lf (o114_2 p)))) (nd (o26_2 p) (nd (o42_2 p) (lf (o74_2 p)) (lf (o106_2 p))) (nd (o58_2 p) (lf (o90_2 p)) (lf (o122_2 p))))) (nd (o14_0 p) (nd (o22_2 p) (nd (o38_2 p) (lf (o70_2 p)) (lf (o102_2 p))) (nd (o54_2 p) (lf (o86_2 p)) (lf (o118_2 p)))) (nd (o30_2 p) (nd (o46_2 p) (lf (o78_2 p)) (lf (o110_2 p))) (nd (o62_2 p) (lf (o94_2 p)) (lf (o126_2 p))))))))
def hS2 (w : World) (os : OsState) : SharedT := ⟨hT2 w.params, 131, (boot_heap w.params).life, #[], boot_drawn, 356, os⟩
abbrev hP2 : Pos := { line := 60, col := 0, endLine := 70, endCol := 20 }
def o3_3 (p : Params) : Obj := di 24 [en p "__name__" 165 (vS "law_laterways_k45_changes" 325), en p "__doc__" 166 .none, en p "__package__" 167 .none, en p "__loader__" 168 (vB "__main__.__loader__#opaque"), en p "__spec__" 169 .none, en p "__annotations__" 170 (vR 6), en p "__builtins__" 171 (vR 4), en p "__file__" 173 (vS "/claim/cut.py" 172), en p "__cached__" 174 .none, en p "CalendarError" 206 (vR 24), en p "BadName" 233 (vR 46), en p "BadNumber" 262 (vR 67), en p "is_integer" 271 (vR 76), en p "check_integer" 279 (vR 83), en p "check_number" 289 (vR 90), en p "MOST_EXTRA" 293 (vI 600 292), en p "MOST_CHANGES" 295 (vI 20 294), en p "Changes" 324 (vR 105), en p "_law_start" 334 (vR 116), en p "_law_draw" 346 (vR 123), en p "_law_failed" 355 (vR 130), en p "_law_minutes" 365 (vR 137), en p "_law_due" 371 (vR 142), en p "law" 377 (vR 147)]
def o12_3 (p : Params) : Obj := fs [(vI 2 0), (vI 0 0), (vR 20), (vI 4 0), (vI 0 0), (vR 34), (vI 9 0), (vI 0 0), (vR 55), (vI 16 0), (vI 0 0), (vR 75), (vI 18 0), (vI 0 0), (vR 82), (vI 22 0), (vI 0 0), (vR 89), (vI 30 0), (vI 0 0), (vR 96), (vI 39 0), (vI 0 0), (vR 115), (vI 44 0), (vI 0 0), (vR 122), (vI 60 0), (vI 0 0), (vR 129), (vI 71 0), (vI 0 0), (vR 136), (vI 77 0), (vI 0 0), (vR 141), (vI 84 0), (vI 0 0), (vR 146)]
def o131_3 (p : Params) : Obj := tu []
def o132_3 (p : Params) : Obj := fs []
def o133_3 (p : Params) : Obj := tu [(vS "_law_script" 359), (vS "_law_state" 360), (vS "_law_odd" 361), (vS "_law_kind" 362)]
def o134_3 (p : Params) : Obj := tu []
def o135_3 (p : Params) : Obj := fu .none (top 16) "_law_minutes" "_law_minutes" 0 [] .none .none .none .none none .none .none 0
def o136_3 (p : Params) : Obj := co [(vS "_law_minutes" 356), (vS "_law_minutes" 357), (vS "/claim/cut.py" 358), (vI 71 0), (vI 2 0), (vI 0 0), (vI 0 0), (vI 3 0), (vR 131), (vL true), (vI 181 0), (vR 132), .none, (vR 133), (vR 134), (vR 135), (vI 363 0), (vI 71 0), (vS "/claim/cut.py" 364)]
def o137_3 (p : Params) : Obj := fu (vT "function") (top 16) "_law_minutes" "_law_minutes" 3 [] .none .none .none (vS "law_laterways_k45_changes" 325) none (vR 136) .none 0
def o138_3 (p : Params) : Obj := tu []
def o139_3 (p : Params) : Obj := fs []
def o140_3 (p : Params) : Obj := fu .none (top 17) "_law_due" "_law_due" 0 [] .none .none .none .none none .none .none 0
def o141_3 (p : Params) : Obj := co [(vS "_law_due" 366), (vS "_law_due" 367), (vS "/claim/cut.py" 368), (vI 77 0), (vI 3 0), (vI 0 0), (vI 0 0), (vI 3 0), (vR 138), (vL true), (vI 181 0), (vR 139), .none, .none, .none, (vR 140), (vI 369 0), (vI 77 0), (vS "/claim/cut.py" 370)]
def o142_3 (p : Params) : Obj := fu (vT "function") (top 17) "_law_due" "_law_due" 3 [] .none .none .none (vS "law_laterways_k45_changes" 325) none (vR 141) .none 0
def o143_3 (p : Params) : Obj := tu []
def o144_3 (p : Params) : Obj := fs []
def o145_3 (p : Params) : Obj := fu .none (top 18) "law" "law" 0 [] .none .none .none .none none .none .none 0
def o146_3 (p : Params) : Obj := co [(vS "law" 372), (vS "law" 373), (vS "/claim/cut.py" 374), (vI 84 0), (vI 1 0), (vI 0 0), (vI 0 0), (vI 3 0), (vR 143), (vL true), (vI 181 0), (vR 144), .none, .none, .none, (vR 145), (vI 375 0), (vI 84 0), (vS "/claim/cut.py" 376)]
def o147_3 (p : Params) : Obj := fu (vT "function") (top 18) "law" "law" 3 [] .none .none .none (vS "law_laterways_k45_changes" 325) none (vR 146) .none 0
def hT3 (p : Params) : PySem.W.BT := (nd (boot_o_0 p) (nd (boot_o_1 p) (nd (o3_3 p) (nd (boot_o_7 p) (nd (o15_2 p) (nd (o31_2 p) (nd (o63_2 p) (lf (o127_2 p)) .nil) (lf (o95_2 p))) (nd (o47_2 p) (nd (o79_2 p) (lf (o143_3 p)) .nil) (lf (o111_2 p)))) (nd (o23_2 p) (nd (o39_2 p) (nd (o71_2 p) (lf (o135_3 p)) .nil) (lf (o103_2 p))) (nd (o55_2 p) (lf (o87_2 p)) (lf (o119_2 p))))) (nd (o11_0 p) (nd (o19_2 p) (nd (o35_2 p) (nd (o67_2 p) (lf (o131_3 p)) .nil) (lf (o99_2 p))) (nd (o51_2 p) (nd (o83_2 p) (lf (o147_3 p)) .nil) (lf (o115_2 p)))) (nd (o27_2 p) (nd (o43_2 p) (nd (o75_2 p) (lf (o139_3 p)) .nil) (lf (o107_2 p))) (nd (o59_2 p) (lf (o91_2 p)) (lf (o123_2 p)))))) (nd (boot_o_5 p) (nd (boot_o_9 p) (nd (o17_2 p) (nd (o33_2 p) (nd (o65_2 p) (lf (o129_2 p)) .nil) (lf (o97_2 p))) (nd (o49_2 p) (nd (o81_2 p) (lf (o145_3 p)) .nil) (lf (o113_2 p)))) (nd (o25_2 p) (nd (o41_2 p) (nd (o73_2 p) (lf (o137_3 p)) .nil) (lf (o105_2 p))) (nd (o57_2 p) (lf (o89_2 p)) (lf (o121_2 p))))) (nd (o13_0 p) (nd (o21_2 p) (nd (o37_2 p) (nd (o69_2 p) (lf (o133_3 p)) .nil) (lf (o101_2 p))) (nd (o53_2 p) (lf (o85_2 p)) (lf (o117_2 p)))) (nd (o29_2 p) (nd (o45_2 p) (nd (o77_2 p) (lf (o141_3 p)) .nil) (lf (o109_2 p))) (nd (o61_2 p) (lf (o93_2 p)) (lf (o125_2 p))))))) (nd (boot_o_2 p) (nd (boot_o_4 p) (nd (boot_o_8 p) (nd (o16_2 p) (nd (o32_2 p) (nd (o64_2 p) (lf (o128_2 p)) .nil) (lf (o96_2 p))) (nd (o48_2 p) (nd (o80_2 p) (lf (o144_3 p)) .nil) (lf (o112_2 p)))) (nd (o24_2 p) (nd (o40_2 p) (nd (o72_2 p) (lf (o136_3 p)) .nil) (lf (o104_2 p))) (nd (o56_2 p) (lf (o88_2 p)) (lf (o120_2 p))))) (nd (o12_3 p) (nd (o20_2 p) (nd (o36_2 p) (nd (o68_2 p) (lf (o132_3 p)) .nil) (lf (o100_2 p))) (nd (o52_2 p) (lf (o84_2 p)) (lf (o116_2 p)))) (nd (o28_2 p) (nd (o44_2 p) (nd (o76_2 p) (lf (o140_3 p)) .nil) (lf (o108_2 p))) (nd (o60_2 p) (lf (o92_2 p)) (lf (o124_2 p)))))) (nd (boot_o_6 p) (nd (boot_o_10 p) (nd (o18_2 p) (nd (o34_2 p) (nd (o66_2 p) (lf (o130_2 p)) .nil) (lf (o98_2 p))) (nd (o50_2 p) (nd (o82_2 p) (lf (o146_3 p)) .nil) (lf (o114_2 p)))) (nd (o26_2 p) (nd (o42_2 p) (nd (o74_2 p) (lf (o138_3 p)) .nil) (lf (o106_2 p))) (nd (o58_2 p) (lf (o90_2 p)) (lf (o122_2 p))))) (nd (o14_0 p) (nd (o22_2 p) (nd (o38_2 p) (nd (o70_2 p) (lf (o134_3 p)) .nil) (lf (o102_2 p))) (nd (o54_2 p) (lf (o86_2 p)) (lf (o118_2 p)))) (nd (o30_2 p) (nd (o46_2 p) (nd (o78_2 p) (lf (o142_3 p)) .nil) (lf (o110_2 p))) (nd (o62_2 p) (lf (o94_2 p)) (lf (o126_2 p))))))))
def hS3 (w : World) (os : OsState) : SharedT := ⟨hT3 w.params, 148, (boot_heap w.params).life, #[], boot_drawn, 378, os⟩
abbrev hP3 : Pos := { line := 84, col := 0, endLine := 106, endCol := 15 }
def hT4 (p : Params) : PySem.W.BT := (nd (boot_o_0 p) (nd (boot_o_1 p) (nd (o3_3 p) (nd (boot_o_7 p) (nd (o15_2 p) (nd (o31_2 p) (nd (o63_2 p) (lf (o127_2 p)) .nil) (lf (o95_2 p))) (nd (o47_2 p) (nd (o79_2 p) (lf (o143_3 p)) .nil) (lf (o111_2 p)))) (nd (o23_2 p) (nd (o39_2 p) (nd (o71_2 p) (lf (o135_3 p)) .nil) (lf (o103_2 p))) (nd (o55_2 p) (lf (o87_2 p)) (lf (o119_2 p))))) (nd (o11_0 p) (nd (o19_2 p) (nd (o35_2 p) (nd (o67_2 p) (lf (o131_3 p)) .nil) (lf (o99_2 p))) (nd (o51_2 p) (nd (o83_2 p) (lf (o147_3 p)) .nil) (lf (o115_2 p)))) (nd (o27_2 p) (nd (o43_2 p) (nd (o75_2 p) (lf (o139_3 p)) .nil) (lf (o107_2 p))) (nd (o59_2 p) (lf (o91_2 p)) (lf (o123_2 p)))))) (nd (boot_o_5 p) (nd (boot_o_9 p) (nd (o17_2 p) (nd (o33_2 p) (nd (o65_2 p) (lf (o129_2 p)) .nil) (lf (o97_2 p))) (nd (o49_2 p) (nd (o81_2 p) (lf (o145_3 p)) .nil) (lf (o113_2 p)))) (nd (o25_2 p) (nd (o41_2 p) (nd (o73_2 p) (lf (o137_3 p)) .nil) (lf (o105_2 p))) (nd (o57_2 p) (lf (o89_2 p)) (lf (o121_2 p))))) (nd (o13_0 p) (nd (o21_2 p) (nd (o37_2 p) (nd (o69_2 p) (lf (o133_3 p)) .nil) (lf (o101_2 p))) (nd (o53_2 p) (lf (o85_2 p)) (lf (o117_2 p)))) (nd (o29_2 p) (nd (o45_2 p) (nd (o77_2 p) (lf (o141_3 p)) .nil) (lf (o109_2 p))) (nd (o61_2 p) (lf (o93_2 p)) (lf (o125_2 p))))))) (nd (boot_o_2 p) (nd (boot_o_4 p) (nd (boot_o_8 p) (nd (o16_2 p) (nd (o32_2 p) (nd (o64_2 p) (lf (o128_2 p)) .nil) (lf (o96_2 p))) (nd (o48_2 p) (nd (o80_2 p) (lf (o144_3 p)) .nil) (lf (o112_2 p)))) (nd (o24_2 p) (nd (o40_2 p) (nd (o72_2 p) (lf (o136_3 p)) .nil) (lf (o104_2 p))) (nd (o56_2 p) (lf (o88_2 p)) (lf (o120_2 p))))) (nd (o12_3 p) (nd (o20_2 p) (nd (o36_2 p) (nd (o68_2 p) (lf (o132_3 p)) .nil) (lf (o100_2 p))) (nd (o52_2 p) (lf (o84_2 p)) (lf (o116_2 p)))) (nd (o28_2 p) (nd (o44_2 p) (nd (o76_2 p) (lf (o140_3 p)) .nil) (lf (o108_2 p))) (nd (o60_2 p) (lf (o92_2 p)) (lf (o124_2 p)))))) (nd (boot_o_6 p) (nd (boot_o_10 p) (nd (o18_2 p) (nd (o34_2 p) (nd (o66_2 p) (lf (o130_2 p)) .nil) (lf (o98_2 p))) (nd (o50_2 p) (nd (o82_2 p) (lf (o146_3 p)) .nil) (lf (o114_2 p)))) (nd (o26_2 p) (nd (o42_2 p) (nd (o74_2 p) (lf (o138_3 p)) .nil) (lf (o106_2 p))) (nd (o58_2 p) (lf (o90_2 p)) (lf (o122_2 p))))) (nd (o14_0 p) (nd (o22_2 p) (nd (o38_2 p) (nd (o70_2 p) (lf (o134_3 p)) .nil) (lf (o102_2 p))) (nd (o54_2 p) (lf (o86_2 p)) (lf (o118_2 p)))) (nd (o30_2 p) (nd (o46_2 p) (nd (o78_2 p) (lf (o142_3 p)) .nil) (lf (o110_2 p))) (nd (o62_2 p) (lf (o94_2 p)) (lf (o126_2 p))))))))
def hS4 (w : World) (os : OsState) : SharedT := ⟨hT4 w.params, 148, (boot_heap w.params).life, #[], boot_drawn, 378, os⟩
theorem hb (w : World) : ∃ t : PySem.W.BT, putAll (boot_heap w.params).objs.toList .nil 0 = some (t, 11) ∧ ∀ os : OsState, DH.pre (DH.stQ PySem.Challenge.pw_laterways_k45_changes w) 11 hA 12 (bootT w os (t, 11)) (topStub PySem.Challenge.pw_laterways_k45_changes) = some (hS0 w os, ⟨denQ tabQ (.body hB hE), hC, hP0, [topFrame hQ]⟩) := ⟨(nd (boot_o_0 w.params) (nd (boot_o_1 w.params) (nd (boot_o_3 w.params) (lf (boot_o_7 w.params)) .nil) (nd (boot_o_5 w.params) (lf (boot_o_9 w.params)) .nil)) (nd (boot_o_2 w.params) (nd (boot_o_4 w.params) (lf (boot_o_8 w.params)) .nil) (nd (boot_o_6 w.params) (lf (boot_o_10 w.params)) .nil))), by kernel_rfl, fun os => by kernel_rfl⟩
theorem hbk (w : World) (os : OsState) : DH.seg (DH.stQ PySem.Challenge.pw_laterways_k45_changes w) 11 hA 1 (hS0 w os) (blockOf hB hE hC hP0 [topFrame hQ]) = some (.next, hS1 w os, hC, hP1) := by kernel_rfl
theorem hg0 (w : World) (os : OsState) : DH.seg (DH.stQ PySem.Challenge.pw_laterways_k45_changes w) 11 hA 1187 (hS1 w os) (piecesOf ((hB.drop 0).take 16) hE hC hP1 [topFrame hQ]) = some (.next, hS2 w os, hC, hP2) := by kernel_rfl
theorem hg1 (w : World) (os : OsState) : DH.seg (DH.stQ PySem.Challenge.pw_laterways_k45_changes w) 11 hA 88 (hS2 w os) (piecesOf ((hB.drop 16).take 3) hE hC hP2 [topFrame hQ]) = some (.next, hS3 w os, hC, hP3) := by kernel_rfl
theorem hf (w : World) (os : OsState) : goF (DH.stQ PySem.Challenge.pw_laterways_k45_changes w) 11 hA 3 (hS3 w os) ⟨doneF .next, hC, hP3, [topFrame hQ]⟩ = some (hS4 w os) := by kernel_rfl
theorem ran : DH.Ran PySem.Challenge.pw_laterways_k45_changes (12 + (1 + (1187 + (88 + 3)))) 11 hS4 := ⟨fun w os => by
  obtain ⟨t, h1, h2⟩ := hb w
  exact ⟨t, h1, DH.at_pre (b := hB) (env := hE) (h2 os) (DH.at_block (hbk w os) ((DH.at_seg (n := 16) (a := 0) (hg0 w os) ((DH.at_seg (n := 3) (a := 16) (hg1 w os) (DH.at_end (b := hB) (env := hE) (N := 19) (by kernel_rfl) (hf w os)))))))⟩⟩
abbrev hEnd := hS4
end
def e_BadName : EDef := ⟨"BadName", "BadName.__init__", defArgs (inClass (top 2) 0), defBody (inClass (top 2) 0), defScope (inClass (top 2) 0), ["name"]⟩
theorem ct_BadName : ER.CallT "bad name" ⟨7, 8, 7, 13⟩ ⟨7, 8, 7, 15⟩ ⟨7, 8, 7, 24⟩ ⟨7, 25, 7, 35⟩ ⟨7, 8, 7, 36⟩ ⟨7, 8, 7, 36⟩ := ⟨fun _ => rfl, fun _ => ⟨_, rfl⟩⟩
theorem mk_BadName {K : PySem.W.Frag} {h : Heap} {mg : Str → Option Value} (X : K.In h) (G : h.Ns mainGlobals mg) (z : fnE K "BadName" = e_BadName.val ∧ errB PySem.Challenge.pw_laterways_k45_changes K "BadName" "BadName.__init__" ["name"] = true) : ErrK PySem.Challenge.pw_laterways_k45_changes K mg "BadName" (He.ga K "BadName") ["name"] := by
  obtain ⟨ET, IB⟩ := err_ok X G z.2
  have IT : ER.InitT PySem.Challenge.pw_laterways_k45_changes K "BadName.__init__" ⟨6, 17, 6, 21⟩ [("name", ⟨6, 23, 6, 27⟩)] [.Expr (ER.eCall "bad name" ⟨7, 8, 7, 13⟩ ⟨7, 8, 7, 15⟩ ⟨7, 8, 7, 24⟩ ⟨7, 25, 7, 35⟩ ⟨7, 8, 7, 36⟩) ⟨7, 8, 7, 36⟩, ER.eSet "name" ⟨8, 8, 8, 12⟩ ⟨8, 8, 8, 17⟩ ⟨8, 20, 8, 24⟩ ⟨8, 8, 8, 24⟩] (He.ga K "BadName") _ := init_ok (prog := PySem.Challenge.pw_laterways_k45_changes) (by rw [z.1]; rfl) IB
  exact errK_of ET (ER.maker1 ET ct_BadName IT (fun _ _ _ _ _ _ _ _ => by first | rfl | with_unfolding_all rfl | kernel_rfl) (by decide +kernel) (by decide +kernel) (by decide +kernel) (by decide +kernel))
def e_BadNumber : EDef := ⟨"BadNumber", "BadNumber.__init__", defArgs (inClass (top 3) 0), defBody (inClass (top 3) 0), defScope (inClass (top 3) 0), ["what", "value"]⟩
theorem ct_BadNumber : ER.CallT "bad number" ⟨12, 8, 12, 13⟩ ⟨12, 8, 12, 15⟩ ⟨12, 8, 12, 24⟩ ⟨12, 25, 12, 37⟩ ⟨12, 8, 12, 38⟩ ⟨12, 8, 12, 38⟩ := ⟨fun _ => rfl, fun _ => ⟨_, rfl⟩⟩
theorem mk_BadNumber {K : PySem.W.Frag} {h : Heap} {mg : Str → Option Value} (X : K.In h) (G : h.Ns mainGlobals mg) (z : fnE K "BadNumber" = e_BadNumber.val ∧ errB PySem.Challenge.pw_laterways_k45_changes K "BadNumber" "BadNumber.__init__" ["what", "value"] = true) : ErrK PySem.Challenge.pw_laterways_k45_changes K mg "BadNumber" (He.ga K "BadNumber") ["what", "value"] := by
  obtain ⟨ET, IB⟩ := err_ok X G z.2
  have IT : ER.InitT PySem.Challenge.pw_laterways_k45_changes K "BadNumber.__init__" ⟨11, 17, 11, 21⟩ [("what", ⟨11, 23, 11, 27⟩), ("value", ⟨11, 29, 11, 34⟩)] [.Expr (ER.eCall "bad number" ⟨12, 8, 12, 13⟩ ⟨12, 8, 12, 15⟩ ⟨12, 8, 12, 24⟩ ⟨12, 25, 12, 37⟩ ⟨12, 8, 12, 38⟩) ⟨12, 8, 12, 38⟩, ER.eSet "what" ⟨13, 8, 13, 12⟩ ⟨13, 8, 13, 17⟩ ⟨13, 20, 13, 24⟩ ⟨13, 8, 13, 24⟩, ER.eSet "value" ⟨14, 8, 14, 12⟩ ⟨14, 8, 14, 18⟩ ⟨14, 21, 14, 26⟩ ⟨14, 8, 14, 26⟩] (He.ga K "BadNumber") _ := init_ok (prog := PySem.Challenge.pw_laterways_k45_changes) (by rw [z.1]; rfl) IB
  exact errK_of ET (ER.maker2 ET ct_BadNumber IT (fun _ _ _ _ _ _ _ _ _ => by first | rfl | with_unfolding_all rfl | kernel_rfl) (by decide +kernel) (by decide +kernel) (by decide +kernel) (by decide +kernel) (by decide +kernel) (by decide +kernel) (by decide +kernel) (by decide +kernel) (by decide +kernel))
def fxl (K : PySem.W.Frag) : List Bool := [insFB K (He.ga K "Changes")]
def fx (K : PySem.W.Frag) : Bool := (fxl K).all id
def fa : List He.Fa := [.free "abs", .free "bool", .free "int", .free "isinstance", .free "len", .free "list", .free "range", .int "MOST_CHANGES" 20, .int "MOST_EXTRA" 600, .glo "BadName", .glo "BadNumber", .glo "CalendarError", .glo "Changes", .glo "_law_start", .glo "_law_draw", .glo "is_integer", .glo "check_integer", .glo "check_number", .glo "_law_failed", .glo "_law_minutes", .glo "_law_due", .glo "law", .exm "BadNumber" "BadName" false, .exm "BadNumber" "BadNumber" true, .mkr "Changes", .cls "Changes", .noat "Changes" "legs", .noat "Changes" "lengths", .noat "Changes" "most"]
def fn : List He.DefD := [⟨("_law_start", none), "_law_start", "_law_start", defArgs s_law_start, defBody s_law_start, defScope s_law_start, [], []⟩, ⟨("_law_draw", none), "_law_draw", "_law_draw", defArgs s_law_draw, defBody s_law_draw, defScope s_law_draw, [], []⟩, ⟨("is_integer", none), "is_integer", "is_integer", defArgs s_is_integer, defBody s_is_integer, defScope s_is_integer, [], []⟩, ⟨("check_integer", none), "check_integer", "check_integer", defArgs s_check_integer, defBody s_check_integer, defScope s_check_integer, [], []⟩, ⟨("check_number", none), "check_number", "check_number", defArgs s_check_number, defBody s_check_number, defScope s_check_number, [], []⟩, ⟨("Changes", some "__init__"), "__init__", "Changes.__init__", defArgs s_ChangesZZ_initZZ, defBody s_ChangesZZ_initZZ, defScope s_ChangesZZ_initZZ, [], []⟩, ⟨("_law_failed", none), "_law_failed", "_law_failed", defArgs s_law_failed, defBody s_law_failed, defScope s_law_failed, [], []⟩, ⟨("_law_minutes", none), "_law_minutes", "_law_minutes", defArgs s_law_minutes, defBody s_law_minutes, defScope s_law_minutes, [], []⟩, ⟨("_law_due", none), "_law_due", "_law_due", defArgs s_law_due, defBody s_law_due, defScope s_law_due, [], []⟩, ⟨("law", none), "law", "law", defArgs s_law, defBody s_law, defScope s_law, [], []⟩]
def ss : List He.DefD := []
def en : List EDef := [e_BadName, e_BadNumber]
abbrev R0 : PySem.W.OpenRow := PySem.W.OpenLaw.row PySem.Challenge.rw_laterways_k45_changes
abbrev hk : PySem.W.Hook := hookL 148 PySem.Challenge.pw_laterways_k45_changes fx fa fn en ss
def ob (s : PySem.W.SharedT) : AlY × Bool := obsL 148 PySem.Challenge.pw_laterways_k45_changes fx fa fn en ss s.n (HandSHeadRun.getT s)
theorem ob_eq (s : PySem.W.SharedT) : ob s = hk.obs s.abs := obsL_eq s (PySem.W.absHeap_size _ _ _)
def loose : List PySem.Str := (["__name__", "CalendarError", "BadName", "BadNumber", "is_integer", "check_integer", "check_number", "MOST_EXTRA", "MOST_CHANGES", "Changes", "_law_start", "_law_draw", "_law_failed", "_law_minutes", "_law_due"] : List PySem.Str)
section
open HandSHeadRun PySem.W
theorem obA (w : World) (os : OsState) : looksF R0.prog (boot_heap w.params) (hEnd w os).abs = true := by kernel_rfl
theorem obB (w : World) (os : OsState) : seenQ (PySem.W.view R0.prog [18]) loose (importedModules R0.prog.main.body) (fun s => xlAt (PySem.W.view R0.prog [18]) [] s && recOk R0.toRowW.records s) (hEnd w os).abs = openGood (PySem.W.view R0.prog [18]) loose := by kernel_rfl
theorem obC (w : World) (os : OsState) : ob (hEnd w os) = hk.val w := by kernel_rfl
end
theorem tx_of {K : PySem.W.Frag} {h : Heap} {mg : Str → Option Value} (X : K.In h) (G : h.Ns mainGlobals mg) (c : SaysY PySem.Challenge.pw_laterways_k45_changes fx fa fn en ss K) : Tx PySem.Challenge.pw_laterways_k45_changes K mg := by
  exact ⟨He.free_ok X G (c.fact 0),
    He.free_ok X G (c.fact 1),
    He.free_ok X G (c.fact 2),
    He.free_ok X G (c.fact 3),
    He.free_ok X G (c.fact 4),
    He.free_ok X G (c.fact 5),
    He.free_ok X G (c.fact 6),
    He.int_ok X G (c.fact 7),
    He.int_ok X G (c.fact 8),
    He.glo_ok X G (c.fact 9),
    He.glo_ok X G (c.fact 10),
    He.glo_ok X G (c.fact 11),
    He.glo_ok X G (c.fact 12),
    mk_BadName X G (c.err 0),
    mk_BadNumber X G (c.err 1),
    c.def_ 0,
    He.glo_ok X G (c.fact 13),
    c.def_ 1,
    He.glo_ok X G (c.fact 14),
    c.def_ 2,
    He.glo_ok X G (c.fact 15),
    c.def_ 3,
    He.glo_ok X G (c.fact 16),
    c.def_ 4,
    He.glo_ok X G (c.fact 17),
    c.def_ 5,
    c.def_ 6,
    He.glo_ok X G (c.fact 18),
    c.def_ 7,
    He.glo_ok X G (c.fact 19),
    c.def_ 8,
    He.glo_ok X G (c.fact 20),
    c.def_ 9,
    He.glo_ok X G (c.fact 21),
    He.exm_ok (c.fact 22),
    He.exm_ok (c.fact 23),
    He.mkr_ok (c.fact 24),
    He.cls_ok (c.fact 25),
    insFB_ok (own_at (l := fxl K) c.own 0),
    He.noat_ok (c.fact 26),
    He.noat_ok (c.fact 27),
    He.noat_ok (c.fact 28)⟩
abbrev lawA (K : PySem.W.Frag) : Addr := He.fAd K ("law", none)
open PySem PySem.W PySem.Calls PyProof.Rows in
set_option maxRecDepth 100000 in
set_option maxHeartbeats 0 in
theorem fin_early (F0 : ∀ (w : PySem.World) (mg : PySem.Str → Option PySem.Value) (fa : PySem.Addr) (h : PySem.Heap), LW.hk.says w h → h.Ns mainGlobals mg → mg (HandSHeadRun.topDef (OpenLaw.row PySem.Challenge.rw_laterways_k45_changes).prog 18).name = some (.ref fa) → ∃ (K : PySem.W.Frag) (fd : PySem.FuncData), K.In h ∧ DL.TabsL K h ∧ (∀ (s : PySem.Shared) (u : PySem.Value), BindsTo s fd ⟨[u], []⟩ [("_law_script", u)]) ∧ ∀ base : PySem.Heap, LamX.TabB base mg (He.cT K ("law", none)).1 (He.cT K ("law", none)).2 → L2.FnOk PySem.Challenge.rw_laterways_k45_changes.prog w K mg base (L2.CX PySem.Challenge.rw_laterways_k45_changes.prog w) 15 fa fd ["_law_script"] (DL.spD K (DL.SLawT (He.cT K ("law", none)).2))) : PySem.Challenge.rw_laterways_k45_changes.Holds := by
  w_on; o_law
  refine DH.head_ran (r := OpenLaw.row PySem.Challenge.rw_laterways_k45_changes) (q := view (OpenLaw.row PySem.Challenge.rw_laterways_k45_changes).prog [18]) (H := LW.hk) (loose := LW.loose) (d := HandSHeadRun.topDef (OpenLaw.row PySem.Challenge.rw_laterways_k45_changes).prog 18) (kwd := []) LW.ran LW.obA LW.obB (fun w os => by rw [← LW.ob_eq]; exact LW.obC w os)
    (by kernel_rfl) (fun s => by kernel_rfl) (by kernel_rfl) (by kernel_rfl) (by kernel_rfl) (by rfl) (by first | assumption | decide +kernel) (by decide +kernel) ⟨rfl, rfl, rfl, rfl, rfl, by decide +kernel⟩ ?hw ?hc
  case hw => w_witness2
  case hc =>
    refine DL.end_ofT (l := PySem.Challenge.rw_laterways_k45_changes) (n := 63) (k := 15) rfl (by decide) (by kernel_rfl) ⟨rfl, by decide, by decide⟩ ?F
    exact F0
set_option hygiene false
local macro_rules
  | `(tactic| w_dflts wM) => `(tactic| first | exact hR _ h | exact hR _ _ h | exact hY _ _ h | exact hY _ _ _ h | exact h | (refine ⟨h.1, ?_⟩; replace h := h.2; w_dflts wM) | (intro x; replace h := h x; w_dflts wM) | (refine ⟨fun z => ?_, fun z => ?_⟩; (· replace h := h.1 z; w_dflts wM); (· replace h := h.2 z; w_dflts wM)) | (obtain ⟨x, h⟩ := h; refine ⟨x, ?_⟩; w_dflts wM))
set_option hygiene true
instance : NeS "legs" "lengths" := ⟨by decide +kernel⟩
instance : NeS "legs" "most" := ⟨by decide +kernel⟩
instance : NeS "lengths" "most" := ⟨by decide +kernel⟩
open RM PW
def TD (K : PySem.W.Frag) (C : Addr) (fs : List (Str × Dt)) (Q : List Dt → Prop) : Prop := ∃ w v, C = He.ga K "BadNumber" ∧ fs = [(("what" : Str), w), (("value" : Str), v)] ∧ Q [.str "number", w, v]
instance {K : PySem.W.Frag} {w v : Dt} {Q : List Dt → Prop} : Wk (TD K (He.ga K "BadNumber") [("what", w), ("value", v)] Q) (Q [.str "number", w, v]) := ⟨fun h => ⟨w, v, rfl, rfl, h⟩⟩
def NX (d : Dt) : Prop := (∃ i, d = .int i) ∨ d = .bl true
theorem NX.fl {d : Dt} (h : NX d) : Fl d := by rcases h with ⟨i, rfl⟩ | rfl <;> constructor
theorem NX.pl {d : Dt} (h : NX d) : plB 0 d = true := by rcases h with ⟨i, rfl⟩ | rfl <;> rfl
theorem NX.no {d : Dt} (h : NX d) {c : Option Addr} : noX c d := by rcases h with ⟨i, rfl⟩ | rfl <;> simp only [noX]
abbrev LgD := List ((Str × Str) × Dt)
abbrev LnD := List (Str × Dt)
abbrev lgK (t : LgD) : List (List Key × Dt) := mapT ky2 (fun d : Dt => d) t
abbrev lnK (t : LnD) : List (Key × Dt) := mapT ky1 (fun d : Dt => d) t
theorem lg_at (t : LgD) (p q : Str) : vA (lgK t) [.inr p, .inr q] = vA t (p, q) := by
  have := mapT_vA (ky := ky2) (va := fun d : Dt => d) ky2_inj (p, q) t
  rw [show ([.inr p, .inr q] : List Key) = ky2 (p, q) from rfl, this]
  cases vA t (p, q) <;> rfl
theorem ln_at (t : LnD) (p : Str) : vA (lnK t) (.inr p) = vA t p := by
  have := mapT_vA (ky := ky1) (va := fun d : Dt => d) ky1_inj p t
  rw [show (.inr p : Key) = ky1 p from rfl, this]
  cases vA t p <;> rfl
theorem lg_put (t : LgD) (p q : Str) (d : Dt) : pA (lgK t) [.inr p, .inr q] d = lgK (pA t (p, q) d) := mapT_pA (ky := ky2) (va := fun d : Dt => d) ky2_inj (p, q) d t
theorem ln_put (t : LnD) (p : Str) (d : Dt) : pA (lnK t) (.inr p) d = lnK (pA t p d) := mapT_pA (ky := ky1) (va := fun d : Dt => d) ky1_inj p d t
theorem lg_keys (t : LgD) : ((lgK t).map fun p => kDs p.1) = t.map fun e : (Str × Str) × Dt => Dt.tup [.str e.1.1, .str e.1.2] := by
  show List.map _ (List.map _ t) = _
  rw [List.map_map]
  rfl
theorem ln_keys (t : LnD) : ((lnK t).map fun p => kD p.1) = t.map fun e : Str × Dt => Dt.str e.1 := by
  show List.map _ (List.map _ t) = _
  rw [List.map_map]
  rfl
theorem lg_vals (t : LgD) : (lgK t).map (·.2) = t.map (·.2) := by
  show List.map _ (List.map _ t) = _
  rw [List.map_map]
  rfl
theorem ln_vals (t : LnD) : (lnK t).map (·.2) = t.map (·.2) := by
  show List.map _ (List.map _ t) = _
  rw [List.map_map]
  rfl
structure TbQ {κ : Type} (t : List (κ × Dt)) : Prop where
  nd : (t.map (·.1)).Nodup
  nx : ∀ e ∈ t, NX e.2
  ln : t.length ≤ 10
def badV (l : List Dt) : Option Dt := l.find? fun d => !numB 1 (.int 600) d
def due45 (vs : List Dt) (md : Dt) : Dt := match badV vs with
  | some d => .lst [.str "number", .str "extra", d]
  | none => if numB 0 (.int 20) md = true then .lst [.str "none"] else .lst [.str "number", .str "most", md]
theorem badV_mem {l : List Dt} {d : Dt} (h : badV l = some d) : d ∈ l ∧ numB 1 (.int 600) d = false := ⟨List.mem_of_find?_eq_some h, by have := List.find?_some h; simpa using this⟩
theorem numB_iff {lo h i : Int} : numB lo (.int h) (.int i) = true ↔ lo ≤ i ∧ i ≤ h := by
  unfold numB upB
  simp only [Bool.and_eq_true, decide_eq_true_eq]
theorem badV_cons (d : Dt) (l : List Dt) : badV (d :: l) = if numB 1 (.int 600) d = true then badV l else some d := by
  unfold badV
  rw [List.find?_cons]
  cases numB 1 (.int 600) d <;> rfl
theorem noXs_map {β : Type} {c : Option Addr} {f : β → Dt} : ∀ {l : List β}, (∀ e ∈ l, noX c (f e)) → noXs c (l.map f)
  | [], _ => by simp only [List.map, noXs]
  | a :: l, h => by
    simp only [List.map, noXs]
    exact ⟨h a (by simp), noXs_map fun e he => h e (List.mem_cons_of_mem _ he)⟩
abbrev lgP (e : (Str × Str) × Dt) : Dt := .tup [.tup [.str e.1.1, .str e.1.2], e.2]
abbrev lnP (e : Str × Dt) : Dt := .tup [.str e.1, e.2]
theorem eqDs_self {l : List Dt} : (∀ d ∈ l, eqD d d = true) → eqDs l l = true := by
  induction l with
  | nil => intro _; rfl
  | cons x l ih => intro h; rw [eqDs, h x (by simp), ih fun d hd => h d (by simp [hd])]; rfl
theorem eqD_pl {n : Nat} {d : Dt} (h : Pl n d) : eqD d d = true := by
  induction h with
  | lst h ih => rw [eqD]; exact eqDs_self ih
  | tup h ih => rw [eqD]; exact eqDs_self ih
  | _ => simp [eqD]
theorem ne_self (n : Nat) {x : Dt} {R : Dt → Prop} (hx : plB n x = true) (h : R (.bl false)) (hn : n ≤ 64 := by decide) : dNe x x R := q_ne n hx hx (by rw [eqD_pl (pl_of hx)]; exact h) hn
theorem ok_wd : PyData.strOk ("none" : Str) = true ∧ PyData.strOk ("number" : Str) = true ∧ PyData.strOk ("extra" : Str) = true ∧ PyData.strOk ("most" : Str) = true := by decide +kernel
theorem pl_none : plB 1 (.lst [.str "none"]) = true := by simp [plB, plBs, ok_wd]
theorem pl_extra {v : Dt} (h : plB 0 v = true) : plB 1 (.lst [.str "number", .str "extra", v]) = true := by simp [plB, plBs, ok_wd, h]
theorem pl_most {v : Dt} (h : plB 0 v = true) : plB 1 (.lst [.str "number", .str "most", v]) = true := by simp [plB, plBs, ok_wd, h]
theorem eq_non {w v : Dt} {R : Dt → Prop} (h : plB 1 (.lst [.str "number", w, v]) = true) (r : R (.bl false)) : dEq (.lst [.str "number", w, v]) (.lst [.str "none"]) R := by
  refine q_eq 1 h pl_none ?_
  have : eqD (.lst [.str "number", w, v]) (.lst [.str "none"]) = false := by simp [eqD, eqDs]
  rw [this]; exact r
theorem pl_lg {lg : LgD} (h : ∀ e ∈ lg, NX e.2 ∧ PyData.strOk e.1.1 = true ∧ PyData.strOk e.1.2 = true) : plB 3 (.lst (lg.map lgP)) = true := pls_map fun e he => by
  have h1 := (h e he).2
  rcases (h e he).1 with ⟨i, q⟩ | q <;> simp [lgP, plB, plBs, h1.1, h1.2, q]
theorem pl_ln {ln : LnD} (h : ∀ e ∈ ln, NX e.2 ∧ PyData.strOk e.1 = true) : plB 2 (.lst (ln.map lnP)) = true := pls_map fun e he => by
  have h1 := (h e he).2
  rcases (h e he).1 with ⟨i, q⟩ | q <;> simp [lnP, plB, plBs, h1, q]
def nmA : List Str := ["b", "a", "c", "abcdefgh"]
def nmB : List Str := ["x", "a", "y"]
theorem nm_ok : (∀ z ∈ nmA, PyData.strOk z = true) ∧ ∀ z ∈ nmB, PyData.strOk z = true := by decide +kernel
theorem ok_p : PyData.strOk ("p" : Str) = true := by decide +kernel
theorem ok_q : PyData.strOk ("q" : Str) = true := by decide +kernel
theorem ok_z : PyData.strOk ("z" : Str) = true := by decide +kernel
theorem cutA {n : Int} (h0 : 0 ≤ n) (h1 : n < 5) : cutD [.str "b", .str "a", .str "c", .str "abcdefgh"] none (some n) = (nmA.take n.toNat).map Dt.str := by
  rw [cut_lo h0 (by simp; omega), List.map_take]
  rfl
theorem cutB {n : Int} (h0 : 0 ≤ n) (h1 : n < 4) : cutD [.str "x", .str "a", .str "y"] none (some n) = (nmB.take n.toNat).map Dt.str := by
  rw [cut_lo h0 (by simp; omega), List.map_take]
  rfl
def Q_law_start (K : PySem.W.Frag) (ns : List Int) (R : Sl → Prop) (Y : Addr → List (Str × Dt) → Prop) : Prop := (∀ a, R (.os a St4))
def S_law_start (K : PySem.W.Frag) : DSp := fun args R Y => ∃ (ns : List Int), args = [.fr (.scr ns)] ∧ Q_law_start K ns (fun r => R r [.fr (.scr ns)]) (fun C fs => Y C fs [.fr (.scr ns)])
instance {K : PySem.W.Frag} {ns : List Int}  {R : Sl → Prop} {Y : Addr → List (Str × Dt) → Prop} : Wk (CallS (S_law_start K) [.scr ns] R Y) (∀ a, R (.os a St4)) := ⟨fun hW => ⟨ns, rfl, hW⟩⟩
def Q_law_draw (K : PySem.W.Frag) (ns : List Int) (a : Addr) (m : Int) (R : Sl → Sl → Prop) (Y : Addr → List (Str × Dt) → Sl → Prop) : Prop := (Side (0 < m ∧ m < 1073741824) (∀ n : Int, 0 ≤ n → n < m → R (.fr (.int n)) (.os a St4)))
theorem mo_law_draw {K : PySem.W.Frag} {ns : List Int} {a : Addr} {m : Int} {R R2 : Sl → Sl → Prop} {Y Y2 : Addr → List (Str × Dt) → Sl → Prop} (hR : ∀ x s, R x s → R2 x s) (hY : ∀ C fs s, Y C fs s → Y2 C fs s) (h : Q_law_draw K ns a m R Y) : Q_law_draw K ns a m R2 Y2 := by
  unfold Q_law_draw at h ⊢
  w_dflts wM
def S_law_draw (K : PySem.W.Frag) : DSp := fun args R Y => ∃ (ns : List Int) (a : Addr) (m : Int), args = [.fr (.scr ns), .os a St4, .fr (.int m)] ∧ Q_law_draw K ns a m (fun r s => R r [.fr (.scr ns), s, .fr (.int m)]) (fun C fs s => Y C fs [.fr (.scr ns), s, .fr (.int m)])
instance {K : PySem.W.Frag} {ns : List Int} {a : Addr} {m : Int}  {R : Sl → Sl → Prop} {Y : Addr → List (Str × Dt) → Sl → Prop} : Wk (CallB (S_law_draw K) [.scr ns] [.int m] (.os a St4) R Y) (Side (0 < m ∧ m < 1073741824) (∀ n : Int, 0 ≤ n → n < m → R (.fr (.int n)) (.os a St4))) := ⟨fun hW => ⟨ns, a, m, rfl, mo_law_draw (fun _ s z => ⟨s, rfl, z⟩) (fun _ _ s z => ⟨s, rfl, z⟩) hW⟩⟩
def Q_is_integer (K : PySem.W.Frag) (d : Dt) (R : Sl → Prop) (Y : Addr → List (Str × Dt) → Prop) : Prop := (Side (Fl d) (R (.fr (.bl (isInt d)))))
def S_is_integer (K : PySem.W.Frag) : DSp := fun args R Y => ∃ (d : Dt), args = [.fr (d)] ∧ Q_is_integer K d (fun r => R r [.fr (d)]) (fun C fs => Y C fs [.fr (d)])
instance {K : PySem.W.Frag} {d : Dt}  {R : Sl → Prop} {Y : Addr → List (Str × Dt) → Prop} : Wk (CallS (S_is_integer K) [d] R Y) (Side (Fl d) (R (.fr (.bl (isInt d))))) := ⟨fun hW => ⟨d, rfl, hW⟩⟩
def Q_check_integer (K : PySem.W.Frag) (wt : Str) (d : Dt) (R : Sl → Prop) (Y : Addr → List (Str × Dt) → Prop) : Prop := (Side (Fl d) (Br (isInt d) (R (.fr d)) (Y (He.ga K "BadNumber") [("what", .str wt), ("value", d)])))
def S_check_integer (K : PySem.W.Frag) : DSp := fun args R Y => ∃ (wt : Str) (d : Dt), args = [.fr (.str wt), .fr (d)] ∧ Q_check_integer K wt d (fun r => R r [.fr (.str wt), .fr (d)]) (fun C fs => Y C fs [.fr (.str wt), .fr (d)])
instance {K : PySem.W.Frag} {wt : Str} {d : Dt}  {R : Sl → Prop} {Y : Addr → List (Str × Dt) → Prop} : Wk (CallS (S_check_integer K) [.str wt, d] R Y) (Side (Fl d) (Br (isInt d) (R (.fr d)) (Y (He.ga K "BadNumber") [("what", .str wt), ("value", d)]))) := ⟨fun hW => ⟨wt, d, rfl, hW⟩⟩
def Q_check_number (K : PySem.W.Frag) (wt : Str) (d : Dt) (lo : Int) (h : Dt) (R : Sl → Prop) (Y : Addr → List (Str × Dt) → Prop) : Prop := (Side (Fl d ∧ Hi h) (Br (numB lo h d) (R (.fr d)) (Y (He.ga K "BadNumber") [("what", .str wt), ("value", d)])))
def S_check_number (K : PySem.W.Frag) : DSp := fun args R Y => ∃ (wt : Str) (d : Dt) (lo : Int) (h : Dt), args = [.fr (.str wt), .fr (d), .fr (.int lo), .fr (h)] ∧ Q_check_number K wt d lo h (fun r => R r [.fr (.str wt), .fr (d), .fr (.int lo), .fr (h)]) (fun C fs => Y C fs [.fr (.str wt), .fr (d), .fr (.int lo), .fr (h)])
instance {K : PySem.W.Frag} {wt : Str} {d : Dt} {lo : Int} {h : Dt}  {R : Sl → Prop} {Y : Addr → List (Str × Dt) → Prop} : Wk (CallS (S_check_number K) [.str wt, d, .int lo, h] R Y) (Side (Fl d ∧ Hi h) (Br (numB lo h d) (R (.fr d)) (Y (He.ga K "BadNumber") [("what", .str wt), ("value", d)]))) := ⟨fun hW => ⟨wt, d, lo, h, rfl, hW⟩⟩
def Q_ChangesZZ_initZZ (K : PySem.W.Frag) (lg : LgD) (ln : LnD) (md : Dt) (R : List (Str × Sl) → Prop) (Y : Addr → List (Str × Dt) → Prop) : Prop := (Side (TbQ lg ∧ TbQ ln ∧ NX md) (Br (badV (lg.map (·.2) ++ ln.map (·.2))).isNone (Br (numB 0 (.int 20) md) (∀ b1 b2, R [("legs", .oT b1 (lgK lg)), ("lengths", .oK b2 (lnK ln)), ("most", .fr md)]) (Y (He.ga K "BadNumber") [("what", .str "most"), ("value", md)])) (∀ d, badV (lg.map (·.2) ++ ln.map (·.2)) = some d → Y (He.ga K "BadNumber") [("what", .str "extra"), ("value", d)])))
theorem mo_ChangesZZ_initZZ {K : PySem.W.Frag} {lg : LgD} {ln : LnD} {md : Dt} {R R2 : List (Str × Sl) → Prop} {Y Y2 : Addr → List (Str × Dt) → Prop} (hR : ∀ x, R x → R2 x) (hY : ∀ C fs, Y C fs → Y2 C fs) (h : Q_ChangesZZ_initZZ K lg ln md R Y) : Q_ChangesZZ_initZZ K lg ln md R2 Y2 := by
  unfold Q_ChangesZZ_initZZ at h ⊢
  w_dflts wM
def S_ChangesZZ_initZZ (K : PySem.W.Frag) : DSp := fun args R Y => ∃ (y : Addr), ∃ (lg : LgD) (ln : LnD) (md : Dt), args = .oo y (He.ga K "Changes") (frF []) :: [.fr (.dT (lgK lg)), .fr (.dK (lnK ln)), .fr (md)] ∧ Q_ChangesZZ_initZZ K lg ln md (fun fs => R (.fr .non) (.oo y (He.ga K "Changes") fs :: [.fr (.dT (lgK lg)), .fr (.dK (lnK ln)), .fr (md)])) (fun D fs => ∀ args2, Y D fs args2)
instance {K : PySem.W.Frag} {lg : LgD} {ln : LnD} {md : Dt}  {R : Addr → List (Str × Sl) → Prop} {Y : Addr → List (Str × Dt) → Prop} : Wk (CallMO (S_ChangesZZ_initZZ K) (He.ga K "Changes") [.dT (lgK lg), .dK (lnK ln), md] R Y) (∀ y : Addr, (Side (TbQ lg ∧ TbQ ln ∧ NX md) (Br (badV (lg.map (·.2) ++ ln.map (·.2))).isNone (Br (numB 0 (.int 20) md) (∀ b1 b2, (R y) [("legs", .oT b1 (lgK lg)), ("lengths", .oK b2 (lnK ln)), ("most", .fr md)]) (Y (He.ga K "BadNumber") [("what", .str "most"), ("value", md)])) (∀ d, badV (lg.map (·.2) ++ ln.map (·.2)) = some d → Y (He.ga K "BadNumber") [("what", .str "extra"), ("value", d)])))) := ⟨fun hW y => ⟨y, lg, ln, md, rfl, mo_ChangesZZ_initZZ (fun fs z => ⟨fs, rfl, rfl, z⟩) (fun _ _ z _ => z) (hW y)⟩⟩
def Q_law_minutes (K : PySem.W.Frag) (ns : List Int) (a : Addr) (R : Sl → Sl → Prop) (Y : Addr → List (Str × Dt) → Sl → Prop) : Prop := (∀ d, NX d → R (.fr d) (.os a St4))
theorem mo_law_minutes {K : PySem.W.Frag} {ns : List Int} {a : Addr} {R R2 : Sl → Sl → Prop} {Y Y2 : Addr → List (Str × Dt) → Sl → Prop} (hR : ∀ x s, R x s → R2 x s) (hY : ∀ C fs s, Y C fs s → Y2 C fs s) (h : Q_law_minutes K ns a R Y) : Q_law_minutes K ns a R2 Y2 := by
  unfold Q_law_minutes at h ⊢
  w_dflts wM
def S_law_minutes (K : PySem.W.Frag) : DSp := fun args R Y => ∃ (ns : List Int) (a : Addr), args = [.fr (.scr ns), .os a St4] ∧ Q_law_minutes K ns a (fun r s => R r [.fr (.scr ns), s]) (fun C fs s => Y C fs [.fr (.scr ns), s])
instance {K : PySem.W.Frag} {ns : List Int} {a : Addr}  {R : Sl → Sl → Prop} {Y : Addr → List (Str × Dt) → Sl → Prop} : Wk (CallB (S_law_minutes K) [.scr ns] [] (.os a St4) R Y) (∀ d, NX d → R (.fr d) (.os a St4)) := ⟨fun hW => ⟨ns, a, rfl, mo_law_minutes (fun _ s z => ⟨s, rfl, z⟩) (fun _ _ s z => ⟨s, rfl, z⟩) hW⟩⟩
def Q_law_due (K : PySem.W.Frag) (lg : LgD) (ln : LnD) (md : Dt) (R : Sl → Prop) (Y : Addr → List (Str × Dt) → Prop) : Prop := (Side (TbQ lg ∧ TbQ ln ∧ NX md) (∀ z, z = due45 (lg.map (·.2) ++ ln.map (·.2)) md → R (.fr z)))
def S_law_due (K : PySem.W.Frag) : DSp := fun args R Y => ∃ (lg : LgD) (ln : LnD) (md : Dt), args = [.fr (.dT (lgK lg)), .fr (.dK (lnK ln)), .fr (md)] ∧ Q_law_due K lg ln md (fun r => R r [.fr (.dT (lgK lg)), .fr (.dK (lnK ln)), .fr (md)]) (fun C fs => Y C fs [.fr (.dT (lgK lg)), .fr (.dK (lnK ln)), .fr (md)])
instance {K : PySem.W.Frag} {lg : LgD} {ln : LnD} {md : Dt}  {R : Sl → Prop} {Y : Addr → List (Str × Dt) → Prop} : Wk (CallS (S_law_due K) [.dT (lgK lg), .dK (lnK ln), md] R Y) (Side (TbQ lg ∧ TbQ ln ∧ NX md) (∀ z, z = due45 (lg.map (·.2) ++ ln.map (·.2)) md → R (.fr z))) := ⟨fun hW => ⟨lg, ln, md, rfl, hW⟩⟩
set_option hygiene false
local macro_rules
  | `(tactic| w_dflts wS) => `(tactic| first
    | omega | assumption | exact Nat.le_of_ble_eq_true rfl | exact rfl | exact True.intro
    | exact St4.mk _ _ _ _ | exact ⟨St4.mk _ _ _ _, True.intro⟩
    | (simp only [List.length_cons, List.length_nil, List.length_append, sizeLine, app_len]; omega)
    | exact .inr ⟨by decide, by decide⟩ | exact .inl ⟨by decide, by decide⟩
    | (refine .inr ⟨?_, ?_⟩ <;> omega) | (refine .inl ⟨?_, ?_⟩ <;> omega)
    | (refine ⟨?_, ?_⟩ <;> omega) | (refine ⟨?_, ?_, ?_⟩ <;> (first | omega | decide))
    | exact ⟨by assumption, by assumption, cnt_lt (by repeat' (first | exact cnt_nil | apply cnt_put)) (by decide)⟩
    | (refine ⟨?_, ?_, ?_⟩ <;> first | assumption | (simp only [List.length_cons, List.length_nil]; omega))
    | (refine ⟨?_, ?_⟩ <;> first | assumption | omega | (constructor; done) | exact True.intro)
    | (refine ⟨?_, ?_, ?_⟩ <;> first | assumption | omega | (constructor; done))
    | (refine ⟨?_, ?_, ?_, ?_⟩ <;> first | assumption | omega | (constructor; done))
    | (refine ⟨?_, ?_, ?_, ?_, ?_⟩ <;> first | assumption | omega | (constructor; done))
    | (constructor; done)
    | (and_intros <;> first | exact True.intro | assumption)
    | decide +kernel)
local macro_rules
  | `(tactic| w_dflts w1) => `(tactic| first
    | with_reducible refine Wk.go ?_
    | ((with_reducible refine isSide ?_); first | refine Side.mk (by w_dflts wS) ?_ | refine Side.mk ?_ ?_)
    | ((with_reducible refine isBrP ?_); first | refine brp_t (by assumption) ?_ | refine brp_f (by assumption) ?_ | (refine BrP.mk (fun hb => ?_) (fun hb => ?_)) <;> (first | (exfalso; omega) | skip))
    | ((with_reducible refine isBr ?_); first | refine br_t (by assumption) ?_ | refine br_f (by assumption) ?_ | refine Br.mk (fun hb => ?_) (fun hb => ?_))
    | ((with_reducible refine isFld ?_); first | refine f_obj (by assumption) (by assumption) rfl ?_ | refine f_exc (by assumption) (by assumption) rfl ?_)
    | ((with_reducible refine hx_yes (by assumption) fun a d => ?_); dsimp only [gOn, gOff, List.set_cons_zero, List.set_cons_succ])
    | with_reducible refine hx_no (by assumption) ?_
    | w_dflts wO
    | with_reducible refine va_of (by assumption) ?_
    | with_reducible refine f_isInt (by assumption) ?_
    | with_reducible refine f_isStr (by assumption) ?_
    | with_reducible refine f_isBl (by assumption) ?_
    | with_reducible refine f_eqS (by assumption) ?_
    | with_reducible refine f_eqD (by assumption) ?_
    | with_reducible refine f_neD (by assumption) ?_
    | with_reducible refine isix_own (by assumption) (by assumption) ?_
    | with_reducible refine isix_ty (by assumption) (by assumption) ?_
    | with_reducible refine x_isO (by assumption) ?_
    | with_reducible refine x_isE (by assumption) (by assumption) ?_
    | with_reducible refine x_isV (by assumption) (by assumption) ?_
    | refine l_ixL rfl ?_
    | refine l_ixT rfl ?_
    | ((with_reducible refine ex_and ?_ ?_); · simp [ExAll, exOk]
       dsimp only [gOff, fixE, fixS, List.set_cons_zero, List.set_cons_succ])
    | with_reducible refine l_eqX rfl ?_
    | with_reducible refine l_neX rfl ?_
    | with_reducible refine ⟨_, rfl, ?_⟩
    | refine ⟨_, rfl, ?_⟩
    | refine ⟨_, _, rfl, ?_⟩
    | with_reducible intro _)
local macro_rules
  | `(tactic| w_dflts wO) => `(tactic| fail "none")
local macro_rules
  | `(tactic| w_dflts wd) => `(tactic| repeat' (first
    | with_reducible refine Wk.go ?_
    | ((with_reducible refine isSide ?_); first | refine Side.mk (by w_dflts wS) ?_ | refine Side.mk ?_ ?_)
    | ((with_reducible refine isBrP ?_); first | refine brp_t (by assumption) ?_ | refine brp_f (by assumption) ?_ | (refine BrP.mk (fun hb => ?_) (fun hb => ?_)) <;> (first | (exfalso; omega) | skip))
    | ((with_reducible refine isBr ?_); first | refine br_t (by assumption) ?_ | refine br_f (by assumption) ?_ | refine Br.mk (fun hb => ?_) (fun hb => ?_))
    | ((with_reducible refine isFld ?_); first | refine f_obj (by assumption) (by assumption) rfl ?_ | refine f_exc (by assumption) (by assumption) rfl ?_)
    | ((with_reducible refine hx_yes (by assumption) fun a d => ?_); dsimp only [gOn, gOff, List.set_cons_zero, List.set_cons_succ])
    | with_reducible refine hx_no (by assumption) ?_
    | w_dflts wO
    | with_reducible refine va_of (by assumption) ?_
    | with_reducible refine f_isInt (by assumption) ?_
    | with_reducible refine f_isStr (by assumption) ?_
    | with_reducible refine f_isBl (by assumption) ?_
    | with_reducible refine f_eqS (by assumption) ?_
    | with_reducible refine f_eqD (by assumption) ?_
    | with_reducible refine f_neD (by assumption) ?_
    | with_reducible refine isix_own (by assumption) (by assumption) ?_
    | with_reducible refine isix_ty (by assumption) (by assumption) ?_
    | with_reducible refine x_isO (by assumption) ?_
    | with_reducible refine x_isE (by assumption) (by assumption) ?_
    | with_reducible refine x_isV (by assumption) (by assumption) ?_
    | refine l_ixL rfl ?_
    | refine l_ixT rfl ?_
    | ((with_reducible refine ex_and ?_ ?_); · simp [ExAll, exOk]
       dsimp only [gOff, fixE, fixS, List.set_cons_zero, List.set_cons_succ])
    | with_reducible refine l_eqX rfl ?_
    | with_reducible refine l_neX rfl ?_
    | with_reducible refine ⟨_, rfl, ?_⟩
    | refine ⟨_, rfl, ?_⟩
    | refine ⟨_, _, rfl, ?_⟩
    | with_reducible intro _))
local macro_rules
  | `(tactic| w_dflts wn) => `(tactic| repeat' (first
    | with_reducible refine Wk.go ?_
    | ((with_reducible refine isSide ?_); first | refine Side.mk (by w_dflts wS) ?_ | refine Side.mk ?_ ?_)
    | ((with_reducible refine isBrP ?_); first | refine brp_t (by assumption) ?_ | refine brp_f (by assumption) ?_ | (refine BrP.mk (fun hb => ?_) (fun hb => ?_)) <;> (first | (exfalso; omega) | skip))
    | ((with_reducible refine isBr ?_); first | refine br_t (by assumption) ?_ | refine br_f (by assumption) ?_ | refine Br.mk (fun hb => ?_) (fun hb => ?_))
    | ((with_reducible refine isFld ?_); first | refine f_obj (by assumption) (by assumption) rfl ?_ | refine f_exc (by assumption) (by assumption) rfl ?_)
    | ((with_reducible refine hx_yes (by assumption) fun a d => ?_); dsimp only [gOn, gOff, List.set_cons_zero, List.set_cons_succ])
    | with_reducible refine hx_no (by assumption) ?_
    | w_dflts wO
    | with_reducible refine va_of (by assumption) ?_
    | with_reducible refine f_isInt (by assumption) ?_
    | with_reducible refine f_isStr (by assumption) ?_
    | with_reducible refine f_isBl (by assumption) ?_
    | with_reducible refine f_eqS (by assumption) ?_
    | with_reducible refine f_eqD (by assumption) ?_
    | with_reducible refine f_neD (by assumption) ?_
    | with_reducible refine isix_own (by assumption) (by assumption) ?_
    | with_reducible refine isix_ty (by assumption) (by assumption) ?_
    | with_reducible refine x_isO (by assumption) ?_
    | with_reducible refine x_isE (by assumption) (by assumption) ?_
    | with_reducible refine x_isV (by assumption) (by assumption) ?_
    | refine l_ixL rfl ?_
    | refine l_ixT rfl ?_
    | ((with_reducible refine ex_and ?_ ?_); · simp [ExAll, exOk]
       dsimp only [gOff, fixE, fixS, List.set_cons_zero, List.set_cons_succ])
    | with_reducible refine l_eqX rfl ?_
    | with_reducible refine l_neX rfl ?_
    | with_reducible refine ⟨_, rfl, ?_⟩
    | refine ⟨_, rfl, ?_⟩
    | refine ⟨_, _, rfl, ?_⟩
    | fail "stop"))
set_option hygiene true
set_option hygiene false
local macro_rules
  | `(tactic| w_dflts wO) => `(tactic| (refine evo_fail rfl fun E => ?_; dsimp only [frD, gmD, List.map, Option.map]))
set_option hygiene true
set_option hygiene false
local macro_rules
  | `(tactic| w_dflts wF) => `(tactic| (have fT_x_MN := T.x_MN; have fT_x_MM := T.x_MM; have fT_m_Changes := T.m_Changes; have fT_cl_Changes := T.cl_Changes; have fT_if_Changes := T.if_Changes; have fT_na_Changes_legs := T.na_Changes_legs; have fT_na_Changes_lengths := T.na_Changes_lengths; have fT_na_Changes_most := T.na_Changes_most; have xf_BadName := T.E_BadName.xf; have xn_BadName_name := T.E_BadName.no "name" (by decide +kernel); have xf_BadNumber := T.E_BadNumber.xf; have xn_BadNumber_what := T.E_BadNumber.no "what" (by decide +kernel); have xn_BadNumber_value := T.E_BadNumber.no "value" (by decide +kernel)))
set_option hygiene true
theorem tkpo (P : Program) (w : World) (K : PySem.W.Frag) (mg : Str → Option Value) (base : Heap) (N : List Str) (qual : Str) (scope : Scope) (f : Addr) (cd : Value) (A : Around) (outer : List Env) (s : Shared) (H : Hp) (E : XK) :
    Takes (cxOf (L2.CX P w) P w K mg base N qual scope f cd A outer s H E) (fun cls d _ H => E cls d H) ∧ PassesOwn (model (cxOf (L2.CX P w) P w K mg base N qual scope f cd A outer s H E).prog (cxOf (L2.CX P w) P w K mg base N qual scope f cd A outer s H E).w) (cxOf (L2.CX P w) P w K mg base N qual scope f cd A outer s H E).A (cxOf (L2.CX P w) P w K mg base N qual scope f cd A outer s H E).env (cxOf (L2.CX P w) P w K mg base N qual scope f cd A outer s H E).xe :=
  ⟨takes_of (X := (cxOf (L2.CX P w) P w K mg base N qual scope f cd A outer s H E)) rfl rfl rfl rfl, passes_of (X := (cxOf (L2.CX P w) P w K mg base N qual scope f cd A outer s H E)) rfl⟩
section
variable {P : Program} {w : World} {K : PySem.W.Frag} {mg : Str → Option Value} {base : Heap}
theorem ok_law_start (T : Tx P K mg) : DN P w K mg base "_law_start" [] 1 (S_law_start K) := by
  obtain ⟨fd, F⟩ := T.f_law_start
  refine ⟨_, (fn_d (fun_of F) sc_law_start (fun args R Y h => by obtain ⟨_, rfl, _⟩ := h; rfl) (fun cdv A outer s H E hr => ?_)).toK (F.bindsN (fun _ _ _ _ _ _ us hl => match us, hl with | [_], _ => rfl)), T.g_law_start, F.kp⟩
  obtain ⟨tk, po⟩ := tkpo P w K mg base ["_law_script", "_law_first"] "_law_start" (defScope s_law_start) (He.fAd K ("_law_start", none)) cdv A outer s H E
  refine ⟨_, (pss_cons (ps_set (i := 1) sc_law_start.nd rfl (Or.inl rfl) pe_int)
  (pss_cons (ps_if (pt_cmpR op_gtP (pe_callB (call_lenK K rfl) (by rfl) T.b_len (by decide +kernel) (pa_cons (pv 0) pa_nil)) pe_int (nomark _)) (pss_one (ps_set (i := 1) sc_law_start.nd rfl (Or.inl rfl) (pe_ix (ix_K K rfl hr.units) (pv 0) pe_int (fun _ _ => rfl)))) pss_nil)
  (pss_one (mkR (ps_ret (pe_lst (pa_cons (pe_callB call_absP (by rfl) T.b_abs (by decide +kernel) (pa_cons (pe_callTy call_intP (by rfl) T.b_int (by decide +kernel) (pa_cons (pv 1) pa_nil)) pa_nil)) (pa_cons (pe_callTy call_intP (by rfl) T.b_int (by decide +kernel) (pa_cons (pe_cmpR op_geP (pe_callB call_absP (by rfl) T.b_abs (by decide +kernel) (pa_cons (pe_callTy call_intP (by rfl) T.b_int (by decide +kernel) (pa_cons (pv 1) pa_nil)) pa_nil)) (pe_op op_powP pe_int pe_int) (nomark _)) pa_nil)) (pa_cons pe_int (pa_cons pe_int pa_nil)))))))))), ?_⟩
  intro args R Y hS
  obtain ⟨ns, rfl, hS⟩ := hS
  unfold Q_law_start at hS
  try dsimp only at hS
  refine w_start (Γ := [some (.fr (.scr ns)), none]) ?_
  try dsimp only [cxOf]
  clear po tk hr
  w_dflts wF
  w_dflts w1
  w_dflts w1
  w_dflts w1
  refine g_mid (fun Γ => ∃ v : Int, Γ = [some (.fr (.scr ns)), some (.fr (.int v))]) ?_ ?_
  · w_dflts wd
    · refine x_ixC (by omega) (by omega) fun v => ?_
      w_dflts wd
      exact ⟨v, rfl⟩
    · exact ⟨0, rfl⟩
  · rintro Γ ⟨v, rfl⟩
    refine g_retO (evo_pack St4 ?_)
    w_dflts wd
    exact ⟨St4.mk _ _ _ _, _, .fr .nil, hS _⟩
theorem ok_law_draw (T : Tx P K mg) : DN P w K mg base "_law_draw" [] 1 (S_law_draw K) := by
  obtain ⟨fd, F⟩ := T.f_law_draw
  refine ⟨_, (fn_d (fun_of F) sc_law_draw (fun args R Y h => by obtain ⟨_, _, _, rfl, _⟩ := h; rfl) (fun cdv A outer s H E hr => ?_)).toK (F.bindsN (fun _ _ _ _ _ _ us hl => match us, hl with | [_, _, _], _ => rfl)), T.g_law_draw, F.kp⟩
  obtain ⟨tk, po⟩ := tkpo P w K mg base ["_law_script", "_law_state", "_law_limit", "_law_number", "_law_cell", "_law_mixed"] "_law_draw" (defScope s_law_draw) (He.fAd K ("_law_draw", none)) cdv A outer s H E
  refine ⟨_, (pss_cons (ps_asg (pe_op (op_addK K rfl) (pe_ix (ix_K K rfl hr.units) (pv 1) pe_int (fun _ _ => rfl)) pe_int) (pg_sub (pv 1) pe_int (set_P hr.units)))
  (pss_cons (ps_if (PW.pt (pw_and (pt_cmpR (op_eqK K rfl hr.units) (pe_ix (ix_K K rfl hr.units) (pv 1) pe_int (fun _ _ => rfl)) pe_int (nomark _)) (pw_and1 (pt_cmpR op_gtP (pe_ix (ix_K K rfl hr.units) (pv 1) pe_int (fun _ _ => rfl)) pe_int (nomark _))))) (pss_cons (ps_set (i := 3) sc_law_draw.nd rfl (Or.inl rfl) (pe_op op_modP (pe_callTy call_intP (by rfl) T.b_int (by decide +kernel) (pa_cons (pe_ix (ix_K K rfl hr.units) (pv 1) pe_int (fun _ _ => rfl)) pa_nil)) (pv 2)))
  (pss_cons (ps_asg (pe_op op_fdivP (pe_ix (ix_K K rfl hr.units) (pv 1) pe_int (fun _ _ => rfl)) (pv 2)) (pg_sub (pv 1) pe_int (set_P hr.units)))
  (pss_one (ps_ret (pv 3))))) pss_nil)
  (pss_cons (ps_asg pe_int (pg_sub (pv 1) pe_int (set_P hr.units)))
  (pss_cons (ps_set (i := 4) sc_law_draw.nd rfl (Or.inl rfl) pe_int)
  (pss_cons (ps_if (pt_cmpR op_gtP (pe_callB (call_lenK K rfl) (by rfl) T.b_len (by decide +kernel) (pa_cons (pv 0) pa_nil)) pe_int (nomark _)) (pss_one (ps_set (i := 4) sc_law_draw.nd rfl (Or.inl rfl) (pe_ix (ix_K K rfl hr.units) (pv 0) (pe_op op_modP (pe_callTy call_intP (by rfl) T.b_int (by decide +kernel) (pa_cons (pe_ix (ix_K K rfl hr.units) (pv 1) pe_int (fun _ _ => rfl)) pa_nil)) (pe_callB (call_lenK K rfl) (by rfl) T.b_len (by decide +kernel) (pa_cons (pv 0) pa_nil))) (fun _ _ => rfl)))) pss_nil)
  (pss_cons (ps_asg (pe_op (op_addK K rfl) (pe_ix (ix_K K rfl hr.units) (pv 1) pe_int (fun _ _ => rfl)) pe_int) (pg_sub (pv 1) pe_int (set_P hr.units)))
  (pss_cons (ps_set (i := 5) sc_law_draw.nd rfl (Or.inl rfl) (pe_op op_mulP (pe_op op_modP (pe_callTy call_intP (by rfl) T.b_int (by decide +kernel) (pa_cons (pe_ix (ix_K K rfl hr.units) (pv 1) pe_int (fun _ _ => rfl)) pa_nil)) pe_int) pe_int))
  (pss_cons (ps_set (i := 5) sc_law_draw.nd rfl (Or.inl rfl) (pe_op (op_addK K rfl) (pe_op (op_addK K rfl) (pe_op (op_addK K rfl) (pv 5) (pe_op op_modP (pe_callTy call_intP (by rfl) T.b_int (by decide +kernel) (pa_cons (pv 4) pa_nil)) pe_int)) (pe_op op_mulP pe_int (pe_ix (ix_K K rfl hr.units) (pv 1) pe_int (fun _ _ => rfl)))) pe_int))
  (pss_cons (ps_asg (pe_op op_modP (pe_callTy call_intP (by rfl) T.b_int (by decide +kernel) (pa_cons (pv 5) pa_nil)) pe_int) (pg_sub (pv 1) pe_int (set_P hr.units)))
  (pss_cons (ps_set (i := 5) sc_law_draw.nd rfl (Or.inl rfl) (pe_op op_modP (pe_callTy call_intP (by rfl) T.b_int (by decide +kernel) (pa_cons (pe_op (op_addK K rfl) (pe_op op_mulP (pe_ix (ix_K K rfl hr.units) (pv 1) pe_int (fun _ _ => rfl)) pe_int) (pe_ix (ix_K K rfl hr.units) (pv 1) pe_int (fun _ _ => rfl))) pa_nil)) pe_int))
  (pss_one (ps_ret (pe_op op_modP (pe_callTy call_intP (by rfl) T.b_int (by decide +kernel) (pa_cons (pe_op op_fdivP (pv 5) pe_int) pa_nil)) (pv 2)))))))))))))), ?_⟩
  intro args R Y hS
  obtain ⟨ns, a, m, rfl, hS⟩ := hS
  unfold Q_law_draw at hS
  try dsimp only at hS
  obtain ⟨hP, hS⟩ := hS
  refine w_start (Γ := [some (.fr (.scr ns)), some (.os a St4), some (.fr (.int m)), none, none, none]) ?_
  try dsimp only [cxOf]
  clear po tk hr
  w_dflts wF
  refine go_unpack (i := 1) rfl fun ds hds => ?_
  obtain ⟨s0, s1, s2, s3, rfl⟩ := hds
  have fin : ∀ x : Int, R (.fr (.int (x % m))) [.fr (.scr ns), .os a St4, .fr (.int m)] := fun x => hS _ (Int.emod_nonneg _ (by omega)) (Int.emod_lt_of_pos _ hP.1)
  w_dflts wd
  all_goals first | exact fin _ | (refine x_ixC (Int.emod_nonneg _ (by omega)) (Int.emod_lt_of_pos _ (by omega)) fun v => ?_)
  all_goals w_dflts wd
  all_goals exact fin _
theorem ok_is_integer (T : Tx P K mg) : DN P w K mg base "is_integer" [] 1 (S_is_integer K) := by
  obtain ⟨fd, F⟩ := T.f_is_integer
  refine ⟨_, (fn_d (fun_of F) sc_is_integer (fun args R Y h => by obtain ⟨_, rfl, _⟩ := h; rfl) (fun cdv A outer s H E hr => ?_)).toK (F.bindsN (fun _ _ _ _ _ _ us hl => match us, hl with | [_], _ => rfl)), T.g_is_integer, F.kp⟩
  obtain ⟨tk, po⟩ := tkpo P w K mg base ["value"] "is_integer" (defScope s_is_integer) (He.fAd K ("is_integer", none)) cdv A outer s H E
  refine ⟨_, (pss_one (ps_ret (pe_and (pe_callB (call_isiK K rfl) (by rfl) T.b_isinstance (by decide +kernel) (pa_cons (pv 0) (pa_cons (pe_bltn (v := .ty "int") (u := .type "int") (by rfl) T.b_int (by decide +kernel) rfl) pa_nil))) (pe_one (pe_not (pe_callB (call_isiK K rfl) (by rfl) T.b_isinstance (by decide +kernel) (pa_cons (pv 0) (pa_cons (pe_bltn (v := .ty "bool") (u := .type "bool") (by rfl) T.b_bool (by decide +kernel) rfl) pa_nil)))))))), ?_⟩
  intro args R Y hS
  obtain ⟨d, rfl, hS⟩ := hS
  unfold Q_is_integer at hS
  try dsimp only at hS
  obtain ⟨hP, hS⟩ := hS
  refine w_start (Γ := [some (.fr (d))]) ?_
  try dsimp only [cxOf]
  clear po tk hr
  w_dflts wF
  cases hP with
  | non => w_dflts wd; exact hS
  | bl b => w_dflts wd; exact hS
  | int i => w_dflts wd; exact hS
  | str hl => w_dflts wd; exact hS
theorem ok_check_integer (T : Tx P K mg) : DN P w K mg base "check_integer" [] 2 (S_check_integer K) := by
  have D_is_integer := ok_is_integer (P := P) (w := w) (base := base) T
  obtain ⟨fd, F⟩ := T.f_check_integer
  refine ⟨_, (fn_d (fun_of F) sc_check_integer (fun args R Y h => by obtain ⟨_, _, rfl, _⟩ := h; rfl) (fun cdv A outer s H E hr => ?_)).toK (F.bindsN (fun _ _ _ _ _ _ us hl => match us, hl with | [_, _], _ => rfl)), T.g_check_integer, F.kp⟩
  obtain ⟨tk, po⟩ := tkpo P w K mg base ["what", "value"] "check_integer" (defScope s_check_integer) (He.fAd K ("check_integer", none)) cdv A outer s H E
  refine ⟨_, (pss_cons (ps_if (pt_not (pt_val (pe_nK K rfl D_is_integer hr (by decide) tk (pa_cons (pv 1) pa_nil)))) (pss_one (ps_raiseE rfl T.E_BadNumber.at hr tk (pa_cons (pv 0) (pa_cons (pv 1) pa_nil)))) pss_nil)
  (pss_one (ps_ret (pv 1)))), ?_⟩
  intro args R Y hS
  obtain ⟨wt, d, rfl, hS⟩ := hS
  unfold Q_check_integer at hS
  try dsimp only at hS
  obtain ⟨hP, hS⟩ := hS
  refine w_start (Γ := [some (.fr (.str wt)), some (.fr (d))]) ?_
  try dsimp only [cxOf]
  clear po tk hr
  w_dflts wF
  w_dflts wd
  · exact hS.1 hb
  · exact hS.2 hb
theorem ok_check_number (T : Tx P K mg) : DN P w K mg base "check_number" [] 3 (S_check_number K) := by
  have D_check_integer := ok_check_integer (P := P) (w := w) (base := base) T
  obtain ⟨fd, F⟩ := T.f_check_number
  refine ⟨_, (fn_d (fun_of F) sc_check_number (fun args R Y h => by obtain ⟨_, _, _, _, rfl, _⟩ := h; rfl) (fun cdv A outer s H E hr => ?_)).toK (F.bindsN (fun _ _ _ _ _ _ us hl => match us, hl with | [_, _, _, _], _ => rfl)), T.g_check_number, F.kp⟩
  obtain ⟨tk, po⟩ := tkpo P w K mg base ["what", "value", "low", "high"] "check_number" (defScope s_check_number) (He.fAd K ("check_number", none)) cdv A outer s H E
  refine ⟨_, (pss_cons (ps_expr (pe_nK K rfl D_check_integer hr (by decide) tk (pa_cons (pv 0) (pa_cons (pv 1) pa_nil))))
  (pss_cons (ps_if (PW.pt (pw_or (pt_cmpR op_ltP (pv 1) (pv 2) (nomark _)) (pw_or1 (PW.pt (pw_and (pt_cmpR op_isntP (pv 3) pe_non (nomark _)) (pw_and1 (pt_cmpR op_gtP (pv 1) (pv 3) (nomark _)))))))) (pss_one (ps_raiseE rfl T.E_BadNumber.at hr tk (pa_cons (pv 0) (pa_cons (pv 1) pa_nil)))) pss_nil)
  (pss_one (ps_ret (pv 1))))), ?_⟩
  intro args R Y hS
  obtain ⟨wt, d, lo, h, rfl, hS⟩ := hS
  unfold Q_check_number at hS
  try dsimp only at hS
  obtain ⟨hP, hS⟩ := hS
  refine w_start (Γ := [some (.fr (.str wt)), some (.fr (d)), some (.fr (.int lo)), some (.fr (h))]) ?_
  try dsimp only [cxOf]
  clear po tk hr
  w_dflts wF
  obtain ⟨hf, hh⟩ := hP
  w_dflts wd
  · cases hf with
    | int i =>
      cases hh with
      | non =>
        w_dflts wd
        · exact hS.2 (numB_lo (by omega))
        · exact hS.1 (numB_yesN (by omega))
      | int h =>
        w_dflts wd
        · exact hS.2 (numB_lo (by omega))
        · exact hS.2 (numB_hi (by omega))
        · exact hS.1 (numB_yes (by omega) (by omega))
    | _ => simp [isInt] at *
  · exact hS.2 (numB_odd hb)
theorem ok_ChangesZZ_initZZ (T : Tx P K mg) : DA P w K mg base (He.fAd K ("Changes", some "__init__")) [] 4 (S_ChangesZZ_initZZ K) := by
  have D_check_number := ok_check_number (P := P) (w := w) (base := base) T
  obtain ⟨t_MOST_CHANGES, h_MOST_CHANGES⟩ := T.c_MOST_CHANGES
  obtain ⟨t_MOST_EXTRA, h_MOST_EXTRA⟩ := T.c_MOST_EXTRA
  obtain ⟨fd, F⟩ := T.f_ChangesZZ_initZZ
  refine ⟨(fn_d (fun_of F) sc_ChangesZZ_initZZ (fun args R Y h => by obtain ⟨_, _, _, _, rfl, _⟩ := h; rfl) (fun cdv A outer s H E hr => ?_)).toK (F.bindsN (fun _ _ _ _ _ _ us hl => match us, hl with | [_, _, _, _], _ => rfl))⟩
  obtain ⟨tk, po⟩ := tkpo P w K mg base ["self", "legs", "lengths", "most", "extra", "leg", "name"] "Changes.__init__" (defScope s_ChangesZZ_initZZ) (He.fAd K ("Changes", some "__init__")) cdv A outer s H E
  refine ⟨_, (pss_cons (mkF [4] (ps_for po rfl (pi_seqK K rfl (pe_op (op_addK K rfl) (pe_listVals rfl (by rfl) T.b_list (pv 1)) (pe_listVals rfl (by rfl) T.b_list (pv 2)))) (pg_name (i := 4) sc_ChangesZZ_initZZ.nd rfl (Or.inl rfl)) (pss_one (ps_expr (pe_nK K rfl D_check_number hr (by decide) tk (pa_cons pe_str (pa_cons (pv 4) (pa_cons pe_int (pa_cons (pe_glob (v := .int 600) rfl h_MOST_EXTRA ⟨_, rfl⟩) pa_nil)))))))))
  (pss_cons (mkFO (ps_fldK K rfl (pv 0) (mkDn [5] (IX.pe_dn (t := true) (own := [("leg", 5)]) hr.units rfl sc_ChangesZZ_initZZ.nd (pi_seqK K rfl (pv 1)) (blkOk_by (own := [("leg", 5)]) (N := ["self", "legs", "lengths", "most", "extra", "leg", "name"]) (sc := defScope s_ChangesZZ_initZZ) (by decide +kernel)) (fun _ _ _ _ _ => (pg_name (i := 5) sc_ChangesZZ_initZZ.nd rfl (Or.inl rfl))) (fun _ _ _ _ _ => pts_nil) (fun _ _ _ _ _ => (pv 5)) (fun _ _ _ _ _ => (pe_ix (ix_K K rfl hr.units) (pv 1) (pv 5) (fun _ _ => rfl)))))))
  (pss_cons (mkFO (ps_fldK K rfl (pv 0) (mkDn [6] (IX.pe_dn (t := false) (own := [("name", 6)]) hr.units rfl sc_ChangesZZ_initZZ.nd (pi_seqK K rfl (pv 2)) (blkOk_by (own := [("name", 6)]) (N := ["self", "legs", "lengths", "most", "extra", "leg", "name"]) (sc := defScope s_ChangesZZ_initZZ) (by decide +kernel)) (fun _ _ _ _ _ => (pg_name (i := 6) sc_ChangesZZ_initZZ.nd rfl (Or.inl rfl))) (fun _ _ _ _ _ => pts_nil) (fun _ _ _ _ _ => (pv 6)) (fun _ _ _ _ _ => (pe_ix (ix_K K rfl hr.units) (pv 2) (pv 6) (fun _ _ => rfl)))))))
  (pss_one (mkFO (ps_fldK K rfl (pv 0) (mkFr (pe_nK K rfl D_check_number hr (by decide) tk (pa_cons pe_str (pa_cons (pv 3) (pa_cons pe_int (pa_cons (pe_glob (v := .int 20) rfl h_MOST_CHANGES ⟨_, rfl⟩) pa_nil)))))))))))), ?_⟩
  intro args R Y hS
  obtain ⟨y, lg, ln, md, rfl, hS⟩ := hS
  unfold Q_ChangesZZ_initZZ at hS
  try dsimp only at hS
  obtain ⟨hP, hS⟩ := hS
  refine w_start (Γ := [some (.oo y (He.ga K "Changes") (frF [])), some (.fr (.dT (lgK lg))), some (.fr (.dK (lnK ln))), some (.fr (md)), none, none, none]) ?_
  try dsimp only [cxOf]
  clear po tk hr
  w_dflts wF
  obtain ⟨hlg, hln, hmd⟩ := hP
  have l1 := hlg.ln
  have l2 := hln.ln
  have k1 : (lgK lg).length = lg.length := mapT_len lg
  have k2 : (lnK ln).length = ln.length := mapT_len ln
  have v1 : ((lgK lg).map (·.2)).length = lg.length := by rw [List.length_map, k1]
  have v2 : ((lnK ln).map (·.2)).length = ln.length := by rw [List.length_map, k2]
  have hv : ∀ d ∈ lg.map (·.2) ++ ln.map (·.2), NX d := fun d hd => by
    rcases List.mem_append.mp hd with z | z
    · obtain ⟨e, he, rfl⟩ := List.mem_map.mp z
      exact hlg.nx e he
    · obtain ⟨e, he, rfl⟩ := List.mem_map.mp z
      exact hln.nx e he
  w_dflts wn
  rw [lg_vals, ln_vals]
  generalize hvs : lg.map (·.2) ++ ln.map (·.2) = vs at *
  refine loop_restD (α := Unit) (fun l _ => (∀ d ∈ l, NX d) ∧ badV vs = badV l) (fun _ => []) () ⟨hv, rfl⟩ (by rfl) ?_ ?_
  · rintro d l _ ⟨h1, e1⟩
    have hd := h1 d (by simp)
    have h2 : ∀ d ∈ l, NX d := fun z hz => h1 z (List.mem_cons_of_mem _ hz)
    rw [badV_cons] at e1
    have pf : Fl d ∧ Hi (.int 600) := ⟨hd.fl, .int _⟩
    w_dflts wn
    · rw [if_pos hb] at e1
      exact ⟨(), ⟨h2, e1⟩, rfl⟩
    · rw [if_neg (by rw [hb]; simp)] at e1
      exact (hS.2 (by rw [e1]; rfl)) d e1 _
  · rintro _ ⟨_, e1⟩
    have e1 : badV vs = none := e1
    have hS := hS.1 (by rw [e1]; rfl)
    have em1 : mrgD (lg.map fun e => (ky2 e.1, e.2)) = lgK lg := mrgD_id (mapT_nodup (ky := ky2) (va := fun d : Dt => d) ky2_inj hlg.nd)
    have em2 : mrgD (ln.map fun e => (ky1 e.1, e.2)) = lnK ln := mrgD_id (mapT_nodup (ky := ky1) (va := fun d : Dt => d) ky1_inj hln.nd)
    have pm : Fl md ∧ Hi (.int 20) := ⟨hmd.fl, .int _⟩
    w_dflts wn
    rw [lg_keys]
    refine dct_map (ys := lg) (pic := fun e : (Str × Str) × Dt => Dt.tup [.str e.1.1, .str e.1.2]) (fun e => ky2 e.1) (fun e => e.2) (by omega) ?_ ?_
    · rintro k ⟨⟨p, q⟩, d⟩ he
      have a1 := lg_at lg p q
      rw [vA_of hlg.nd (List.mem_of_getElem? he)] at a1
      w_dflts wn
      exact ⟨rfl, rfl, rfl⟩
    rw [em1]
    intro b1
    w_dflts wn
    rw [ln_keys]
    refine dck_map (ys := ln) (pic := fun e : Str × Dt => Dt.str e.1) (fun e => ky1 e.1) (fun e => e.2) (by omega) ?_ ?_
    · rintro k ⟨p, d⟩ he
      have a1 := ln_at ln p
      rw [vA_of hln.nd (List.mem_of_getElem? he)] at a1
      w_dflts wn
      exact ⟨rfl, rfl, rfl⟩
    rw [em2]
    intro b2
    w_dflts wn
    · exact hS.1 (by assumption) b1 b2
    · exact hS.2 (by assumption) _
theorem rn_law_failed (T : Tx P K mg) : RunsD P w K mg base "_law_failed" s_law_failed (He.fAd K ("_law_failed", none)) ["_law_action", "_law_told", "e"] "_law_action" 13 (GoF K (TD K) ["_law_action", "_law_told", "e"]) := by
  refine fun cdv A outer s H tA hr act => ?_
  obtain ⟨tk, po⟩ := tkpo P w K mg base ["_law_action", "_law_told", "e"] "_law_failed" (defScope s_law_failed) (He.fAd K ("_law_failed", none)) cdv A outer s H (fun _ _ _ => False)
  refine ⟨_, (pss_cons (ps_set (i := 1) sc_law_failed.nd rfl (Or.inl rfl) (pe_lst (pa_cons pe_str pa_nil)))
  (pss_cons (ps_try_h rfl rfl rfl sc_law_failed.nd tk (fun W2 pn xe tk2 po2 => (pss_one (ps_expr (act _ _ _ _ _ tk2))))
  (.named (i := 2) ⟨rfl, by decide, .inl T.g_BadName⟩ rfl rfl (fun a oe cls d pn hz hf => (pss_one (ps_set (i := 1) sc_law_failed.nd rfl (Or.inl rfl) (pe_lst (pa_cons pe_str (pa_cons (pe_xf T.E_BadName.xf (T.E_BadName.no "name" (by decide +kernel)) hz hf (pv 2)) pa_nil)))))) (.named (i := 2) ⟨rfl, by decide, .inl T.g_BadNumber⟩ rfl rfl (fun a oe cls d pn hz hf => (pss_one (ps_set (i := 1) sc_law_failed.nd rfl (Or.inl rfl) (pe_lst (pa_cons pe_str (pa_cons (pe_xf T.E_BadNumber.xf (T.E_BadNumber.no "what" (by decide +kernel)) hz hf (pv 2)) (pa_cons (pe_xf T.E_BadNumber.xf (T.E_BadNumber.no "value" (by decide +kernel)) hz hf (pv 2)) pa_nil))))))) (.cons ⟨rfl, by decide, .inl T.g_CalendarError⟩ (fun a oe cls d pn hz hf => (pss_one (ps_set (i := 1) sc_law_failed.nd rfl (Or.inl rfl) (pe_lst (pa_cons pe_str pa_nil))))) .nil))))
  (pss_one (ps_ret (pv 1))))), fun f cc qq σ ds Pn Xn hact args R Y hS => ?_⟩
  obtain ⟨rfl, hN, hX⟩ := hS
  refine w_start (Γ := [some (.fr (.fn f cc qq σ ds)), none, none]) ?_
  try dsimp only [cxOf]
  w_dflts wF
  w_dflts wn
  intro W1
  w_dflts wn
  refine evo_of ?_
  refine hact _ _ _ _ rfl (fun d hd => ?_) (fun C fs hx => ?_)
  · w_dflts wn
    exact hN d hd _
  · obtain ⟨w, v, rfl, rfl, h⟩ := hX C fs hx
    w_dflts wn
    exact h _
theorem ok_law_minutes (T : Tx P K mg) : DN P w K mg base "_law_minutes" [] 2 (S_law_minutes K) := by
  have D_law_draw := ok_law_draw (P := P) (w := w) (base := base) T
  obtain ⟨fd, F⟩ := T.f_law_minutes
  refine ⟨_, (fn_d (fun_of F) sc_law_minutes (fun args R Y h => by obtain ⟨_, _, rfl, _⟩ := h; rfl) (fun cdv A outer s H E hr => ?_)).toK (F.bindsN (fun _ _ _ _ _ _ us hl => match us, hl with | [_, _], _ => rfl)), T.g_law_minutes, F.kp⟩
  obtain ⟨tk, po⟩ := tkpo P w K mg base ["_law_script", "_law_state", "_law_odd", "_law_kind"] "_law_minutes" (defScope s_law_minutes) (He.fAd K ("_law_minutes", none)) cdv A outer s H E
  refine ⟨_, (pss_cons (ps_set (i := 2) sc_law_minutes.nd rfl (Or.inl rfl) (pe_lst (pa_cons pe_int (pa_cons (pe_un un_negP pe_int) (pa_cons pe_int (pa_cons (pe_op op_powP pe_int pe_int) (pa_cons pe_bl pa_nil)))))))
  (pss_cons (ps_set (i := 3) sc_law_minutes.nd rfl (Or.inl rfl) (mk1 1 (pe_nK K rfl D_law_draw hr (by decide) tk (pa_cons (pv 0) (pa_cons (pv 1) (pa_cons pe_int pa_nil))))))
  (pss_cons (ps_if (pt_cmpR op_ltP (pv 3) pe_int (nomark _)) (pss_one (ps_ret (pe_ix (ix_K K rfl hr.units) (pv 2) (pv 3) (fun _ _ => rfl)))) pss_nil)
  (pss_one (ps_ret (pe_ix (ix_K K rfl hr.units) (pe_lst (pa_cons pe_int (pa_cons pe_int (pa_cons (pe_op (op_addK K rfl) pe_int (mk1 1 (pe_nK K rfl D_law_draw hr (by decide) tk (pa_cons (pv 0) (pa_cons (pv 1) (pa_cons pe_int pa_nil)))))) pa_nil)))) (mk1 1 (pe_nK K rfl D_law_draw hr (by decide) tk (pa_cons (pv 0) (pa_cons (pv 1) (pa_cons pe_int pa_nil))))) (fun _ _ => rfl))))))), ?_⟩
  intro args R Y hS
  obtain ⟨ns, a, rfl, hS⟩ := hS
  unfold Q_law_minutes at hS
  try dsimp only at hS
  refine w_start (Γ := [some (.fr (.scr ns)), some (.os a St4), none, none]) ?_
  try dsimp only [cxOf]
  clear po tk hr
  w_dflts wF
  w_dflts wn
  intro n p q
  w_dflts wn
  · refine ixAny p (by simp; omega) fun d hd => ?_
    have hd2 : NX d := by
      simp only [List.mem_cons, List.not_mem_nil, or_false] at hd
      rcases hd with rfl | rfl | rfl | rfl | rfl
      all_goals first | exact .inl ⟨_, rfl⟩ | exact .inr rfl
    w_dflts wn
    exact hS d hd2
  · intro n1 p1 q1
    w_dflts wn
    intro n2 p2 q2
    w_dflts wn
    refine ixAny p2 (by simp; omega) fun d hd => ?_
    have hd2 : NX d := by
      simp only [List.mem_cons, List.not_mem_nil, or_false] at hd
      rcases hd with rfl | rfl | rfl
      all_goals exact .inl ⟨_, rfl⟩
    w_dflts wn
    exact hS d hd2
theorem ok_law_due (T : Tx P K mg) : DN P w K mg base "_law_due" [] 1 (S_law_due K) := by
  obtain ⟨fd, F⟩ := T.f_law_due
  refine ⟨_, (fn_d (fun_of F) sc_law_due (fun args R Y h => by obtain ⟨_, _, _, rfl, _⟩ := h; rfl) (fun cdv A outer s H E hr => ?_)).toK (F.bindsN (fun _ _ _ _ _ _ us hl => match us, hl with | [_, _, _], _ => rfl)), T.g_law_due, F.kp⟩
  obtain ⟨tk, po⟩ := tkpo P w K mg base ["_law_legs", "_law_lengths", "_law_most", "_law_value", "_law_leg", "_law_name"] "_law_due" (defScope s_law_due) (He.fAd K ("_law_due", none)) cdv A outer s H E
  refine ⟨_, (pss_cons (mkF [3] (ps_for po rfl (pi_seqK K rfl (pe_op (op_addK K rfl) (mkLc [4] (pe_lc (own := [("_law_leg", 4)]) rfl sc_law_due.nd (pi_seqK K rfl (pv 0)) (blkOk_by (own := [("_law_leg", 4)]) (N := ["_law_legs", "_law_lengths", "_law_most", "_law_value", "_law_leg", "_law_name"]) (sc := defScope s_law_due) (by decide +kernel)) (fun _ _ _ _ _ => (pg_name (i := 4) sc_law_due.nd rfl (Or.inl rfl))) (fun _ _ _ _ _ => pts_nil) (fun _ _ _ _ _ => (pe_ix (ix_K K rfl hr.units) (pv 0) (pv 4) (fun _ _ => rfl))))) (mkLc [5] (pe_lc (own := [("_law_name", 5)]) rfl sc_law_due.nd (pi_seqK K rfl (pv 1)) (blkOk_by (own := [("_law_name", 5)]) (N := ["_law_legs", "_law_lengths", "_law_most", "_law_value", "_law_leg", "_law_name"]) (sc := defScope s_law_due) (by decide +kernel)) (fun _ _ _ _ _ => (pg_name (i := 5) sc_law_due.nd rfl (Or.inl rfl))) (fun _ _ _ _ _ => pts_nil) (fun _ _ _ _ _ => (pe_ix (ix_K K rfl hr.units) (pv 1) (pv 5) (fun _ _ => rfl))))))) (pg_name (i := 3) sc_law_due.nd rfl (Or.inl rfl)) (pss_one (ps_if (PW.pt (pw_or (pt_val (pe_callB (call_isiK K rfl) (by rfl) T.b_isinstance (by decide +kernel) (pa_cons (pv 3) (pa_cons (pe_bltn (v := .ty "bool") (u := .type "bool") (by rfl) T.b_bool (by decide +kernel) rfl) pa_nil)))) (pw_or (pt_cmpR op_ltP (pv 3) pe_int (nomark _)) (pw_or1 (pt_cmpR op_gtP (pv 3) pe_int (nomark _)))))) (pss_one (ps_ret (pe_lst (pa_cons pe_str (pa_cons pe_str (pa_cons (pv 3) pa_nil)))))) pss_nil))))
  (pss_cons (ps_if (PW.pt (pw_or (pt_val (pe_callB (call_isiK K rfl) (by rfl) T.b_isinstance (by decide +kernel) (pa_cons (pv 2) (pa_cons (pe_bltn (v := .ty "bool") (u := .type "bool") (by rfl) T.b_bool (by decide +kernel) rfl) pa_nil)))) (pw_or (pt_cmpR op_ltP (pv 2) pe_int (nomark _)) (pw_or1 (pt_cmpR op_gtP (pv 2) pe_int (nomark _)))))) (pss_one (ps_ret (pe_lst (pa_cons pe_str (pa_cons pe_str (pa_cons (pv 2) pa_nil)))))) pss_nil)
  (pss_one (ps_ret (pe_lst (pa_cons pe_str pa_nil)))))), ?_⟩
  intro args R Y hS
  obtain ⟨lg, ln, md, rfl, hS⟩ := hS
  unfold Q_law_due at hS
  try dsimp only at hS
  obtain ⟨hP, hS⟩ := hS
  refine w_start (Γ := [some (.fr (.dT (lgK lg))), some (.fr (.dK (lnK ln))), some (.fr (md)), none, none, none]) ?_
  try dsimp only [cxOf]
  clear po tk hr
  w_dflts wF
  obtain ⟨hlg, hln, hmd⟩ := hP
  replace hS := hS _ rfl
  have l1 := hlg.ln
  have l2 := hln.ln
  have hv : ∀ d ∈ lg.map (·.2) ++ ln.map (·.2), NX d := fun d hd => by
    rcases List.mem_append.mp hd with z | z
    · obtain ⟨e, he, rfl⟩ := List.mem_map.mp z
      exact hlg.nx e he
    · obtain ⟨e, he, rfl⟩ := List.mem_map.mp z
      exact hln.nx e he
  w_dflts wn
  rw [lg_keys]
  refine lc_map (ys := lg) (pic := fun e : (Str × Str) × Dt => Dt.tup [.str e.1.1, .str e.1.2]) (·.2) (by omega) ?_ ?_
  · rintro k ⟨⟨p, q⟩, d⟩ he
    have a1 := lg_at lg p q
    rw [vA_of hlg.nd (List.mem_of_getElem? he)] at a1
    w_dflts wn
    exact ⟨rfl, rfl⟩
  intro c1
  w_dflts wn
  rw [ln_keys]
  refine lc_map (ys := ln) (pic := fun e : Str × Dt => Dt.str e.1) (·.2) (by omega) ?_ ?_
  · rintro k ⟨p, d⟩ he
    have a1 := ln_at ln p
    rw [vA_of hln.nd (List.mem_of_getElem? he)] at a1
    w_dflts wn
    exact ⟨rfl, rfl⟩
  intro c2
  have v1 : (lg.map (·.2)).length = lg.length := List.length_map ..
  have v2 : (ln.map (·.2)).length = ln.length := List.length_map ..
  w_dflts wn
  unfold due45 at hS
  generalize hvs : lg.map (·.2) ++ ln.map (·.2) = vs at *
  refine loop_restD (α := Unit) (fun l _ => (∀ d ∈ l, NX d) ∧ badV vs = badV l) (fun _ => []) () ⟨hv, rfl⟩ (by rfl) ?_ ?_
  · rintro d l _ ⟨h1, e1⟩
    have hd := h1 d (by simp)
    have h2 : ∀ d ∈ l, NX d := fun z hz => h1 z (List.mem_cons_of_mem _ hz)
    rw [badV_cons] at e1
    rcases hd with ⟨i, rfl⟩ | rfl
    · by_cases c : numB 1 (.int 600) (.int i) = true
      · rw [if_pos c] at e1
        have c3 := numB_iff.mp c
        have c1 : ¬ i < 1 := by omega
        have c2 : ¬ i > 600 := by omega
        w_dflts wn
        exact ⟨(), ⟨h2, e1⟩, rfl⟩
      · rw [if_neg c] at e1
        rw [e1] at hS
        rcases (show i < 1 ∨ (¬ i < 1 ∧ i > 600) by
          have : ¬ (1 ≤ i ∧ i ≤ 600) := fun z => c (numB_iff.mpr z)
          omega) with c1 | ⟨c1, c2⟩
        · w_dflts wn
          exact hS
        · w_dflts wn
          exact hS
    · rw [if_neg (by simp [numB])] at e1
      rw [e1] at hS
      w_dflts wn
      exact hS
  · rintro _ ⟨_, e1⟩
    have e1 : badV vs = none := e1
    rw [e1] at hS
    dsimp only at hS
    rcases hmd with ⟨i, rfl⟩ | rfl
    · by_cases c : numB 0 (.int 20) (.int i) = true
      · rw [if_pos c] at hS
        have c3 := numB_iff.mp c
        have c1 : ¬ i < 0 := by omega
        have c2 : ¬ i > 20 := by omega
        w_dflts wn
        exact hS
      · rw [if_neg c] at hS
        rcases (show i < 0 ∨ (¬ i < 0 ∧ i > 20) by
          have : ¬ (0 ≤ i ∧ i ≤ 20) := fun z => c (numB_iff.mpr z)
          omega) with c1 | ⟨c1, c2⟩
        · w_dflts wn
          exact hS
        · w_dflts wn
          exact hS
    · rw [if_neg (by simp [numB])] at hS
      w_dflts wn
      exact hS
theorem ok_law (T : Tx P K mg) {fd : FuncData} (F : FunD K "law" "law" (defArgs s_law) (defBody s_law) (defScope s_law) [] [] (He.fAd K ("law", none)) fd) (TB : LamX.TabB base mg (He.cT K ("law", none)).1 (He.cT K ("law", none)).2) : FnOk P w K mg base (L2.CX P w) 15 (He.fAd K ("law", none)) fd ["_law_script"] (spD K (SLawT (He.cT K ("law", none)).2)) := by
  have D_ChangesZZ_initZZ := ok_ChangesZZ_initZZ (P := P) (w := w) (base := base) T
  have D_law_draw := ok_law_draw (P := P) (w := w) (base := base) T
  have D_law_due := ok_law_due (P := P) (w := w) (base := base) T
  have R_law_failed := rn_law_failed (P := P) (w := w) (base := base) T
  obtain ⟨fd_law_failed, FF_law_failed⟩ := T.f_law_failed
  have bd_law_failed : ∀ (s : Shared) (u : Value), BindsTo s fd_law_failed ⟨[u], []⟩ [("_law_action", u)] := fun s u => FF_law_failed.bindsA (ps := ["_law_action"]) (fun _ _ _ _ _ _ us hl => match us, hl with | [_], _ => rfl) s [u] rfl
  have D_law_minutes := ok_law_minutes (P := P) (w := w) (base := base) T
  have D_law_start := ok_law_start (P := P) (w := w) (base := base) T
  refine fn_dC F (code_of F) sc_law (fun args R Y h => by obtain ⟨_, rfl, _⟩ := h; rfl) (fun A outer s H E hr => ?_)
  obtain ⟨tk, po⟩ := tkpo P w K mg base ["_law_script", "_law_state", "_law_k", "_law_name", "_law_kept", "_law_due_here", "_law_changes", "_law_mine", "_law_theirs", "_law_legs", "_law_lengths", "_law_most", "_law_leg"] "law" (defScope s_law) (He.fAd K ("law", none)) (.ref (He.cT K ("law", none)).1) A outer s H E
  refine ⟨_, (pss_cons (ps_set (i := 1) sc_law.nd rfl (Or.inl rfl) (pe_nK K rfl D_law_start hr (by decide) tk (pa_cons (pv 0) pa_nil)))
  (pss_cons (mkF [6, 5, 2, 4, 12, 9, 10, 7, 11, 3, 8] (ps_for po rfl (pi_range1 (by rfl) T.b_range (pa_cons pe_int pa_nil)) (pg_name (i := 2) sc_law.nd rfl (Or.inl rfl)) (pss_cons (mkO (ps_set (i := 9) sc_law.nd rfl (Or.inr rfl) pe_dnewT))
  (pss_cons (mkF [3] (ps_for po rfl (pi_seqK K rfl (pe_slice (sl_K K rfl) (pe_lst (pa_cons pe_str (pa_cons pe_str (pa_cons pe_str (pa_cons pe_str pa_nil))))) po_none (po_some (mk1 1 (pe_nK K rfl D_law_draw hr (by decide) tk (pa_cons (pv 0) (pa_cons (pv 1) (pa_cons pe_int pa_nil)))))))) (pg_name (i := 3) sc_law.nd rfl (Or.inl rfl)) (pss_one (ps_asg (mk1 1 (pe_nK K rfl D_law_minutes hr (by decide) tk (pa_cons (pv 0) (pa_cons (pv 1) pa_nil)))) (pg_sub (pv 9) (pe_tup (pa_cons pe_str (pa_cons (pv 3) pa_nil))) (set_P hr.units))))))
  (pss_cons (mkO (ps_set (i := 10) sc_law.nd rfl (Or.inr rfl) pe_dnewK))
  (pss_cons (mkF [3] (ps_for po rfl (pi_seqK K rfl (pe_slice (sl_K K rfl) (pe_lst (pa_cons pe_str (pa_cons pe_str (pa_cons pe_str pa_nil)))) po_none (po_some (mk1 1 (pe_nK K rfl D_law_draw hr (by decide) tk (pa_cons (pv 0) (pa_cons (pv 1) (pa_cons pe_int pa_nil)))))))) (pg_name (i := 3) sc_law.nd rfl (Or.inl rfl)) (pss_one (ps_asg (mk1 1 (pe_nK K rfl D_law_minutes hr (by decide) tk (pa_cons (pv 0) (pa_cons (pv 1) pa_nil)))) (pg_sub (pv 10) (pv 3) (set_P hr.units))))))
  (pss_cons (ps_set (i := 11) sc_law.nd rfl (Or.inr rfl) (pe_ix (ix_K K rfl hr.units) (pe_lst (pa_cons pe_int (pa_cons pe_int (pa_cons pe_int (pa_cons pe_int (pa_cons (pe_un un_negP pe_int) (pa_cons pe_bl (pa_cons pe_int (pa_cons (pe_op op_powP pe_int pe_int) pa_nil))))))))) (mk1 1 (pe_nK K rfl D_law_draw hr (by decide) tk (pa_cons (pv 0) (pa_cons (pv 1) (pa_cons pe_int pa_nil))))) (fun _ _ => rfl)))
  (pss_cons (ps_set (i := 4) sc_law.nd rfl (Or.inl rfl) (pe_tup (pa_cons (mkLn 9 tk (fun _ tkL => (mkLc [12] (pe_lc (own := [("_law_leg", 12)]) rfl sc_law.nd (pi_seqK K rfl (pv 9)) (blkOk_by (own := [("_law_leg", 12)]) (N := ["_law_script", "_law_state", "_law_k", "_law_name", "_law_kept", "_law_due_here", "_law_changes", "_law_mine", "_law_theirs", "_law_legs", "_law_lengths", "_law_most", "_law_leg"]) (sc := defScope s_law) (by decide +kernel)) (fun _ _ _ _ _ => (pg_name (i := 12) sc_law.nd rfl (Or.inl rfl))) (fun _ _ _ _ _ => pts_nil) (fun _ _ _ _ _ => (pe_tup (pa_cons (pv 12) (pa_cons (pe_ix (ix_K K rfl hr.units) (pv 9) (pv 12) (fun _ _ => rfl)) pa_nil)))))))) (pa_cons (mkLn 10 tk (fun _ tkL => (mkLc [3] (pe_lc (own := [("_law_name", 3)]) rfl sc_law.nd (pi_seqK K rfl (pv 10)) (blkOk_by (own := [("_law_name", 3)]) (N := ["_law_script", "_law_state", "_law_k", "_law_name", "_law_kept", "_law_due_here", "_law_changes", "_law_mine", "_law_theirs", "_law_legs", "_law_lengths", "_law_most", "_law_leg"]) (sc := defScope s_law) (by decide +kernel)) (fun _ _ _ _ _ => (pg_name (i := 3) sc_law.nd rfl (Or.inl rfl))) (fun _ _ _ _ _ => pts_nil) (fun _ _ _ _ _ => (pe_tup (pa_cons (pv 3) (pa_cons (pe_ix (ix_K K rfl hr.units) (pv 10) (pv 3) (fun _ _ => rfl)) pa_nil)))))))) pa_nil))))
  (pss_cons (ps_set (i := 5) sc_law.nd rfl (Or.inl rfl) (mkLn 9 tk (fun _ tkL => (mkLn 10 tkL (fun _ tkL => (pe_nK K rfl D_law_due hr (by decide) tkL (pa_cons (pv 9) (pa_cons (pv 10) (pa_cons (pv 11) pa_nil)))))))))
  (pss_cons (ps_if (pt_cmpR (op_neK K rfl hr.units) (mkLn 9 tk (fun _ tkL => (mkLn 10 tkL (fun _ tkL => (pe_lamF (k := 13) (kt := 12) K rfl FF_law_failed bd_law_failed T.g_law_failed sc_law_failed rfl (Or.inl rfl) R_law_failed TB rfl hr (by decide) (by decide) (LamX.lamS_by (by kernel_rfl)) rfl (fun _ _ _ _ _ => rfl) (fun A outer s H E f cc hr => (mkPin (mkMO (pe_cK K rfl T.m_Changes D_ChangesZZ_initZZ hr (by decide) takes_lam T.g_Changes (pa_cons (pv 9) (pa_cons (pv 10) (pa_cons (pv 11) pa_nil))))))) rfl))))) (pv 5) (nomark _)) (pss_one (ps_ret pe_bl)) pss_nil)
  (pss_one (ps_if (pt_cmpR (op_eqK K rfl hr.units) (pv 5) (pe_lst (pa_cons pe_str pa_nil)) (nomark _)) (pss_cons (mkO (ps_set (i := 6) sc_law.nd rfl (Or.inr rfl) (mkLn 9 tk (fun _ tkL => (mkLn 10 tkL (fun _ tkL => (mkMO (pe_cK K rfl T.m_Changes D_ChangesZZ_initZZ hr (by decide) tkL T.g_Changes (pa_cons (pv 9) (pa_cons (pv 10) (pa_cons (pv 11) pa_nil)))))))))))
  (pss_cons (ps_asg pe_int (pg_sub (pv 9) (pe_tup (pa_cons pe_str (pa_cons pe_str pa_nil))) (set_P hr.units)))
  (pss_cons (ps_asg pe_int (pg_sub (pv 10) pe_str (set_P hr.units)))
  (pss_cons (mkLnS 6 (mkSLc [12] (ps_setLc (i := 7) (own := [("_law_leg", 12)]) rfl sc_law.nd rfl rfl (sw_true rfl rfl rfl (by decide +kernel)) (pi_seqK K rfl (pe_fldK K rfl (pv 6))) (blkOk_by (own := [("_law_leg", 12)]) (N := ["_law_script", "_law_state", "_law_k", "_law_name", "_law_kept", "_law_due_here", "_law_changes", "_law_mine", "_law_theirs", "_law_legs", "_law_lengths", "_law_most", "_law_leg"]) (sc := defScope s_law) (by decide +kernel)) (fun _ _ _ _ _ => (pg_name (i := 12) sc_law.nd rfl (Or.inl rfl))) (fun _ _ _ _ _ => pts_nil) (fun _ _ _ _ _ => (pe_tup (pa_cons (pv 12) (pa_cons (pe_ix (ix_K K rfl hr.units) (pe_fldK K rfl (pv 6)) (pv 12) (fun _ _ => rfl)) pa_nil)))))))
  (pss_cons (mkLnS 6 (mkSLc [3] (ps_setLc (i := 8) (own := [("_law_name", 3)]) rfl sc_law.nd rfl rfl (sw_true rfl rfl rfl (by decide +kernel)) (pi_seqK K rfl (pe_fldK K rfl (pv 6))) (blkOk_by (own := [("_law_name", 3)]) (N := ["_law_script", "_law_state", "_law_k", "_law_name", "_law_kept", "_law_due_here", "_law_changes", "_law_mine", "_law_theirs", "_law_legs", "_law_lengths", "_law_most", "_law_leg"]) (sc := defScope s_law) (by decide +kernel)) (fun _ _ _ _ _ => (pg_name (i := 3) sc_law.nd rfl (Or.inl rfl))) (fun _ _ _ _ _ => pts_nil) (fun _ _ _ _ _ => (pe_tup (pa_cons (pv 3) (pa_cons (pe_ix (ix_K K rfl hr.units) (pe_fldK K rfl (pv 6)) (pv 3) (fun _ _ => rfl)) pa_nil)))))))
  (pss_one (ps_if (PW.pt (pw_or (pt_cmpR (op_neK K rfl hr.units) (pv 7) (pe_ix (ix_K K rfl hr.units) (pv 4) pe_int (fun _ _ => rfl)) (nomark _)) (pw_or (pt_cmpR (op_neK K rfl hr.units) (pv 8) (pe_ix (ix_K K rfl hr.units) (pv 4) pe_int (fun _ _ => rfl)) (nomark _)) (pw_or1 (mkLnT 6 tk (fun _ tkL => (pt_cmpR (op_neK K rfl hr.units) (pe_fldK K rfl (pv 6)) (pv 11) (nomark _)))))))) (pss_one (ps_ret pe_bl)) pss_nil))))))) pss_nil))))))))))))
  (pss_one (ps_ret pe_bl)))), ?_⟩
  intro args R Y hS
  obtain ⟨ns, rfl, hl, hS⟩ := hS
  refine w_start (Γ := [some (.tb (.fr (.scr ns)) (He.cT K ("law", none)).2 lamQ), none, none, none, none, none, none, none, none, none, none, none, none]) ?_
  try dsimp only [cxOf]
  clear po tk hr
  w_dflts wF
  w_dflts wn
  intro a
  w_dflts wn
  refine loop_rng (α := Unit) (fun _ _ => True) (fun _ => []) () trivial (by rfl) ?_ ?_
  rotate_left
  · rintro _ _
    w_dflts wn
    exact hS _
  rintro k _ hk _
  w_dflts wn
  intro da
  w_dflts wn
  intro n1 p1 q1
  w_dflts wn
  rw [cutA p1 q1]
  have lA : (nmA.take n1.toNat).length ≤ 4 := Nat.le_trans (List.length_take_le' ..) (by decide)
  refine loop_rest (ys := nmA.take n1.toNat) (pic := Dt.str) (α := LgD) (fun l lg => (∀ z ∈ l, z ∈ nmA) ∧ (lg.map (·.1)).Nodup ∧ (∀ e ∈ lg, NX e.2 ∧ PyData.strOk e.1.1 = true ∧ PyData.strOk e.1.2 = true) ∧ lg.length + l.length ≤ 4) (fun lg => [(9, some (.oT da (lgK lg)))]) [] ⟨fun z hz => List.mem_of_mem_take hz, by simp, by simp, by simpa using lA⟩ (by rfl) ?_ ?_
  · rintro z l lg ⟨h1, h2, h3, h4⟩
    have hz := nm_ok.1 z (h1 z (by simp))
    have hl : ∀ z ∈ l, z ∈ nmA := fun y hy => h1 y (List.mem_cons_of_mem _ hy)
    rw [List.length_cons] at h4
    have kl : (lgK lg).length = lg.length := mapT_len lg
    have okp := ok_p
    w_dflts wn
    intro d hd
    have pl := pA_len lg ("p", z) d
    w_dflts wn
    rw [lg_put]
    exact ⟨_, ⟨hl, pA_nodup h2 _ _, fun e he => (pA_mem he).elim (h3 e) fun q => by rw [q]; exact ⟨hd, okp, hz⟩, by omega⟩, rfl⟩
  rintro lg ⟨_, g1, g4, g3⟩
  have g2 : ∀ e ∈ lg, NX e.2 := fun e he => (g4 e he).1
  have hlg : TbQ lg := ⟨g1, g2, by simp at g3; omega⟩
  have kl1 : (lgK lg).length = lg.length := mapT_len lg
  w_dflts wn
  intro db
  w_dflts wn
  intro n2 p2 q2
  w_dflts wn
  rw [cutB p2 q2]
  have lB : (nmB.take n2.toNat).length ≤ 3 := Nat.le_trans (List.length_take_le' ..) (by decide)
  refine loop_rest (ys := nmB.take n2.toNat) (pic := Dt.str) (α := LnD) (fun l ln => (∀ z ∈ l, z ∈ nmB) ∧ (ln.map (·.1)).Nodup ∧ (∀ e ∈ ln, NX e.2 ∧ PyData.strOk e.1 = true) ∧ ln.length + l.length ≤ 3) (fun ln => [(10, some (.oK db (lnK ln)))]) [] ⟨fun z hz => List.mem_of_mem_take hz, by simp, by simp, by simpa using lB⟩ (by rfl) ?_ ?_
  · rintro z l ln ⟨h1, h2, h3, h4⟩
    have hz := nm_ok.2 z (h1 z (by simp))
    have hl : ∀ z ∈ l, z ∈ nmB := fun y hy => h1 y (List.mem_cons_of_mem _ hy)
    rw [List.length_cons] at h4
    have kl : (lnK ln).length = ln.length := mapT_len ln
    w_dflts wn
    intro d hd
    have pl := pA_len ln z d
    w_dflts wn
    rw [ln_put]
    exact ⟨_, ⟨hl, pA_nodup h2 _ _, fun e he => (pA_mem he).elim (h3 e) fun q => by rw [q]; exact ⟨hd, hz⟩, by omega⟩, rfl⟩
  rintro ln ⟨_, f1, f4, f3⟩
  have f2 : ∀ e ∈ ln, NX e.2 := fun e he => (f4 e he).1
  have hln : TbQ ln := ⟨f1, f2, by simp at f3; omega⟩
  have kl2 : (lnK ln).length = ln.length := mapT_len ln
  w_dflts wn
  intro n3 p3 q3
  w_dflts wn
  refine ixAny p3 (by simp; omega) fun md hd => ?_
  have hmd : NX md := by
    simp only [List.mem_cons, List.not_mem_nil, or_false] at hd
    rcases hd with rfl | rfl | rfl | rfl | rfl | rfl | rfl | rfl
    all_goals first | exact .inl ⟨_, rfl⟩ | exact .inr rfl
  clear hd
  have nx1 : ∀ c, noXs c (lg.map lgP) := fun c => noXs_map fun e he => by simp only [lgP, noX, noXs]; exact ⟨by simp, (g2 e he).no, trivial⟩
  have nx2 : ∀ c, noXs c (ln.map lnP) := fun c => noXs_map fun e he => by simp only [lnP, noX, noXs]; exact ⟨by simp, (f2 e he).no, trivial⟩
  have nx3 : ∀ c, noX c md := fun c => hmd.no
  have nv1 : ∀ c, noXv c (lgK lg) := fun c e he => by
    obtain ⟨y, hy, rfl⟩ := List.mem_map.mp he
    exact (g2 y hy).no
  have nv2 : ∀ c, noXv c (lnK ln) := fun c e he => by
    obtain ⟨y, hy, rfl⟩ := List.mem_map.mp he
    exact (f2 y hy).no
  have wnx1 := nx1 (some (He.ga K "Changes"))
  have nx1 := nx1 none
  have wnx2 := nx2 (some (He.ga K "Changes"))
  have nx2 := nx2 none
  have wnx3 := nx3 (some (He.ga K "Changes"))
  have nx3 := nx3 none
  have wnv1 := nv1 (some (He.ga K "Changes"))
  have nv1 := nv1 none
  have wnv2 := nv2 (some (He.ga K "Changes"))
  have nv2 := nv2 none
  w_dflts wn
  intro W1
  w_dflts wn
  rw [lg_keys]
  refine lc_map (ys := lg) (pic := fun e : (Str × Str) × Dt => Dt.tup [.str e.1.1, .str e.1.2]) lgP (by omega) ?_ ?_
  · rintro k ⟨⟨p, q⟩, d⟩ he
    have a1 := lg_at lg p q
    rw [vA_of hlg.nd (List.mem_of_getElem? he)] at a1
    w_dflts wn
    exact ⟨rfl, rfl⟩
  intro c1
  w_dflts wn
  intro W2
  w_dflts wn
  rw [ln_keys]
  refine lc_map (ys := ln) (pic := fun e : Str × Dt => Dt.str e.1) lnP (by omega) ?_ ?_
  · rintro k ⟨p, d⟩ he
    have a1 := ln_at ln p
    rw [vA_of hln.nd (List.mem_of_getElem? he)] at a1
    w_dflts wn
    exact ⟨rfl, rfl⟩
  intro c2
  w_dflts wn
  intro W3
  w_dflts wn
  intro W4
  have pdu : TbQ lg ∧ TbQ ln ∧ NX md := ⟨hlg, hln, hmd⟩
  w_dflts wn
  intro z hz
  have hz2 : (∃ v, z = .lst [.str "number", .str "extra", v] ∧ NX v ∧ badV (lg.map (·.2) ++ ln.map (·.2)) = some v) ∨ (z = .lst [.str "none"] ∧ badV (lg.map (·.2) ++ ln.map (·.2)) = none ∧ numB 0 (.int 20) md = true) ∨ (z = .lst [.str "number", .str "most", md] ∧ badV (lg.map (·.2) ++ ln.map (·.2)) = none ∧ numB 0 (.int 20) md = false) := by
    rw [hz]
    unfold due45
    rcases hb : badV (lg.map (·.2) ++ ln.map (·.2)) with _ | v
    · dsimp only
      by_cases c : numB 0 (.int 20) md = true
      · rw [if_pos c]
        exact .inr (.inl ⟨rfl, rfl, c⟩)
      · rw [if_neg c]
        exact .inr (.inr ⟨rfl, rfl, by simpa using c⟩)
    · dsimp only
      refine .inl ⟨v, rfl, ?_, rfl⟩
      rcases List.mem_append.mp (badV_mem hb).1 with q | q
      · obtain ⟨e, he, rfl⟩ := List.mem_map.mp q
        exact hlg.nx e he
      · obtain ⟨e, he, rfl⟩ := List.mem_map.mp q
        exact hln.nx e he
  clear hz
  rcases hz2 with ⟨v, rfl, hv, hbv⟩ | ⟨rfl, hbv, hn⟩ | ⟨rfl, hbv, hn⟩
  · have nxv : noX none v := hv.no
    have plv := pl_extra hv.pl
    w_dflts wn
    intro W5
    w_dflts wn
    intro W6
    w_dflts wn
    intro y
    w_dflts wn
    · exact absurd (show (badV (lg.map (·.2) ++ ln.map (·.2))).isNone = true by assumption) (by rw [hbv]; simp)
    · exact absurd (show (badV (lg.map (·.2) ++ ln.map (·.2))).isNone = true by assumption) (by rw [hbv]; simp)
    · intro d hd
      rw [hbv] at hd
      obtain rfl := Option.some.inj hd
      w_dflts wn
      intro _
      w_dflts wn
      refine ne_self 1 plv ?_
      w_dflts wn
      refine eq_non plv ?_
      w_dflts wn
      exact ⟨(), trivial, rfl⟩
  · w_dflts wn
    intro W5
    w_dflts wn
    intro W6
    w_dflts wn
    intro y
    w_dflts wn
    · intro b1 b2
      w_dflts wn
      intro _
      w_dflts wn
      refine ne_self 1 pl_none ?_
      w_dflts wn
      refine q_eq 1 pl_none pl_none ?_
      rw [eqD_pl (pl_of pl_none)]
      w_dflts wn
      intro W7
      w_dflts wn
      intro W8
      w_dflts wn
      intro y2
      w_dflts wn
      intro b3 b4
      have okq := ok_q
      have okz := ok_z
      w_dflts wn
      rw [lg_keys]
      refine lc_map (ys := lg) (pic := fun e : (Str × Str) × Dt => Dt.tup [.str e.1.1, .str e.1.2]) lgP (by omega) ?_ ?_
      · rintro k ⟨⟨p, q⟩, d⟩ he
        have a1 := lg_at lg p q
        rw [vA_of hlg.nd (List.mem_of_getElem? he)] at a1
        w_dflts wn
        exact ⟨rfl, rfl⟩
      intro c3
      w_dflts wn
      rw [ln_keys]
      refine lc_map (ys := ln) (pic := fun e : Str × Dt => Dt.str e.1) lnP (by omega) ?_ ?_
      · rintro k ⟨p, d⟩ he
        have a1 := ln_at ln p
        rw [vA_of hln.nd (List.mem_of_getElem? he)] at a1
        w_dflts wn
        exact ⟨rfl, rfl⟩
      intro c4
      w_dflts wn
      refine ne_self 3 (pl_lg g4) ?_
      w_dflts wn
      refine ne_self 2 (pl_ln f4) ?_
      w_dflts wn
      intro W13
      w_dflts wn
      refine ne_self 0 hmd.pl ?_
      w_dflts wn
      exact ⟨(), trivial, rfl⟩
    · intro d hd
      rw [hbv] at hd
      cases hd
  · have plv := pl_most hmd.pl
    w_dflts wn
    intro W5
    w_dflts wn
    intro W6
    w_dflts wn
    intro y
    w_dflts wn
    · intro _
      w_dflts wn
      refine ne_self 1 plv ?_
      w_dflts wn
      refine eq_non plv ?_
      w_dflts wn
      exact ⟨(), trivial, rfl⟩
    · intro d hd
      rw [hbv] at hd
      cases hd
end
end LW
open PySem PySem.W PySem.Calls PyProof.Rows
set_option maxRecDepth 100000 in
set_option maxHeartbeats 0 in
theorem PySem.Challenge.cw_laterways_k45_changes_holds : PySem.Challenge.rw_laterways_k45_changes.Holds := by
  refine LW.fin_early ?_
  intro w mg fa h Y G hmg0
  obtain ⟨K, KX, c, tl⟩ := Y
  have hmg : mg ("law" : PySem.Str) = some (.ref fa) := by
    have e : (HandSHeadRun.topDef (OpenLaw.row PySem.Challenge.rw_laterways_k45_changes).prog 18).name = ("law" : PySem.Str) := by kernel_rfl
    rw [← e]
    exact hmg0
  have T := LW.tx_of KX G c
  obtain ⟨fdL, FL⟩ := T.f_law
  have e : fa = LW.lawA K := by
    have z := T.g_law
    rw [hmg] at z
    cases z
    rfl
  subst e
  exact ⟨K, fdL, KX, tl, fun s u => FL.bindsA (ps := ["_law_script"]) (fun _ _ _ _ _ _ us hl => match us, hl with | [_], _ => rfl) s [u] rfl, fun base TB => LW.ok_law T FL TB⟩
