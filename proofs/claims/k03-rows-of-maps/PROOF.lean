import PyProof.Rows.All
import Wide.All
import OpenK.AllK
import Wide.FinOn
import KE.KStateDown
import Lean
import HandS.ForMost
import HandS.Exc
import HandS.ExcOwn
import HandS.WordsExc
import HandS.TryMany
import HandS.TryOnly
import HandS.ExcField
import HandS.ExcIs
import HandS.ExcSuper
import HandS.IsInst
import HandS.Defaults
import HandS.CallSlots
import HandS.Flow
import HandS.Conv
import HandS.More
import HandS.RevRange
import HandS.Head0
import HandS.Head1
import HandS.Head2
import HandS.HeadEnd
import HandS.HeadHook1
import HandS.HeadHook2
import HandS.Lambda
import HandS.DictTup
import KE.KeyNested
import KE.KExcSuper
import HandS.Iter
import HandS.Dict
import HandS.TupLen
import HandS.WordsDict
import HandS.Walk
import HandS.TupAny
import KE.KExcIs
import KE.IntTextLaws
import KE.KIntText
import HandS.Comp
import HandS.Zip
import HandS.OwnEq
import PyProof.InstNe
import KE.GoesEnum
import KE.GoesZip
import KE.GoesMore
import HandS.Star
import HandS.SetBool
import HandS.Strs
import HandS.SortInts
import HandS.ClsMeth
import HandS.HeadNt
import HandS.Style
import HandS.DictComp
import KE.KDictPairs
import HandS.Text
import KE.KEqDict
import HandS.Rev
import KE.KDictDisplayH
import HandS.Deep
import PyProof.P3In
import KE.KEqNest
import PyProof.Rows.IntBool
import HandS.EndTab
import HandS.HeadWalk
import HandS.HeadHook4
import KE.KDictCopyH
import KE.GoesComp
import KE.KAsSuite
import HandS.FStr
import KE.KFmtOwn
import HandS.IterVal
import KE.KOwnIter
import PySem.Challenge.RW_laterways_k03_rows_of_maps
set_option Elab.async false
set_option linter.all false
set_option maxRecDepth 100000
set_option maxHeartbeats 4000000
namespace NX
open PySem PySem.Spec PyProof.Rows L2
abbrev NK := Sum Key (List Key)
section
variable (P : Program) (w : World)
def nIs (h : Heap) : NK → Value → Prop
  | .inl k, v => keyIs k v = true
  | .inr ks, v => ∃ a, v = .ref a ∧ (tupleKind (mixKind P w)).is h ks a
def nHash : NK → Int
  | .inl k => keyH w k
  | .inr ks => (tupleKind (mixKind P w)).hash ks
abbrev Row := NK × Value × Value
def nEnt (x : Row) : DictEntry := ⟨nHash P w x.1, x.2.1, x.2.2⟩
end
section
variable {P : Program} {w : World} {A : Around} {E : Value → Shared → Prop} {s : Shared} {h h' : Heap}
theorem n_quiet {k : NK} {v : Value} {Q : Bool → Shared → Prop} (p : nIs P w s.heap k v) (q : Q true s) : wpAny (model P w) A (eqIsQuiet 8 v) Q E s := by
  cases k with
  | inl k =>
    rcases keyIs_shape p with ⟨i, t, rfl, rfl⟩ | ⟨c, t, rfl, rfl⟩ <;> exact wpAny_pure q
  | inr ks =>
    obtain ⟨a, rfl, r⟩ := p
    exact (tupleKind (mixKind P w)).quiet r q
theorem n_tells {k : NK} {v : Value} {vs : List Value} {Q : Bool → Shared → Prop} (p : nIs P w s.heap k v) (hv : ∀ u ∈ vs, ∃ x, nIs P w s.heap x u) (q : Q false s) : wpAny (model P w) A (tableMayTell v vs) Q E s := by
  unfold tableMayTell
  by_cases c : vs.isEmpty = true
  · rw [if_pos c]
    exact wpAny_pure q
  · rw [if_neg c]
    refine wpAny_bind (n_quiet p ?_)
    rw [if_neg (by decide)]
    refine wpAny_bind (wpAny_forIn_list _ (fun l b t => t = s ∧ b = (none, ()) ∧ ∀ u ∈ l, ∃ x, nIs P w s.heap x u) _ ?_ ?_ vs _ ⟨rfl, rfl, hv⟩)
    · rintro u l b t ⟨rfl, rfl, hl⟩
      obtain ⟨x, hx⟩ := hl u (by simp)
      refine wpAny_bind (n_quiet hx ?_)
      rw [if_neg (by decide)]
      exact wpAny_pure ⟨rfl, rfl, fun y hy => hl y (List.mem_cons_of_mem _ hy)⟩
    · rintro b t ⟨rfl, rfl, _⟩
      exact wpAny_pure q
def nAt (xs : List Row) (k : NK) : Option Nat := xs.findIdx? fun x => decide (x.1 = k)
theorem nAt_none {xs : List Row} {k : NK} (n : ∀ x ∈ xs, x.1 ≠ k) : nAt xs k = none := by
  unfold nAt
  rw [List.findIdx?_eq_none_iff]
  intro x hx
  exact decide_eq_false (n x hx)
theorem nAt_some {xs : List Row} (nd : (xs.map (·.1)).Nodup) {j : Nat} {x : Row} (hx : xs[j]? = some x) : nAt xs x.1 = some j := by
  obtain ⟨hj, e⟩ := List.getElem?_eq_some_iff.mp hx
  unfold nAt
  rw [List.findIdx?_eq_some_iff_getElem]
  refine ⟨hj, by simp [e], fun i hi => ?_⟩
  have hij : (xs.map (·.1))[i]'(by rw [List.length_map]; omega) ≠ (xs.map (·.1))[j]'(by rw [List.length_map]; omega) := fun q => by
    have := (List.getElem_inj nd).mp q
    omega
  rw [List.getElem_map, List.getElem_map, e] at hij
  simpa using hij
section
variable {d : Addr} {o : Obj} {es : Array DictEntry} {ep : Nat} {xs : List Row}
set_option hygiene false in
local macro_rules
  | `(tactic| w_dflts nxA) => `(tactic| (
  rw [if_neg (by simp)]
  refine wpAny_bind (wpAny_forIn_list _ (fun l b t => t = s ∧ ∃ hit dn, b = (none, hit) ∧ dn ++ l = pl ∧ ((hit = none ∧ ∀ i ∈ dn, ∀ x, xs[i]? = some x → x.1 ≠ k) ∨ ∃ j x, hit = some j ∧ j ∈ dn ∧ xs[j]? = some x ∧ x.1 = k)) _ ?_ ?_ pl _ ⟨rfl, none, [], rfl, rfl, .inl ⟨rfl, fun _ z => nomatch z⟩⟩)
  · rintro i l b t ⟨rfl, hit, dn, rfl, e1, hh⟩
    obtain ⟨x, hx, hx2⟩ := cd.2.1 i (by rw [← e1]; simp)
    rw [row hx]
    dsimp only
    rw [if_pos (by rw [hx2]; exact beq_self_eq_true _)]
    refine wpAny_bind (wpAny_dictEpoch ho hd (wpAny_bind (ask hx (wpAny_bind (wpAny_dictEpoch ho hd ?_)))))
    rw [if_neg (by simp)]
    by_cases ck : x.1 = k
    · rw [decide_eq_true ck, if_pos rfl]
      rcases hh with ⟨rfl, hn⟩ | ⟨j, y, rfl, hj, hy, ey⟩
      · rw [if_neg (by decide)]
        refine wpAny_bind (wpAny_rule ?_)
        have e2 := nAt_some nd hx
        rw [ck] at e2
        by_cases c3 : vs.length < 2
        · rw [if_pos c3]
          rw [e2] at q
          exact wpAny_pure (wpAny_pure q)
        · rw [if_neg c3]
          exact wpAny_pure ⟨rfl, some i, dn ++ [i], rfl, by rw [← e1]; simp, .inr ⟨i, x, rfl, by simp, hx, ck⟩⟩
      · exfalso
        have z1 := nAt_some nd hx
        have z2 := nAt_some nd hy
        rw [ck] at z1
        rw [ey, z1] at z2
        have z3 : i = j := Option.some.inj z2
        have z4 := cd.1
        rw [← e1, List.nodup_append] at z4
        exact z4.2.2 j hj i (by simp) z3.symm
    · rw [decide_eq_false ck, if_neg (by decide)]
      refine wpAny_bind (wpAny_rule ?_)
      rw [if_neg (by simp)]
      refine wpAny_pure ⟨rfl, hit, dn ++ [i], rfl, by rw [← e1]; simp, ?_⟩
      rcases hh with ⟨rfl, hn⟩ | ⟨j, y, e3, hj, hy, ey⟩
      · refine .inl ⟨rfl, fun j hj y hy => ?_⟩
        rcases List.mem_append.mp hj with hj | hj
        · exact hn j hj y hy
        · obtain rfl : j = i := by simpa using hj
          rw [hx] at hy
          cases hy
          exact ck
      · exact .inr ⟨j, y, e3, List.mem_append_left _ hj, hy, ey⟩
  · rintro b t ⟨rfl, hit, dn, rfl, e1, hh⟩
    rw [List.append_nil] at e1
    subst e1
    rcases hh with ⟨rfl, hn⟩ | ⟨j, y, rfl, hj, hy, ey⟩
    · have e2 : nAt xs k = none := nAt_none fun x hx e => by
        obtain ⟨i, hi2⟩ := List.mem_iff_getElem?.mp hx
        exact hn i (cd.2.2 i x hi2 e) x hi2 e
      rw [e2] at q
      exact wpAny_pure q
    · have z2 := nAt_some nd hy
      rw [ey] at z2
      rw [z2] at q
      exact wpAny_pure q))
set_option hygiene false in
local macro_rules
  | `(tactic| w_dflts nxD) => `(tactic| (
  first
  | by_cases c2 : (vs == [Value.str x t]) = true
    · rw [if_pos c2]
      refine wpAny_bind (wpAny_pure ?_)
      w_dflts nxA
    · rw [if_neg c2]
      refine wpAny_bind (n_tells p st ?_)
      w_dflts nxA
  | by_cases c2 : (vs == [Value.ref a]) = true
    · rw [if_pos c2]
      refine wpAny_bind (wpAny_pure ?_)
      w_dflts nxA
    · rw [if_neg c2]
      refine wpAny_bind (n_tells p st ?_)
      w_dflts nxA
  | by_cases c2 : (vs == [v]) = true
    · rw [if_pos c2]
      refine wpAny_bind (wpAny_pure ?_)
      w_dflts nxA
    · rw [if_neg c2]
      refine wpAny_bind (n_tells p st ?_)
      w_dflts nxA))
end
end
end NX
namespace NX
open PySem PySem.Spec PyProof.Rows L2
def valR (xs : List Row) (k : NK) : Option Value := (nAt xs k).bind fun i => (xs[i]?).map (·.2.2)
def putR (xs : List Row) (k : NK) (v u : Value) : List Row := match nAt xs k with
  | some i => xs.modify i fun r => (r.1, r.2.1, u)
  | none => xs ++ [(k, v, u)]
theorem valR_cons (x : Row) (xs : List Row) (k : NK) : valR (x :: xs) k = if x.1 = k then some x.2.2 else valR xs k := by
  unfold valR nAt
  rw [List.findIdx?_cons]
  by_cases e : x.1 = k
  · rw [if_pos e, decide_eq_true e]; rfl
  · rw [if_neg e, decide_eq_false e]
    cases List.findIdx? (fun x => decide (x.1 = k)) xs <;> rfl
section
variable {P : Program} {w : World} {A : Around} {E : Value → Shared → Prop} {s : Shared} {d : Addr} {xs : List Row} {k : NK} {v : Value}
end
abbrev GRow := NK × V × V
abbrev NRel : List GRow → List Row → Prop := Paired fun p q => p.1 = q.1 ∧ RelV p.2.1 q.2.1 ∧ RelV p.2.2 q.2.2
def NRaw (P : Program) (w : World) (h : Heap) (a : Addr) (rs : List GRow) : Prop :=
  rs.length ≤ sizeLine ∧ (a == sysModules) = false ∧ ∃ xs, NRel rs xs ∧ ∃ o es ep, h.get? a = some o ∧ o.ExactDict ∧ o.data = .dict es ep ∧ es.toList = xs.map (nEnt P w) ∧ (xs.map (·.1)).Nodup
def NDo (P : Program) (w : World) (a : Addr) (rs : List GRow) : HO := .ext fun h => NRaw P w h a rs
def KeyAt (H : Hp) : NK → V → Prop
  | .inl k, v => v = kV k
  | .inr ks, v => ∃ b, v = .ref b ∧ H b = some (.tup (ks.map kV))
theorem KeyAt.mono {H H' : Hp} (s : ∀ a o, H a = some o → H' a = some o) : ∀ {k : NK} {v : V}, KeyAt H k v → KeyAt H' k v
  | .inl _, _, e => e
  | .inr _, _, ⟨b, e, h⟩ => ⟨b, e, s _ _ h⟩
def ND (P : Program) (w : World) (H : Hp) (a : Addr) (rs : List GRow) : Prop := H a = some (NDo P w a rs) ∧ ∀ r ∈ rs, KeyAt H r.1 r.2.1
def valG (rs : List GRow) (k : NK) : Option V := (rs.find? fun r => decide (r.1 = k)).map (·.2.2)
def putG (rs : List GRow) (k : NK) (y v : V) : List GRow := if (rs.any fun r => decide (r.1 = k)) = true then rs.map (fun r => if r.1 = k then (r.1, r.2.1, v) else r) else rs ++ [(k, y, v)]
theorem valG_cons (r : GRow) (rs : List GRow) (k : NK) : valG (r :: rs) k = if r.1 = k then some r.2.2 else valG rs k := by
  unfold valG
  rw [List.find?_cons]
  by_cases e : r.1 = k
  · rw [if_pos e, decide_eq_true e]; rfl
  · rw [if_neg e, decide_eq_false e]
theorem NRel.val {rs : List GRow} {xs : List Row} (r : NRel rs xs) (k : NK) : RelO (valG rs k) (valR xs k) := by
  induction r with
  | nil => exact True.intro
  | @cons p q ps qs h t ih =>
    obtain ⟨h1, _, h3⟩ := h
    rw [valG_cons, valR_cons, ← h1]
    by_cases e : p.1 = k
    · rw [if_pos e, if_pos e]; exact h3
    · rw [if_neg e, if_neg e]; exact ih
theorem NRel.any {rs : List GRow} {xs : List Row} (r : NRel rs xs) (k : NK) : (rs.any fun r => decide (r.1 = k)) = (nAt xs k).isSome := by
  induction r with
  | nil => rfl
  | @cons p q ps qs h t ih =>
    unfold nAt at ih ⊢
    rw [List.any_cons, List.findIdx?_cons, ih, h.1]
    by_cases e : q.1 = k
    · rw [decide_eq_true e]; rfl
    · rw [decide_eq_false e]
      cases List.findIdx? (fun x => decide (x.1 = k)) qs <;> rfl
theorem NRel.put {rs : List GRow} {xs : List Row} (r : NRel rs xs) (nd : (xs.map (·.1)).Nodup) (k : NK) {y v : V} {u z : Value} (ry : RelV y u) (rv : RelV v z) : NRel (putG rs k y v) (putR xs k u z) := by
  unfold putG putR
  rw [r.any k]
  cases e : nAt xs k with
  | none =>
    rw [if_neg (by simp)]
    exact Paired.snoc r ⟨rfl, ry, rv⟩
  | some i =>
    rw [if_pos (by simp)]
    dsimp only
    clear ry
    induction r generalizing i with
    | nil => cases e
    | @cons p q ps qs h t ih =>
      unfold nAt at e
      rw [List.findIdx?_cons] at e
      rw [List.map_cons, List.nodup_cons] at nd
      rw [List.map_cons]
      by_cases c : q.1 = k
      · rw [decide_eq_true c] at e
        cases e
        rw [if_pos (h.1.trans c), List.modify_zero_cons]
        refine .cons ⟨h.1, h.2.1, rv⟩ ?_
        have nok : ∀ {as : List GRow} {bs : List Row}, NRel as bs → k ∉ bs.map (·.1) → as.map (fun r => if r.1 = k then (r.1, r.2.1, v) else r) = as := by
          intro as bs t
          induction t with
          | nil => intro _; rfl
          | @cons a b as bs h2 _ ih2 =>
            intro hn
            rw [List.map_cons, List.mem_cons, not_or] at hn
            rw [List.map_cons, ih2 hn.2, if_neg (fun z => hn.1 (by rw [← z, h2.1]))]
        rw [nok t (by rw [← c]; exact nd.1)]
        exact t
      · rw [decide_eq_false c] at e
        obtain ⟨j, ej, rfl⟩ := Option.map_eq_some_iff.mp e
        rw [if_neg (fun z => c (h.1.symm.trans z)), List.modify_succ_cons]
        exact .cons h (ih nd.2 j ej)
inductive NRd (P : Program) (w : World) (H : Hp) (a : Addr) : (NK → Option V) → Prop
  | n {rs : List GRow} : ND P w H a rs → NRd P w H a (valG rs)
  | k {kvs : List (Key × V)} : Rd H a (.dK kvs) → NRd P w H a (fun k => match k with | .inl k => valV kvs k | .inr _ => none)
  | t {kvs : List (List Key × V)} : Rd H a (.dT kvs) → NRd P w H a (fun k => match k with | .inl _ => none | .inr k => valV kvs k)
def PlainV : V → Prop
  | .int _ => True
  | .bl _ => True
  | .str _ => True
  | .non => True
  | _ => False
abbrev RowsN (G : Hp) : List GRow → List (NK × V) → Prop := Paired fun r e => r.1 = e.1 ∧ r.2.2 = e.2 ∧ PlainV e.2 ∧ KeyAt G r.1 r.2.1
theorem RowsN.mono {G G' : Hp} (s : ∀ a o, G a = some o → G' a = some o) {rs : List GRow} {kvs : List (NK × V)} (r : RowsN G rs kvs) : RowsN G' rs kvs :=
  Paired.mapP r fun _ _ z => ⟨z.1, z.2.1, z.2.2.1, z.2.2.2.mono s⟩
end NX
namespace DL
open PySem PySem.Spec L2
inductive Dt where
  | non | bl (b : Bool) | int (i : Int) | str (x : Str) | ty (n : String) | ref (a : Addr)
  | lst (xs : List Dt) | tup (xs : List Dt) | scr (ns : List Int)
  | obj (C : Addr) (fs : List (Str × Dt))
  | dK (kvs : List (Key × Dt)) | dT (kvs : List (List Key × Dt))
  | exc (C : Addr) (fs : List (Str × Dt))
  | at_ (a : Addr) (d : Dt)
  | fn (a c : Addr) (q : Str) (sg : List (Option V)) (ds : List (Option Dt))
  | dN (P : Program) (w : World) (kvs : List (NX.NK × V))
def ExK (C : Addr) (d : Option Addr) (a : Addr) : HO := .ext fun h => ∃ (oe : Obj) (vs : Array Value), h.get? a = some oe ∧ Zc (.ref C) d oe ∧ oe.data = .fields vs
mutual
inductive Rep (K : PySem.W.Frag) (G : Hp) : V → Dt → Prop
  | non : Rep K G .non .non
  | bl (b : Bool) : Rep K G (.bl b) (.bl b)
  | int (i : Int) : Rep K G (.int i) (.int i)
  | str (x : Str) : Rep K G (.str x) (.str x)
  | ty (n : String) : Rep K G (.ty n) (.ty n)
  | ref (a : Addr) : Rep K G (.ref a) (.ref a)
  | lst {a : Addr} {xs : List V} {ds : List Dt} : G a = some (.lst xs) → Reps K G xs ds → Rep K G (.ref a) (.lst ds)
  | tup {a : Addr} {xs : List V} {ds : List Dt} : G a = some (.tup xs) → Reps K G xs ds → Rep K G (.ref a) (.tup ds)
  | scr {a : Addr} {ns : List Int} : SqL K G a (ns.map V.int) → Rep K G (.ref a) (.scr ns)
  | obj {a C dx : Addr} {fs : List (Str × V)} {fds : List (Str × Dt)} : G a = some (.ins C dx fs) → RepF K G fs fds → Rep K G (.ref a) (.obj C fds)
  | dK {a : Addr} {ob : Obj} {kvs : List (Key × V)} {kds : List (Key × Dt)} : G a = some (.frz ob (.dK kvs)) → RepK K G kvs kds → Rep K G (.ref a) (.dK kds)
  | dT {a : Addr} {ob : Obj} {kvs : List (List Key × V)} {kds : List (List Key × Dt)} : G a = some (.frz ob (.dT kvs)) → RepT K G kvs kds → Rep K G (.ref a) (.dT kds)
  | exc {a C : Addr} {d : Option Addr} {fds : List (Str × Dt)} : G a = some (ExK C d a) → RepX K G d fds → Rep K G (.ref a) (.exc C fds)
  | at_ {a : Addr} {d : Dt} : Rep K G (.ref a) d → Rep K G (.ref a) (.at_ a d)
  | fn {a c : Addr} {q : Str} {sg : List (Option V)} {ds : List (Option Dt)} : G c = some (LamX.CodeO c q) → RepS K G sg ds → Rep K G (.ref a) (.fn a c q sg ds)
  | dN {P : Program} {w : World} {a : Addr} {rs : List NX.GRow} {kds : List (NX.NK × V)} : G a = some (NX.NDo P w a rs) → NX.RowsN G rs kds → Rep K G (.ref a) (.dN P w kds)
inductive Reps (K : PySem.W.Frag) (G : Hp) : List V → List Dt → Prop
  | nil : Reps K G [] []
  | cons {v : V} {vs : List V} {d : Dt} {ds : List Dt} : Rep K G v d → Reps K G vs ds → Reps K G (v :: vs) (d :: ds)
inductive RepF (K : PySem.W.Frag) (G : Hp) : List (Str × V) → List (Str × Dt) → Prop
  | nil : RepF K G [] []
  | cons {f : Str} {v : V} {vs : List (Str × V)} {d : Dt} {ds : List (Str × Dt)} : Rep K G v d → RepF K G vs ds → RepF K G ((f, v) :: vs) ((f, d) :: ds)
inductive RepK (K : PySem.W.Frag) (G : Hp) : List (Key × V) → List (Key × Dt) → Prop
  | nil : RepK K G [] []
  | cons {f : Key} {v : V} {vs : List (Key × V)} {d : Dt} {ds : List (Key × Dt)} : Rep K G v d → RepK K G vs ds → RepK K G ((f, v) :: vs) ((f, d) :: ds)
inductive RepT (K : PySem.W.Frag) (G : Hp) : List (List Key × V) → List (List Key × Dt) → Prop
  | nil : RepT K G [] []
  | cons {f : List Key} {v : V} {vs : List (List Key × V)} {d : Dt} {ds : List (List Key × Dt)} : Rep K G v d → RepT K G vs ds → RepT K G ((f, v) :: vs) ((f, d) :: ds)
inductive RepS (K : PySem.W.Frag) (G : Hp) : List (Option V) → List (Option Dt) → Prop
  | nil : RepS K G [] []
  | no {x : Option V} {vs : List (Option V)} {ds : List (Option Dt)} : RepS K G vs ds → RepS K G (x :: vs) (none :: ds)
  | yes {v : V} {vs : List (Option V)} {d : Dt} {ds : List (Option Dt)} : Rep K G v d → RepS K G vs ds → RepS K G (some v :: vs) (some d :: ds)
inductive RepX (K : PySem.W.Frag) (G : Hp) : Option Addr → List (Str × Dt) → Prop
  | none : RepX K G none []
  | some {d : Addr} {fs : List (Str × V)} {fds : List (Str × Dt)} : G d = some (.xd fs) → RepF K G fs fds → RepX K G (some d) fds
end
section
variable {K : PySem.W.Frag} {G G' : Hp}
mutual
theorem Rep.mono (s : Same G G') : ∀ {v : V} {d : Dt}, Rep K G v d → Rep K G' v d
  | _, _, .non => .non
  | _, _, .bl b => .bl b
  | _, _, .int i => .int i
  | _, _, .str x => .str x
  | _, _, .ty n => .ty n
  | _, _, .ref a => .ref a
  | _, _, .lst h r => .lst (s _ _ h) (Reps.mono s r)
  | _, _, .tup h r => .tup (s _ _ h) (Reps.mono s r)
  | _, _, .scr h => .scr (s.seq h)
  | _, _, .obj h r => .obj (s _ _ h) (RepF.mono s r)
  | _, _, .dK h r => .dK (s _ _ h) (RepK.mono s r)
  | _, _, .dT h r => .dT (s _ _ h) (RepT.mono s r)
  | _, _, .exc h r => .exc (s _ _ h) (RepX.mono s r)
  | _, _, .at_ r => .at_ (Rep.mono s r)
  | _, _, .fn h r => .fn (s _ _ h) (RepS.mono s r)
  | _, _, .dN h r => .dN (s _ _ h) (NX.RowsN.mono s r)
theorem Reps.mono (s : Same G G') : ∀ {v : List V} {d : List Dt}, Reps K G v d → Reps K G' v d
  | _, _, .nil => .nil
  | _, _, .cons h r => .cons (Rep.mono s h) (Reps.mono s r)
theorem RepF.mono (s : Same G G') : ∀ {v : List (Str × V)} {d : List (Str × Dt)}, RepF K G v d → RepF K G' v d
  | _, _, .nil => .nil
  | _, _, .cons h r => .cons (Rep.mono s h) (RepF.mono s r)
theorem RepK.mono (s : Same G G') : ∀ {v : List (Key × V)} {d : List (Key × Dt)}, RepK K G v d → RepK K G' v d
  | _, _, .nil => .nil
  | _, _, .cons h r => .cons (Rep.mono s h) (RepK.mono s r)
theorem RepT.mono (s : Same G G') : ∀ {v : List (List Key × V)} {d : List (List Key × Dt)}, RepT K G v d → RepT K G' v d
  | _, _, .nil => .nil
  | _, _, .cons h r => .cons (Rep.mono s h) (RepT.mono s r)
theorem RepS.mono (s : Same G G') : ∀ {v : List (Option V)} {d : List (Option Dt)}, RepS K G v d → RepS K G' v d
  | _, _, .nil => .nil
  | _, _, .no r => .no (RepS.mono s r)
  | _, _, .yes h r => .yes (Rep.mono s h) (RepS.mono s r)
theorem RepX.mono (s : Same G G') : ∀ {v : Option Addr} {d : List (Str × Dt)}, RepX K G v d → RepX K G' v d
  | _, _, .none => .none
  | _, _, .some h r => .some (s _ _ h) (RepF.mono s r)
end
theorem Reps.length {vs : List V} {ds : List Dt} (r : Reps K G vs ds) : vs.length = ds.length := by
  induction ds generalizing vs with
  | nil => cases r; rfl
  | cons d ds ih => cases r with | cons h t => simp [ih t]
theorem Reps.get {vs : List V} {ds : List Dt} (r : Reps K G vs ds) {i : Nat} {d : Dt} (h : ds[i]? = some d) : ∃ v, vs[i]? = some v ∧ Rep K G v d := by
  induction ds generalizing vs i with
  | nil => simp at h
  | cons e ds ih =>
    cases r with
    | cons h1 t =>
      cases i with
      | zero => simp at h; subst h; exact ⟨_, rfl, h1⟩
      | succ i => simpa using ih t (by simpa using h)
theorem Reps.get' {vs : List V} {ds : List Dt} (r : Reps K G vs ds) {i : Nat} {v : V} (h : vs[i]? = some v) : ∃ d, ds[i]? = some d ∧ Rep K G v d := by
  induction ds generalizing vs i with
  | nil => cases r; simp at h
  | cons e ds ih =>
    cases r with
    | cons h1 t =>
      cases i with
      | zero => simp at h; subst h; exact ⟨_, rfl, h1⟩
      | succ i => simpa using ih t (by simpa using h)
theorem Reps.append {vs us : List V} {ds es : List Dt} (r : Reps K G vs ds) (q : Reps K G us es) : Reps K G (vs ++ us) (ds ++ es) := by
  induction ds generalizing vs with
  | nil => cases r; exact q
  | cons e ds ih => cases r with | cons h1 t => exact .cons h1 (ih t)
theorem Reps.drop {vs : List V} {ds : List Dt} (n : Nat) (r : Reps K G vs ds) : Reps K G (vs.drop n) (ds.drop n) := by
  induction n generalizing vs ds with
  | zero => exact r
  | succ n ih => cases r with
    | nil => exact .nil
    | cons h t => exact ih t
theorem Reps.take {vs : List V} {ds : List Dt} (n : Nat) (r : Reps K G vs ds) : Reps K G (vs.take n) (ds.take n) := by
  induction n generalizing vs ds with
  | zero => exact .nil
  | succ n ih => cases r with
    | nil => exact .nil
    | cons h t => exact .cons h (ih t)
theorem Reps.set {vs : List V} {ds : List Dt} {v : V} {d : Dt} (i : Nat) (h : Rep K G v d) (r : Reps K G vs ds) : Reps K G (vs.set i v) (ds.set i d) := by
  induction i generalizing vs ds with
  | zero => cases r with
    | nil => exact .nil
    | cons _ t => exact .cons h t
  | succ n ih => cases r with
    | nil => exact .nil
    | cons q t => exact .cons q (ih t)
theorem Reps.reverse {vs : List V} {ds : List Dt} (r : Reps K G vs ds) : Reps K G vs.reverse ds.reverse := by
  induction ds generalizing vs with
  | nil => cases r; exact .nil
  | cons e ds ih => cases r with | cons h1 t => rw [List.reverse_cons, List.reverse_cons]; exact (ih t).append (.cons h1 .nil)
theorem RepF.look {vs : List (Str × V)} {ds : List (Str × Dt)} (r : RepF K G vs ds) {f : Str} {d : Dt} (h : ds.lookup f = some d) : ∃ v, vs.lookup f = some v ∧ Rep K G v d := by
  induction ds generalizing vs with
  | nil => simp at h
  | cons e ds ih =>
    cases r with
    | @cons g v vs d' ds h1 t =>
      rw [List.lookup_cons] at h ⊢
      cases q : (f == g) with
      | true => rw [q] at h; cases h; exact ⟨v, rfl, h1⟩
      | false => rw [q] at h; exact ih t h
theorem RepF.none {vs : List (Str × V)} {ds : List (Str × Dt)} (r : RepF K G vs ds) {f : Str} (h : ds.lookup f = Option.none) : vs.lookup f = Option.none := by
  induction ds generalizing vs with
  | nil => cases r; rfl
  | cons e ds ih =>
    cases r with
    | @cons g v vs d' ds h1 t =>
      rw [List.lookup_cons] at h ⊢
      cases q : (f == g) with
      | true => rw [q] at h; cases h
      | false => rw [q] at h; exact ih t h
theorem RepF.length {vs : List (Str × V)} {ds : List (Str × Dt)} (r : RepF K G vs ds) : vs.length = ds.length := by
  induction ds generalizing vs with
  | nil => cases r; rfl
  | cons d ds ih => cases r with | cons h t => simp [ih t]
end
def TabG (G : Hp) (ps : Array Value) (q : Str) : Prop := TriplesOk ps.toList ∧ ∀ (p : Pos) (u : Value), codeAmong p ps.toList = some u → ∃ z, u = .ref z ∧ G z = some (LamX.CodeO z q)
theorem TabG.mono {G G' : Hp} {ps : Array Value} {q : Str} (s : Same G G') (h : TabG G ps q) : TabG G' ps q := ⟨h.1, fun p u e => by
  obtain ⟨z, e1, e2⟩ := h.2 p u e
  exact ⟨z, e1, s _ _ e2⟩⟩
def MutT (o : Option HO) : Prop := Mut o ∨ ∃ ps, o = some (.tbl ps)
theorem MutT.no {o : HO} (h : ¬ Mut (some o)) (n : ∀ ps, o ≠ .tbl ps) : ¬ MutT (some o) := fun z => z.elim h fun ⟨ps, e⟩ => n ps (Option.some.inj e)
theorem MutT.of {o : Option HO} (h : Mut o) : MutT o := .inl h
inductive Sl where
  | fr (d : Dt)
  | ol (a : Addr) (ds : List Dt)
  | os (a : Addr) (φ : List Dt → Prop)
  | oK (a : Addr) (kvs : List (Key × Dt)) | oT (a : Addr) (kvs : List (List Key × Dt))
  | oo (a C : Addr) (fs : List (Str × Sl))
  | ex (a C : Addr) (d : Option Addr) (fs : List (Str × Dt))
  | tb (s : Sl) (p : Addr) (q : Str)
  | oN (a : Addr) (P : Program) (w : World) (kvs : List (NX.NK × V))
  | odK (a : Addr) (kvs : List (Key × Addr × List Dt)) | odT (a : Addr) (kvs : List (List Key × Addr × List Dt))
mutual
def Sl.fp : Sl → List Addr
  | .fr _ => []
  | .ol a _ => [a]
  | .os a _ => [a]
  | .oK a _ => [a]
  | .oT a _ => [a]
  | .oo a _ fs => a :: fpF fs
  | .ex _ _ _ _ => []
  | .tb s p _ => p :: s.fp
  | .oN a _ _ _ => [a]
  | .odK a kvs => a :: kvs.map (·.2.1)
  | .odT a kvs => a :: kvs.map (·.2.1)
def fpF : List (Str × Sl) → List Addr
  | [] => []
  | (_, s) :: r => s.fp ++ fpF r
end
mutual
inductive Own (K : PySem.W.Frag) (G H : Hp) : V → Sl → Prop
  | fr {v : V} {d : Dt} : Rep K G v d → Own K G H v (.fr d)
  | ol {a : Addr} {xs : List V} {ds : List Dt} : H a = some (.lst xs) → Reps K G xs ds → Own K G H (.ref a) (.ol a ds)
  | os {a : Addr} {xs : List V} {ds : List Dt} {φ : List Dt → Prop} : H a = some (.lst xs) → Reps K G xs ds → φ ds → Own K G H (.ref a) (.os a φ)
  | oK {a : Addr} {xs : List (Key × V)} {ds : List (Key × Dt)} : H a = some (.dK xs) → RepK K G xs ds → Own K G H (.ref a) (.oK a ds)
  | oT {a : Addr} {xs : List (List Key × V)} {ds : List (List Key × Dt)} : H a = some (.dT xs) → RepT K G xs ds → Own K G H (.ref a) (.oT a ds)
  | oo {a C dx : Addr} {fs : List (Str × V)} {fds : List (Str × Sl)} : H a = some (.ins C dx fs) → OwnF K G H fs fds → Own K G H (.ref a) (.oo a C fds)
  | ex {a C : Addr} {d : Option Addr} {fds : List (Str × Dt)} : RepX K G d fds → Own K G H (.ref a) (.ex a C d fds)
  | tb {v : V} {s : Sl} {p : Addr} {q : Str} {ps : Array Value} : H p = some (.tbl ps) → TabG G ps q → Own K G H v s → Own K G H v (.tb s p q)
  | oN {a : Addr} {P : Program} {w : World} {rs : List NX.GRow} {kds : List (NX.NK × V)} : H a = some (NX.NDo P w a rs) → NX.RowsN G rs kds → Own K G H (.ref a) (.oN a P w kds)
  | odK {a : Addr} {kvs : List (Key × Addr × List Dt)} : H a = some (.dK (kvs.map fun e => (e.1, V.ref e.2.1))) → (∀ e ∈ kvs, ∃ xs, H e.2.1 = some (.lst xs) ∧ Reps K G xs e.2.2) → Own K G H (.ref a) (.odK a kvs)
  | odT {a : Addr} {kvs : List (List Key × Addr × List Dt)} : H a = some (.dT (kvs.map fun e => (e.1, V.ref e.2.1))) → (∀ e ∈ kvs, ∃ xs, H e.2.1 = some (.lst xs) ∧ Reps K G xs e.2.2) → Own K G H (.ref a) (.odT a kvs)
inductive OwnF (K : PySem.W.Frag) (G H : Hp) : List (Str × V) → List (Str × Sl) → Prop
  | nil : OwnF K G H [] []
  | cons {f : Str} {v : V} {vs : List (Str × V)} {s : Sl} {ss : List (Str × Sl)} : Own K G H v s → OwnF K G H vs ss → OwnF K G H ((f, v) :: vs) ((f, s) :: ss)
end
section
variable {K : PySem.W.Frag} {G G' H H' : Hp}
mutual
theorem Own.mono (g : Same G G') : ∀ {v : V} {s : Sl}, (∀ a ∈ s.fp, ∀ o, H a = some o → H' a = some o) → Own K G H v s → Own K G' H' v s
  | _, _, _, .fr r => .fr (r.mono g)
  | _, _, k, .ol h r => .ol (k _ (by simp [Sl.fp]) _ h) (r.mono g)
  | _, _, k, .os h r p => .os (k _ (by simp [Sl.fp]) _ h) (r.mono g) p
  | _, _, k, .oK h r => .oK (k _ (by simp [Sl.fp]) _ h) (r.mono g)
  | _, _, k, .oT h r => .oT (k _ (by simp [Sl.fp]) _ h) (r.mono g)
  | _, _, k, .oo h r => .oo (k _ (by simp [Sl.fp]) _ h) (OwnF.mono g (fun a ha o e => k a (by simp [Sl.fp, ha]) o e) r)
  | _, _, k, .ex r => .ex (r.mono g)
  | _, _, k, .tb h c r => .tb (k _ (by simp [Sl.fp]) _ h) (c.mono g) (Own.mono g (fun a ha o e => k a (by simp [Sl.fp, ha]) o e) r)
  | _, _, k, .oN h r => .oN (k _ (by simp [Sl.fp]) _ h) (NX.RowsN.mono g r)
  | _, _, k, .odK h r => .odK (k _ (by simp [Sl.fp]) _ h) fun e he => by
    obtain ⟨xs, e1, e2⟩ := r e he
    exact ⟨xs, k _ (by simp only [Sl.fp, List.mem_cons]; exact .inr (List.mem_map.mpr ⟨e, he, rfl⟩)) _ e1, e2.mono g⟩
  | _, _, k, .odT h r => .odT (k _ (by simp [Sl.fp]) _ h) fun e he => by
    obtain ⟨xs, e1, e2⟩ := r e he
    exact ⟨xs, k _ (by simp only [Sl.fp, List.mem_cons]; exact .inr (List.mem_map.mpr ⟨e, he, rfl⟩)) _ e1, e2.mono g⟩
theorem OwnF.mono (g : Same G G') : ∀ {v : List (Str × V)} {s : List (Str × Sl)}, (∀ a ∈ fpF s, ∀ o, H a = some o → H' a = some o) → OwnF K G H v s → OwnF K G' H' v s
  | _, _, _, .nil => .nil
  | _, _, k, .cons h r => .cons (Own.mono g (fun a ha o e => k a (by simp [fpF, ha]) o e) h) (OwnF.mono g (fun a ha o e => k a (by simp [fpF, ha]) o e) r)
end
mutual
theorem Own.there : ∀ {v : V} {s : Sl}, Own K G H v s → ∀ a ∈ s.fp, H a ≠ none
  | _, _, .fr r => fun a ha => by simp [Sl.fp] at ha
  | _, _, .ol h r => fun a ha => by simp [Sl.fp] at ha; subst ha; rw [h]; simp
  | _, _, .os h r p => fun a ha => by simp [Sl.fp] at ha; subst ha; rw [h]; simp
  | _, _, .oK h r => fun a ha => by simp [Sl.fp] at ha; subst ha; rw [h]; simp
  | _, _, .oT h r => fun a ha => by simp [Sl.fp] at ha; subst ha; rw [h]; simp
  | _, _, .oo h r => fun a ha => by
    simp only [Sl.fp, List.mem_cons] at ha
    rcases ha with rfl | ha
    · rw [h]; simp
    · exact OwnF.there r a ha
  | _, _, .ex r => fun a ha => by simp [Sl.fp] at ha
  | _, _, .tb h c r => fun a ha => by
    simp only [Sl.fp, List.mem_cons] at ha
    rcases ha with rfl | ha
    · rw [h]; simp
    · exact Own.there r a ha
  | _, _, .oN h r => fun a ha => by simp [Sl.fp] at ha; subst ha; rw [h]; simp
  | _, _, .odK h r => fun a ha => by
    simp only [Sl.fp, List.mem_cons] at ha
    rcases ha with rfl | ha
    · rw [h]; simp
    · obtain ⟨e, he, rfl⟩ := List.mem_map.mp ha
      obtain ⟨xs, h, _⟩ := r e he
      rw [h]; simp
  | _, _, .odT h r => fun a ha => by
    simp only [Sl.fp, List.mem_cons] at ha
    rcases ha with rfl | ha
    · rw [h]; simp
    · obtain ⟨e, he, rfl⟩ := List.mem_map.mp ha
      obtain ⟨xs, h, _⟩ := r e he
      rw [h]; simp
theorem OwnF.there : ∀ {v : List (Str × V)} {s : List (Str × Sl)}, OwnF K G H v s → ∀ a ∈ fpF s, H a ≠ none
  | _, _, .nil => fun a ha => by simp [fpF] at ha
  | _, _, .cons h r => fun a ha => by
    simp only [fpF, List.mem_append] at ha
    rcases ha with ha | ha
    · exact Own.there h a ha
    · exact OwnF.there r a ha
end
mutual
theorem Own.muts : ∀ {v : V} {s : Sl}, Own K G H v s → ∀ a ∈ s.fp, ∃ o, H a = some o ∧ MutT (some o)
  | _, _, .fr r => fun a ha => by simp [Sl.fp] at ha
  | _, _, .ol h r => fun a ha => by simp [Sl.fp] at ha; subst ha; exact ⟨_, h, .inl trivial⟩
  | _, _, .os h r p => fun a ha => by simp [Sl.fp] at ha; subst ha; exact ⟨_, h, .inl trivial⟩
  | _, _, .oK h r => fun a ha => by simp [Sl.fp] at ha; subst ha; exact ⟨_, h, .inl trivial⟩
  | _, _, .oT h r => fun a ha => by simp [Sl.fp] at ha; subst ha; exact ⟨_, h, .inl trivial⟩
  | _, _, .oo h r => fun a ha => by
    simp only [Sl.fp, List.mem_cons] at ha
    rcases ha with rfl | ha
    · exact ⟨_, h, .inl trivial⟩
    · exact OwnF.muts r a ha
  | _, _, .ex r => fun a ha => by simp [Sl.fp] at ha
  | _, _, .tb h c r => fun a ha => by
    simp only [Sl.fp, List.mem_cons] at ha
    rcases ha with rfl | ha
    · exact ⟨_, h, .inr ⟨_, rfl⟩⟩
    · exact Own.muts r a ha
  | _, _, .oN h r => fun a ha => by simp [Sl.fp] at ha; subst ha; exact ⟨_, h, .inl trivial⟩
  | _, _, .odK h r => fun a ha => by
    simp only [Sl.fp, List.mem_cons] at ha
    rcases ha with rfl | ha
    · exact ⟨_, h, .inl trivial⟩
    · obtain ⟨e, he, rfl⟩ := List.mem_map.mp ha
      obtain ⟨xs, h, _⟩ := r e he
      exact ⟨_, h, .inl trivial⟩
  | _, _, .odT h r => fun a ha => by
    simp only [Sl.fp, List.mem_cons] at ha
    rcases ha with rfl | ha
    · exact ⟨_, h, .inl trivial⟩
    · obtain ⟨e, he, rfl⟩ := List.mem_map.mp ha
      obtain ⟨xs, h, _⟩ := r e he
      exact ⟨_, h, .inl trivial⟩
theorem OwnF.muts : ∀ {v : List (Str × V)} {s : List (Str × Sl)}, OwnF K G H v s → ∀ a ∈ fpF s, ∃ o, H a = some o ∧ MutT (some o)
  | _, _, .nil => fun a ha => by simp [fpF] at ha
  | _, _, .cons h r => fun a ha => by
    simp only [fpF, List.mem_append] at ha
    rcases ha with ha | ha
    · exact Own.muts h a ha
    · exact OwnF.muts r a ha
end
end
abbrev Gm := List (Option Sl)
def fpO : Option Sl → List Addr
  | none => []
  | some s => s.fp
def fps : Gm → List Addr
  | [] => []
  | s :: r => fpO s ++ fps r
inductive Slots (K : PySem.W.Frag) (G H : Hp) : St → Gm → Prop
  | nil : Slots K G H [] []
  | no {x : Option V} {σ : St} {Γ : Gm} : Slots K G H σ Γ → Slots K G H (x :: σ) (none :: Γ)
  | yes {v : V} {s : Sl} {σ : St} {Γ : Gm} : Own K G H v s → Slots K G H σ Γ → Slots K G H (some v :: σ) (some s :: Γ)
structure Sta (K : PySem.W.Frag) (O G H : Hp) (σ : St) (Γ : Gm) : Prop where
  g : Same G H
  o : Same O H
  d : ∀ a, O a ≠ none → G a = none
  sl : Slots K G H σ Γ
  nd : (fps Γ).Nodup
  ng : ∀ a ∈ fps Γ, G a = none
  no : ∀ a ∈ fps Γ, O a = none
  om : ∀ a o, O a = some o → MutT (some o)
section
variable {K : PySem.W.Frag} {O G G' H H' : Hp} {σ : St} {Γ : Gm}
theorem mem_fps : ∀ {Γ : Gm} {i : Nat} {s : Sl}, Γ[i]? = some (some s) → ∀ a ∈ s.fp, a ∈ fps Γ
  | [], i, s, h, a, ha => by simp at h
  | x :: r, 0, s, h, a, ha => by simp at h; subst h; simp [fps, fpO, ha]
  | x :: r, i + 1, s, h, a, ha => by simp only [fps, List.mem_append]; exact .inr (mem_fps (by simpa using h) a ha)
theorem Slots.mono (g : Same G G') : ∀ {σ : St} {Γ : Gm}, (∀ a ∈ fps Γ, ∀ o, H a = some o → H' a = some o) → Slots K G H σ Γ → Slots K G' H' σ Γ
  | _, _, _, .nil => .nil
  | _, _, k, .no r => .no (Slots.mono g (fun a ha => k a (by simp [fps, ha])) r)
  | _, _, k, .yes h r => .yes (h.mono g fun a ha => k a (by simp [fps, fpO, ha])) (Slots.mono g (fun a ha => k a (by simp [fps, ha])) r)
theorem Slots.get : ∀ {σ : St} {Γ : Gm} {i : Nat} {s : Sl}, Slots K G H σ Γ → Γ[i]? = some (some s) → ∃ v, σ[i]? = some (some v) ∧ Own K G H v s
  | _, _, i, s, .nil, h => by simp at h
  | _, _, 0, s, .no r, h => by simp at h
  | _, _, i + 1, s, .no r, h => by simpa using r.get (i := i) (by simpa using h)
  | _, _, 0, s, .yes q r, h => by simp at h; subst h; exact ⟨_, rfl, q⟩
  | _, _, i + 1, s, .yes q r, h => by simpa using r.get (i := i) (by simpa using h)
theorem Slots.len : ∀ {σ : St} {Γ : Gm}, Slots K G H σ Γ → σ.length = Γ.length
  | _, _, .nil => rfl
  | _, _, .no r => by simp [r.len]
  | _, _, .yes q r => by simp [r.len]
theorem Slots.set {v : V} {s : Sl} (h : Own K G H v s) : ∀ {σ : St} {Γ : Gm} (i : Nat), Slots K G H σ Γ → Slots K G H (σ.set i (some v)) (Γ.set i (some s))
  | _, _, _, .nil => .nil
  | _, _, 0, .no r => .yes h r
  | _, _, i + 1, .no r => .no (Slots.set h i r)
  | _, _, 0, .yes q r => .yes h r
  | _, _, i + 1, .yes q r => .yes q (Slots.set h i r)
theorem Slots.forget : ∀ {σ : St} {Γ : Gm} (i : Nat) (x : Option V), Slots K G H σ Γ → Slots K G H (σ.set i x) (Γ.set i none)
  | _, _, _, _, .nil => .nil
  | _, _, 0, _, .no r => .no r
  | _, _, i + 1, x, .no r => .no (Slots.forget i x r)
  | _, _, 0, _, .yes q r => .no r
  | _, _, i + 1, x, .yes q r => .yes q (Slots.forget i x r)
theorem fps_set_sub {s : Option Sl} : ∀ {Γ : Gm} (i : Nat), ∀ a ∈ fps (Γ.set i s), a ∈ fpO s ∨ a ∈ fps Γ
  | [], i, a, h => by simp [fps] at h
  | x :: r, 0, a, h => by
    simp only [List.set_cons_zero, fps, List.mem_append] at h ⊢
    rcases h with h | h
    · exact .inl h
    · exact .inr (.inr h)
  | x :: r, i + 1, a, h => by
    simp only [List.set_cons_succ, fps, List.mem_append] at h ⊢
    rcases h with h | h
    · exact .inr (.inl h)
    · rcases fps_set_sub i a h with q | q
      · exact .inl q
      · exact .inr (.inr q)
theorem fps_set_nd {s : Option Sl} : ∀ {Γ : Gm} (i : Nat), (fpO s ++ fps Γ).Nodup → (fps (Γ.set i s)).Nodup
  | [], i, h => by simp [fps]
  | x :: r, 0, h => by
    simp only [List.set_cons_zero, fps]
    rw [List.nodup_append] at h ⊢
    obtain ⟨h1, h2, h3⟩ := h
    simp only [fps] at h2 h3
    rw [List.nodup_append] at h2
    exact ⟨h1, h2.2.1, fun a ha b hb => h3 a ha b (List.mem_append_right _ hb)⟩
  | x :: r, i + 1, h => by
    simp only [List.set_cons_succ, fps]
    rw [List.nodup_append] at h
    obtain ⟨h1, h2, h3⟩ := h
    simp only [fps] at h2 h3
    rw [List.nodup_append] at h2
    obtain ⟨k1, k2, k3⟩ := h2
    have ih := fps_set_nd (s := s) (Γ := r) i (by rw [List.nodup_append]; exact ⟨h1, k2, fun a ha b hb => h3 a ha b (List.mem_append_right _ hb)⟩)
    rw [List.nodup_append]
    refine ⟨k1, ih, fun a ha b hb => ?_⟩
    rcases fps_set_sub i b hb with q | q
    · exact fun z => h3 b q a (List.mem_append_left _ ha) z.symm
    · exact k3 a ha b q
theorem Sta.put {v : V} {s : Sl} (S : Sta K O G H (some v :: σ) (some s :: Γ)) (i : Nat) : Sta K O G H (σ.set i (some v)) (Γ.set i (some s)) := by
  obtain ⟨g, o, d, sl, nd, ng, no, om⟩ := S
  cases sl with
  | yes q r =>
    simp only [fps] at nd ng no
    refine ⟨g, o, d, Slots.set q i r, fps_set_nd i nd, fun a ha => ?_, fun a ha => ?_, om⟩
    · rcases fps_set_sub i a ha with z | z
      · exact ng a (List.mem_append_left _ z)
      · exact ng a (List.mem_append_right _ z)
    · rcases fps_set_sub i a ha with z | z
      · exact no a (List.mem_append_left _ z)
      · exact no a (List.mem_append_right _ z)
theorem Sta.tail {x : Option V} {y : Option Sl} (S : Sta K O G H (x :: σ) (y :: Γ)) : Sta K O G H σ Γ := by
  obtain ⟨g, o, d, sl, nd, ng, no, om⟩ := S
  simp only [fps] at nd ng no
  have sl' : Slots K G H σ Γ := by cases sl <;> assumption
  exact ⟨g, o, d, sl', (List.nodup_append.mp nd).2.1, fun a ha => ng a (List.mem_append_right _ ha), fun a ha => no a (List.mem_append_right _ ha), om⟩
theorem Sta.head {v : V} {s : Sl} (S : Sta K O G H (some v :: σ) (some s :: Γ)) : Own K G H v s := by
  cases S.sl; assumption
theorem Sta.push {v : V} {s : Sl} (S : Sta K O G H σ Γ) (h : Own K G H v s) (n : s.fp.Nodup) (hg : ∀ a ∈ s.fp, G a = none) (ho : ∀ a ∈ s.fp, O a = none) (hf : ∀ a ∈ s.fp, a ∉ fps Γ) :
    Sta K O G H (some v :: σ) (some s :: Γ) := by
  refine ⟨S.g, S.o, S.d, .yes h S.sl, ?_, fun a ha => ?_, fun a ha => ?_, S.om⟩
  · simp only [fps, fpO]
    rw [List.nodup_append]
    exact ⟨n, S.nd, fun a ha b hb z => hf a ha (z ▸ hb)⟩
  · simp only [fps, fpO, List.mem_append] at ha
    rcases ha with z | z
    · exact hg a z
    · exact S.ng a z
  · simp only [fps, fpO, List.mem_append] at ha
    rcases ha with z | z
    · exact ho a z
    · exact S.no a z
theorem Sta.pushF {v : V} {d : Dt} (S : Sta K O G H σ Γ) (h : Rep K G v d) : Sta K O G H (some v :: σ) (some (.fr d) :: Γ) :=
  S.push (.fr h) (by simp [Sl.fp]) (by simp [Sl.fp]) (by simp [Sl.fp]) (by simp [Sl.fp])
theorem Sta.putF {v : V} {d : Dt} (S : Sta K O G H σ Γ) (h : Rep K G v d) (i : Nat) : Sta K O G H (σ.set i (some v)) (Γ.set i (some (.fr d))) := (S.pushF h).put i
theorem Sta.get {i : Nat} {s : Sl} (S : Sta K O G H σ Γ) (h : Γ[i]? = some (some s)) : ∃ v, σ[i]? = some (some v) ∧ Own K G H v s := S.sl.get h
theorem Sta.getF {i : Nat} {d : Dt} (S : Sta K O G H σ Γ) (h : Γ[i]? = some (some (.fr d))) : ∃ v, σ[i]? = some (some v) ∧ Rep K G v d := by
  obtain ⟨v, e, q⟩ := S.get h
  cases q with | fr r => exact ⟨v, e, r⟩
theorem Sta.there (S : Sta K O G H σ Γ) : ∀ a ∈ fps Γ, H a ≠ none := by
  have h : ∀ {σ : St} {Γ : Gm}, Slots K G H σ Γ → ∀ a ∈ fps Γ, H a ≠ none := by
    intro σ Γ s
    induction s with
    | nil => intro a ha; simp [fps] at ha
    | no r ih => intro a ha; simp only [fps, fpO, List.nil_append] at ha; exact ih a ha
    | yes q r ih =>
      intro a ha
      simp only [fps, fpO, List.mem_append] at ha
      rcases ha with z | z
      · exact q.there a z
      · exact ih a z
  exact h S.sl
theorem Sta.muts (S : Sta K O G H σ Γ) : ∀ a ∈ fps Γ, ∃ o, H a = some o ∧ MutT (some o) := by
  have h : ∀ {σ : St} {Γ : Gm}, Slots K G H σ Γ → ∀ a ∈ fps Γ, ∃ o, H a = some o ∧ MutT (some o) := by
    intro σ Γ s
    induction s with
    | nil => intro a ha; simp [fps] at ha
    | no r ih => intro a ha; simp only [fps, fpO, List.nil_append] at ha; exact ih a ha
    | yes q r ih =>
      intro a ha
      simp only [fps, fpO, List.mem_append] at ha
      rcases ha with z | z
      · exact q.muts a z
      · exact ih a z
  exact h S.sl
theorem Sta.forget (S : Sta K O G H σ Γ) (i : Nat) (x : Option V) : Sta K O G H (σ.set i x) (Γ.set i none) := by
  refine ⟨S.g, S.o, S.d, S.sl.forget i x, fps_set_nd i (by simpa [fpO] using S.nd), fun a ha => ?_, fun a ha => ?_, S.om⟩
  · rcases fps_set_sub i a ha with z | z
    · simp [fpO] at z
    · exact S.ng a z
  · rcases fps_set_sub i a ha with z | z
    · simp [fpO] at z
    · exact S.no a z
structure Ext (G H G' H' : Hp) : Prop where
  g : Same G G'
  h : Same H H'
  s : Same G' H'
  f : ∀ a, H a ≠ none → G a = none → G' a = none ∨ ¬ MutT (H a)
theorem Ext.refl (h : Same G H) : Ext G H G H := ⟨Same.refl _, Same.refl _, h, fun _ _ q => .inl q⟩
theorem Ext.f1 (e : Ext G H G' H') {a : Addr} {o : HO} (h : H a = some o) (m : MutT (some o)) (q : G a = none) : G' a = none := by
  rcases e.f a (by rw [h]; simp) q with z | z
  · exact z
  · rw [h] at z; exact absurd m z
theorem Ext.trans {G2 H2 : Hp} (a : Ext G H G' H') (b : Ext G' H' G2 H2) : Ext G H G2 H2 :=
  ⟨a.g.trans b.g, a.h.trans b.h, b.s, fun c h q => by
    rcases a.f c h q with z | z
    · rcases b.f c (fun z => h (a.h.free z)) z with y | y
      · exact .inl y
      · cases e : H c with
        | none => exact absurd e h
        | some o => rw [a.h c o e] at y; exact .inr y
    · exact .inr z⟩
theorem Sta.ext (S : Sta K O G H σ Γ) (e : Ext G H G' H') : Sta K O G' H' σ Γ := by
  refine ⟨e.s, S.o.trans e.h, fun a h => ?_, S.sl.mono e.g fun a _ o h => e.h a o h, S.nd, fun a ha => ?_, S.no, S.om⟩
  · cases q : O a with
    | none => exact absurd q h
    | some o => exact e.f1 (S.o a o q) (S.om a o q) (S.d a h)
  · obtain ⟨o, h, m⟩ := S.muts a ha
    exact e.f1 h m (S.ng a ha)
theorem Ext.new {p : Addr} {ob : HO} (h : Same G H) (n : H p = none) : Ext G H (upd G p ob) (upd H p ob) := by
  have ng : G p = none := h.free n
  refine ⟨fun b o q => ?_, fun b o q => ?_, fun b o q => ?_, fun a q z => ?_⟩
  · rw [upd_ne (ne_of_none q ng)]; exact q
  · rw [upd_ne (ne_of_none q n)]; exact q
  · by_cases hb : b = p
    · subst hb; rw [upd_same] at q ⊢; exact q
    · rw [upd_ne hb] at q ⊢; exact h b o q
  · by_cases hb : a = p
    · subst hb; exact absurd n q
    · rw [upd_ne hb]; exact .inl z
theorem Ext.raw {p : Addr} {ob : HO} (h : Same G H) (n : H p = none) : Ext G H G (upd H p ob) := by
  refine ⟨Same.refl _, fun b o q => ?_, fun b o q => ?_, fun a q z => .inl z⟩
  · rw [upd_ne (ne_of_none q n)]; exact q
  · have := h b o q
    rw [upd_ne (ne_of_none this n)]; exact this
end
end DL
namespace DL
open PySem PySem.Spec L2
abbrev XP := Addr → List (Str × Dt) → Gm → Prop
def XOk (K : PySem.W.Frag) (W : WX) (O G : Hp) (σ : St) (X : XP) : Prop :=
  ∀ (C : Addr) (d : Option Addr) (fs : List (Str × Dt)) (G2 H2 : Hp) (Γ2 : Gm), Same G G2 → Sta K O G2 H2 σ Γ2 → RepX K G2 d fs → X C fs Γ2 → W (.ref C) d σ H2
def Ev (K : PySem.W.Frag) (W : WX) (te : TE) (Γ : Gm) (P : Dt → Gm → Prop) (X : XP) : Prop :=
  ∀ (O G H : Hp) (σ : St) (Q : VK), Sta K O G H σ Γ →
    (∀ (v : V) (G2 H2 : Hp) (Γ2 : Gm) (d : Dt), Same G G2 → Sta K O G2 H2 σ Γ2 → Rep K G2 v d → P d Γ2 → Q v H2) → XOk K W O G σ X → te σ H Q
def EvO (K : PySem.W.Frag) (W : WX) (te : TE) (Γ : Gm) (P : Sl → Gm → Prop) (X : XP) : Prop :=
  ∀ (O G H : Hp) (σ : St) (Q : VK), Sta K O G H σ Γ →
    (∀ (v : V) (G2 H2 : Hp) (Γ2 : Gm) (s : Sl), Same G G2 → Sta K O G2 H2 (some v :: σ) (some s :: Γ2) → P s Γ2 → Q v H2) → XOk K W O G σ X → te σ H Q
def EvT (K : PySem.W.Frag) (W : WX) (tt : TT) (Γ : Gm) (P : Bool → Gm → Prop) (X : XP) : Prop :=
  ∀ (O G H : Hp) (σ : St) (Q : Bool → Hp → Prop), Sta K O G H σ Γ →
    (∀ (b : Bool) (G2 H2 : Hp) (Γ2 : Gm), Same G G2 → Sta K O G2 H2 σ Γ2 → P b Γ2 → Q b H2) → XOk K W O G σ X → tt σ H Q
def EvA (K : PySem.W.Frag) (W : WX) (ta : TA) (Γ : Gm) (P : List Dt → Gm → Prop) (X : XP) : Prop :=
  ∀ (O G H : Hp) (σ : St) (Q : List V → Hp → Prop), Sta K O G H σ Γ →
    (∀ (vs : List V) (G2 H2 : Hp) (Γ2 : Gm) (ds : List Dt), Same G G2 → Sta K O G2 H2 σ Γ2 → Reps K G2 vs ds → P ds Γ2 → Q vs H2) → XOk K W O G σ X → ta σ H Q
def EvB (K : PySem.W.Frag) (W : WX) (i : Nat) (ta : TA) (Γ : Gm) (P : List Dt → List Dt → Gm → Prop) (X : XP) : Prop :=
  ∀ (O G H : Hp) (σ : St) (Q : List V → Hp → Prop), Sta K O G H σ Γ →
    (∀ (vs us : List V) (v : V) (G2 H2 : Hp) (Γ2 : Gm) (ds es : List Dt), Same G G2 → Sta K O G2 H2 σ Γ2 → Reps K G2 vs ds → σ[i]? = some (some v) → Reps K G2 us es → P ds es Γ2 → Q (vs ++ v :: us) H2) → XOk K W O G σ X → ta σ H Q
structure Po where
  nx : Gm → Prop
  rt : Sl → Gm → Prop
  xc : XP
  bk : Gm → Prop := fun _ => False
  ct : Gm → Prop := fun _ => False
def Go (K : PySem.W.Frag) (W : WX) (t : TS) (Γ : Gm) (P : Po) : Prop :=
  ∀ (O G H : Hp) (σ : St) (D : Ends), Sta K O G H σ Γ →
    (∀ (G2 H2 : Hp) (σ2 : St) (Γ2 : Gm), Same G G2 → Sta K O G2 H2 σ2 Γ2 → P.nx Γ2 → D.nx σ2 H2) →
    (∀ (v : V) (G2 H2 : Hp) (σ2 : St) (Γ2 : Gm) (s : Sl), Same G G2 → Sta K O G2 H2 (some v :: σ2) (some s :: Γ2) → P.rt s Γ2 → D.rt v H2) →
    (∀ (G2 H2 : Hp) (σ2 : St) (Γ2 : Gm), Same G G2 → Sta K O G2 H2 σ2 Γ2 → P.bk Γ2 → D.bk σ2 H2) →
    (∀ (G2 H2 : Hp) (σ2 : St) (Γ2 : Gm), Same G G2 → Sta K O G2 H2 σ2 Γ2 → P.ct Γ2 → D.ct σ2 H2) →
    (∀ σ2, XOk K W O G σ2 P.xc) → t D σ H
def GoG (K : PySem.W.Frag) (W : WX) (g : TG) (d : Dt) (Γ : Gm) (P : Gm → Prop) (X : XP) : Prop :=
  ∀ (O G H : Hp) (σ : St) (v : V) (Q : St → Hp → Prop), Sta K O G H σ Γ → Rep K G v d →
    (∀ (G2 H2 : Hp) (σ2 : St) (Γ2 : Gm), Same G G2 → Sta K O G2 H2 σ2 Γ2 → P Γ2 → Q σ2 H2) → (∀ σ2, XOk K W O G σ2 X) → g v σ H Q
section
variable {K : PySem.W.Frag} {W : WX} {Γ : Gm} {X : XP} {P : Dt → Gm → Prop} {te ta tb : TE} {i : Nat}
theorem XOk.mono {O G G2 : Hp} {σ : St} (s : Same G G2) (x : XOk K W O G σ X) : XOk K W O G2 σ X := fun C d fs G3 H3 Γ3 s3 => x C d fs G3 H3 Γ3 (s.trans s3)
theorem Ev.imp {P' : Dt → Gm → Prop} (h : Ev K W te Γ P X) (k : ∀ d Γ2, P d Γ2 → P' d Γ2) : Ev K W te Γ P' X := fun O G H σ Q S q x => h O G H σ Q S (fun v G2 H2 Γ2 d s S2 r p => q v G2 H2 Γ2 d s S2 r (k d Γ2 p)) x
theorem EvT.imp {t : TT} {P P' : Bool → Gm → Prop} (h : EvT K W t Γ P X) (k : ∀ d Γ2, P d Γ2 → P' d Γ2) : EvT K W t Γ P' X := fun O G H σ Q S q x => h O G H σ Q S (fun v G2 H2 Γ2 s S2 p => q v G2 H2 Γ2 s S2 (k v Γ2 p)) x
theorem EvO.imp {P P' : Sl → Gm → Prop} (h : EvO K W te Γ P X) (k : ∀ d Γ2, P d Γ2 → P' d Γ2) : EvO K W te Γ P' X := fun O G H σ Q S q x => h O G H σ Q S (fun v G2 H2 Γ2 d s S2 p => q v G2 H2 Γ2 d s S2 (k d Γ2 p)) x
theorem Go.imp {t : TS} {P P' : Po} (h : Go K W t Γ P) (k1 : ∀ Γ2, P.nx Γ2 → P'.nx Γ2) (k2 : ∀ s Γ2, P.rt s Γ2 → P'.rt s Γ2) (k3 : ∀ C fs Γ2, P.xc C fs Γ2 → P'.xc C fs Γ2) (k4 : ∀ Γ2, P.bk Γ2 → P'.bk Γ2) (k5 : ∀ Γ2, P.ct Γ2 → P'.ct Γ2) : Go K W t Γ P' :=
  fun O G H σ D S a b c d e => h O G H σ D S (fun G2 H2 σ2 Γ2 s S2 p => a G2 H2 σ2 Γ2 s S2 (k1 _ p)) (fun v G2 H2 σ2 Γ2 z s S2 p => b v G2 H2 σ2 Γ2 z s S2 (k2 _ _ p)) (fun G2 H2 σ2 Γ2 s S2 p => c G2 H2 σ2 Γ2 s S2 (k4 _ p)) (fun G2 H2 σ2 Γ2 s S2 p => d G2 H2 σ2 Γ2 s S2 (k5 _ p))
    (fun σ2 C dd fs G2 H2 Γ2 s S2 r p => e σ2 C dd fs G2 H2 Γ2 s S2 r (k3 _ _ _ p))
theorem ev_var {d : Dt} (h : Γ[i]? = some (some (.fr d))) (p : P d Γ) : Ev K W (tVar i) Γ P X := fun O G H σ Q S q _ => by
  obtain ⟨v, e, r⟩ := S.getF h
  exact ⟨v, e, q v G H Γ d (Same.refl _) S r p⟩
def cD : V → Dt
  | .non => .non
  | .bl b => .bl b
  | .int i => .int i
  | .str x => .str x
  | .ty n => .ty n
  | .ref a => .ref a
  | .byt _ => .non
  | .flt _ => .non
def cOk : V → Bool
  | .byt _ => false
  | .flt _ => false
  | _ => true
theorem rep_c {G : Hp} : ∀ {v : V}, cOk v = true → Rep K G v (cD v)
  | .non, _ => .non
  | .bl b, _ => .bl b
  | .int i, _ => .int i
  | .str x, _ => .str x
  | .ty n, _ => .ty n
  | .ref a, _ => .ref a
theorem ev_c {v : V} (p : P (cD v) Γ) (h : cOk v = true := by rfl) : Ev K W (tC v) Γ P X := fun O G H σ Q S q _ => q v G H Γ _ (Same.refl _) S (rep_c h) p
inductive Frz : Sl → Dt → Prop
  | fr (d : Dt) : Frz (.fr d) d
  | ol (a : Addr) (ds : List Dt) : Frz (.ol a ds) (.lst ds)
  | oN (a : Addr) (P : Program) (w : World) (kvs : List (NX.NK × V)) : Frz (.oN a P w kvs) (.dN P w kvs)
theorem same_frz {G H : Hp} {a : Addr} {o : HO} (g : Same G H) (h : H a = some o) (n : G a = none) : Same G (upd G a o) ∧ Same (upd G a o) H := by
  refine ⟨fun b u q => ?_, fun b u q => ?_⟩
  · rw [upd_ne (ne_of_none q n)]; exact q
  · by_cases hb : b = a
    · subst hb; rw [upd_same] at q; cases q; exact h
    · rw [upd_ne hb] at q; exact g b u q
theorem Sta.freeze1 {O G H : Hp} {σ : St} {v : V} {s : Sl} {d : Dt} (S : Sta K O G H (some v :: σ) (some s :: Γ)) (f : Frz s d) :
    ∃ G2, Same G G2 ∧ Sta K O G2 H σ Γ ∧ Rep K G2 v d := by
  have main : ∀ {a : Addr} {o : HO}, s.fp = [a] → H a = some o → ∃ G2, G2 = upd G a o ∧ Same G G2 ∧ Sta K O G2 H σ Γ := fun {a o} hf ha => by
    have na : G a = none := S.ng a (by simp [fps, fpO, hf])
    have oa : O a = none := S.no a (by simp [fps, fpO, hf])
    obtain ⟨s1, s2⟩ := same_frz S.g ha na
    have T := S.tail
    have nd := S.nd
    simp only [fps, fpO, hf] at nd
    have nf : a ∉ fps Γ := fun z => by
      have := (List.nodup_append.mp nd).2.2 a (by simp) a z
      exact this rfl
    refine ⟨_, rfl, s1, s2, T.o, fun b hb => ?_, T.sl.mono s1 fun _ _ _ q => q, T.nd, fun b hb => ?_, T.no, T.om⟩
    · by_cases e : b = a
      · subst e; exact absurd oa hb
      · rw [upd_ne e]; exact T.d b hb
    · by_cases e : b = a
      · subst e; exact absurd hb nf
      · rw [upd_ne e]; exact T.ng b hb
  cases f with
  | fr =>
    have h := S.head
    cases h with | fr r => exact ⟨G, Same.refl _, S.tail, r⟩
  | ol a ds =>
    have h := S.head
    cases h with
    | ol ha r =>
      obtain ⟨G2, e, s1, T⟩ := main rfl ha
      exact ⟨G2, s1, T, .lst (by rw [e]; exact upd_same) (r.mono s1)⟩
  | oN a P w kvs =>
    have h := S.head
    cases h with
    | oN ha r =>
      obtain ⟨G2, e, s1, T⟩ := main rfl ha
      exact ⟨G2, s1, T, .dN (by rw [e]; exact upd_same) (NX.RowsN.mono s1 r)⟩
theorem ev_frz (h : EvO K W te Γ (fun s Γ2 => ∃ d, Frz s d ∧ P d Γ2) X) : Ev K W te Γ P X := fun O G H σ Q S q x =>
  h O G H σ Q S (fun v G2 H2 Γ2 s s1 S2 ⟨d, f, p⟩ => by
    obtain ⟨G3, s2, S3, r⟩ := S2.freeze1 f
    exact q v G3 H2 Γ2 d (s1.trans s2) S3 r p) x
theorem evo_of {P : Sl → Gm → Prop} (h : Ev K W te Γ (fun d Γ2 => P (.fr d) Γ2) X) : EvO K W te Γ P X := fun O G H σ Q S q x =>
  h O G H σ Q S (fun v G2 H2 Γ2 d s1 S2 r p => q v G2 H2 Γ2 (.fr d) s1 (S2.pushF r) p) x
theorem evo_move {P : Sl → Gm → Prop} {s : Sl} (h : Γ[i]? = some (some s)) (p : P s (Γ.set i none)) : EvO K W (tVar i) Γ P X := fun O G H σ Q S q _ => by
  obtain ⟨v, e, r⟩ := S.get h
  refine ⟨v, e, q v G H (Γ.set i none) s (Same.refl _) ?_ p⟩
  have il : i < Γ.length := by
    rcases Nat.lt_or_ge i Γ.length with z | z
    · exact z
    · rw [List.getElem?_eq_none z] at h; cases h
  have S2 := S.forget i (some v)
  have es : σ.set i (some v) = σ := by
    apply List.ext_getElem?
    intro j
    rw [List.getElem?_set]
    by_cases hj : i = j
    · subst hj
      rw [if_pos rfl, e]
      have : i < σ.length := by rw [S.sl.len]; exact il
      rw [if_pos this]
    · rw [if_neg hj]
  rw [es] at S2
  have sub : ∀ {Γ : Gm} {i : Nat}, Γ[i]? = some (some s) → (fps Γ).Nodup → s.fp.Nodup ∧ ∀ a ∈ s.fp, a ∉ fps (Γ.set i none) := by
    intro Γ
    induction Γ with
    | nil => intro i h; simp at h
    | cons y r ih =>
      intro i h nd
      simp only [fps] at nd
      obtain ⟨n1, n2, n3⟩ := List.nodup_append.mp nd
      cases i with
      | zero =>
        simp at h; subst h
        refine ⟨n1, fun a ha z => ?_⟩
        simp only [List.set_cons_zero, fps, fpO, List.nil_append] at z
        exact n3 a ha a z rfl
      | succ i =>
        obtain ⟨m1, m2⟩ := ih (by simpa using h) n2
        refine ⟨m1, fun a ha z => ?_⟩
        simp only [List.set_cons_succ, fps, List.mem_append] at z
        rcases z with z | z
        · exact n3 a z a (mem_fps (by simpa using h) a ha) rfl
        · exact m2 a ha z
  obtain ⟨m1, m2⟩ := sub h S.nd
  exact S2.push r m1 (fun a ha => S.ng a (mem_fps h a ha)) (fun a ha => S.no a (mem_fps h a ha)) m2
def RD (K : PySem.W.Frag) (r : R2) (ρ : Dt → Dt → (Dt → Prop) → Prop) : Prop :=
  ∀ (G H : Hp) (x y : V) (dx dy : Dt) (R : Dt → Prop) (Q : VK), Same G H → Rep K G x dx → Rep K G y dy → ρ dx dy R →
    (∀ (v : V) (G2 H2 : Hp) (d : Dt), Ext G H G2 H2 → Rep K G2 v d → R d → Q v H2) → r x y H Q
def RD1 (K : PySem.W.Frag) (r : V → Hp → VK → Prop) (ρ : Dt → (Dt → Prop) → Prop) : Prop :=
  ∀ (G H : Hp) (x : V) (dx : Dt) (R : Dt → Prop) (Q : VK), Same G H → Rep K G x dx → ρ dx R →
    (∀ (v : V) (G2 H2 : Hp) (d : Dt), Ext G H G2 H2 → Rep K G2 v d → R d → Q v H2) → r x H Q
def RDC (K : PySem.W.Frag) (r : List V → Hp → VK → Prop) (ρ : List Dt → (Dt → Prop) → Prop) : Prop :=
  ∀ (G H : Hp) (xs : List V) (ds : List Dt) (R : Dt → Prop) (Q : VK), Same G H → Reps K G xs ds → ρ ds R →
    (∀ (v : V) (G2 H2 : Hp) (d : Dt), Ext G H G2 H2 → Rep K G2 v d → R d → Q v H2) → r xs H Q
theorem ev_op {r : R2} {ρ : Dt → Dt → (Dt → Prop) → Prop} (hr : RD K r ρ) (h : Ev K W ta Γ (fun x Γ1 => Ev K W tb Γ1 (fun y Γ2 => ρ x y fun z => P z Γ2) X) X) : Ev K W (tOp r ta tb) Γ P X := fun O G H σ Q S q x =>
  h O G H σ _ S (fun v1 G1 H1 Γ1 d1 s1 S1 r1 h1 => h1 O G1 H1 σ _ S1 (fun v2 G2 H2 Γ2 d2 s2 S2 r2 h2 =>
    hr G2 H2 v1 v2 d1 d2 _ Q S2.g (r1.mono s2) r2 h2 fun v G3 H3 d e r3 p => q v G3 H3 Γ2 d (s1.trans (s2.trans e.g)) (S2.ext e) r3 p) (x.mono s1)) x
theorem ev_un {r : V → Hp → VK → Prop} {ρ : Dt → (Dt → Prop) → Prop} (hr : RD1 K r ρ) (h : Ev K W ta Γ (fun x Γ1 => ρ x fun z => P z Γ1) X) : Ev K W (tUn r ta) Γ P X := fun O G H σ Q S q x =>
  h O G H σ _ S (fun v1 G1 H1 Γ1 d1 s1 S1 r1 h1 => hr G1 H1 v1 d1 _ Q S1.g r1 h1 fun v G3 H3 d e r3 p => q v G3 H3 Γ1 d (s1.trans e.g) (S1.ext e) r3 p) x
theorem ev_cb {r : List V → Hp → VK → Prop} {ρ : List Dt → (Dt → Prop) → Prop} {t : TA} (hr : RDC K r ρ) (h : EvA K W t Γ (fun ds Γ1 => ρ ds fun z => P z Γ1) X) : Ev K W (tCB r t) Γ P X := fun O G H σ Q S q x =>
  h O G H σ _ S (fun vs G1 H1 Γ1 ds s1 S1 r1 h1 => hr G1 H1 vs ds _ Q S1.g r1 h1 fun v G3 H3 d e r3 p => q v G3 H3 Γ1 d (s1.trans e.g) (S1.ext e) r3 p) x
variable {t tr : TA}
theorem ea_nil {P : List Dt → Gm → Prop} (p : P [] Γ) : EvA K W tNil Γ P X := fun O G H σ Q S q _ => q [] G H Γ [] (Same.refl _) S .nil p
theorem ea_cons {P : List Dt → Gm → Prop} (h : Ev K W te Γ (fun d Γ1 => EvA K W tr Γ1 (fun ds Γ2 => P (d :: ds) Γ2) X) X) : EvA K W (tCons te tr) Γ P X := fun O G H σ Q S q x =>
  h O G H σ _ S (fun v1 G1 H1 Γ1 d1 s1 S1 r1 h1 => h1 O G1 H1 σ _ S1 (fun vs G2 H2 Γ2 ds s2 S2 r2 p => q (v1 :: vs) G2 H2 Γ2 (d1 :: ds) (s1.trans s2) S2 (.cons (r1.mono s2) r2) p) (x.mono s1)) x
theorem eb_cons {P : List Dt → List Dt → Gm → Prop} (h : Ev K W te Γ (fun d Γ1 => EvB K W i tr Γ1 (fun ds es Γ2 => P (d :: ds) es Γ2) X) X) : EvB K W i (tCons te tr) Γ P X := fun O G H σ Q S q x =>
  h O G H σ _ S (fun v1 G1 H1 Γ1 d1 s1 S1 r1 h1 => h1 O G1 H1 σ _ S1 (fun vs us v G2 H2 Γ2 ds es s2 S2 r2 hv r3 p => q (v1 :: vs) us v G2 H2 Γ2 (d1 :: ds) es (s1.trans s2) S2 (.cons (r1.mono s2) r2) hv r3 p) (x.mono s1)) x
theorem eb_here {P : List Dt → List Dt → Gm → Prop} {s : Sl} (hi : Γ[i]? = some (some s)) (h : EvA K W tr Γ (fun es Γ2 => P [] es Γ2) X) : EvB K W i (tCons (tVar i) tr) Γ P X := fun O G H σ Q S q x => by
  obtain ⟨v, e, _⟩ := S.get hi
  exact ⟨v, e, h O G H σ _ S (fun us G2 H2 Γ2 es s2 S2 r2 p => q [] us v G2 H2 Γ2 [] es s2 S2 .nil e r2 p) x⟩
variable {tt tu : TT} {PB : Bool → Gm → Prop}
theorem et_test (h : Ev K W te Γ (fun d Γ1 => ∃ b, d = .bl b ∧ PB b Γ1) X) : EvT K W (tTest te) Γ PB X := fun O G H σ Q S q x =>
  h O G H σ _ S (fun v G1 H1 Γ1 d s1 S1 r ⟨b, e, p⟩ => by subst e; cases r; exact ⟨b, rfl, q b G1 H1 Γ1 s1 S1 p⟩) x
theorem et_B (h : Ev K W te Γ (fun d Γ1 => ∃ b, d = .bl b ∧ PB b Γ1) X) : EvT K W (tB te) Γ PB X := fun O G H σ Q S q x =>
  h O G H σ _ S (fun v G1 H1 Γ1 d s1 S1 r ⟨b, e, p⟩ => by subst e; cases r; exact ⟨b, rfl, q b G1 H1 Γ1 s1 S1 p⟩) x
theorem et_and (h : EvT K W tt Γ (fun b Γ1 => (b = true → EvT K W tu Γ1 PB X) ∧ (b = false → PB false Γ1)) X) : EvT K W (tAnd tt tu) Γ PB X := fun O G H σ Q S q x =>
  h O G H σ _ S (fun b G1 H1 Γ1 s1 S1 ⟨p1, p2⟩ => by
    cases b with
    | true => exact iteT (p1 rfl O G1 H1 σ Q S1 (fun b G2 H2 Γ2 s2 S2 p => q b G2 H2 Γ2 (s1.trans s2) S2 p) (x.mono s1))
    | false => exact iteF (q false G1 H1 Γ1 s1 S1 (p2 rfl))) x
theorem et_or (h : EvT K W tt Γ (fun b Γ1 => (b = false → EvT K W tu Γ1 PB X) ∧ (b = true → PB true Γ1)) X) : EvT K W (tOr tt tu) Γ PB X := fun O G H σ Q S q x =>
  h O G H σ _ S (fun b G1 H1 Γ1 s1 S1 ⟨p1, p2⟩ => by
    cases b with
    | false => exact iteF (p1 rfl O G1 H1 σ Q S1 (fun b G2 H2 Γ2 s2 S2 p => q b G2 H2 Γ2 (s1.trans s2) S2 p) (x.mono s1))
    | true => exact iteT (q true G1 H1 Γ1 s1 S1 (p2 rfl))) x
theorem et_not (h : EvT K W tt Γ (fun b Γ1 => PB (!b) Γ1) X) : EvT K W (tNot tt) Γ PB X := fun O G H σ Q S q x =>
  h O G H σ _ S (fun b G1 H1 Γ1 s1 S1 p => q (!b) G1 H1 Γ1 s1 S1 p) x
theorem ev_andV (h : Ev K W ta Γ (fun d Γ1 => ∃ b, d = .bl b ∧ (b = true → Ev K W tb Γ1 P X) ∧ (b = false → P (.bl false) Γ1)) X) : Ev K W (tAndV ta tb) Γ P X := fun O G H σ Q S q x =>
  h O G H σ _ S (fun v G1 H1 Γ1 d s1 S1 r ⟨b, e, p1, p2⟩ => by
    subst e; cases r
    refine ⟨b, rfl, ?_⟩
    cases b with
    | true => exact iteT (p1 rfl O G1 H1 σ Q S1 (fun b G2 H2 Γ2 d s2 S2 r p => q b G2 H2 Γ2 d (s1.trans s2) S2 r p) (x.mono s1))
    | false => exact iteF (q (.bl false) G1 H1 Γ1 _ s1 S1 (.bl false) (p2 rfl))) x
theorem ev_orV (h : Ev K W ta Γ (fun d Γ1 => ∃ b, d = .bl b ∧ (b = false → Ev K W tb Γ1 P X) ∧ (b = true → P (.bl true) Γ1)) X) : Ev K W (tOrV ta tb) Γ P X := fun O G H σ Q S q x =>
  h O G H σ _ S (fun v G1 H1 Γ1 d s1 S1 r ⟨b, e, p1, p2⟩ => by
    subst e; cases r
    refine ⟨b, rfl, ?_⟩
    cases b with
    | false => exact iteF (p1 rfl O G1 H1 σ Q S1 (fun b G2 H2 Γ2 d s2 S2 r p => q b G2 H2 Γ2 d (s1.trans s2) S2 r p) (x.mono s1))
    | true => exact iteT (q (.bl true) G1 H1 Γ1 _ s1 S1 (.bl true) (p2 rfl))) x
theorem ev_notV (h : Ev K W ta Γ (fun d Γ1 => ∃ b, d = .bl b ∧ P (.bl (!b)) Γ1) X) : Ev K W (tNotV ta) Γ P X := fun O G H σ Q S q x =>
  h O G H σ _ S (fun v G1 H1 Γ1 d s1 S1 r ⟨b, e, p⟩ => by
    subst e; cases r
    exact ⟨b, rfl, q (.bl (!b)) G1 H1 Γ1 _ s1 S1 (.bl _) p⟩) x
theorem ev_if (h : EvT K W tt Γ (fun b Γ1 => (b = true → Ev K W ta Γ1 P X) ∧ (b = false → Ev K W tb Γ1 P X)) X) : Ev K W (tIf tt ta tb) Γ P X := fun O G H σ Q S q x =>
  h O G H σ _ S (fun b G1 H1 Γ1 s1 S1 ⟨p1, p2⟩ => by
    cases b with
    | true => exact iteT (p1 rfl O G1 H1 σ Q S1 (fun b G2 H2 Γ2 d s2 S2 r p => q b G2 H2 Γ2 d (s1.trans s2) S2 r p) (x.mono s1))
    | false => exact iteF (p2 rfl O G1 H1 σ Q S1 (fun b G2 H2 Γ2 d s2 S2 r p => q b G2 H2 Γ2 d (s1.trans s2) S2 r p) (x.mono s1))) x
theorem Rep.newT {G H : Hp} {p : Addr} {vs : List V} {ds : List Dt} (g : Same G H) (n : H p = none) (r : Reps K G vs ds) : Rep K (upd G p (.tup vs)) (.ref p) (.tup ds) := .tup upd_same (r.mono (Ext.new g n).g)
theorem Rep.newL {G H : Hp} {p : Addr} {vs : List V} {ds : List Dt} (g : Same G H) (n : H p = none) (r : Reps K G vs ds) : Rep K (upd G p (.lst vs)) (.ref p) (.lst ds) := .lst upd_same (r.mono (Ext.new g n).g)
theorem ev_tup (h : EvA K W t Γ (fun ds Γ1 => ds.length ≤ 1000000 ∧ P (.tup ds) Γ1) X) : Ev K W (tTup t) Γ P X := fun O G H σ Q S q x =>
  h O G H σ _ S (fun vs G1 H1 Γ1 ds s1 S1 r ⟨l, p⟩ => ⟨by rw [r.length]; exact Nat.le_trans l (by decide), fun a na => q (.ref a) _ _ Γ1 (.tup ds) (s1.trans (Ext.new S1.g na).g) (S1.ext (Ext.new S1.g na)) (Rep.newT S1.g na r) p⟩) x
theorem ev_lst (h : EvA K W t Γ (fun ds Γ1 => ds.length ≤ 1000000 ∧ P (.lst ds) Γ1) X) : Ev K W (tLst t) Γ P X := fun O G H σ Q S q x =>
  h O G H σ _ S (fun vs G1 H1 Γ1 ds s1 S1 r ⟨l, p⟩ => ⟨by rw [r.length]; exact Nat.le_trans l (by decide), fun a na => q (.ref a) _ _ Γ1 (.lst ds) (s1.trans (Ext.new S1.g na).g) (S1.ext (Ext.new S1.g na)) (Rep.newL S1.g na r) p⟩) x
theorem Sta.own1 {O G H : Hp} {σ : St} {p : Addr} {ob : HO} {s : Sl} (S : Sta K O G H σ Γ) (n : H p = none) (hf : s.fp = [p]) (h : Own K G (upd H p ob) (.ref p) s) : Sta K O G (upd H p ob) (some (.ref p) :: σ) (some s :: Γ) := by
  have S2 := S.ext (Ext.raw (ob := ob) S.g n)
  refine S2.push h (by rw [hf]; simp) (fun a ha => ?_) (fun a ha => ?_) (fun a ha z => ?_)
  · rw [hf] at ha; simp at ha; subst ha; exact S.g.free n
  · rw [hf] at ha; simp at ha; subst ha; exact S.o.free n
  · rw [hf] at ha; simp at ha; subst ha; exact S.there _ z n
theorem evo_lst {P : Sl → Gm → Prop} (h : EvA K W t Γ (fun ds Γ1 => ds.length ≤ 1000000 ∧ ∀ a, P (.ol a ds) Γ1) X) : EvO K W (tLst t) Γ P X := fun O G H σ Q S q x =>
  h O G H σ _ S (fun vs G1 H1 Γ1 ds s1 S1 r ⟨l, p⟩ => ⟨by rw [r.length]; exact Nat.le_trans l (by decide), fun a na => q (.ref a) G1 _ Γ1 (.ol a ds) s1 (S1.own1 na rfl (.ol upd_same r)) (p a)⟩) x
variable {PP : Po} {t1 t2 : TS} {g : TG}
theorem go_seq (h : Go K W t1 Γ { PP with nx := fun Γ1 => Go K W t2 Γ1 PP }) : Go K W (tSeq t1 t2) Γ PP := fun O G H σ D S a b c d e =>
  h O G H σ _ S (fun G2 H2 σ2 Γ2 s S2 p => p O G2 H2 σ2 D S2 (fun G3 H3 σ3 Γ3 s3 S3 p3 => a G3 H3 σ3 Γ3 (s.trans s3) S3 p3) (fun v G3 H3 σ3 Γ3 z s3 S3 p3 => b v G3 H3 σ3 Γ3 z (s.trans s3) S3 p3) (fun G3 H3 σ3 Γ3 s3 S3 p3 => c G3 H3 σ3 Γ3 (s.trans s3) S3 p3)
    (fun G3 H3 σ3 Γ3 s3 S3 p3 => d G3 H3 σ3 Γ3 (s.trans s3) S3 p3) fun σ3 => (e σ3).mono s) b c d e
theorem go_next (h : PP.nx Γ) : Go K W tNext Γ PP := fun O G H σ D S a b c d e => a G H σ Γ (Same.refl _) S h
theorem go_break (h : PP.bk Γ) : Go K W tBreak Γ PP := fun O G H σ D S a b c d e => c G H σ Γ (Same.refl _) S h
theorem go_cont (h : PP.ct Γ) : Go K W tCont Γ PP := fun O G H σ D S a b c d e => d G H σ Γ (Same.refl _) S h
theorem go_if (h : EvT K W tt Γ (fun b Γ1 => (b = true → Go K W t1 Γ1 PP) ∧ (b = false → Go K W t2 Γ1 PP)) PP.xc) : Go K W (tIfS tt t1 t2) Γ PP := fun O G H σ D S a b c d e =>
  h O G H σ _ S (fun bb G2 H2 Γ2 s S2 ⟨p1, p2⟩ => by
    have go : ∀ {t : TS}, Go K W t Γ2 PP → t D σ H2 := fun p => p O G2 H2 σ D S2 (fun G3 H3 σ3 Γ3 s3 S3 p3 => a G3 H3 σ3 Γ3 (s.trans s3) S3 p3) (fun v G3 H3 σ3 Γ3 z s3 S3 p3 => b v G3 H3 σ3 Γ3 z (s.trans s3) S3 p3) (fun G3 H3 σ3 Γ3 s3 S3 p3 => c G3 H3 σ3 Γ3 (s.trans s3) S3 p3)
      (fun G3 H3 σ3 Γ3 s3 S3 p3 => d G3 H3 σ3 Γ3 (s.trans s3) S3 p3) fun σ3 => (e σ3).mono s
    cases bb with
    | true => exact iteT (go (p1 rfl))
    | false => exact iteF (go (p2 rfl))) (e σ)
theorem go_set (h : EvO K W te Γ (fun s Γ1 => PP.nx (Γ1.set i (some s))) PP.xc) : Go K W (tAsg te (gName i)) Γ PP := fun O G H σ D S a b c d e =>
  h O G H σ _ S (fun v G2 H2 Γ2 s s1 S2 p => a G2 H2 _ _ s1 (S2.put i) p) (e σ)
theorem go_setF (h : Ev K W te Γ (fun d Γ1 => PP.nx (Γ1.set i (some (.fr d)))) PP.xc) : Go K W (tAsg te (gName i)) Γ PP := go_set (evo_of h)
theorem go_asg (h : Ev K W te Γ (fun d Γ1 => GoG K W g d Γ1 PP.nx PP.xc) PP.xc) : Go K W (tAsg te g) Γ PP := fun O G H σ D S a b c d e =>
  h O G H σ _ S (fun v G2 H2 Γ2 dd s1 S2 r p => p O G2 H2 σ v _ S2 r (fun G3 H3 σ3 Γ3 s3 S3 p3 => a G3 H3 σ3 Γ3 (s1.trans s3) S3 p3) fun σ2 => (e σ2).mono s1) (e σ)
theorem go_drop (h : EvO K W te Γ (fun _ Γ1 => PP.nx Γ1) PP.xc) : Go K W (tDrop te) Γ PP := fun O G H σ D S a b c d e =>
  h O G H σ _ S (fun v G2 H2 Γ2 s s1 S2 p => a G2 H2 σ Γ2 s1 S2.tail p) (e σ)
theorem go_ret (h : EvO K W te Γ (fun s Γ1 => PP.rt s Γ1) PP.xc) : Go K W (tRet te) Γ PP := fun O G H σ D S a b c d e =>
  h O G H σ _ S (fun v G2 H2 Γ2 s s1 S2 p => b v G2 H2 σ Γ2 s s1 S2 p) (e σ)
theorem go_retN (h : PP.rt (.fr .non) Γ) : Go K W tRetN Γ PP := fun O G H σ D S a b c d e => b .non G H σ Γ (.fr .non) (Same.refl _) (S.pushF .non) h
theorem gg_name {d : Dt} {P : Gm → Prop} (h : P (Γ.set i (some (.fr d)))) : GoG K W (gName i) d Γ P X := fun O G H σ v Q S r q _ => q G H _ _ (Same.refl _) (S.putF r i) h
def GoGs (K : PySem.W.Frag) (W : WX) (g : TGs) (ds : List Dt) (Γ : Gm) (P : Gm → Prop) (X : XP) : Prop :=
  ∀ (O G H : Hp) (σ : St) (vs : List V) (Q : St → Hp → Prop), Sta K O G H σ Γ → Reps K G vs ds →
    (∀ (G2 H2 : Hp) (σ2 : St) (Γ2 : Gm), Same G G2 → Sta K O G2 H2 σ2 Γ2 → P Γ2 → Q σ2 H2) → (∀ σ2, XOk K W O G σ2 X) → g vs σ H Q
theorem gs_nil {P : Gm → Prop} (h : P Γ) : GoGs K W gNil [] Γ P X := fun O G H σ vs Q S r q _ => by
  cases r
  exact ⟨rfl, q G H σ Γ (Same.refl _) S h⟩
theorem gs_cons {d : Dt} {ds : List Dt} {gr : TGs} {P : Gm → Prop} (h : GoG K W g d Γ (fun Γ1 => GoGs K W gr ds Γ1 P X) X) : GoGs K W (gCons g gr) (d :: ds) Γ P X := fun O G H σ vs Q S r q e => by
  cases r with
  | @cons v vs _ _ r1 r2 =>
    exact ⟨v, vs, rfl, h O G H σ v _ S r1 (fun G2 H2 σ2 Γ2 s2 S2 p => p O G2 H2 σ2 vs Q S2 (r2.mono s2) (fun G3 H3 σ3 Γ3 s3 S3 p3 => q G3 H3 σ3 Γ3 (s2.trans s3) S3 p3) fun σ3 => (e σ3).mono s2) e⟩
theorem gg_tup {d : Dt} {ds : List Dt} {n : Nat} {gr : TGs} {P : Gm → Prop} (hd : d = .tup ds) (hn : ds.length = n) (h : GoGs K W gr ds Γ P X) : GoG K W (gTup K n gr) d Γ P X := fun O G H σ v Q S r q e => by
  subst hd
  cases r with
  | @tup a xs _ ha rs => exact ⟨a, xs, rfl, SqT.of (S.g _ _ ha), by rw [rs.length]; exact hn, h O G H σ xs Q S rs q e⟩
end
end DL
namespace PySem
namespace ER
open PySem.W PySem.Calls PyProof.Rows PySem.HandSPX PySem.Builtin PySem.Builtin.ObjectAttr
section
variable {prog : Program} {w : World} {A : Around} {E : Value → Shared → Prop} {h : Heap} {g : Array GenState} {d : Drawn} {t : Nat} {os : OsState}
variable {nm q : Str} {C N : Addr} {bs bm : List Value} {hdct : Bool} {sn : List Str} {sub : List Value} {ab : Bool} {col : Option Bool} {dd : Option Addr} {k0 k1 k2 k3 k5 : Option Value}
theorem callWith_m0 {M : Model} {s : Shared} {pos : Pos} {u x : Addr} {i : String} {first : List Value} {args : List (Bool × Sem Value)} {Q : Value → Shared → Prop} (hplain : args.any (·.1) = false)
    (h : wpAny M A (evalArgs (.ref u) true args []) (fun a s₁ => s₁.heap.get? u = some (kxs_mw i x) ∧ wpAny M A (call (.ref u) (first ++ a.pos) a.kw) Q E s₁) E s) : wpAny M A (callWith pos (.ref u) first args []) Q E s := by
  unfold callWith
  refine wpAny_bind (wpAny_holding (wpAny_mono h (fun a s₁ h₁ => wpAny_bind (wpAny_standAt ?_)) fun _ _ x => x))
  obtain ⟨ho, hcall⟩ := h₁
  simp only [hplain, List.any_nil, Bool.or_false]
  refine wpAny_bind (m := keeperOf (.ref u)) ?_
  unfold keeperOf
  refine wpAny_bind (wpAny_load ho ?_)
  simp only [kxs_mw, show (Value.type "method-wrapper" != Value.type "method") = true by decide, show (Value.type "method-wrapper" == Value.type "builtin_function_or_method" || Value.type "method-wrapper" == Value.type "method-wrapper") = true by decide, if_true]
  refine wpAny_pure ?_
  exact wpAny_bind (wpAny_mono hcall (fun r s₂ hr => wpAny_bind (wpAny_holding (wpAny_point (wpAny_pure hr)))) fun _ _ x => x)
theorem callWith_mw {M : Model} {s : Shared} {pos : Pos} {u x : Addr} {i : String} {first : List Value} {env : Env} {e : Expr} {rest : List Expr} {Q : Value → Shared → Prop}
    (h : wpAny M A (spliced (backTo pos (starEach (e :: rest) env))) (fun vs s₁ => s₁.heap.get? u = some (kxs_mw i x) ∧ wpAny M A (call (.ref u) (first ++ vs)) Q E s₁) E s)
    (he : starEach (e :: rest) env = (false, eval e env) :: starEach rest env := by rfl) (hplain : (backTo pos (starEach rest env)).any (·.1) = false := by rfl) :
    wpAny M A (callWith pos (.ref u) first (backTo pos (starEach (e :: rest) env)) []) Q E s := by
  rw [he] at h ⊢
  refine callWith_m0 (x := x) (i := i) (by show (false || (backTo pos (starEach rest env)).any (·.1)) = false; rw [hplain]; rfl) ?_
  exact evalArgs_plain h
theorem call_mw {u e t0 : Addr} {rest : List Value} {Q : Value → Shared → Prop}
    (hC : h.get? C = some (excClassObj nm q C N bs bm hdct sn sub ab col dd k0 k1 k2 k3 k5 "ValueError.__new__")) (he : h.get? e = some (excO C t0)) (hu : h.get? u = some (kxs_mw "ValueError.__init__" e)) (hrest : rest.length ≤ sizeLine)
    (hq : ∀ h' t1, (∀ b o, b ≠ e → h.get? b = some o → h'.get? b = some o) → h'.get? e = some (excO C t1) → Q .none ⟨h', g, d, t, os⟩) :
    wpAny (model prog w) A (call (.ref u) rest) Q E ⟨h, g, d, t, os⟩ := by
  refine wpAny_call (codeAny_of_tree ?_)
  show wpAny _ A.in1 (callAny (.ref u) ⟨rest, []⟩) _ _ _
  simp only [callAny]
  refine wpAny_bind (wpAny_load hu ?_)
  simp only [kxs_mw, show (Value.type "method-wrapper" == Value.type "method" || Value.type "method-wrapper" == Value.type "builtin_function_or_method" || Value.type "method-wrapper" == Value.type "method-wrapper") = true by decide, if_true]
  refine W.KFB.if_so (by decide) ?_
  refine wpAny_bind (ESX.check_bound F.excBase_ValueError hC he rfl ?_)
  refine wpAny_bind (wpAny_pure (wpAny_pure ?_))
  refine ⟨Code.quiet_builtin _ (by decide +kernel), codeAny_builtin F.excBase_ValueError.initEntry ?_⟩
  rw [Around.under_plainId F.excBase_ValueError.init.plain _]
  wp_walk
  refine hq _ h.objs.size (fun b o hb ho => ?_) ?_
  · rw [Heap.get?_update_other _ _ (Ne.symm hb)]
    exact Heap.get?_push_of_some _ ho
  · rw [Heap.get?_update_self _ (Heap.get?_push_of_some _ he) rfl]
    rfl
end
section
variable {prog : Program} {w : World} {A : Around} {E : Value → Shared → Prop} {R : Result → Shared → Prop} {hp : Heap} {g : Array GenState} {d : Drawn} {t : Nat} {os : OsState}
theorem osa_old {K : W.Frag} {name : Str} {tk : Tok} {v : Value} {x C dx : Addr} {fv : Array Value} {cd : ClassData} {m0 : Str → Option Value} {nl : List Str}
    (X : K.In hp) (hx : hp.get? x = some { cls := .ref C, dict := some dx, data := .fields fv }) (hns : hp.Ns1 dx m0) (hw : Within m0 nl) (hz : nl.length ≤ 1000) (hcd : W.clsIn K C = some cd) (hm : refsVE cd.mro = true) (hh : cd.hasDict = true)
    (ha : W.findIn K (.ref C) name = some none)
    (hq : ∀ h' tk', (∀ b o, b ≠ dx → hp.get? b = some o → h'.get? b = some o) → h'.Ns1 dx (fun y => if y = name then some v else m0 y) → R (.ok (.ret .none)) ⟨h', g, d, tk', os⟩) :
    codeAny (model prog w) A (.call (.builtin "object.__setattr__") ⟨[.ref x, .str name tk, v], []⟩) R ⟨hp, g, d, t, os⟩ := by
  obtain ⟨oD, esD, epD, hoD, hdD, _⟩ := hns.count hw
  have I : W.InstAt hp x { cls := .ref C, dict := some dx, data := .fields fv } C (some oD) := ⟨hx, rfl, rfl, hoD⟩
  have SF := F.store_object
  have ne := refsVE_ne hm
  have hob : cd.mro.contains (.type "object") = true := (refsVE_contains "object" _ hm).trans (by decide +kernel)
  have sub : W.Looks (model prog w) hp (isInstance (.ref x) (.type "object")) true := I.type.andThen (W.looks_mroIn X (by unfold W.mroIn; rw [hcd, Option.bind_some, if_neg (by rw [ne]; decide), hob]))
  refine codeAny_call_builtin SF.slot.plain SF.entry (@W.check_slot (model prog w) _ _ ⟨hp, g, d, t, os⟩ "object.__setattr__" "object" "__setattr__" (.ref x) [.str name tk, v] [] _ SF.kind SF.split sub (SF.args (.ref x) (.str name tk) v) ?_)
  have hmr : W.Looks (model prog w) hp (mroOf (.ref C)) cd.mro := (W.looks_clsIn X hcd).andThen .now
  have L3 : W.Looks (model prog w) hp (storeTaker? none) none := .now
  have hcls : W.Looks (model prog w) hp (classData C) cd := W.looks_clsIn X hcd
  rw [W.osa_eq, refuse_eq]
  refine wpAny_bind (wpAny_bind (I.type.at (wpAny_bind (hmr.at ?_))))
  rw [refsVE_pass _ _ hm]
  refine wpAny_pure (wpAny_bind (I.type.at (wpAny_bind ((W.looks_findIn X ha).at (wpAny_bind (L3.at ?_))))))
  show wpAny _ _ (storeInOwnDict (.ref x) (.ref C) (.str name tk) name v false) _ _ _
  obtain ⟨nm, bs, mro, ns, qn, hd, sn, sb, ab, col, del⟩ := cd
  dsimp only at hh
  subst hh
  unfold storeInOwnDict ownDictForStores
  repeat (first | with_reducible refine ESX.store_in_old hns hw hz ?_ | with_reducible refine wpAny_loadPart_at hx ?_ | with_reducible refine hcls.at ?_ | wp_step)
  intro h' tk' hn' hs
  exact hq h' tk' (fun b o hb ho => (hs.2 b hb).trans ho) hn'
end
def eCall (msg : Str) (p0 p1 p2 p3 p4 : Pos) : Expr := .Call (.Attribute (.Call (.Name "super" p0) [] [] p1) "__init__" p2) [.Constant (.str msg) 0 p3] [] p4
def eSet (f : Str) (p0 p1 p2 p3 : Pos) : Stmt := .Assign [.Attribute (.Name "self" p0) f p1] (.Name f p2) p3
def eArgs (a : Pos) (fs : List (Str × Pos)) : Arguments := { posonlyargs := [], args := { arg := "self", annotation := none, pos := a } :: fs.map fun f => { arg := f.1, annotation := none, pos := f.2 }, vararg := none, kwonlyargs := [], kw_defaults := [], kwarg := none, defaults := [] }
def eScope (fs : List Str) : Scope := { kind := .function, names := (PySem.Str.ofString "self", .local) :: fs.map (fun f => (f, NameKind.local)) ++ [(PySem.Str.ofString "__class__", .free), (PySem.Str.ofString "super", .globalImplicit)], isGenerator := false, isCoroutine := false, more := [] }
def nmz (fs : List (Str × Pos)) : List Str := fs.map fun f => f.1
structure ErrT (prog : Program) (K : Frag) (mg : Str → Option Value) (x : Str) (fs : List Str) (C fI : Addr) : Prop where
  gC : mg x = some (.ref C)
  cls : ∃ nm q N bs bm sn sub ab col dd k0 k1 k2 k3 k5, K.lookup C = some (excClassObj nm q C N bs bm true sn sub ab col dd k0 k1 k2 k3 k5 "ValueError.__new__") ∧ refsVE bm = true ∧
    alongIn K "__init__" ((Value.ref C :: bm).dropWhile (· != .ref C) |>.drop 1) = some (some (.builtin "ValueError.__init__"))
  sa : findIn K (.ref C) "__setattr__" = some (some (.builtin "object.__setattr__"))
  ga : findIn K (.ref C) "__getattribute__" = some (some (.builtin "BaseException.__getattribute__"))
  gg : findIn K (.ref C) "__getattr__" = some none
  noN : ∀ f ∈ fs, findIn K (.ref C) f = some none
  iC : findIn K (.ref C) "__init__" = some (some (.ref fI))
  tC : typeIn K (.ref fI) = some (.type "function")
  kC : keepIn K (.ref C) = true
  exC : subIn K (.ref C) (.type "BaseException") = some true
  tyC : typeIn K (.ref C) = some (.type "type")
  hdC : hasDictIn K C = true
  sup : mg "super" = none
  top : (prog.main.scope.names.lookup ("super" : Str)).isSome = false
  opq : nsIn K cStatics "thirdparty.any" = some none
structure InitT (prog : Program) (K : Frag) (qual : Str) (a : Pos) (fs : List (Str × Pos)) (body : List Stmt) (C fI : Addr) : Prop where
  fn : ∃ (oc : Value) (od : Option Addr) (doc pm : Value) (an : Option Addr) (ct : Value) (osl : Array (Option Value)) (cc cda : Addr) (cl ccl : Value) (cld cdd : Option Addr) (csl ccs : Array (Option Value)) (vs : Array Value) (tf : Tok),
    K.lookup fI = some ⟨oc, od, .func (fnX "__init__" qual (eArgs a fs) body (eScope (nmz fs)) [("__class__", cc)] .none .none doc pm an (.ref cda) ct), osl⟩ ∧ codeIn K (.ref cda) qual = true ∧
    K.lookup cc = some ⟨cl, cld, .cell (some (.ref C)), csl⟩ ∧ K.lookup cda = some ⟨ccl, cdd, .fields vs, ccs⟩ ∧ vs[2]? = some (.str prog.main.file tf)
structure CallT (msg : Str) (p0 p1 p2 p3 p4 p5 : Pos) : Prop where
  sw : ∀ env : Env, swapsWith (eCall msg p0 p1 p2 p3 p4) none p5.line env = pure false
  ev : ∀ env : Env, ∃ pl : Sem Bool, eval (eCall msg p0 p1 p2 p3 p4) env = (do
      let ov ← attributeBase (.Call (.Name "super" p0) [] [] p1) "__init__" env (eval (.Call (.Name "super" p0) [] [] p1) env)
      standAt p2.atName
      let (f, first) ← holding [ov] (getMethod ov "__init__" pl)
      callWith p4 f first (backTo p4 (starEach [.Constant (.str msg) 0 p3] env)) [])
structure InitEnd (h h' : Heap) (x C dx t1 : Addr) (m : Str → Option Value) : Prop where
  keep : ∀ b o, b ≠ x → h.get? b = some o → h'.get? b = some o
  obj : h'.get? x = some { cls := .ref C, dict := some dx, data := .fields #[.ref t1, .none, .none, .none, .bool false, .none] }
  dbig : h.objs.size ≤ dx
  dne : dx ≠ x
  ns : h'.Ns1 dx m
structure Made (h h' : Heap) (e C d : Addr) (m : Str → Option Value) : Prop where
  keep : ∀ b o, h.get? b = some o → h'.get? b = some o
  new : h.objs.size ≤ e
  obj : ∃ oe vs, h'.get? e = some oe ∧ oe.cls = .ref C ∧ oe.dict = some d ∧ oe.data = .fields vs ∧ vs[1]? = some .none
  dbig : h.objs.size ≤ d
  dne : d ≠ e
  ns : h'.Ns1 d m
section
variable {prog : Program} {w : World} {A : Around} {E : Value → Shared → Prop} {R : Result → Shared → Prop} {s : Shared} {K : Frag} {mg : Str → Option Value} {C fI : Addr} {x qual : Str}
theorem one_size (v : Value) : [v].length ≤ sizeLine := by
  rw [sizeLine_eq]
  exact (by decide : 1 ≤ 16777216)
theorem kept_but {h h' : Heap} {x : Addr} (X : K.In h) (hx : K.lookup x = none) (k : ∀ b o, b ≠ x → h.get? b = some o → h'.get? b = some o) : K.In h' := fun a o e =>
  k a o (fun z => by rw [z, hx] at e; cases e) (X a o e)
theorem super_call {fs : List Str} {a : Pos} {fps : List (Str × Pos)} {body : List Stmt} {msg : Str} {p0 p1 p2 p3 p4 p5 : Pos} {xx t0 L : Addr} {m : Str → Option Value} {Q : Flow → Shared → Prop} {bd : List Stmt}
    {oc : Value} {od : Option Addr} {doc pm : Value} {an : Option Addr} {ct : Value} {osl : Array (Option Value)} {cc cda : Addr} {cl ccl : Value} {cld cdd : Option Addr} {csl ccs : Array (Option Value)} {vs : Array Value} {tf : Tok}
    (T : ErrT prog K mg x fs C fI) (CT : CallT msg p0 p1 p2 p3 p4 p5)
    (lk : K.lookup fI = some ⟨oc, od, .func (fnX "__init__" qual (eArgs a fps) body (eScope (nmz fps)) [("__class__", cc)] .none .none doc pm an (.ref cda) ct), osl⟩)
    (hcell : K.lookup cc = some ⟨cl, cld, .cell (some (.ref C)), csl⟩) (hcode : K.lookup cda = some ⟨ccl, cdd, .fields vs, ccs⟩) (hvs : vs[2]? = some (.str prog.main.file tf))
    (X : K.In s.heap) (hg : s.heap.Ns mainGlobals mg) (hb : ∃ mb, s.heap.Ns builtinsNs mb ∧ ∀ y : Str, y ≠ "__name__" → mb y = bootBuiltins y)
    (hL : s.heap.Ns L m) (hself : m "self" = some (.ref xx)) (hx : s.heap.get? xx = some (excO C t0)) (hnx : K.lookup xx = none)
    (hks : (eScope (nmz fps)).names.lookup ("super" : Str) = some .globalImplicit) (hkc : (eScope (nmz fps)).names.lookup ("__class__" : Str) = some .free) (hka : (eScope (nmz fps)).names.lookup ("self" : Str) = some .local)
    (hq : ∀ h' tk t1, (∀ b o, b ≠ xx → s.heap.get? b = some o → h'.get? b = some o) → h'.get? xx = some (excO C t1) → Q .next { s with heap := h', toks := tk }) :
    _root_.PySem.wpAt (model prog w) A (.func bd (ksEnv qual (eScope (nmz fps)) L fI (.ref cda) cc)) (exec (.Expr (eCall msg p0 p1 p2 p3 p4) p5) (ksEnv qual (eScope (nmz fps)) L fI (.ref cda) cc)) Q E s := by
  obtain ⟨nm, q, N, bs, bm, sn, sub, ab, col, dd, k0, k1, k2, k3, k5, hC, hbm, hal⟩ := T.cls
  have hcl : clsIn K C = some { name := nm, bases := bs, mro := .ref C :: bm, ns := N, qualname := q, hasDict := true, slotNames := sn, subclasses := sub, abstract := ab, collection := col, hasDel := false } := by unfold clsIn; rw [hC] <;> rfl
  obtain ⟨mb, hbn, hbb⟩ := hb
  obtain ⟨hh, g, d, t, os⟩ := s
  have X' : K.In hh := X
  refine ks_wpAt_Expr_any ?_ rfl (CT.sw _)
  obtain ⟨pl, ev⟩ := CT.ev (ksEnv qual (eScope (nmz fps)) L fI (.ref cda) cc)
  refine ks_wpAt_MethodCall (pl := pl) ?_ ev
  have hCo := X' _ _ hC
  have hsubC : mroIn K C (.ref C) = some true := by
    unfold mroIn
    rw [hcl, Option.bind_some]
    simp
  have hsubV : mroIn K C (.type "ValueError") = some true := by
    unfold mroIn
    rw [hcl, Option.bind_some]
    have z : (Value.ref C :: bm).contains (.type "ValueError") = true := (refsVE_contains "ValueError" (Value.ref C :: bm) hbm).trans (by decide +kernel)
    rw [if_neg (show ¬ ((Value.ref C :: bm).isEmpty = true) from Bool.false_ne_true), z]
  have I : InstAt hh xx (excO C t0) C none := ⟨hx, rfl, rfl, trivial⟩
  have hxC : xx ≠ C := fun z => by rw [z, hC] at hnx; cases hnx
  refine ks_wpAt_super_base (ar := { arg := "self", annotation := none, pos := a }) (env := ksEnv qual (eScope (nmz fps)) L fI (.ref cda) cc) (attr := "__init__") hks hkc (by decide +kernel) rfl (X' _ _ lk) rfl rfl rfl (X' _ _ hcode) rfl hvs (by simp) T.top ?_
  refine ks_loadName_global rfl hks (loadGlobal_builtin (env := ksEnv qual (eScope (nmz fps)) L fI (.ref cda) cc) hg T.sup hbn ((hbb _ (by decide +kernel)).trans (by first | boot_by_name | rfl | kernel_rfl)) ⟨rfl, ?_⟩)
  refine wpAny_loadName_free rfl hkc rfl ⟨_, X' _ _ hcell, rfl⟩ ?_
  refine wpAny_loadName_local rfl hka hL hself ?_
  refine ks_wpAny_isType_cls hCo rfl ⟨rfl, ?_⟩
  refine ks_wpAny_call_super hCo rfl hx rfl (fun c e => nomatch e) (looks_mroIn X' hsubC) fun h1 e1 kk1 => ?_
  have X1 : K.In h1 := X'.keeps kk1
  have x1 := kk1 _ _ hx
  have I1 : InstAt h1 xx (excO C t0) C none := ⟨x1, rfl, rfl, trivial⟩
  refine kxs_getMethod kxs_ValueError e1 (looks_opaque X1 T.opq) (l₀ := Value.ref C :: bm) ((looks_clsIn X1 hcl).andThen .now) rfl X1 hal (I1.type.andThen (looks_mroIn X1 hsubV)) hxC (by decide +kernel) ?_
  refine callWith_mw (x := xx) (i := "ValueError.__init__") ?_
  refine spliced_cons ?_
  refine wpAny_Constant_str (pos := p3) (k := 0) ?_
  refine spliced_nil ⟨?_, ?_⟩
  · exact Heap.get?_push_at rfl rfl
  refine call_mw (h := h1.push (kxs_mw "ValueError.__init__" xx)) (e := xx) (t0 := t0) (Heap.get?_push_of_some _ (kk1 _ _ hCo)) (Heap.get?_push_of_some _ x1) (Heap.get?_push_at rfl rfl) (one_size _) fun h' t1 k' hx' => ?_
  exact hq h' _ t1 (fun b o hb ho => k' b o hb (Heap.get?_push_of_some _ (kk1 b o ho))) hx'
end
end ER
end PySem
namespace PySem
namespace ER
open PySem.W PySem.Calls PyProof.Rows PySem.HandSPX
structure Mker (prog : Program) (K : Frag) (mg : Str → Option Value) (C : Addr) (fs : List Str) : Prop where
  made : ∀ (w : World) (A : Around) (R : Result → Shared → Prop) (s : Shared) (vs : List Value), vs.length = fs.length → K.In s.heap → s.heap.NoLimit → s.heap.Ns mainGlobals mg → (∃ mb, s.heap.Ns builtinsNs mb ∧ ∀ y : Str, y ≠ "__name__" → mb y = bootBuiltins y) → A.depth + 1 < recursionLimit →
    (∀ h' tk e d m, Made s.heap h' e C d m → (∀ y, m y = (fs.zip vs).lookup y) → R (.ok (.ret (.ref e))) { s with heap := h', toks := tk }) → codeAny (model prog w) A (.call (.ref C) ⟨vs, []⟩) R s
section
variable {prog : Program} {w : World} {A : Around} {E : Value → Shared → Prop} {R : Result → Shared → Prop} {s : Shared} {K : Frag} {mg : Str → Option Value} {C fI : Addr} {x qual : Str}
theorem ldS {M : Model} {s : Shared} {name : Str} {scope : Scope} {L a : Addr} {cd : Value} {cc : Addr} {m : Str → Option Value} {x : Str} {pos : Pos} {v : Value} {Q : Value → Shared → Prop} (hn : s.heap.Ns L m) (hv : m x = some v) (h : Q v s)
    (hk : scope.kind = .function) (hl : scope.names.lookup x = some .local) (hd : (x == ("__debug__" : Str)) = false) :
    wpAny M A (eval (.Name x pos) (ksEnv name scope L a cd cc)) Q E s := wpAny_Name (wpAny_loadName_local hk hl hn hv h) hd
theorem made_of {fs : List Str} (T : ErrT prog K mg x fs C fI)
    (init : ∀ (w : World) (A : Around) (R : Result → Shared → Prop) (s : Shared) (vs : List Value) (xx t0 : Addr), vs.length = fs.length → K.In s.heap → s.heap.NoLimit → s.heap.Ns mainGlobals mg → (∃ mb, s.heap.Ns builtinsNs mb ∧ ∀ y : Str, y ≠ "__name__" → mb y = bootBuiltins y) → A.depth < recursionLimit →
      s.heap.get? xx = some (excO C t0) → K.lookup xx = none →
      (∀ h' tk dx t1 m, InitEnd s.heap h' xx C dx t1 m → (∀ y, m y = (fs.zip vs).lookup y) → R (.ok (.ret .none)) { s with heap := h', toks := tk }) → codeAny (model prog w) A (.call (.ref fI) ⟨.ref xx :: vs, []⟩) R s)
    (hz : fs.length ≤ 1000) : Mker prog K mg C fs := ⟨by
  intro w A R s vs hl X hlim hg hb hroom hq
  obtain ⟨nm, q, N, bs, bm, sn, sub, ab, col, dd, k0, k1, k2, k3, k5, hC, hbm, _⟩ := T.cls
  obtain ⟨hp, g, dr, tk, os⟩ := s
  have k : ∀ b o, hp.get? b = some o → ((hp.push (kdv_tup vs)).push (excO C hp.objs.size)).get? b = some o := fun b o e => Heap.get?_push_of_some _ (Heap.get?_push_of_some _ e)
  have hget : ((hp.push (kdv_tup vs)).push (excO C hp.objs.size)).get? (hp.objs.size + 1) = some (excO C hp.objs.size) := by heap_get
  have hnx : K.lookup (hp.objs.size + 1) = none := by
    cases e : K.lookup (hp.objs.size + 1) with
    | none => rfl
    | some o =>
      have z : hp.get? (hp.objs.size + 1) = some o := X _ _ e
      exact absurd (Nat.lt_of_succ_lt (Heap.lt_size z)) (Nat.lt_irrefl _)
  have hvs : vs.length ≤ sizeLine := by rw [hl]; exact Nat.le_trans hz (by decide)
  refine call_own F.excBase_ValueError (fun X => refsVE_contains X bm hbm) (X _ _ hC) (looks_findIn X T.iC) (fun self => bind_fn X self T.tC) hvs ?_
  refine init w _ _ ⟨(hp.push (kdv_tup vs)).push (excO C hp.objs.size), g, dr, tk, os⟩ vs (hp.objs.size + 1) hp.objs.size hl (X.keeps k) (hlim.keeps k) (hg.keeps k) ?_ ?_ hget hnx fun h' tk' dx t1 m ⟨k', hx, dn, dne, hns⟩ hm => ?_
  · obtain ⟨mb, h1, h2⟩ := hb
    exact ⟨mb, h1.keeps k, h2⟩
  · show A.depth + 1 < recursionLimit
    exact hroom
  · have old : ∀ b o, hp.get? b = some o → h'.get? b = some o := fun b o e => k' b o (Nat.ne_of_lt (Nat.lt_succ_of_lt (Heap.lt_size e))) (k b o e)
    have z : hp.objs.size + 1 + 1 ≤ dx := by
      first
        | (simpa only [Heap.size_push] using dn)
        | exact dn
        | (have q := dn; rw [Heap.size_push, Heap.size_push] at q; exact q)
    exact ⟨rfl, hq h' tk' (hp.objs.size + 1) dx m ⟨old, Nat.le_succ _, ⟨_, _, hx, rfl, rfl, rfl, rfl⟩, Nat.le_trans (Nat.le_trans (Nat.le_succ _) (Nat.le_succ _)) z, dne, hns⟩ hm⟩⟩
theorem lk_ne {α : Type} {a b : Str} {v : α} {l : List (Str × α)} (h : a ≠ b) : List.lookup a ((b, v) :: l) = List.lookup a l := by
  rw [List.lookup_cons]
  have : (a == b) = false := by simpa using h
  rw [this]
theorem lk_eq {α : Type} {a : Str} {v : α} {l : List (Str × α)} : List.lookup a ((a, v) :: l) = some v := by
  rw [List.lookup_cons]
  have : (a == a) = true := by simp
  rw [this]
theorem maker1 {f : Str} {a pf : Pos} {msg : Str} {p0 p1 p2 p3 p4 p5 r0 r1 r2 r3 : Pos} (T : ErrT prog K mg x [f] C fI) (CT : CallT msg p0 p1 p2 p3 p4 p5)
    (IT : InitT prog K qual a [(f, pf)] [.Expr (eCall msg p0 p1 p2 p3 p4) p5, eSet f r0 r1 r2 r3] C fI)
    (hbind : ∀ (cc : Addr) (doc pm : Value) (an : Option Addr) (cdv ct u v : Value), bindArgs (fnX "__init__" qual (eArgs a [(f, pf)]) [.Expr (eCall msg p0 p1 p2 p3 p4) p5, eSet f r0 r1 r2 r3] (eScope [f]) [("__class__", cc)] .none .none doc pm an cdv ct) ⟨[u, v], []⟩ = pure ([("self", u), (f, v)] : List (Str × Value)))
    (n0 : f ≠ "self") (n1 : f ≠ "__class__") (n2 : f ≠ "super") (nd : (f == ("__debug__" : Str)) = false) : Mker prog K mg C [f] := by
  have ks : (eScope [f]).names.lookup ("super" : Str) = some .globalImplicit := by
    show List.lookup ("super" : Str) (("self", NameKind.local) :: (f, NameKind.local) :: ("__class__", NameKind.free) :: ("super", NameKind.globalImplicit) :: []) = _
    rw [lk_ne (by decide +kernel), lk_ne (Ne.symm n2), lk_ne (by decide +kernel), lk_eq]
  have kc : (eScope [f]).names.lookup ("__class__" : Str) = some .free := by
    show List.lookup ("__class__" : Str) (("self", NameKind.local) :: (f, NameKind.local) :: ("__class__", NameKind.free) :: ("super", NameKind.globalImplicit) :: []) = _
    rw [lk_ne (by decide +kernel), lk_ne (Ne.symm n1), lk_eq]
  have ka : (eScope [f]).names.lookup ("self" : Str) = some .local := by
    show List.lookup ("self" : Str) (("self", NameKind.local) :: (f, NameKind.local) :: ("__class__", NameKind.free) :: ("super", NameKind.globalImplicit) :: []) = _
    rw [lk_eq]
  have kf : (eScope [f]).names.lookup f = some .local := by
    show List.lookup f (("self", NameKind.local) :: (f, NameKind.local) :: ("__class__", NameKind.free) :: ("super", NameKind.globalImplicit) :: []) = _
    rw [lk_ne n0, lk_eq]
  refine made_of T ?_ (by simp)
  intro w A R s vs xx t0 hl X hlim hg hb hroom hx hnx hq
  obtain ⟨v, rfl⟩ : ∃ v, vs = [v] := by
    cases vs with
    | nil => simp at hl
    | cons v r => cases r with
      | nil => exact ⟨v, rfl⟩
      | cons _ _ => simp at hl
  obtain ⟨oc, od, doc, pm, an, ct, osl, cc, cda, cl, ccl, cld, cdd, csl, ccs, ws, tf, lk, hcd, hcell, hcode, hvs⟩ := IT.fn
  obtain ⟨nm, q, N, bs, bm, sn, sub, ab, col, dd, k0, k1, k2, k3, k5, hC, hbm, hal⟩ := T.cls
  have hcl : clsIn K C = some { name := nm, bases := bs, mro := .ref C :: bm, ns := N, qualname := q, hasDict := true, slotNames := sn, subclasses := sub, abstract := ab, collection := col, hasDel := false } := by unfold clsIn; rw [hC] <;> rfl
  refine ks_codeAny_call_defAt (binds := [("self", .ref xx), (f, v)]) hroom (X _ _ lk) rfl hlim (codeRec_of X hcd) rfl (BindsTo.of_eq (by exact hbind _ _ _ _ _ _ _ _)) ?_ ?_ (fun h₀ hns k₀ => ?_)
  · intro y hy
    have hy' : y ∈ ([("self", NameKind.local), (f, NameKind.local), ("__class__", NameKind.free), ("super", NameKind.globalImplicit)] : List (Str × NameKind)) := hy
    simp only [List.mem_cons, List.not_mem_nil, or_false] at hy'
    rcases hy' with rfl | rfl | rfl | rfl <;> (intro z; cases z)
  · intro y hy
    simp only [List.mem_cons, List.not_mem_nil, or_false] at hy
    rcases hy with rfl | rfl
    · exact ka
    · exact kf
  · have hs0 : (fun y => List.lookup y ([("self", Value.ref xx), (f, v)] : List (Str × Value)).reverse) "self" = some (.ref xx) := by
      show List.lookup ("self" : Str) [(f, v), ("self", Value.ref xx)] = _
      rw [lk_ne (Ne.symm n0), lk_eq]
    have hs1 : (fun y => List.lookup y ([("self", Value.ref xx), (f, v)] : List (Str × Value)).reverse) f = some v := by
      show List.lookup f [(f, v), ("self", Value.ref xx)] = _
      rw [lk_eq]
    have hxL : s.heap.objs.size ≠ xx := Nat.ne_of_gt (Heap.lt_size hx)
    refine ks_wpAt_execs_cons ?_
    refine super_call (s := { s with heap := h₀, toks := _ }) (fps := [(f, pf)]) T CT lk hcell hcode hvs (X.keeps k₀) (hg.keeps k₀) (by obtain ⟨mb, h1, h2⟩ := hb; exact ⟨mb, h1.keeps k₀, h2⟩) hns hs0 (k₀ _ _ hx) hnx ks kc ka fun h1 tk1 t1 kk1 hx1 => ?_
    have hL1 : h1.Ns s.heap.objs.size _ := hns.at fun o e => kk1 _ o hxL e
    have X1 : K.In h1 := kept_but (X.keeps k₀) hnx kk1
    show _root_.PySem.wpAt _ _ _ _ _ _ _
    refine ks_wpAt_execs_cons ?_
    refine ks_wpAt_Assign_Attr (wpAt_of_wpAny ?_)
    refine ldS (v := v) hL1 hs1 (ldS (v := .ref xx) hL1 hs0 ?_ rfl ka (by decide +kernel)) rfl kf nd
    refine set_plain X1 (ox := excO C t1) (od := none) ⟨hx1, rfl, rfl, trivial⟩ T.sa ?_
    refine exc_osa X1 hx1 hcl (show refsVE (.ref C :: bm) = true from hbm) rfl (T.noN f (by simp)) (fun h₃ tk₃ dx k₃ dn dne hx₃ hn₃ => ?_)
    show _root_.PySem.wpAt _ _ _ _ _ _ _
    refine wpAt_of_wpAny (wpAny_execs_nil ?_)
    have z : s.heap.objs.size ≤ dx := by
      have z1 : s.heap.objs.size < h1.objs.size := hL1.lt
      exact Nat.le_of_lt (Nat.lt_of_lt_of_le z1 dn)
    refine hq h₃ tk₃ dx t1 _ ⟨fun b o hb e => k₃ b o hb (kk1 b o hb (k₀ b o e)), hx₃, z, dne, hn₃⟩ fun y => ?_
    show (if y = f then some v else none) = List.lookup y [(f, v)]
    by_cases hy : y = f
    · subst hy; rw [if_pos rfl, lk_eq]
    · rw [if_neg hy, lk_ne hy]; rfl
theorem maker2 {f e : Str} {a pf pe : Pos} {msg : Str} {p0 p1 p2 p3 p4 p5 r0 r1 r2 r3 u0 u1 u2 u3 : Pos} (T : ErrT prog K mg x [f, e] C fI) (CT : CallT msg p0 p1 p2 p3 p4 p5)
    (IT : InitT prog K qual a [(f, pf), (e, pe)] [.Expr (eCall msg p0 p1 p2 p3 p4) p5, eSet f r0 r1 r2 r3, eSet e u0 u1 u2 u3] C fI)
    (hbind : ∀ (cc : Addr) (doc pm : Value) (an : Option Addr) (cdv ct u v y : Value), bindArgs (fnX "__init__" qual (eArgs a [(f, pf), (e, pe)]) [.Expr (eCall msg p0 p1 p2 p3 p4) p5, eSet f r0 r1 r2 r3, eSet e u0 u1 u2 u3] (eScope [f, e]) [("__class__", cc)] .none .none doc pm an cdv ct) ⟨[u, v, y], []⟩ = pure ([("self", u), (f, v), (e, y)] : List (Str × Value)))
    (n0 : f ≠ "self") (n1 : f ≠ "__class__") (n2 : f ≠ "super") (nd : (f == ("__debug__" : Str)) = false) (m0 : e ≠ "self") (m1 : e ≠ "__class__") (m2 : e ≠ "super") (md : (e == ("__debug__" : Str)) = false) (ne : f ≠ e) : Mker prog K mg C [f, e] := by
  have ks : (eScope [f, e]).names.lookup ("super" : Str) = some .globalImplicit := by
    show List.lookup ("super" : Str) (("self", NameKind.local) :: (f, NameKind.local) :: (e, NameKind.local) :: ("__class__", NameKind.free) :: ("super", NameKind.globalImplicit) :: []) = _
    rw [lk_ne (by decide +kernel), lk_ne (Ne.symm n2), lk_ne (Ne.symm m2), lk_ne (by decide +kernel), lk_eq]
  have kc : (eScope [f, e]).names.lookup ("__class__" : Str) = some .free := by
    show List.lookup ("__class__" : Str) (("self", NameKind.local) :: (f, NameKind.local) :: (e, NameKind.local) :: ("__class__", NameKind.free) :: ("super", NameKind.globalImplicit) :: []) = _
    rw [lk_ne (by decide +kernel), lk_ne (Ne.symm n1), lk_ne (Ne.symm m1), lk_eq]
  have ka : (eScope [f, e]).names.lookup ("self" : Str) = some .local := by
    show List.lookup ("self" : Str) (("self", NameKind.local) :: (f, NameKind.local) :: (e, NameKind.local) :: ("__class__", NameKind.free) :: ("super", NameKind.globalImplicit) :: []) = _
    rw [lk_eq]
  have kf : (eScope [f, e]).names.lookup f = some .local := by
    show List.lookup f (("self", NameKind.local) :: (f, NameKind.local) :: (e, NameKind.local) :: ("__class__", NameKind.free) :: ("super", NameKind.globalImplicit) :: []) = _
    rw [lk_ne n0, lk_eq]
  have ke : (eScope [f, e]).names.lookup e = some .local := by
    show List.lookup e (("self", NameKind.local) :: (f, NameKind.local) :: (e, NameKind.local) :: ("__class__", NameKind.free) :: ("super", NameKind.globalImplicit) :: []) = _
    rw [lk_ne m0, lk_ne (Ne.symm ne), lk_eq]
  refine made_of T ?_ (by simp)
  intro w A R s vs xx t0 hl X hlim hg hb hroom hx hnx hq
  obtain ⟨v, v2, rfl⟩ : ∃ v v2, vs = [v, v2] := by
    match vs, hl with
    | [v, v2], _ => exact ⟨v, v2, rfl⟩
  obtain ⟨oc, od, doc, pm, an, ct, osl, cc, cda, cl, ccl, cld, cdd, csl, ccs, ws, tf, lk, hcd, hcell, hcode, hvs⟩ := IT.fn
  obtain ⟨nm, q, N, bs, bm, sn, sub, ab, col, dd, k0, k1, k2, k3, k5, hC, hbm, hal⟩ := T.cls
  have hcl : clsIn K C = some { name := nm, bases := bs, mro := .ref C :: bm, ns := N, qualname := q, hasDict := true, slotNames := sn, subclasses := sub, abstract := ab, collection := col, hasDel := false } := by unfold clsIn; rw [hC] <;> rfl
  refine ks_codeAny_call_defAt (binds := [("self", .ref xx), (f, v), (e, v2)]) hroom (X _ _ lk) rfl hlim (codeRec_of X hcd) rfl (BindsTo.of_eq (by exact hbind _ _ _ _ _ _ _ _ _)) ?_ ?_ (fun h₀ hns k₀ => ?_)
  · intro y hy
    have hy' : y ∈ ([("self", NameKind.local), (f, NameKind.local), (e, NameKind.local), ("__class__", NameKind.free), ("super", NameKind.globalImplicit)] : List (Str × NameKind)) := hy
    simp only [List.mem_cons, List.not_mem_nil, or_false] at hy'
    rcases hy' with rfl | rfl | rfl | rfl | rfl <;> (intro z; cases z)
  · intro y hy
    simp only [List.mem_cons, List.not_mem_nil, or_false] at hy
    rcases hy with rfl | rfl | rfl
    · exact ka
    · exact kf
    · exact ke
  · have hs0 : (fun y => List.lookup y ([("self", Value.ref xx), (f, v), (e, v2)] : List (Str × Value)).reverse) "self" = some (.ref xx) := by
      show List.lookup ("self" : Str) [(e, v2), (f, v), ("self", Value.ref xx)] = _
      rw [lk_ne (Ne.symm m0), lk_ne (Ne.symm n0), lk_eq]
    have hs1 : (fun y => List.lookup y ([("self", Value.ref xx), (f, v), (e, v2)] : List (Str × Value)).reverse) f = some v := by
      show List.lookup f [(e, v2), (f, v), ("self", Value.ref xx)] = _
      rw [lk_ne ne, lk_eq]
    have hs2 : (fun y => List.lookup y ([("self", Value.ref xx), (f, v), (e, v2)] : List (Str × Value)).reverse) e = some v2 := by
      show List.lookup e [(e, v2), (f, v), ("self", Value.ref xx)] = _
      rw [lk_eq]
    have hxL : s.heap.objs.size ≠ xx := Nat.ne_of_gt (Heap.lt_size hx)
    refine ks_wpAt_execs_cons ?_
    refine super_call (s := { s with heap := h₀, toks := _ }) (fps := [(f, pf), (e, pe)]) T CT lk hcell hcode hvs (X.keeps k₀) (hg.keeps k₀) (by obtain ⟨mb, h1, h2⟩ := hb; exact ⟨mb, h1.keeps k₀, h2⟩) hns hs0 (k₀ _ _ hx) hnx ks kc ka fun h1 tk1 t1 kk1 hx1 => ?_
    have hL1 : h1.Ns s.heap.objs.size _ := hns.at fun o q => kk1 _ o hxL q
    have X1 : K.In h1 := kept_but (X.keeps k₀) hnx kk1
    show _root_.PySem.wpAt _ _ _ _ _ _ _
    refine ks_wpAt_execs_cons ?_
    refine ks_wpAt_Assign_Attr (wpAt_of_wpAny ?_)
    refine ldS (v := v) hL1 hs1 (ldS (v := .ref xx) hL1 hs0 ?_ rfl ka (by decide +kernel)) rfl kf nd
    refine set_plain X1 (ox := excO C t1) (od := none) ⟨hx1, rfl, rfl, trivial⟩ T.sa ?_
    refine exc_osa X1 hx1 hcl (show refsVE (.ref C :: bm) = true from hbm) rfl (T.noN f (by simp)) (fun h₃ tk₃ dx k₃ dn dne hx₃ hn₃ => ?_)
    have X3 : K.In h₃ := kept_but X1 hnx k₃
    have hL3 : h₃.Ns s.heap.objs.size _ := hL1.at fun o q => k₃ _ o hxL q
    show _root_.PySem.wpAt _ _ _ _ _ _ _
    refine ks_wpAt_execs_cons ?_
    refine ks_wpAt_Assign_Attr (wpAt_of_wpAny ?_)
    refine ldS (v := v2) hL3 hs2 (ldS (v := .ref xx) hL3 hs0 ?_ rfl ka (by decide +kernel)) rfl ke md
    obtain ⟨oD, hoD⟩ : ∃ oD, h₃.get? dx = some oD := by obtain ⟨o, _, _, h, _⟩ := hn₃; exact ⟨o, h⟩
    refine set_plain X3 (od := some oD) ⟨hx₃, rfl, rfl, hoD⟩ T.sa ?_
    have hwi : Within (fun y => if y = f then some v else none) [f] := fun y hy => by
      by_cases q : y = f
      · rw [q]; exact List.mem_singleton.mpr rfl
      · exact absurd (if_neg q) hy
    refine osa_old X3 hx₃ hn₃ hwi (by simp) hcl (show refsVE (.ref C :: bm) = true from hbm) rfl (T.noN e (by simp)) (fun h₄ tk₄ k₄ hn₄ => ?_)
    have ndx : xx ≠ dx := Ne.symm dne
    show _root_.PySem.wpAt _ _ _ _ _ _ _
    refine wpAt_of_wpAny (wpAny_execs_nil ?_)
    have zlt : s.heap.objs.size < dx := by
      have z1 : s.heap.objs.size < h1.objs.size := hL1.lt
      exact Nat.lt_of_lt_of_le z1 dn
    have nold : ∀ b o, s.heap.get? b = some o → b ≠ dx := fun b o q => Nat.ne_of_lt (Nat.lt_trans (Heap.lt_size q) zlt)
    refine hq h₄ tk₄ dx t1 _ ⟨fun b o hb q => k₄ b o (nold b o q) (k₃ b o hb (kk1 b o hb (k₀ b o q))), k₄ _ _ ndx hx₃, Nat.le_of_lt zlt, dne, hn₄⟩ fun y => ?_
    show (if y = e then some v2 else if y = f then some v else none) = List.lookup y [(f, v), (e, v2)]
    by_cases hy : y = e
    · subst hy; rw [if_pos rfl, lk_ne (Ne.symm ne), lk_eq]
    · rw [if_neg hy]
      by_cases hz : y = f
      · subst hz; rw [if_pos rfl, lk_eq]
      · rw [if_neg hz, lk_ne hz, lk_ne hy]; rfl
end
end ER
end PySem
namespace DL
open PySem PySem.Spec L2
def tMkE (C : Addr) (fs : List Str) (ta : TA) : St → Hp → XK → Prop := fun σ H Q => ta σ H fun vs H1 => vs.length = fs.length ∧ ∀ d, H1 d = none → Q (.ref C) (some d) (upd H1 d (.xd (fs.zip vs)))
theorem relO_zip (f : Str) : ∀ {fs : List Str} {vs : List V} {us : List Value}, Vals vs us → RelO (List.lookup f (fs.zip vs)) (List.lookup f (fs.zip us))
  | [], _, _, _ => by simp [RelO]
  | _ :: _, _, _, .nil => by simp [RelO]
  | g :: fs, _, _, .cons r t => by
    rw [List.zip_cons_cons, List.zip_cons_cons, List.lookup_cons, List.lookup_cons]
    cases q : (f == g) with
    | true => exact r
    | false => exact relO_zip f t
section
variable {X : Cx} {C : Addr} {fs : List Str}
theorem pmk_err {x : Str} {e : Expr} {es : List Expr} {ta : TA} {p pos : Pos} {k : Nat} (M : PySem.ER.Mker X.prog X.K X.mg C fs) (gC : X.mg x = some (.ref C)) (kC : PySem.W.keepIn X.K (.ref C) = true) (rC : Raises X (.ref C)) (hr : Room k X.A) (ha : PA X (e :: es) ta) (hg : Gl X x)
    (hd : (x == ("__debug__" : Str)) = false := by decide) (he : starEach (e :: es) X.env = (false, eval e X.env) :: starEach es X.env := by rfl) (hpl : (backTo pos (starEach es X.env)).any (·.1) = false := by rfl) :
    PMk X (.Call (.Name x p) (e :: es) [] pos) (tMkE C fs ta) := by
  intro pins s σ H Q I h
  refine PySem.wpAny_Call_Name_kw (ld_glob I hg gC ?_ hd)
  refine PySem.W.callWith_K (h₀ := X.base) I.ok.mod.kin kC (thn (ha.run pos pins s σ H _ I h) fun us s1 hh => ?_) he hpl
  obtain ⟨vs, H1, I1, r1, hl, q1⟩ := hh
  refine ⟨I1.kIn, ?_⟩
  show wpAny _ _ (call (.ref C) us) _ _ _
  have hlim := I1.nolimit
  have hgn : s1.heap.Ns mainGlobals X.mg := I1.ok.mod.glob.keeps I1.bk
  have hbn : ∃ mb, s1.heap.Ns builtinsNs mb ∧ ∀ y : Str, y ≠ "__name__" → mb y = bootBuiltins y := by
    obtain ⟨mb, h1, h2⟩ := I1.ok.mod.blt
    exact ⟨mb, h1.keeps I1.bk, h2⟩
  obtain ⟨hp, g, dr, tk, os⟩ := s1
  refine wpAny_call (M.made X.w X.A _ ⟨hp, g, dr, tk, os⟩ us (by rw [← r1.length]; exact hl) I1.kIn hlim hgn hbn (by have := hr.dp; omega) fun h' tk' e' d m Md hm => ?_)
  show MkP X pins σ Q (.ref e') ⟨h', g, dr, tk', os⟩
  obtain ⟨oe, fv, hoe, hc, hd', hdat, h1⟩ := Md.obj
  obtain ⟨G', g1, g2⟩ := restrict h' fun b => decide (b ≠ e')
  have gk : ∀ b, b ≠ e' → G'.get? b = h'.get? b := fun b hb => g1 b (decide_eq_true hb)
  have ge : G'.get? e' = none := g2 e' (by simp)
  have old : ∀ b o, hp.get? b = some o → G'.get? b = some o := fun b o q => (gk b (Nat.ne_of_lt (Nat.lt_of_lt_of_le (Heap.lt_size q) Md.new))).trans (Md.keep b o q)
  have ob : ObjOk X.prog X.w (upd H1 d (.xd (fs.zip vs))) G' d (.xd (fs.zip vs)) :=
    ⟨_, Md.ns.at (fun o q => (gk d Md.dne).trans q), fun f => by rw [hm f]; exact relO_zip f r1⟩
  have J : Inv X pins σ (upd H1 d (.xd (fs.zip vs))) ⟨G', g, dr, tk', os⟩ := I1.laid (t' := tk') old Md.dbig ob
  refine ⟨e', oe, fv, ⟨G', g, dr, tk', os⟩, _, .ref C, some d, rfl, J, fun b o q => ?_, ge, hoe, ⟨hc, hd'⟩, hdat, h1, ?_, rfl, I1.bare, rC, q1 d (I1.hok.fresh Md.dbig)⟩
  · by_cases hb : b = e'
    · have q' : G'.get? b = some o := q
      rw [hb, ge] at q'; cases q'
    · exact (gk b hb).symm.trans q
  · rw [upd_ne (Ne.symm Md.dne)]
    exact I1.hok.fresh Md.new
def tRaiseE (C : Addr) (fs : List Str) (W : WX) (ta : TA) : TS := fun _ σ H => tMkE C fs ta σ H fun cls d H' => W cls d σ H'
structure ErrC (X : Cx) (x : Str) (C : Addr) (fs : List Str) : Prop where
  mker : PySem.ER.Mker X.prog X.K X.mg C fs
  gC : X.mg x = some (.ref C)
  kC : PySem.W.keepIn X.K (.ref C) = true
  rC : Raises X (.ref C)
theorem ps_raiseE {x : Str} {e : Expr} {es : List Expr} {ta : TA} {W : WX} {p pos pos2 : Pos} {k : Nat} (hc : X.calm = true) (M : ErrC X x C fs) (hr : Room k X.A) (tk : Takes X W) (ha : PA X (e :: es) ta) (hg : Gl X x := by rfl)
    (hd : (x == ("__debug__" : Str)) = false := by decide) (he : starEach (e :: es) X.env = (false, eval e X.env) :: starEach es X.env := by rfl) (hpl : (backTo pos (starEach es X.env)).any (·.1) = false := by rfl) :
    PS X (.Raise (some (.Call (.Name x p) (e :: es) [] pos)) none pos2) (tRaiseE C fs W ta) := ps_raise hc tk (pmk_err M.mker M.gC M.kC M.rC hr ha hg hd he hpl)
end
section
variable {K : PySem.W.Frag} {W : WX} {Γ : Gm} {X : XP} {te ta tb : TE} {i : Nat} {PP : Po}
theorem repF_zip {G : Hp} : ∀ {fs : List Str} {vs : List V} {ds : List Dt}, Reps K G vs ds → RepF K G (fs.zip vs) (fs.zip ds)
  | [], _, _, _ => by simpa using RepF.nil
  | _ :: _, _, _, .nil => by simpa using RepF.nil
  | f :: fs, _, _, .cons r t => by rw [List.zip_cons_cons, List.zip_cons_cons]; exact .cons r (repF_zip t)
theorem go_raise {C : Addr} {fs : List Str} {t : TA} (h : EvA K W t Γ (fun ds Γ1 => ds.length = fs.length ∧ PP.xc C (fs.zip ds) Γ1) PP.xc) : Go K W (tRaiseE C fs W t) Γ PP := fun O G H σ D S a b c d e =>
  h O G H σ _ S (fun vs G2 H2 Γ2 ds s1 S2 r ⟨l, p⟩ => ⟨by rw [r.length]; exact l, fun dd nd => by
    have ex := Ext.new (ob := .xd (fs.zip vs)) S2.g nd
    exact e σ C (some dd) _ _ _ Γ2 (s1.trans ex.g) (S2.ext ex) (.some upd_same ((repF_zip r).mono ex.g)) p⟩) (e σ)
abbrev DSp := List Sl → (Sl → List Sl → Prop) → (Addr → List (Str × Dt) → List Sl → Prop) → Prop
abbrev sms (vs : List V) : St := vs.map some
abbrev sls (as : List Sl) : Gm := as.map some
def spD (K : PySem.W.Frag) (S : DSp) : Sp := fun vs H Q E => ∃ (O G : Hp) (args : List Sl) (R : Sl → List Sl → Prop) (Y : Addr → List (Str × Dt) → List Sl → Prop), Sta K O G H (sms vs) (sls args) ∧ S args R Y ∧
  (∀ (v : V) (G2 H2 : Hp) (res : Sl) (args' : List Sl), Same G G2 → Sta K O G2 H2 (some v :: sms vs) (some res :: sls args') → R res args' → Q v H2) ∧
  (∀ (C : Addr) (d : Option Addr) (fs : List (Str × Dt)) (G2 H2 : Hp) (args' : List Sl), Same G G2 → Sta K O G2 H2 (sms vs) (sls args') → RepX K G2 d fs → Y C fs args' → E (.ref C) d H2)
theorem fps_fr (ds : List Dt) : fps (sls (ds.map .fr)) = [] := by
  induction ds with
  | nil => rfl
  | cons d ds ih => simpa [fps, fpO, Sl.fp] using ih
theorem slots_fr {G H : Hp} : ∀ {vs : List V} {ds : List Dt}, Reps K G vs ds → Slots K G H (sms vs) (sls (ds.map .fr))
  | _, _, .nil => .nil
  | _, _, .cons r t => .yes (.fr r) (slots_fr t)
def forn (O H : Hp) (as : List Addr) : Hp := fun a => if a ∈ as then H a else O a
theorem forn_in {O H : Hp} {as : List Addr} {a : Addr} (h : a ∈ as) : forn O H as a = H a := if_pos h
theorem forn_out {O H : Hp} {as : List Addr} {a : Addr} (h : a ∉ as) : forn O H as a = O a := if_neg h
theorem Sta.fornM {O G H : Hp} {σ : St} {Γ2 : Gm} (S : Sta K O G H σ Γ) (h : ∀ a ∈ fps Γ2, a ∈ fps Γ) : ∀ a o, forn O H (fps Γ2) a = some o → MutT (some o) := fun a o q => by
  by_cases ha : a ∈ fps Γ2
  · rw [forn_in ha] at q
    obtain ⟨o', h1, h2⟩ := S.muts a (h a ha)
    rw [q] at h1; cases h1; exact h2
  · rw [forn_out ha] at q; exact S.om a o q
theorem Sta.back {O G G2 H H2 : Hp} {σ : St} (S : Sta K O G H σ Γ) (s2 : Same G G2) (g : Same G2 H2) (o : Same (forn O H (fps Γ)) H2) (d : ∀ a, forn O H (fps Γ) a ≠ none → G2 a = none) : Sta K O G2 H2 σ Γ := by
  refine ⟨g, fun a u q => ?_, fun a q => ?_, S.sl.mono s2 fun a ha u q => ?_, S.nd, fun a ha => ?_, S.no, S.om⟩
  · refine o a u ?_
    rw [forn_out fun z => by rw [S.no a z] at q; cases q]
    exact q
  · refine d a ?_
    rw [forn_out fun z => q (S.no a z)]
    exact q
  · refine o a u ?_
    rw [forn_in ha]
    exact q
  · refine d a ?_
    rw [forn_in ha]
    exact S.there a ha
theorem Sta.entry0 {O G H : Hp} {σ : St} {vs : List V} {ds : List Dt} (S : Sta K O G H σ Γ) (r : Reps K G vs ds) : Sta K (forn O H (fps Γ)) G H (sms vs) (sls (ds.map .fr)) := by
  refine ⟨S.g, fun a u q => ?_, fun a q => ?_, slots_fr r, by rw [fps_fr]; simp, fun a ha => by rw [fps_fr] at ha; simp at ha, fun a ha => by rw [fps_fr] at ha; simp at ha, S.fornM fun _ h => h⟩
  · by_cases ha : a ∈ fps Γ
    · rw [forn_in ha] at q; exact q
    · rw [forn_out ha] at q; exact S.o a u q
  · by_cases ha : a ∈ fps Γ
    · exact S.ng a ha
    · rw [forn_out ha] at q; exact S.d a q
theorem evo_call0 {S : DSp} {t : TA} {P : Sl → Gm → Prop} (h : EvA K W t Γ (fun ds Γ1 => S (ds.map .fr) (fun res _ => P res Γ1) (fun C fs _ => X C fs Γ1)) X) : EvO K W (tCallS (spD K S) (WE W) t) Γ P X := fun O G H σ Q S0 q x =>
  h O G H σ _ S0 (fun vs G1 H1 Γ1 ds s1 S1 r hS => by
    refine ⟨forn O H1 (fps Γ1), G1, ds.map .fr, _, _, S1.entry0 r, hS, fun v G2 H2 res args' s2 S2 p => ?_, fun C d fs G2 H2 args' s2 S2 rx p => ?_⟩
    · have T := S1.back s2 S2.g S2.o S2.d
      have nd := S2.nd
      simp only [fps, fpO] at nd
      have mem : ∀ a ∈ res.fp, a ∈ fps (some res :: sls args') := fun a ha => by simp [fps, fpO, ha]
      refine q v G2 H2 Γ1 res (s1.trans s2) (T.push S2.head (List.nodup_append.mp nd).1 (fun a ha => S2.ng a (mem a ha)) (fun a ha => ?_) (fun a ha z => ?_)) p
      · have n := S2.no a (mem a ha)
        by_cases hf : a ∈ fps Γ1
        · exact S1.no a hf
        · rw [forn_out hf] at n; exact n
      · have n := S2.no a (mem a ha)
        rw [forn_in z] at n
        exact S1.there a z n
    · exact x C d fs G2 H2 Γ1 (s1.trans s2) (S1.back s2 S2.g S2.o S2.d) rx p) x
theorem fps_part : ∀ {Γ : Gm} {i : Nat} {s : Sl}, Γ[i]? = some (some s) → (fps Γ).Nodup → s.fp.Nodup ∧ ∀ a ∈ s.fp, a ∉ fps (Γ.set i none)
  | [], i, s, h, _ => by simp at h
  | y :: r, 0, s, h, nd => by
    simp at h; subst h
    simp only [fps, fpO] at nd
    obtain ⟨n1, n2, n3⟩ := List.nodup_append.mp nd
    refine ⟨n1, fun a ha z => ?_⟩
    simp only [List.set_cons_zero, fps, fpO, List.nil_append] at z
    exact n3 a ha a z rfl
  | y :: r, i + 1, s, h, nd => by
    simp only [fps] at nd
    obtain ⟨n1, n2, n3⟩ := List.nodup_append.mp nd
    obtain ⟨m1, m2⟩ := fps_part (Γ := r) (i := i) (by simpa using h) n2
    refine ⟨m1, fun a ha z => ?_⟩
    simp only [List.set_cons_succ, fps, List.mem_append] at z
    rcases z with z | z
    · exact n3 a z a (mem_fps (Γ := r) (i := i) (by simpa using h) a ha) rfl
    · exact m2 a ha z
theorem fps_one (ds es : List Dt) (s : Sl) : fps (sls (ds.map .fr ++ s :: es.map .fr)) = s.fp := by
  induction ds with
  | nil => simpa [fps, fpO] using fps_fr es
  | cons d ds ih => simpa [fps, fpO, Sl.fp] using ih
theorem slots_one {G H : Hp} {v : V} {us : List V} {es : List Dt} {s : Sl} (h : Own K G H v s) (r2 : Reps K G us es) : ∀ {vs : List V} {ds : List Dt}, Reps K G vs ds → Slots K G H (sms (vs ++ v :: us)) (sls (ds.map .fr ++ s :: es.map .fr))
  | _, _, .nil => .yes h (slots_fr r2)
  | _, _, .cons r t => .yes (.fr r) (slots_one h r2 t)
theorem slots_mid {G H : Hp} {v : V} {us : List V} {es : List Dt} {s : Sl} : ∀ {vs : List V} {ds : List Dt}, vs.length = ds.length → Slots K G H (sms (vs ++ v :: us)) (sls (ds.map .fr ++ s :: es.map .fr)) → Own K G H v s
  | [], [], _, h => by cases h; assumption
  | [], _ :: _, hl, _ => by simp at hl
  | _ :: _, [], hl, _ => by simp at hl
  | _ :: vs, _ :: ds, hl, h => by
    cases h with
    | yes _ r => exact slots_mid (vs := vs) (ds := ds) (by simpa using hl) r
theorem evo_call1 {S : DSp} {t : TA} {P : Sl → Gm → Prop} (h : EvB K W i t Γ (fun ds es Γ1 => ∃ s, Γ1[i]? = some (some s) ∧ S (ds.map .fr ++ s :: es.map .fr) (fun res args' => ∃ s', args' = ds.map .fr ++ s' :: es.map .fr ∧ P res (Γ1.set i (some s')))
    (fun C fs args' => ∃ s', args' = ds.map .fr ++ s' :: es.map .fr ∧ X C fs (Γ1.set i (some s')))) X) : EvO K W (tCallS (spD K S) (WE W) t) Γ P X := fun O G H σ Q S0 q x =>
  h O G H σ _ S0 (fun vs us v G1 H1 Γ1 ds es s1 S1 r1 hv r2 ⟨s, hs, hS⟩ => by
    obtain ⟨v', ev, ow⟩ := S1.get hs
    rw [hv] at ev
    obtain rfl : v = v' := Option.some.inj (Option.some.inj ev)
    obtain ⟨m1, m2⟩ := fps_part hs S1.nd
    have Sf : Sta K O G1 H1 (σ.set i (some v)) (Γ1.set i none) := S1.forget i (some v)
    have es' : σ.set i (some v) = σ := by
      apply List.ext_getElem?
      intro j
      rw [List.getElem?_set]
      by_cases hj : i = j
      · subst hj
        rw [if_pos rfl, hv]
        have : i < σ.length := by
          rcases Nat.lt_or_ge i σ.length with z | z
          · exact z
          · rw [List.getElem?_eq_none z] at hv; cases hv
        rw [if_pos this]
      · rw [if_neg hj]
    rw [es'] at Sf
    have ent : Sta K (forn O H1 (fps (Γ1.set i none))) G1 H1 (sms (vs ++ v :: us)) (sls (ds.map .fr ++ s :: es.map .fr)) := by
      refine ⟨S1.g, fun a u z => ?_, fun a z => ?_, slots_one ow r2 r1, by rw [fps_one]; exact m1, fun a ha => ?_, fun a ha => ?_, S1.fornM fun a h => (fps_set_sub i a h).elim (fun z => by simp [fpO] at z) id⟩
      · by_cases ha : a ∈ fps (Γ1.set i none)
        · rw [forn_in ha] at z; exact z
        · rw [forn_out ha] at z; exact S1.o a u z
      · by_cases ha : a ∈ fps (Γ1.set i none)
        · exact Sf.ng a ha
        · rw [forn_out ha] at z; exact S1.d a z
      · rw [fps_one] at ha; exact S1.ng a (mem_fps hs a ha)
      · rw [fps_one] at ha
        rw [forn_out (m2 a ha)]
        exact S1.no a (mem_fps hs a ha)
    have fin : ∀ {G2 H2 : Hp} {s' : Sl}, Same G1 G2 → Same G2 H2 → Same (forn O H1 (fps (Γ1.set i none))) H2 → (∀ a, forn O H1 (fps (Γ1.set i none)) a ≠ none → G2 a = none) → Own K G2 H2 v s' → s'.fp.Nodup → (∀ a ∈ s'.fp, G2 a = none) → (∀ a ∈ s'.fp, forn O H1 (fps (Γ1.set i none)) a = none) →
        Sta K O G2 H2 σ (Γ1.set i (some s')) := fun {G2 H2 s'} s2 g o d ow' nd ng no => by
      have T := Sf.back s2 g o d
      have T2 := (T.push ow' nd ng (fun a ha => ?_) (fun a ha z => ?_)).put i
      · rw [es', List.set_set] at T2
        exact T2
      · have n := no a ha
        by_cases hf : a ∈ fps (Γ1.set i none)
        · exact Sf.no a hf
        · rw [forn_out hf] at n; exact n
      · have n := no a ha
        rw [forn_in z] at n
        exact Sf.there a z n
    refine ⟨forn O H1 (fps (Γ1.set i none)), G1, _, _, _, ent, hS, fun u G2 H2 res args' s2 S2 ⟨s', ea, p⟩ => ?_, fun C d fs G2 H2 args' s2 S2 rx ⟨s', ea, p⟩ => ?_⟩
    · subst ea
      have St := S2.tail
      have ow2 := slots_mid r1.length St.sl
      have nds := St.nd
      rw [fps_one] at nds
      have ngs := St.ng
      rw [fps_one] at ngs
      have nos := St.no
      rw [fps_one] at nos
      have T := fin s2 S2.g S2.o S2.d ow2 nds ngs nos
      have nd := S2.nd
      simp only [fps, fpO] at nd
      rw [fps_one] at nd
      obtain ⟨n1, n2, n3⟩ := List.nodup_append.mp nd
      have mem : ∀ a ∈ res.fp, a ∈ fps (some res :: sls (ds.map .fr ++ s' :: es.map .fr)) := fun a ha => by simp [fps, fpO, ha]
      refine q u G2 H2 _ res (s1.trans s2) (T.push S2.head n1 (fun a ha => S2.ng a (mem a ha)) (fun a ha => ?_) (fun a ha z => ?_)) p
      · have n := S2.no a (mem a ha)
        by_cases hf : a ∈ fps (Γ1.set i none)
        · exact Sf.no a hf
        · rw [forn_out hf] at n; exact n
      · have e2 : Γ1.set i (some s') = (Γ1.set i none).set i (some s') := by rw [List.set_set]
        rw [e2] at z
        rcases fps_set_sub i a z with z | z
        · exact n3 a ha a z rfl
        · have n := S2.no a (mem a ha)
          rw [forn_in z] at n
          exact Sf.there a z n
    · subst ea
      have ow2 := slots_mid r1.length S2.sl
      have nds := S2.nd
      rw [fps_one] at nds
      have ngs := S2.ng
      rw [fps_one] at ngs
      have nos := S2.no
      rw [fps_one] at nos
      exact x C d fs G2 H2 _ (s1.trans s2) (fin s2 S2.g S2.o S2.d ow2 nds ngs nos) rx p) x
def adr : Sl → Option Addr
  | .ol a _ => some a
  | .os a _ => some a
  | .oK a _ => some a
  | .oT a _ => some a
  | .oo a _ _ => some a
  | _ => none
theorem Own.adr {G H : Hp} {v : V} {s : Sl} {a : Addr} (h : Own K G H v s) (e : DL.adr s = some a) : v = .ref a := by
  cases h <;> simp [DL.adr] at e <;> subst e <;> rfl
inductive Back : List Sl → Gm → List Sl → Prop
  | nil {Γ : Gm} : Back [] Γ []
  | fr {d : Dt} {as as' : List Sl} {x : Option Sl} {Γ : Gm} : Back as Γ as' → Back (.fr d :: as) (x :: Γ) (.fr d :: as')
  | pack {a : Addr} {ds : List Dt} {φ : List Dt → Prop} {as as' : List Sl} {Γ : Gm} : φ ds → Back as Γ as' → Back (.os a φ :: as) (some (.ol a ds) :: Γ) (.os a φ :: as')
  | own {s s' : Sl} {a : Addr} {as as' : List Sl} {Γ : Gm} : adr s = some a → adr s' = some a → Back as Γ as' → Back (s :: as) (some s' :: Γ) (s' :: as')
  | tb {d : Dt} {p : Addr} {q : Str} {as as' : List Sl} {x : Option Sl} {Γ : Gm} : Back as Γ as' → Back (.tb (.fr d) p q :: as) (x :: Γ) (.fr d :: as')
theorem Back.slots {G H G2 H2 : Hp} (s2 : Same G G2) : ∀ {vs : List V} {args args' : List Sl} {σ2 : St} {Γ2 : Gm}, Back args Γ2 args' → Slots K G H (sms vs) (sls args) → Slots K G2 H2 σ2 Γ2 → Slots K G2 H2 (sms vs) (sls args') ∧ (fps (sls args')).Sublist (fps Γ2)
  | [], _, _, _, _, .nil, .nil, _ => ⟨.nil, by simp [fps]⟩
  | _ :: _, _, _, _, _, @Back.fr _ _ _ _ Γ' b, .yes o r, q => by
    have q' : ∃ σ3, Slots K G2 H2 σ3 Γ' := by cases q with
      | no r => exact ⟨_, r⟩
      | yes _ r => exact ⟨_, r⟩
    obtain ⟨σ3, q3⟩ := q'
    obtain ⟨h1, h2⟩ := b.slots s2 r q3
    cases o with
    | fr rr =>
      refine ⟨.yes (.fr (rr.mono s2)) h1, ?_⟩
      simp only [fps, fpO, Sl.fp, List.map_cons, List.nil_append]
      exact h2.trans (List.sublist_append_right _ _)
  | _ :: _, _, _, _, _, @Back.tb _ _ _ _ _ _ Γ' b, .yes o r, q => by
    have q' : ∃ σ3, Slots K G2 H2 σ3 Γ' := by cases q with
      | no r => exact ⟨_, r⟩
      | yes _ r => exact ⟨_, r⟩
    obtain ⟨σ3, q3⟩ := q'
    obtain ⟨h1, h2⟩ := b.slots s2 r q3
    cases o with
    | tb _ _ o1 =>
      cases o1 with
      | fr rr =>
        refine ⟨.yes (.fr (rr.mono s2)) h1, ?_⟩
        simp only [fps, fpO, Sl.fp, List.map_cons, List.nil_append]
        exact h2.trans (List.sublist_append_right _ _)
  | _ :: _, _, _, _, _, .pack hp b, .yes o r, .yes o2 r2 => by
    obtain ⟨h1, h2⟩ := b.slots s2 r r2
    have z1 := o.adr rfl
    have z2 := o2.adr rfl
    subst z1 z2
    cases o2 with
    | ol hh rr =>
      refine ⟨.yes (.os hh rr hp) h1, ?_⟩
      simp only [fps, fpO, List.map_cons, Sl.fp]
      exact (List.Sublist.refl _).append h2
  | _ :: _, _, _, _, _, .own e1 e2 b, .yes o r, .yes o2 r2 => by
    obtain ⟨h1, h2⟩ := b.slots s2 r r2
    have z1 := o.adr e1
    have z2 := o2.adr e2
    subst z1 z2
    refine ⟨.yes o2 h1, ?_⟩
    simp only [fps, fpO, List.map_cons]
    exact (List.Sublist.refl _).append h2
theorem Back.sta {O G H G2 H2 : Hp} {vs : List V} {args args' : List Sl} {σ2 : St} {Γ2 : Gm} (b : Back args Γ2 args') (S : Sta K O G H (sms vs) (sls args)) (s2 : Same G G2) (S2 : Sta K O G2 H2 σ2 Γ2) : Sta K O G2 H2 (sms vs) (sls args') := by
  obtain ⟨h1, h2⟩ := b.slots s2 S.sl S2.sl
  exact ⟨S2.g, S2.o, S2.d, h1, h2.nodup S2.nd, fun a ha => S2.ng a (h2.subset ha), fun a ha => S2.no a (h2.subset ha), S2.om⟩
theorem Back.sta1 {O G H G2 H2 : Hp} {vs : List V} {args args' : List Sl} {σ2 : St} {Γ2 : Gm} {v : V} {s : Sl} (b : Back args Γ2 args') (S : Sta K O G H (sms vs) (sls args)) (s2 : Same G G2) (S2 : Sta K O G2 H2 (some v :: σ2) (some s :: Γ2)) : Sta K O G2 H2 (some v :: sms vs) (some s :: sls args') := by
  obtain ⟨h1, h2⟩ := b.slots s2 S.sl S2.tail.sl
  have h3 : (fps (some s :: sls args')).Sublist (fps (some s :: Γ2)) := by simp only [fps]; exact (List.Sublist.refl _).append h2
  exact ⟨S2.g, S2.o, S2.d, .yes S2.head h1, h3.nodup S2.nd, fun a ha => S2.ng a (h3.subset ha), fun a ha => S2.no a (h3.subset ha), S2.om⟩
def poOf (args : List Sl) (R : Sl → List Sl → Prop) (Y : Addr → List (Str × Dt) → List Sl → Prop) : Po where
  nx := fun Γ2 => ∃ args', Back args Γ2 args' ∧ R (.fr .non) args'
  rt := fun s Γ2 => ∃ args', Back args Γ2 args' ∧ R s args'
  xc := fun C fs Γ2 => ∃ args', Back args Γ2 args' ∧ Y C fs args'
theorem slots_more {G H : Hp} {n : Nat} : ∀ {σ : St} {Γ : Gm}, Slots K G H σ Γ → Slots K G H (σ ++ List.replicate n none) (Γ ++ List.replicate n none)
  | _, _, .nil => by
    induction n with
    | zero => exact .nil
    | succ n ih => exact .no ih
  | _, _, .no r => .no (slots_more r)
  | _, _, .yes o r => .yes o (slots_more r)
theorem fps_more {n : Nat} : ∀ {Γ : Gm}, fps (Γ ++ List.replicate n none) = fps Γ
  | [] => by
    induction n with
    | zero => rfl
    | succ n ih => simpa [List.replicate_succ, fps, fpO] using ih
  | x :: r => by simp only [List.cons_append, fps]; rw [fps_more]
theorem Sta.more {O G H : Hp} {σ : St} (S : Sta K O G H σ Γ) (n : Nat) : Sta K O G H (σ ++ List.replicate n none) (Γ ++ List.replicate n none) :=
  ⟨S.g, S.o, S.d, slots_more S.sl, by rw [fps_more]; exact S.nd, fun a ha => S.ng a (by rw [fps_more] at ha; exact ha), fun a ha => S.no a (by rw [fps_more] at ha; exact ha), S.om⟩
def gm0 (n : Nat) (args : List Sl) : Gm := sls args ++ List.replicate (n - args.length) none
end
section
variable {P : Program} {w : World} {K : PySem.W.Frag} {mg : Str → Option Value} {base : Heap}
theorem fn_d {x qual : Str} {st : Stmt} {f : Addr} {fd : FuncData} {N ps : List Str} {k : Nat} {S : DSp} (F : Fun K x qual st f fd) (Sc : FnScope N ps (defScope st)) (len : ∀ args R Y, S args R Y → args.length = ps.length)
    (hbody : ∀ (cdv : Value) (A : Around) (outer : List Env) (s : Shared) (H : Hp) (E : XK), Room k (A.deeper (PyProof.Rows.envOfC qual (defScope st) s.heap.objs.size f cdv)) →
      ∃ t, PSs (cxOf (L2.CX P w) P w K mg base N qual (defScope st) f cdv A outer s H E) (defBody st) t ∧ ∀ args R Y, S args R Y → Go K (fun c d _ H => E c d H) t (gm0 N.length args) (poOf args R Y)) :
    FnOk P w K mg base (L2.CX P w) (k + 1) f fd ps (spD K S) := by
  refine F.okX Sc (fun vs H Q E h => ?_) (fun cdv A outer s H vs Q E hr h => ?_)
  · obtain ⟨O, G, args, R, Y, St, hS, _, _⟩ := h
    have l1 := len _ _ _ hS
    have l2 := St.sl.len
    simp at l2
    omega
  · obtain ⟨t, ht, go⟩ := hbody cdv A outer s H E hr
    refine ⟨t, ht, ?_⟩
    obtain ⟨O, G, args, R, Y, St, hS, hQ, hE⟩ := h
    have l2 : vs.length = args.length := by have := St.sl.len; simpa using this
    have St' := St.more (N.length - args.length)
    have e : L2.start N vs = sms vs ++ List.replicate (N.length - args.length) none := by unfold L2.start; rw [l2]
    rw [e]
    refine go args R Y hS O G H _ _ St' ?_ ?_ ?_ ?_ ?_
    · intro G2 H2 σ2 Γ2 s2 S2 ⟨args', b, p⟩
      exact hQ .non G2 H2 (.fr .non) args' s2 ((b.sta St s2 S2).pushF .non) p
    · intro v G2 H2 σ2 Γ2 z s2 S2 ⟨args', b, p⟩
      exact hQ v G2 H2 z args' s2 (b.sta1 St s2 S2) p
    · intro G2 H2 σ2 Γ2 s2 S2 p; exact p.elim
    · intro G2 H2 σ2 Γ2 s2 S2 p; exact p.elim
    · intro σ2 C d fs G2 H2 Γ2 s2 S2 r ⟨args', b, p⟩
      exact hE C d fs G2 H2 args' s2 (b.sta St s2 S2) r p
end
end DL
namespace L2
open PySem PySem.Spec PyProof.Rows
def rDG : R2 := fun x y H Q => ∃ a v, x = .ref a ∧ DGet H a y (some v) ∧ Q v H
def rDI (neg : Bool) : R2 := fun y x H Q => ∃ a o, x = .ref a ∧ DGet H a y o ∧ Q (.bl (o.isSome ^^ neg)) H
def rDL : List V → Hp → VK → Prop := fun xs H Q => ∃ a, xs = [.ref a] ∧ ((∃ kvs : List (Key × V), Rd H a (.dK kvs) ∧ Q (.int kvs.length) H) ∨ ∃ kvs : List (List Key × V), Rd H a (.dT kvs) ∧ Q (.int kvs.length) H)
section
variable {X : Cx}
theorem ix_dict (hu : X.A.units + 1 < cLine) : IxR X rDG := by
  intro value slice pins s σ H x y v u Q I rx ry h hs
  obtain ⟨a, z, rfl, g, q⟩ := h
  obtain rfl : v = Value.ref a := rx
  have hT := dict_typeIs I g
  have h2 := d_getItem (E := X.xe) (Q := EP X pins σ Q) hu I g ry fun w' s3 I3 rw' => ⟨z, H, I3, rw', q⟩
  unfold subscriptTail
  refine wpAny_bind ?_
  rw [getitemInPython_of_ne hT.not_modules]
  refine wpAny_bind (wpAny_specialOf hT PySem.F.slot_dict_getitem.lookup ?_)
  have fin : wpAny (model X.prog X.w) X.A (subscripted slice false (.ref a) u) (fun r s₃ => wpAny (model X.prog X.w) X.A (letTemporaryGo value (.ref a) r >>= fun _ => pure r) (EP X pins σ Q) X.xe s₃) X.xe s := by
    rw [hs]
    exact wpAny_operating (wpAny_mono h2 (fun r s₃ h₃ => wpAny_bind (wpAny_letTemporaryGo (wpAny_pure h₃))) fun _ _ x => x)
  first
    | exact wpAny_pure (wpAny_bind fin)
    | (refine wpAny_pure ?_; simpa using fin)
    | exact wpAny_bind fin
theorem call_len_dict2 : CallR X (.builtin "len") rDL := by
  intro pins s σ H xs us Q I r h
  obtain ⟨a, rfl, h⟩ := h
  obtain ⟨u, rfl, ru⟩ := vals1 r
  cases ru
  rcases h with ⟨kvs, ha, q⟩ | ⟨kvs, ha, q⟩
  · exact d_len I ha fun t s' I' => ⟨.int kvs.length, H, I', ⟨t, rfl⟩, q⟩
  · obtain ⟨z, hd, ys, rel, dd⟩ := dt_rd I.hok ha
    have hl : kvs.length = ys.length := Paired.length rel
    refine call_len_dictH hd dd (by rw [← hl]; rw [sizeLine_eq] at z; omega) ?_
    rw [← hl]
    exact ⟨.int ((kvs.length : Nat) : Int), H, I.tok _, ⟨_, rfl⟩, q⟩
theorem PSet.or {t t' : TSet} (h : PSet X t) (h' : PSet X t') : PSet X (fun o i v H Q => t o i v H Q ∨ t' o i v H Q) := by
  intro pins s σ H o i v ov iv u Q I ro ri rv q
  rcases q with q | q
  · exact h pins s σ H o i v ov iv u Q I ro ri rv q
  · exact h' pins s σ H o i v ov iv u Q I ro ri rv q
inductive Pins : Hp → (Hp → Prop) → Prop
  | done {H : Hp} {Q : Hp → Prop} : Q H → Pins H Q
  | pin {H : Hp} {Q : Hp → Prop} (d : Addr) (u : HO) : H d = some u → Mut (some u) → (∀ od, Pins (upd H d (.frz od u)) Q) → Pins H Q
theorem Inv.pins {pins : List (Addr × Obj)} {σ : St} {s : Shared} {H : Hp} {Q : Hp → Prop} (h : Pins H Q) (I : Inv X pins σ H s) : ∃ H', Inv X pins σ H' s ∧ Q H' := by
  induction h with
  | done q => exact ⟨_, I, q⟩
  | pin d u hd mu _ ih =>
    obtain ⟨od, I1⟩ := I.lock hd mu
    exact ih od I1
end
end L2
namespace DL
open PySem PySem.Spec L2
section
variable {κ β : Type} [DecidableEq κ]
def vA (kvs : List (κ × β)) (k : κ) : Option β := (kvs.find? fun kv => decide (kv.1 = k)).map (·.2)
def pA (kvs : List (κ × β)) (k : κ) (v : β) : List (κ × β) :=
  if (kvs.any fun kv => decide (kv.1 = k)) = true then kvs.map (fun kv => if kv.1 = k then (kv.1, v) else kv) else kvs ++ [(k, v)]
theorem vA_cons {p : κ × β} {r : List (κ × β)} {k : κ} : vA (p :: r) k = if p.1 = k then some p.2 else vA r k := by
  unfold vA
  rw [List.find?_cons]
  by_cases e : p.1 = k
  · rw [if_pos e, decide_eq_true e]; rfl
  · rw [if_neg e, decide_eq_false e]
theorem vA_mem {kvs : List (κ × β)} {k : κ} {v : β} (h : vA kvs k = some v) : (k, v) ∈ kvs := by
  induction kvs with
  | nil => cases h
  | cons p r ih =>
    rw [vA_cons] at h
    by_cases e : p.1 = k
    · rw [if_pos e] at h; cases h; rw [← e]; exact List.mem_cons_self ..
    · rw [if_neg e] at h; exact List.mem_cons_of_mem _ (ih h)
theorem vA_of {kvs : List (κ × β)} {k : κ} {v : β} (nd : (kvs.map (·.1)).Nodup) (h : (k, v) ∈ kvs) : vA kvs k = some v := by
  induction kvs with
  | nil => cases h
  | cons p r ih =>
    rw [List.map_cons, List.nodup_cons] at nd
    rw [vA_cons]
    rcases List.mem_cons.mp h with h | h
    · rw [← h, if_pos rfl]
    · rw [if_neg (fun e => nd.1 (by rw [e]; exact List.mem_map.mpr ⟨_, h, rfl⟩)), ih nd.2 h]
end
def kD : Key → Dt
  | .inl i => .int i
  | .inr s => .str s
abbrev kDs (k : List Key) : Dt := .tup (k.map kD)
section
variable {K : PySem.W.Frag} {G H : Hp}
theorem rep_kD (k : Key) : Rep K G (kV k) (kD k) := by
  cases k with
  | inl i => exact .int i
  | inr x => exact .str x
theorem kD_inj {v : V} {k : Key} (r : Rep K G v (kD k)) : v = kV k := by
  cases k with
  | inl i => cases r; rfl
  | inr x => cases r; rfl
theorem reps_kD {vs : List V} {k : List Key} (r : Reps K G vs (k.map kD)) : vs = k.map kV := by
  induction k generalizing vs with
  | nil => cases r; rfl
  | cons x k ih => cases r with | cons h t => rw [kD_inj h, ih t]; rfl
theorem reps_kV : ∀ k : List Key, Reps K G (k.map kV) (k.map kD)
  | [] => .nil
  | x :: k => .cons (rep_kD x) (reps_kV k)
theorem RepK.get {xs : List (Key × V)} {ds : List (Key × Dt)} (r : RepK K G xs ds) (k : Key) : (∀ d, vA ds k = some d → ∃ v, valV xs k = some v ∧ Rep K G v d) ∧ (vA ds k = none → valV xs k = none) := by
  induction ds generalizing xs with
  | nil => cases r; exact ⟨fun d h => (by cases h), fun _ => rfl⟩
  | cons p ds ih =>
    cases r with
    | @cons f v vs d' _ h t =>
      rw [vA_cons]
      by_cases e : f = k
      · rw [if_pos e]
        exact ⟨fun d q => by cases q; exact ⟨v, valV_pos (p := (f, v)) e, h⟩, fun q => by cases q⟩
      · rw [if_neg e]
        have z : valV ((f, v) :: vs) k = valV vs k := valV_neg (p := (f, v)) e
        rw [z]
        exact ih t
theorem RepT.get {xs : List (List Key × V)} {ds : List (List Key × Dt)} (r : RepT K G xs ds) (k : List Key) : (∀ d, vA ds k = some d → ∃ v, valV xs k = some v ∧ Rep K G v d) ∧ (vA ds k = none → valV xs k = none) := by
  induction ds generalizing xs with
  | nil => cases r; exact ⟨fun d h => (by cases h), fun _ => rfl⟩
  | cons p ds ih =>
    cases r with
    | @cons f v vs d' _ h t =>
      rw [vA_cons]
      by_cases e : f = k
      · rw [if_pos e]
        exact ⟨fun d q => by cases q; exact ⟨v, valV_pos (p := (f, v)) e, h⟩, fun q => by cases q⟩
      · rw [if_neg e]
        have z : valV ((f, v) :: vs) k = valV vs k := valV_neg (p := (f, v)) e
        rw [z]
        exact ih t
theorem RepK.length {xs : List (Key × V)} {ds : List (Key × Dt)} (r : RepK K G xs ds) : xs.length = ds.length := by
  induction ds generalizing xs with
  | nil => cases r; rfl
  | cons d ds ih => cases r with | cons h t => simp [ih t]
theorem RepT.length {xs : List (List Key × V)} {ds : List (List Key × Dt)} (r : RepT K G xs ds) : xs.length = ds.length := by
  induction ds generalizing xs with
  | nil => cases r; rfl
  | cons d ds ih => cases r with | cons h t => simp [ih t]
theorem RepK.any {xs : List (Key × V)} {ds : List (Key × Dt)} (r : RepK K G xs ds) (k : Key) : (xs.any fun kv => decide (kv.1 = k)) = ds.any fun kv => decide (kv.1 = k) := by
  induction ds generalizing xs with
  | nil => cases r; rfl
  | cons d ds ih => cases r with | cons h t => rw [List.any_cons, List.any_cons, ih t]
theorem RepT.any {xs : List (List Key × V)} {ds : List (List Key × Dt)} (r : RepT K G xs ds) (k : List Key) : (xs.any fun kv => decide (kv.1 = k)) = ds.any fun kv => decide (kv.1 = k) := by
  induction ds generalizing xs with
  | nil => cases r; rfl
  | cons d ds ih => cases r with | cons h t => rw [List.any_cons, List.any_cons, ih t]
theorem RepK.put {xs : List (Key × V)} {ds : List (Key × Dt)} {v : V} {d : Dt} (r : RepK K G xs ds) (k : Key) (h : Rep K G v d) : RepK K G (putK xs k v) (pA ds k d) := by
  unfold putK pA
  rw [r.any k]
  by_cases e : (ds.any fun kv => decide (kv.1 = k)) = true
  · rw [if_pos e, if_pos e]
    clear e
    induction ds generalizing xs with
    | nil => cases r; exact .nil
    | cons p ds ih =>
      cases r with
      | @cons f v' vs d' _ q t =>
        rw [List.map_cons, List.map_cons]
        by_cases e : f = k
        · rw [if_pos e, if_pos e]; exact .cons h (ih t)
        · rw [if_neg e, if_neg e]; exact .cons q (ih t)
  · rw [if_neg e, if_neg e]
    clear e
    induction ds generalizing xs with
    | nil => cases r; exact .cons h .nil
    | cons p ds ih => cases r with | cons q t => exact .cons q (ih t)
theorem RepT.put {xs : List (List Key × V)} {ds : List (List Key × Dt)} {v : V} {d : Dt} (r : RepT K G xs ds) (k : List Key) (h : Rep K G v d) : RepT K G (putK xs k v) (pA ds k d) := by
  unfold putK pA
  rw [r.any k]
  by_cases e : (ds.any fun kv => decide (kv.1 = k)) = true
  · rw [if_pos e, if_pos e]
    clear e
    induction ds generalizing xs with
    | nil => cases r; exact .nil
    | cons p ds ih =>
      cases r with
      | @cons f v' vs d' _ q t =>
        rw [List.map_cons, List.map_cons]
        by_cases e : f = k
        · rw [if_pos e, if_pos e]; exact .cons h (ih t)
        · rw [if_neg e, if_neg e]; exact .cons q (ih t)
  · rw [if_neg e, if_neg e]
    clear e
    induction ds generalizing xs with
    | nil => cases r; exact .cons h .nil
    | cons p ds ih => cases r with | cons q t => exact .cons q (ih t)
theorem RepK.at {xs : List (Key × V)} {ds : List (Key × Dt)} (r : RepK K G xs ds) {i : Nat} {k : Key} {v : V} (h : xs[i]? = some (k, v)) : ∃ d, ds[i]? = some (k, d) ∧ Rep K G v d := by
  induction ds generalizing xs i with
  | nil => cases r; simp at h
  | cons p ds ih =>
    cases r with
    | cons q t =>
      cases i with
      | zero => simp at h; obtain ⟨rfl, rfl⟩ := h; exact ⟨_, rfl, q⟩
      | succ i => simpa using ih t (by simpa using h)
theorem RepT.at {xs : List (List Key × V)} {ds : List (List Key × Dt)} (r : RepT K G xs ds) {i : Nat} {k : List Key} {v : V} (h : xs[i]? = some (k, v)) : ∃ d, ds[i]? = some (k, d) ∧ Rep K G v d := by
  induction ds generalizing xs i with
  | nil => cases r; simp at h
  | cons p ds ih =>
    cases r with
    | cons q t =>
      cases i with
      | zero => simp at h; obtain ⟨rfl, rfl⟩ := h; exact ⟨_, rfl, q⟩
      | succ i => simpa using ih t (by simpa using h)
theorem dget_K {a : Addr} {xs : List (Key × V)} {ds : List (Key × Dt)} {k : Key} (h : Rd H a (.dK xs)) : DGet H a (kV k) (valV xs k) := .inl ⟨xs, k, h, rfl, rfl⟩
theorem dget_T {a b : Addr} {xs : List (List Key × V)} {k : List Key} (h : Rd H a (.dT xs)) (hb : H b = some (.tup (k.map kV))) : DGet H a (.ref b) (valV xs k) := .inr ⟨xs, k, b, h, rfl, hb, rfl⟩
theorem isSome_val {α β : Type} {x : Option α} {y : Option β} {P : α → β → Prop} (h1 : ∀ d, y = some d → ∃ v, x = some v ∧ P v d) (h2 : y = none → x = none) : x.isSome = y.isSome := by
  cases y with
  | none => rw [h2 rfl]; rfl
  | some d => obtain ⟨v, e, _⟩ := h1 d rfl; rw [e]; rfl
end
end DL
namespace L2
open PySem PySem.Spec PyProof.Rows
def iSeq (K : PySem.W.Frag) (tl : TE) : TI := fun σ H R => tl σ H fun x H1 => (∃ a, x = .ref a ∧ (∃ xs, SqL K H1 a xs) ∧ R (Itl K a) H1) ∨ (∃ a, x = .ref a ∧ (∃ xs, SqT K H1 a xs) ∧ R (Itt K a) H1) ∨ (∃ z, x = .str z ∧ R (Its z) H1) ∨ ∃ d o, x = .ref d ∧ ((∃ kvs, H1 d = some (.frz o (.dK kvs)) ∧ R (Itk d o kvs) H1) ∨ ∃ kvs, H1 d = some (.frz o (.dT kvs)) ∧ R (Itkt d o kvs) H1)
theorem pi_seq {X : Cx} {tg l : Expr} {tl : TE} (hl : PE X l tl) : PI X tg l (iSeq X.K tl) := by
  refine ⟨fun pins s σ H R I h => ?_⟩
  refine thn (hl.run pins s σ H _ I h) fun v s1 ⟨x, H1, I1, r1, q1⟩ => ?_
  rcases q1 with ⟨a, e, ⟨xs, hq⟩, q⟩ | ⟨a, e, ⟨xs, hq⟩, q⟩ | ⟨z, e, q⟩ | ⟨d, o, e, q⟩
  · subst e
    cases r1
    obtain ⟨its, rv, p, hz⟩ := I1.list hq
    refine wpAny_pyIter_list p.isList ?_
    refine ⟨s1.heap.objs.size, [s1.heap.objs.size], _, _, H1, rfl, I1.kept (t' := s1.toks) fun b o e => Heap.get?_push_of_some _ e, turn_list a _, ⟨_, Heap.get?_push_size _ rfl, rfl, rfl⟩, fun b hb => ?_, q⟩
    have e : b = s1.heap.objs.size := by simpa using hb
    subst e
    exact I1.fpOk (Nat.le_refl _) (I1.hok.fresh (Nat.le_refl _))
  · subst e
    cases r1
    obtain ⟨its, rv, p, hz⟩ := I1.tuple hq
    refine wpAny_pyIter_tuple (show s1.heap.IsTuple a its.toArray from p) ?_
    refine ⟨s1.heap.objs.size, [s1.heap.objs.size], _, _, H1, rfl, I1.kept (t' := s1.toks) fun b o e => Heap.get?_push_of_some _ e, turn_tuple a _, ⟨_, Heap.get?_push_size _ rfl, rfl, rfl⟩, fun b hb => ?_, q⟩
    have e : b = s1.heap.objs.size := by simpa using hb
    subst e
    exact I1.fpOk (Nat.le_refl _) (I1.hok.fresh (Nat.le_refl _))
  · subst e
    obtain ⟨t, rfl⟩ := r1
    cases ha : z.cps.all (· < 128)
    · exact wpAny_pyIter_wide ha (pi_one (tk := s1.toks) I1 _ (turn_str _ z t "str_iterator" (.inr rfl)) ⟨_, Heap.get?_push_size _ rfl, rfl, rfl⟩ q)
    · exact wpAny_pyIter_ascii ha (pi_one (tk := s1.toks) I1 _ (turn_str _ z t "str_ascii_iterator" (.inl rfl)) ⟨_, Heap.get?_push_size _ rfl, rfl, rfl⟩ q)
  · subst e
    obtain rfl : v = Value.ref d := r1
    rcases q with ⟨kvs, hd, q⟩ | ⟨kvs, hd, q⟩
    · obtain ⟨hs, hgd, hx, es, ep, vs, hdt, hsz, kv, hm⟩ := I1.frzK hd
      refine iter_keys hs hgd hx hdt (pi_one (tk := s1.toks) I1 _ (turn_keys _ hdt) ⟨_, Heap.get?_push_size _ rfl, rfl, ?_⟩ q)
      rw [hsz] <;> rfl
    · obtain ⟨hs, hgd, hx, es, ep, hdt, hsz, ent⟩ := I1.frzT hd
      refine iter_keys hs hgd hx hdt (pi_one (tk := s1.toks) I1 _ (turn_keysT _ hdt) ⟨_, Heap.get?_push_size _ rfl, rfl, ?_⟩ q)
      rw [hsz] <;> rfl
end L2
namespace DL
open PySem PySem.Spec L2
section
variable {K : PySem.W.Frag} {W : WX} {Γ : Gm} {X : XP} {te ta tb : TE} {i : Nat} {PP : Po} {g : TG} {tbd : TS}
inductive SeqD : Dt → List Dt → Prop
  | lst (ds : List Dt) : SeqD (.lst ds) ds
  | tup (ds : List Dt) : SeqD (.tup ds) ds
  | scr (ns : List Int) : SeqD (.scr ns) (ns.map .int)
  | str (z : Str) : SeqD (.str z) (z.cps.toList.map fun c => .str ⟨#[c]⟩)
  | dK (kvs : List (Key × Dt)) : SeqD (.dK kvs) (kvs.map fun p => kD p.1)
  | dT (kvs : List (List Key × Dt)) : SeqD (.dT kvs) (kvs.map fun p => kDs p.1)
theorem ext_tup {G H : Hp} {q : Addr} {xs : List V} (g : Same G H) (h : H q = some (.tup xs)) : ∃ G', Ext G H G' H ∧ G' q = some (.tup xs) := by
  cases e : G q with
  | some o =>
    have := g q o e
    rw [h] at this
    cases this
    exact ⟨G, Ext.refl g, e⟩
  | none =>
    refine ⟨upd G q (.tup xs), ⟨fun b o z => ?_, Same.refl _, fun b o z => ?_, fun b z1 z2 => ?_⟩, upd_same⟩
    · rw [upd_ne (ne_of_none z e)]; exact z
    · by_cases hb : b = q
      · subst hb; rw [upd_same] at z; cases z; exact h
      · rw [upd_ne hb] at z; exact g b o z
    · by_cases hb : b = q
      · subst hb; right; rw [h]; exact MutT.no (fun z => z) fun ps e => by cases e
      · left; rw [upd_ne hb]; exact z2
theorem item_K {G2 H2 H3 : Hp} {kvs : List (Key × V)} {ds : List (Key × Dt)} {k : Nat} {x : Dt} {v : V} (rs : RepK K G2 kvs ds) (g2 : Same G2 H2) (hx : (ds.map fun p => kD p.1)[k]? = some x) (y : H3 = H2 ∧ ∃ k' v', kvs[k]? = some (k', v') ∧ v = kV k') : ∃ G4, Ext G2 H2 G4 H3 ∧ Rep K G4 v x := by
  obtain ⟨rfl, k', v', hk, rfl⟩ := y
  obtain ⟨d, hd, _⟩ := rs.at hk
  rw [List.getElem?_map, hd] at hx
  cases hx
  exact ⟨G2, Ext.refl g2, rep_kD k'⟩
theorem item_T {G2 H2 H3 : Hp} {kvs : List (List Key × V)} {ds : List (List Key × Dt)} {k : Nat} {x : Dt} {v : V} (rs : RepT K G2 kvs ds) (g2 : Same G2 H2) (hx : (ds.map fun p => kDs p.1)[k]? = some x) (y : H3 = H2 ∧ ∃ (k' : List Key) (v' : V) (q : Addr), kvs[k]? = some (k', v') ∧ v = .ref q ∧ H2 q = some (.tup (k'.map kV))) : ∃ G4, Ext G2 H2 G4 H3 ∧ Rep K G4 v x := by
  obtain ⟨rfl, k', v', q, hk, rfl, hq⟩ := y
  obtain ⟨d, hd, _⟩ := rs.at hk
  rw [List.getElem?_map, hd] at hx
  cases hx
  obtain ⟨G4, ex, h4⟩ := ext_tup g2 hq
  exact ⟨G4, ex, .tup h4 (reps_kV k')⟩
abbrev turnPo (PP : Po) (N : Gm → Prop) : Po := { PP with nx := N, ct := N, bk := PP.nx }
theorem go_walk {O G H : Hp} {σ : St} {D : Ends} {J : It} {n : Nat} {GG : Hp → Prop} {Y : Nat → Hp → V → Hp → Prop} (w : Walk J n GG Y) (xs : List Dt) (hn : n = xs.length) (S : Sta K O G H σ Γ) (hG : ∀ H', Same G H' → GG H')
    (hY : ∀ k x v G1 H1 H2, k < n → xs[k]? = some x → Same G G1 → Same G1 H1 → Y k H1 v H2 → ∃ G2, Ext G1 H1 G2 H2 ∧ Rep K G2 v x)
    (a : ∀ (G2 H2 : Hp) (σ2 : St) (Γ2 : Gm), Same G G2 → Sta K O G2 H2 σ2 Γ2 → PP.nx Γ2 → D.nx σ2 H2) (b : ∀ (v : V) (G2 H2 : Hp) (σ2 : St) (Γ2 : Gm) (s : Sl), Same G G2 → Sta K O G2 H2 (some v :: σ2) (some s :: Γ2) → PP.rt s Γ2 → D.rt v H2) (e : ∀ σ2, XOk K W O G σ2 PP.xc)
    (I : Nat → Gm → Prop) (h0 : I 0 Γ) (hs : ∀ k x Γ2, xs[k]? = some x → I k Γ2 → GoG K W g x Γ2 (fun Γ3 => Go K W tbd Γ3 (turnPo PP (I (k + 1)))) PP.xc) (hd : ∀ Γ2, I xs.length Γ2 → PP.nx Γ2) :
    ∃ W : Nat → Nat → St → Hp → Prop, (∃ m, W 0 m σ H) ∧ ∀ i m σ H, W i m σ H →
      (J.stop i H ∧ D.nx σ H) ∨ (J.go i H ∧ ∃ N : St → Hp → Prop, (∀ σ' H', N σ' H' → ∃ m', m' < m ∧ W (i + 1) m' σ' H') ∧ ∀ x H', J.yld i H x H' → g x σ H' fun σ2 H2 => tbd { D with nx := N, ct := N, bk := D.nx } σ2 H2) := by
  refine for_it w (fun k σ2 H2 => ∃ G2 Γ2, Same G G2 ∧ Sta K O G2 H2 σ2 Γ2 ∧ I k Γ2) ⟨G, Γ, Same.refl _, S, h0⟩ (fun k σ2 H2 _ ⟨G2, Γ2, s2, S2, _⟩ => hG H2 (s2.trans S2.g)) ?_ ?_
  · intro k v σ2 H2 H3 hk ⟨G2, Γ2, s2, S2, p⟩ y
    have hx : xs[k]? = some (xs[k]'(by omega)) := by simp
    obtain ⟨G3, ex, r⟩ := hY k _ v G2 H2 H3 hk hx s2 S2.g y
    refine hs k _ Γ2 hx p O G3 H3 σ2 v _ (S2.ext ex) r (fun G4 H4 σ4 Γ4 s4 S4 p4 => ?_) fun σ5 => (e σ5).mono (s2.trans ex.g)
    have s24 : Same G G4 := s2.trans (ex.g.trans s4)
    exact p4 O G4 H4 σ4 _ S4 (fun G5 H5 σ5 Γ5 s5 S5 p5 => ⟨G5, Γ5, s24.trans s5, S5, p5⟩) (fun v G5 H5 σ5 Γ5 z s5 S5 p5 => b v G5 H5 σ5 Γ5 z (s24.trans s5) S5 p5) (fun G5 H5 σ5 Γ5 s5 S5 p5 => a G5 H5 σ5 Γ5 (s24.trans s5) S5 p5)
      (fun G5 H5 σ5 Γ5 s5 S5 p5 => ⟨G5, Γ5, s24.trans s5, S5, p5⟩) fun σ5 => (e σ5).mono s24
  · intro σ2 H2 ⟨G2, Γ2, s2, S2, p⟩
    exact a G2 H2 σ2 Γ2 s2 S2 (hd Γ2 (by rw [← hn]; exact p))
theorem go_while {tc : TT} (I : Nat → Gm → Prop) (m : Nat) (h0 : I m Γ) (hs : ∀ m Γ2, I m Γ2 → EvT K W tc Γ2 (fun b Γ3 => (b = true → Go K W tbd Γ3 (turnPo PP fun Γ4 => ∃ m', m' < m ∧ I m' Γ4)) ∧ (b = false → PP.nx Γ3)) PP.xc) :
    Go K W (tWhile tc tbd) Γ PP := fun O G H σ D S a b c d e => by
  refine ⟨fun m σ2 H2 => ∃ G2 Γ2, Same G G2 ∧ Sta K O G2 H2 σ2 Γ2 ∧ I m Γ2, ⟨m, G, Γ, Same.refl _, S, h0⟩, fun m σ2 H2 ⟨G2, Γ2, s2, S2, p⟩ => ?_⟩
  refine hs m Γ2 p O G2 H2 σ2 _ S2 (fun bb G3 H3 Γ3 s3 S3 ⟨p1, p2⟩ => ?_) ((e σ2).mono s2)
  have s23 : Same G G3 := s2.trans s3
  cases bb with
  | true =>
    refine iteT ⟨fun σ4 H4 => ∃ m', m' < m ∧ ∃ G4 Γ4, Same G G4 ∧ Sta K O G4 H4 σ4 Γ4 ∧ I m' Γ4, fun σ4 H4 z => z, ?_⟩
    exact p1 rfl O G3 H3 σ2 _ S3 (fun G5 H5 σ5 Γ5 s5 S5 ⟨m', hm, p5⟩ => ⟨m', hm, G5, Γ5, s23.trans s5, S5, p5⟩) (fun v G5 H5 σ5 Γ5 z s5 S5 p5 => b v G5 H5 σ5 Γ5 z (s23.trans s5) S5 p5) (fun G5 H5 σ5 Γ5 s5 S5 p5 => a G5 H5 σ5 Γ5 (s23.trans s5) S5 p5)
      (fun G5 H5 σ5 Γ5 s5 S5 ⟨m', hm, p5⟩ => ⟨m', hm, G5, Γ5, s23.trans s5, S5, p5⟩) fun σ5 => (e σ5).mono s23
  | false => exact iteF (a G3 H3 σ2 Γ3 s23 S3 (p2 rfl))
theorem ev_xf {a C : Addr} {d : Option Addr} {fs : List (Str × Dt)} {f : Str} {y : Dt} {P : Dt → Gm → Prop} (h : Γ[i]? = some (some (.ex a C d fs))) (hf : fs.lookup f = some y) (p : P y Γ) : Ev K W (tXf a (.ref C) d C f (tVar i)) Γ P X := fun O G H σ Q S q _ => by
  obtain ⟨v, e, o⟩ := S.get h
  cases o with
  | ex r =>
    cases r with
    | none => simp at hf
    | @some dd fsv _ hd rf =>
      obtain ⟨u, hu, ru⟩ := rf.look hf
      exact ⟨_, e, rfl, rfl, dd, fsv, u, rfl, S.g _ _ hd, hu, q u G H Γ y (Same.refl _) S ru p⟩
end
end DL
namespace L2
open PySem PySem.Spec PyProof.Rows
section
variable {X : Cx}
def rAddP (K : PySem.W.Frag) : R2 := fun x y H Q => rI0 (fun i j => .int (i + j)) x y H Q ∨ (∃ i j, x = .str i ∧ y = .str j ∧ i.length + j.length ≤ sizeLine ∧ Q (.str (i ++ j)) H) ∨ rCat x y H Q ∨ rCatA K x y H Q
theorem op_addP : OpR X (binaryOp .Add) (rAddP X.K) := op_add.or (op_add_str.or (op_cat.or op_catA))
def rSubP : R2 := rI0 fun i j => .int (i - j)
theorem op_subP : OpR X (binaryOp .Sub) rSubP := op_sub
def rMulP : R2 := rI CMul fun i j => .int (i * j)
theorem op_mulP : OpR X (binaryOp .Mult) rMulP := op_mul
def rFdivP : R2 := rI CDiv fun i j => .int (i / j)
theorem op_fdivP : OpR X (binaryOp .FloorDiv) rFdivP := op_fdiv
def rModP : R2 := rI (fun _ j => 0 < j) fun i j => .int (i % j)
theorem op_modP : OpR X (binaryOp .Mod) rModP := op_mod
def rPowP : R2 := rI CPow fun i j => .int (i ^ j.toNat)
theorem op_powP : OpR X (binaryOp .Pow) rPowP := op_pow
def rLtP : R2 := rI0 fun i j => .bl (decide (i < j))
def rLeP : R2 := rI0 fun i j => .bl (decide (i ≤ j))
def rGtP : R2 := rI0 fun i j => .bl (decide (j < i))
def rGeP : R2 := rI0 fun i j => .bl (decide (j ≤ i))
theorem op_ltP : OpR X (compareOp .Lt) rLtP := op_lt
theorem op_leP : OpR X (compareOp .LtE) rLeP := op_le
theorem op_gtP : OpR X (compareOp .Gt) rGtP := op_gt
theorem op_geP : OpR X (compareOp .GtE) rGeP := op_ge
def rEqP (K : PySem.W.Frag) : R2 := fun x y H Q => rEq x y H Q ∨ rEqD K x y H Q
def rNeP (K : PySem.W.Frag) : R2 := fun x y H Q => rNe x y H Q ∨ rNeD K x y H Q
theorem op_eqP (hu : X.A.units + 64 < cLine) : OpR X (compareOp .Eq) (rEqP X.K) := op_eq.or (op_eqD hu)
theorem op_neP (hu : X.A.units + 64 < cLine) : OpR X (compareOp .NotEq) (rNeP X.K) := op_ne.or (op_neD hu)
def rIsP : R2 := fun x y H Q => y = .non ∧ Q (.bl (decide (x = .non))) H
def rIsntP : R2 := fun x y H Q => y = .non ∧ Q (.bl (!decide (x = .non))) H
theorem op_isP : OpR X (compareOp .Is) rIsP := op_isN
theorem op_isntP : OpR X (compareOp .IsNot) rIsntP := op_notN
def rInP (K : PySem.W.Frag) : R2 := fun x y H Q => (∃ (c : Nat) (z : Str), x = .str ⟨#[c]⟩ ∧ y = .str z ∧ Q (.bl (decide (c ∈ z.cps.toList))) H) ∨ rIn K false x y H Q ∨ rDI false x y H Q
def rNotInP (K : PySem.W.Frag) : R2 := fun x y H Q => (∃ (c : Nat) (z : Str), x = .str ⟨#[c]⟩ ∧ y = .str z ∧ Q (.bl (!decide (c ∈ z.cps.toList))) H) ∨ rIn K true x y H Q ∨ rDI true x y H Q
def rIxP (K : PySem.W.Frag) : R2 := fun x y H Q => rIx K x y H Q ∨ rDG x y H Q
theorem ix_P (hu : X.A.units + 1 < cLine) : IxR X (rIxP X.K) := ix_seq.or (ix_dict hu)
def rSlP (K : PySem.W.Frag) : V → Option Int → Option Int → Hp → VK → Prop := fun x lo hi H Q => rSlL K x lo hi H Q ∨ rSlA K x lo hi H Q ∨ rSlS x lo hi H Q
theorem sl_P : SlR X (rSlP X.K) := sl_list.or (sl_tupA.or sl_str)
def rLenP (K : PySem.W.Frag) : List V → Hp → VK → Prop := fun xs H Q => (∃ x n, xs = [x] ∧ LenV K x H n ∧ Q (.int n) H) ∨ rDL xs H Q
theorem call_lenP : CallR X (.builtin "len") (rLenP X.K) := call_len.or call_len_dict2
def rAbsP : List V → Hp → VK → Prop := fun xs H Q => ∃ i, xs = [.int i] ∧ Q (.int (if i < 0 then -i else i)) H
theorem call_absP : CallR X (.builtin "abs") rAbsP := call_abs
def rMaxP : List V → Hp → VK → Prop := fun xs H Q => ∃ i j, xs = [.int i, .int j] ∧ Q (.int (if j > i then j else i)) H
def rMinP : List V → Hp → VK → Prop := fun xs H Q => ∃ i j, xs = [.int i, .int j] ∧ Q (.int (if j < i then j else i)) H
theorem call_maxP (hc : X.calm = true) : CallR X (.builtin "max") rMaxP := call_max2 hc
def rIntP : List V → Hp → VK → Prop := fun xs H Q => ((∃ i, xs = [.int i] ∧ Q (.int i) H) ∨ ∃ k, xs = [.bl k] ∧ Q (.int (if k then 1 else 0)) H) ∨ (∃ a n, xs = [.str a] ∧ PySem.intText? a = some n ∧ a.length ≤ 640 ∧ Q (.int n) H)
theorem call_intP : CallR X (.type "int") rIntP := call_int1.or call_int_str
def rStrP : List V → Hp → VK → Prop := fun xs H Q => ∃ i, xs = [.int i] ∧ i.natAbs.log2 < 1920 ∧ Q (.str (toString i)) H
def rListP (K : PySem.W.Frag) : List V → Hp → VK → Prop := fun xs H Q => ∃ p ys, xs = [.ref p] ∧ (SqL K H p ys ∨ SqT K H p ys) ∧ ∀ l, H l = none → Q (.ref l) (upd H l (.lst ys))
theorem call_listP : CallR X (.type "list") (rListP X.K) := call_list_of
def rTupleP (K : PySem.W.Frag) : List V → Hp → VK → Prop := fun xs H Q => ∃ p ys, xs = [.ref p] ∧ ((SqL K H p ys ∧ ∀ l, H l = none → Q (.ref l) (upd H l (.tup ys))) ∨ (SqT K H p ys ∧ Q (.ref p) H))
theorem call_tupleP : CallR X (.type "tuple") (rTupleP X.K) := call_tuple_of
end
end L2
namespace DL
open PySem PySem.Spec L2
def dI (C : Int → Int → Prop) (g : Int → Int → Dt) : Dt → Dt → (Dt → Prop) → Prop := fun x y R => ∃ i j, x = .int i ∧ y = .int j ∧ C i j ∧ R (g i j)
def dI0 (g : Int → Int → Dt) : Dt → Dt → (Dt → Prop) → Prop := fun x y R => ∃ i j, x = .int i ∧ y = .int j ∧ R (g i j)
def dAdd : Dt → Dt → (Dt → Prop) → Prop
  | .int i, .int j, R => R (.int (i + j))
  | .str x, .str y, R => x.length + y.length ≤ sizeLine ∧ R (.str (x ++ y))
  | .lst a, .lst b, R => a.length + b.length ≤ 1000000 ∧ R (.lst (a ++ b))
  | .tup a, .tup b, R => a.length + b.length ≤ 1000000 ∧ R (.tup (a ++ b))
  | _, _, _ => False
mutual
def Dt.py : Dt → Option PyData
  | .non => some .none
  | .bl b => some (.bool b)
  | .int i => some (.int i)
  | .str x => some (.str x)
  | .lst xs => (pyL xs).map .list
  | .tup xs => (pyL xs).map .tuple
  | _ => none
def pyL : List Dt → Option (List PyData)
  | [] => some []
  | x :: xs => match x.py, pyL xs with
    | some p, some ps => some (p :: ps)
    | _, _ => none
end
def eqS : Dt → Dt → Option Bool
  | .int i, .int j => some (decide (i = j))
  | .str i, .str j => some (decide (i = j))
  | .bl i, .bl j => some (decide (i = j))
  | .non, .non => some true
  | .non, .int _ | .int _, .non | .non, .bl _ | .bl _, .non | .non, .str _ | .str _, .non => some false
  | .int _, .str _ | .str _, .int _ | .bl _, .str _ | .str _, .bl _ => some false
  | _, _ => none
def dEq (x y : Dt) (R : Dt → Prop) : Prop := (∃ b, eqS x y = some b ∧ R (.bl b)) ∨ ∃ p q, x.py = some p ∧ y.py = some q ∧ SeqAt.shaped p = true ∧ SeqAt.shaped q = true ∧ R (.bl (PyData.eqv p q))
def dNe (x y : Dt) (R : Dt → Prop) : Prop := (∃ b, eqS x y = some b ∧ R (.bl (!b))) ∨ ∃ p q, x.py = some p ∧ y.py = some q ∧ SeqAt.shaped p = true ∧ SeqAt.shaped q = true ∧ R (.bl (!PyData.eqv p q))
def isNon : Dt → Bool
  | .non => true
  | _ => false
def dIs (x y : Dt) (R : Dt → Prop) : Prop := y = .non ∧ R (.bl (isNon x))
def dIsnt (x y : Dt) (R : Dt → Prop) : Prop := y = .non ∧ R (.bl (!isNon x))
def flatD : Dt → Bool
  | .non => true
  | .bl _ => true
  | .int _ => true
  | .str _ => true
  | _ => false
def toV : Dt → V
  | .bl b => .bl b
  | .int i => .int i
  | .str x => .str x
  | _ => .non
def dIn (neg : Bool) : Dt → Dt → (Dt → Prop) → Prop
  | x, .str z, R => ∃ c, x = .str ⟨#[c]⟩ ∧ R (.bl (neg ^^ decide (c ∈ z.cps.toList)))
  | x, .lst ds, R => flatD x = true ∧ ds.all flatD = true ∧ R (.bl (neg ^^ inV (toV x) (ds.map toV)))
  | x, .tup ds, R => flatD x = true ∧ ds.all flatD = true ∧ R (.bl (neg ^^ inV (toV x) (ds.map toV)))
  | x, .dK kvs, R => ∃ k, x = kD k ∧ R (.bl ((vA kvs k).isSome ^^ neg))
  | x, .dT kvs, R => ∃ k, x = kDs k ∧ R (.bl ((vA kvs k).isSome ^^ neg))
  | _, _, _ => False
def dIx : Dt → Dt → (Dt → Prop) → Prop
  | .lst ds, y, R => ∃ j v, y = .int j ∧ atI ds j = some v ∧ R v
  | .tup ds, y, R => ∃ j v, y = .int j ∧ atI ds j = some v ∧ R v
  | .scr ns, y, R => ∃ j v, y = .int j ∧ atI ns j = some v ∧ R (.int v)
  | .str z, y, R => ∃ j c, y = .int j ∧ z.length ≤ sizeLine ∧ atI z.cps.toList j = some c ∧ R (.str ⟨#[c]⟩)
  | .dK kvs, y, R => ∃ k v, y = kD k ∧ vA kvs k = some v ∧ R v
  | .dT kvs, y, R => ∃ k v, y = kDs k ∧ vA kvs k = some v ∧ R v
  | _, _, _ => False
def cutD (xs : List Dt) (lo hi : Option Int) : List Dt := (xs.drop (HT.sIx xs.length 0 lo)).take (HT.sIx xs.length xs.length hi - HT.sIx xs.length 0 lo)
def dSl : Dt → Option Int → Option Int → (Dt → Prop) → Prop
  | .lst ds, lo, hi, R => R (.lst (cutD ds lo hi))
  | .tup ds, lo, hi, R => R (.tup (cutD ds lo hi))
  | .str z, lo, hi, R => z.length ≤ sizeLine ∧ R (.str (cutS z lo hi))
  | _, _, _, _ => False
def dLen : List Dt → (Dt → Prop) → Prop
  | [.lst ds], R => R (.int ds.length)
  | [.tup ds], R => R (.int ds.length)
  | [.scr ns], R => R (.int ns.length)
  | [.str z], R => z.length ≤ sizeLine ∧ R (.int z.length)
  | [.dK kvs], R => R (.int kvs.length)
  | [.dT kvs], R => R (.int kvs.length)
  | _, _ => False
def dAbs (ds : List Dt) (R : Dt → Prop) : Prop := ∃ i, ds = [.int i] ∧ R (.int (if i < 0 then -i else i))
def dMax (ds : List Dt) (R : Dt → Prop) : Prop := ∃ i j, ds = [.int i, .int j] ∧ R (.int (if j > i then j else i))
def dMin (ds : List Dt) (R : Dt → Prop) : Prop := ∃ i j, ds = [.int i, .int j] ∧ R (.int (if j < i then j else i))
def dInt : List Dt → (Dt → Prop) → Prop
  | [.int i], R => R (.int i)
  | [.bl b], R => R (.int (if b then 1 else 0))
  | [.str z], R => ∃ n, PySem.intText? z = some n ∧ z.length ≤ 640 ∧ R (.int n)
  | _, _ => False
def dStr (ds : List Dt) (R : Dt → Prop) : Prop := ∃ i, ds = [.int i] ∧ i.natAbs.log2 < 1920 ∧ R (.str (toString i))
def dList : List Dt → (Dt → Prop) → Prop
  | [.lst ds], R => R (.lst ds)
  | [.tup ds], R => R (.lst ds)
  | _, _ => False
def dTuple : List Dt → (Dt → Prop) → Prop
  | [.lst ds], R => R (.tup ds)
  | [.tup ds], R => R (.tup ds)
  | _, _ => False
section
variable {K : PySem.W.Frag}
theorem rd_I {C : Int → Int → Prop} {g : Int → Int → V} {g' : Int → Int → Dt} (hg : ∀ i j G, Rep K G (g i j) (g' i j)) : RD K (rI C g) (dI C g') := fun G H x y dx dy R Q s rx ry ⟨i, j, ex, ey, c, p⟩ q => by
  subst ex ey; cases rx; cases ry
  exact ⟨i, j, rfl, rfl, c, q _ G H _ (Ext.refl s) (hg i j G) p⟩
theorem rd_I0 {g : Int → Int → V} {g' : Int → Int → Dt} (hg : ∀ i j G, Rep K G (g i j) (g' i j)) : RD K (rI0 g) (dI0 g') := fun G H x y dx dy R Q s rx ry ⟨i, j, ex, ey, p⟩ q => by
  subst ex ey; cases rx; cases ry
  exact ⟨i, j, rfl, rfl, q _ G H _ (Ext.refl s) (hg i j G) p⟩
theorem rd_sub : RD K rSubP (dI0 fun i j => .int (i - j)) := rd_I0 fun _ _ _ => .int _
theorem rd_mul : RD K rMulP (dI CMul fun i j => .int (i * j)) := rd_I fun _ _ _ => .int _
theorem rd_fdiv : RD K rFdivP (dI CDiv fun i j => .int (i / j)) := rd_I fun _ _ _ => .int _
theorem rd_mod : RD K rModP (dI (fun _ j => 0 < j) fun i j => .int (i % j)) := rd_I fun _ _ _ => .int _
theorem rd_pow : RD K rPowP (dI CPow fun i j => .int (i ^ j.toNat)) := rd_I fun _ _ _ => .int _
theorem rd_lt : RD K rLtP (dI0 fun i j => .bl (decide (i < j))) := rd_I0 fun _ _ _ => .bl _
theorem rd_le : RD K rLeP (dI0 fun i j => .bl (decide (i ≤ j))) := rd_I0 fun _ _ _ => .bl _
theorem rd_gt : RD K rGtP (dI0 fun i j => .bl (decide (j < i))) := rd_I0 fun _ _ _ => .bl _
theorem rd_ge : RD K rGeP (dI0 fun i j => .bl (decide (j ≤ i))) := rd_I0 fun _ _ _ => .bl _
theorem big_ok {n : Nat} (h : n ≤ 1000000) : n ≤ sizeLine := Nat.le_trans h (by decide)
theorem rd_add : RD K (rAddP K) dAdd := fun G H x y dx dy R Q s rx ry h q => by
  unfold dAdd at h
  split at h
  · cases rx; cases ry
    exact .inl ⟨_, _, rfl, rfl, q _ G H _ (Ext.refl s) (.int _) h⟩
  · cases rx; cases ry
    obtain ⟨l, p⟩ := h
    exact .inr (.inl ⟨_, _, rfl, rfl, l, q _ G H _ (Ext.refl s) (.str _) p⟩)
  · obtain ⟨l, p⟩ := h
    cases rx with
    | lst h1 r1 =>
    cases ry with
    | lst h2 r2 =>
    refine .inr (.inr (.inl ⟨_, _, _, _, rfl, rfl, s _ _ h1, s _ _ h2, by rw [r1.length, r2.length]; exact big_ok l, fun a na => ?_⟩))
    exact q _ _ _ _ (Ext.new s na) (Rep.newL s na (r1.append r2)) p
  · obtain ⟨l, p⟩ := h
    cases rx with
    | @tup a1 xs1 ds1 h1 r1 =>
    cases ry with
    | @tup a2 xs2 ds2 h2 r2 =>
    refine .inr (.inr (.inr ⟨_, _, _, _, rfl, rfl, SqT.of (s _ _ h1), SqT.of (s _ _ h2), by rw [r1.length, r2.length]; exact big_ok l, fun e => ?_, fun _ e => ?_, fun _ _ a na => ?_⟩))
    · subst e; cases r1
      exact q _ G H _ (Ext.refl s) (.tup h2 r2) p
    · subst e; cases r2
      rw [List.append_nil] at p
      exact q _ G H _ (Ext.refl s) (.tup h1 r1) p
    · exact q _ _ _ _ (Ext.new s na) (Rep.newT s na (r1.append r2)) p
  · exact h.elim
mutual
theorem rep_dp {G H : Hp} (s : Same G H) : ∀ {v : V} {d : Dt} {p : PyData}, Rep K G v d → d.py = some p → Dp K H v p
  | _, _, _, .non, h => by simp [Dt.py] at h; subst h; exact .non
  | _, _, _, .bl b, h => by simp [Dt.py] at h; subst h; exact .bl b
  | _, _, _, .int i, h => by simp [Dt.py] at h; subst h; exact .int i
  | _, _, _, .str x, h => by simp [Dt.py] at h; subst h; exact .str x
  | _, _, _, .ty _, h => by simp [Dt.py] at h
  | _, _, _, .ref _, h => by simp [Dt.py] at h
  | _, _, _, .lst ha r, h => by
    simp only [Dt.py, Option.map_eq_some_iff] at h
    obtain ⟨ps, e, rfl⟩ := h
    exact .lst (SqL.of (s _ _ ha)) (reps_dp s r e)
  | _, _, _, .tup ha r, h => by
    simp only [Dt.py, Option.map_eq_some_iff] at h
    obtain ⟨ps, e, rfl⟩ := h
    exact .tup (SqT.of (s _ _ ha)) (reps_dp s r e)
  | _, _, _, .scr _, h => by simp [Dt.py] at h
  | _, _, _, .obj _ _, h => by simp [Dt.py] at h
  | _, _, _, .dK _ _, h => by simp [Dt.py] at h
  | _, _, _, .dT _ _, h => by simp [Dt.py] at h
  | _, _, _, .exc _ _, h => by simp [Dt.py] at h
  | _, _, _, .at_ _, h => by simp [Dt.py] at h
  | _, _, _, .fn _ _, h => by simp [Dt.py] at h
  | _, _, _, .dN _ _, h => by simp [Dt.py] at h
theorem reps_dp {G H : Hp} (s : Same G H) : ∀ {v : List V} {d : List Dt} {p : List PyData}, Reps K G v d → pyL d = some p → DpAll K H v p
  | _, _, _, .nil, h => by simp [pyL] at h; subst h; exact .nil
  | _, _, _, .cons (d := d) (ds := ds) r1 r2, h => by
    simp only [pyL] at h
    cases e1 : d.py with
    | none => rw [e1] at h; cases h
    | some p1 =>
      cases e2 : pyL ds with
      | none => rw [e1, e2] at h; cases h
      | some p2 => rw [e1, e2] at h; cases h; exact .cons (rep_dp s r1 e1) (reps_dp s r2 e2)
end
theorem eqS_ok {G : Hp} {x y : V} {dx dy : Dt} {b : Bool} (rx : Rep K G x dx) (ry : Rep K G y dy) (h : eqS dx dy = some b) : scal x y = true ∧ decide (x = y) = b := by
  cases rx <;> cases ry <;> simp [eqS] at h <;> subst h <;> simp [scal]
theorem rd_eq : RD K (rEqP K) dEq := fun G H x y dx dy R Q s rx ry h q => by
  rcases h with ⟨b, e, p⟩ | ⟨p', q', e1, e2, s1, s2, p⟩
  · obtain ⟨h1, h2⟩ := eqS_ok rx ry e
    exact .inl ⟨h1, by rw [h2]; exact q _ G H _ (Ext.refl s) (.bl b) p⟩
  · exact .inr ⟨p', q', rep_dp s rx e1, rep_dp s ry e2, s1, s2, q _ G H _ (Ext.refl s) (.bl _) p⟩
theorem rd_ne : RD K (rNeP K) dNe := fun G H x y dx dy R Q s rx ry h q => by
  rcases h with ⟨b, e, p⟩ | ⟨p', q', e1, e2, s1, s2, p⟩
  · obtain ⟨h1, h2⟩ := eqS_ok rx ry e
    exact .inl ⟨h1, by rw [h2]; exact q _ G H _ (Ext.refl s) (.bl _) p⟩
  · exact .inr ⟨p', q', rep_dp s rx e1, rep_dp s ry e2, s1, s2, q _ G H _ (Ext.refl s) (.bl _) p⟩
theorem non_ok {G : Hp} {x : V} {dx : Dt} (rx : Rep K G x dx) : decide (x = .non) = isNon dx := by
  cases rx <;> simp [isNon]
theorem rd_is : RD K rIsP dIs := fun G H x y dx dy R Q s rx ry ⟨e, p⟩ q => by
  subst e; cases ry
  exact ⟨rfl, by rw [non_ok rx]; exact q _ G H _ (Ext.refl s) (.bl _) p⟩
theorem rd_isnt : RD K rIsntP dIsnt := fun G H x y dx dy R Q s rx ry ⟨e, p⟩ q => by
  subst e; cases ry
  exact ⟨rfl, by rw [non_ok rx]; exact q _ G H _ (Ext.refl s) (.bl _) p⟩
theorem flat_ok {G : Hp} {x : V} {dx : Dt} (rx : Rep K G x dx) (h : flatD dx = true) : flatV x = true ∧ toV dx = x := by
  cases rx <;> simp [flatD] at h <;> exact ⟨rfl, rfl⟩
theorem flats_ok {G : Hp} : ∀ {xs : List V} {ds : List Dt}, Reps K G xs ds → ds.all flatD = true → xs.all flatV = true ∧ ds.map toV = xs
  | _, _, .nil, _ => ⟨rfl, rfl⟩
  | _, _, .cons r t, h => by
    rw [List.all_cons, Bool.and_eq_true] at h
    obtain ⟨h1, h2⟩ := flat_ok r h.1
    obtain ⟨h3, h4⟩ := flats_ok t h.2
    exact ⟨by rw [List.all_cons, h1, h3]; rfl, by rw [List.map_cons, h2, h4]⟩
theorem rd_in : RD K (rInP K) (dIn false) := fun G H x y dx dy R Q s rx ry h q => by
  unfold dIn at h
  split at h
  · obtain ⟨c, e, p⟩ := h
    subst e; cases rx; cases ry
    exact .inl ⟨c, _, rfl, rfl, q _ G H _ (Ext.refl s) (.bl _) (by simpa using p)⟩
  · obtain ⟨f1, f2, p⟩ := h
    cases ry with
    | lst ha r =>
      obtain ⟨h1, h2⟩ := flat_ok rx f1
      obtain ⟨h3, h4⟩ := flats_ok r f2
      rw [h2, h4] at p
      exact .inr (.inl ⟨_, _, rfl, .inl (SqL.of (s _ _ ha)), h1, h3, q _ G H _ (Ext.refl s) (.bl _) (by simpa using p)⟩)
  · obtain ⟨f1, f2, p⟩ := h
    cases ry with
    | tup ha r =>
      obtain ⟨h1, h2⟩ := flat_ok rx f1
      obtain ⟨h3, h4⟩ := flats_ok r f2
      rw [h2, h4] at p
      exact .inr (.inl ⟨_, _, rfl, .inr (SqT.of (s _ _ ha)), h1, h3, q _ G H _ (Ext.refl s) (.bl _) (by simpa using p)⟩)
  · obtain ⟨k, e, p⟩ := h
    subst e
    cases ry with
    | @dK a ob xs _ ha r =>
      obtain ⟨g1, g2⟩ := r.get k
      rw [kD_inj rx]
      refine .inr (.inr ⟨a, _, rfl, dget_K (ds := []) (.inr ⟨_, s _ _ ha⟩), ?_⟩)
      rw [isSome_val g1 g2]
      exact q _ G H _ (Ext.refl s) (.bl _) p
  · obtain ⟨k, e, p⟩ := h
    subst e
    cases ry with
    | @dT a ob xs _ ha r =>
      obtain ⟨g1, g2⟩ := r.get k
      cases rx with
      | @tup b ys _ hb rb =>
        rw [reps_kD rb] at hb
        refine .inr (.inr ⟨a, _, rfl, dget_T (.inr ⟨_, s _ _ ha⟩) (s _ _ hb), ?_⟩)
        rw [isSome_val g1 g2]
        exact q _ G H _ (Ext.refl s) (.bl _) p
  · exact h.elim
theorem rd_notIn : RD K (rNotInP K) (dIn true) := fun G H x y dx dy R Q s rx ry h q => by
  unfold dIn at h
  split at h
  · obtain ⟨c, e, p⟩ := h
    subst e; cases rx; cases ry
    exact .inl ⟨c, _, rfl, rfl, q _ G H _ (Ext.refl s) (.bl _) (by simpa using p)⟩
  · obtain ⟨f1, f2, p⟩ := h
    cases ry with
    | lst ha r =>
      obtain ⟨h1, h2⟩ := flat_ok rx f1
      obtain ⟨h3, h4⟩ := flats_ok r f2
      rw [h2, h4] at p
      exact .inr (.inl ⟨_, _, rfl, .inl (SqL.of (s _ _ ha)), h1, h3, q _ G H _ (Ext.refl s) (.bl _) (by simpa using p)⟩)
  · obtain ⟨f1, f2, p⟩ := h
    cases ry with
    | tup ha r =>
      obtain ⟨h1, h2⟩ := flat_ok rx f1
      obtain ⟨h3, h4⟩ := flats_ok r f2
      rw [h2, h4] at p
      exact .inr (.inl ⟨_, _, rfl, .inr (SqT.of (s _ _ ha)), h1, h3, q _ G H _ (Ext.refl s) (.bl _) (by simpa using p)⟩)
  · obtain ⟨k, e, p⟩ := h
    subst e
    cases ry with
    | @dK a ob xs _ ha r =>
      obtain ⟨g1, g2⟩ := r.get k
      rw [kD_inj rx]
      refine .inr (.inr ⟨a, _, rfl, dget_K (ds := []) (.inr ⟨_, s _ _ ha⟩), ?_⟩)
      rw [isSome_val g1 g2]
      exact q _ G H _ (Ext.refl s) (.bl _) p
  · obtain ⟨k, e, p⟩ := h
    subst e
    cases ry with
    | @dT a ob xs _ ha r =>
      obtain ⟨g1, g2⟩ := r.get k
      cases rx with
      | @tup b ys _ hb rb =>
        rw [reps_kD rb] at hb
        refine .inr (.inr ⟨a, _, rfl, dget_T (.inr ⟨_, s _ _ ha⟩) (s _ _ hb), ?_⟩)
        rw [isSome_val g1 g2]
        exact q _ G H _ (Ext.refl s) (.bl _) p
  · exact h.elim
theorem atI_rep {G : Hp} {xs : List V} {ds : List Dt} {j : Int} {d : Dt} (r : Reps K G xs ds) (h : atI ds j = some d) : ∃ v, atI xs j = some v ∧ Rep K G v d := by
  unfold atI at h ⊢
  rw [r.length]
  cases e : ixN ds.length j with
  | none => rw [e] at h; cases h
  | some k =>
    rw [e] at h
    exact r.get (i := k) h
theorem rd_ix : RD K (rIxP K) dIx := fun G H x y dx dy R Q s rx ry h q => by
  unfold dIx at h
  split at h
  · obtain ⟨j, d, e, ha, p⟩ := h
    subst e; cases ry
    cases rx with
    | lst hh r =>
      obtain ⟨v, hv, rv⟩ := atI_rep r ha
      exact .inl (.inl ⟨_, _, _, v, rfl, rfl, SqL.of (s _ _ hh), hv, q _ G H _ (Ext.refl s) rv p⟩)
  · obtain ⟨j, d, e, ha, p⟩ := h
    subst e; cases ry
    cases rx with
    | tup hh r =>
      obtain ⟨v, hv, rv⟩ := atI_rep r ha
      exact .inl (.inr (.inl ⟨_, _, _, v, rfl, rfl, SqT.of (s _ _ hh), hv, q _ G H _ (Ext.refl s) rv p⟩))
  · obtain ⟨j, d, e, ha, p⟩ := h
    subst e; cases ry
    cases rx with
    | scr hh =>
      refine .inl (.inl ⟨_, _, _, .int d, rfl, rfl, s.seq hh, ?_, q _ G H _ (Ext.refl s) (.int d) p⟩)
      unfold atI at ha ⊢
      rw [List.length_map]
      cases e : ixN _ j with
      | none => rw [e] at ha; cases ha
      | some k =>
        rw [e] at ha
        show (List.map V.int _)[k]? = _
        rw [List.getElem?_map]
        have ha' : (some k).bind (fun j => (_ : List Int)[j]?) = some d := ha
        rw [Option.bind_some] at ha'
        rw [ha']; rfl
  · obtain ⟨j, c, e, l, ha, p⟩ := h
    subst e; cases ry; cases rx
    exact .inl (.inr (.inr ⟨_, _, c, rfl, rfl, l, ha, q _ G H _ (Ext.refl s) (.str _) p⟩))
  · obtain ⟨k, d, e, hv, p⟩ := h
    subst e
    cases rx with
    | @dK a ob xs _ ha r =>
      obtain ⟨v, ev, rv⟩ := (r.get k).1 d hv
      rw [kD_inj ry]
      exact .inr ⟨a, v, rfl, by rw [← ev]; exact dget_K (ds := []) (.inr ⟨_, s _ _ ha⟩), q _ G H _ (Ext.refl s) rv p⟩
  · obtain ⟨k, d, e, hv, p⟩ := h
    subst e
    cases rx with
    | @dT a ob xs _ ha r =>
      obtain ⟨v, ev, rv⟩ := (r.get k).1 d hv
      cases ry with
      | @tup b ys _ hb rb =>
        rw [reps_kD rb] at hb
        exact .inr ⟨a, v, rfl, by rw [← ev]; exact dget_T (.inr ⟨_, s _ _ ha⟩) (s _ _ hb), q _ G H _ (Ext.refl s) rv p⟩
  · exact h.elim
theorem cut_rep {G : Hp} {xs : List V} {ds : List Dt} (r : Reps K G xs ds) (lo hi : Option Int) : Reps K G (cutV xs lo hi) (cutD ds lo hi) := by
  unfold cutV cutD
  rw [r.length]
  exact (r.drop _).take _
theorem cut_whole {G : Hp} {xs : List V} {ds : List Dt} {lo hi : Option Int} (r : Reps K G xs ds) (e : HT.sIx xs.length 0 lo = 0 ∧ HT.sIx xs.length xs.length hi = xs.length) : Reps K G xs (cutD ds lo hi) := by
  have c := cut_rep r lo hi
  unfold cutV at c
  rw [e.1, e.2, Nat.sub_zero, List.drop_zero, List.take_length] at c
  exact c
theorem rdc_len : RDC K (rLenP K) dLen := fun G H xs ds R Q s r h q => by
  unfold dLen at h
  split at h
  · cases r with
    | cons r1 r2 => cases r2; cases r1 with
      | lst ha rr => exact .inl ⟨_, _, rfl, .inl ⟨_, SqL.of (s _ _ ha), rfl⟩, q _ G H _ (Ext.refl s) (.int _) (by rw [rr.length]; exact h)⟩
  · cases r with
    | cons r1 r2 => cases r2; cases r1 with
      | tup ha rr => exact .inl ⟨_, _, rfl, .inr ⟨_, SqT.of (s _ _ ha), rfl⟩, q _ G H _ (Ext.refl s) (.int _) (by rw [rr.length]; exact h)⟩
  · cases r with
    | cons r1 r2 => cases r2; cases r1 with
      | scr ha => exact .inl ⟨_, _, rfl, .inl ⟨_, s.seq ha, rfl⟩, q _ G H _ (Ext.refl s) (.int _) (by rw [List.length_map]; exact h)⟩
  · obtain ⟨l, p⟩ := h
    cases r with
    | cons r1 r2 => cases r2; cases r1; exact .inl ⟨_, _, rfl, ⟨l, rfl⟩, q _ G H _ (Ext.refl s) (.int _) p⟩
  · cases r with
    | cons r1 r2 => cases r2; cases r1 with
      | dK ha rr => exact .inr ⟨_, rfl, .inl ⟨_, .inr ⟨_, s _ _ ha⟩, q _ G H _ (Ext.refl s) (.int _) (by rw [rr.length]; exact h)⟩⟩
  · cases r with
    | cons r1 r2 => cases r2; cases r1 with
      | dT ha rr => exact .inr ⟨_, rfl, .inr ⟨_, .inr ⟨_, s _ _ ha⟩, q _ G H _ (Ext.refl s) (.int _) (by rw [rr.length]; exact h)⟩⟩
  · exact h.elim
theorem rdc_abs : RDC K rAbsP dAbs := fun G H xs ds R Q s r ⟨i, e, p⟩ q => by
  subst e
  cases r with
  | cons r1 r2 => cases r1; cases r2; exact ⟨i, rfl, q _ G H _ (Ext.refl s) (.int _) p⟩
theorem rdc_max : RDC K rMaxP dMax := fun G H xs ds R Q s r ⟨i, j, e, p⟩ q => by
  subst e
  cases r with
  | cons r1 r2 => cases r2 with
    | cons r2 r3 => cases r1; cases r2; cases r3; exact ⟨i, j, rfl, q _ G H _ (Ext.refl s) (.int _) p⟩
theorem rdc_min : RDC K rMinP dMin := fun G H xs ds R Q s r ⟨i, j, e, p⟩ q => by
  subst e
  cases r with
  | cons r1 r2 => cases r2 with
    | cons r2 r3 => cases r1; cases r2; cases r3; exact ⟨i, j, rfl, q _ G H _ (Ext.refl s) (.int _) p⟩
theorem rdc_int : RDC K rIntP dInt := fun G H xs ds R Q s r h q => by
  unfold dInt at h
  split at h
  · cases r with
    | cons r1 r2 => cases r1; cases r2; exact .inl (.inl ⟨_, rfl, q _ G H _ (Ext.refl s) (.int _) h⟩)
  · cases r with
    | cons r1 r2 => cases r1; cases r2; exact .inl (.inr ⟨_, rfl, q _ G H _ (Ext.refl s) (.int _) h⟩)
  · obtain ⟨n, e, l, p⟩ := h
    cases r with
    | cons r1 r2 => cases r1; cases r2; exact .inr ⟨_, n, rfl, e, l, q _ G H _ (Ext.refl s) (.int _) p⟩
  · exact h.elim
theorem rdc_str : RDC K rStrP dStr := fun G H xs ds R Q s r ⟨i, e, l, p⟩ q => by
  subst e
  cases r with
  | cons r1 r2 => cases r1; cases r2; exact ⟨i, rfl, l, q _ G H _ (Ext.refl s) (.str _) p⟩
theorem rdc_list : RDC K (rListP K) dList := fun G H xs ds R Q s r h q => by
  unfold dList at h
  split at h
  · cases r with
    | cons r1 r2 => cases r2; cases r1 with
      | lst ha rr => exact ⟨_, _, rfl, .inl (SqL.of (s _ _ ha)), fun a na => q _ _ _ _ (Ext.new s na) (Rep.newL s na rr) h⟩
  · cases r with
    | cons r1 r2 => cases r2; cases r1 with
      | tup ha rr => exact ⟨_, _, rfl, .inr (SqT.of (s _ _ ha)), fun a na => q _ _ _ _ (Ext.new s na) (Rep.newL s na rr) h⟩
  · exact h.elim
theorem rdc_tuple : RDC K (rTupleP K) dTuple := fun G H xs ds R Q s r h q => by
  unfold dTuple at h
  split at h
  · cases r with
    | cons r1 r2 => cases r2; cases r1 with
      | lst ha rr => exact ⟨_, _, rfl, .inl ⟨SqL.of (s _ _ ha), fun a na => q _ _ _ _ (Ext.new s na) (Rep.newT s na rr) h⟩⟩
  · cases r with
    | cons r1 r2 => cases r2; cases r1 with
      | tup ha rr => exact ⟨_, _, rfl, .inr ⟨SqT.of (s _ _ ha), q _ G H _ (Ext.refl s) (.tup ha rr) h⟩⟩
  · exact h.elim
end
section
variable {K : PySem.W.Frag} {W : WX} {Γ : Gm} {X : XP} {P : Dt → Gm → Prop} {te ta tb : TE} {i : Nat} {PP : Po}
def EvP (K : PySem.W.Frag) (W : WX) (tp : TO) (Γ : Gm) (P : Option Int → Gm → Prop) (X : XP) : Prop :=
  ∀ (O G H : Hp) (σ : St) (Q : Option Int → Hp → Prop), Sta K O G H σ Γ →
    (∀ (o : Option Int) (G2 H2 : Hp) (Γ2 : Gm), Same G G2 → Sta K O G2 H2 σ Γ2 → P o Γ2 → Q o H2) → XOk K W O G σ X → tp σ H Q
theorem ep_none {P : Option Int → Gm → Prop} (p : P none Γ) : EvP K W tNoPart Γ P X := fun O G H σ Q S q _ => q none G H Γ (Same.refl _) S p
theorem ep_some {P : Option Int → Gm → Prop} (h : Ev K W te Γ (fun d Γ1 => ∃ j, d = .int j ∧ P (some j) Γ1) X) : EvP K W (tPart te) Γ P X := fun O G H σ Q S q x =>
  h O G H σ _ S (fun v G1 H1 Γ1 d s1 S1 r ⟨j, e, p⟩ => by subst e; cases r; exact ⟨j, rfl, q (some j) G1 H1 Γ1 s1 S1 p⟩) x
theorem ev_sl {lo hi : TO} (h : Ev K W te Γ (fun d Γ1 => EvP K W lo Γ1 (fun l Γ2 => EvP K W hi Γ2 (fun u Γ3 => dSl d l u fun z => P z Γ3) X) X) X) : Ev K W (tSl (rSlP K) te lo hi) Γ P X := fun O G H σ Q S q x =>
  h O G H σ _ S (fun v G1 H1 Γ1 d s1 S1 r h1 => h1 O G1 H1 σ _ S1 (fun l G2 H2 Γ2 s2 S2 h2 => h2 O G2 H2 σ _ S2 (fun u G3 H3 Γ3 s3 S3 h3 => by
    have r3 := (r.mono s2).mono s3
    have s13 := (s1.trans s2).trans s3
    have h3 : dSl d l u fun z => P z Γ3 := h3
    unfold dSl at h3
    split at h3
    · cases r3 with
      | lst ha rr => exact .inl ⟨_, _, rfl, SqL.of (S3.g _ _ ha), fun a na => q _ _ _ Γ3 _ (s13.trans (Ext.new S3.g na).g) (S3.ext (Ext.new S3.g na)) (Rep.newL S3.g na (cut_rep rr _ _)) h3⟩
    · cases r3 with
      | @tup ad xs _ ha rr =>
        refine .inr (.inl ⟨_, _, rfl, SqT.of (S3.g _ _ ha), fun e => ?_, fun _ a na => q _ _ _ Γ3 _ (s13.trans (Ext.new S3.g na).g) (S3.ext (Ext.new S3.g na)) (Rep.newT S3.g na (cut_rep rr _ _)) h3⟩)
        exact q _ G3 H3 Γ3 _ s13 S3 (.tup ha (cut_whole rr e)) h3
    · cases r3
      exact .inr (.inr ⟨_, rfl, h3.1, q _ G3 H3 Γ3 _ s13 S3 (.str _) h3.2⟩)
    · exact h3.elim) ((x.mono s1).mono s2)) (x.mono s1)) x
theorem ev_ixO {a : Addr} {ds : List Dt} (h : Ev K W te Γ (fun y Γ1 => ∃ a ds j v, Γ1[i]? = some (some (.ol a ds)) ∧ y = .int j ∧ atI ds j = some v ∧ P v Γ1) X) (hi : Γ[i]? = some (some (.ol a ds))) : Ev K W (tOp (rIxP K) (tVar i) te) Γ P X := fun O G H σ Q S q x => by
  obtain ⟨v0, e0, o0⟩ := S.get hi
  refine ⟨v0, e0, h O G H σ _ S (fun v G1 H1 Γ1 d s1 S1 r ⟨a, ds, j, u, hg, ey, ha, p⟩ => ?_) x⟩
  obtain ⟨v1, e1, o1⟩ := S1.get hg
  rw [e0] at e1
  obtain rfl : v0 = v1 := Option.some.inj (Option.some.inj e1)
  subst ey; cases r
  cases o1 with
  | ol hh rr =>
    obtain ⟨w, hw, rw'⟩ := atI_rep rr ha
    exact .inl (.inl ⟨_, _, _, w, rfl, rfl, SqL.of hh, hw, q w G1 H1 Γ1 u s1 S1 rw' p⟩)
theorem ev_lenO {a : Addr} {ds : List Dt} (hi : Γ[i]? = some (some (.ol a ds))) (p : P (.int ds.length) Γ) : Ev K W (tCB (rLenP K) (tCons (tVar i) tNil)) Γ P X := fun O G H σ Q S q x => by
  obtain ⟨v0, e0, o0⟩ := S.get hi
  cases o0 with
  | ol hh rr => exact ⟨_, e0, .inl ⟨_, _, rfl, .inl ⟨_, SqL.of hh, rfl⟩, q _ G H Γ _ (Same.refl _) S (.int _) (by rw [rr.length]; exact p)⟩⟩
theorem Sta.mutL {O G H : Hp} {σ : St} {a : Addr} {ds es : List Dt} {ys : List V} (S : Sta K O G H σ Γ) (hi : Γ[i]? = some (some (.ol a ds))) (r : Reps K G ys es) : Sta K O G (upd H a (.lst ys)) σ (Γ.set i (some (.ol a es))) := by
  obtain ⟨v, e, o⟩ := S.get hi
  have ev : v = .ref a := o.adr rfl
  subst ev
  have ma : a ∈ fps Γ := mem_fps hi a (by simp [Sl.fp])
  have ga := S.ng a ma
  have oa := S.no a ma
  obtain ⟨m1, m2⟩ := fps_part hi S.nd
  have na : a ∉ fps (Γ.set i none) := m2 a (by simp [Sl.fp])
  have il : i < σ.length := by
    rcases Nat.lt_or_ge i σ.length with z | z
    · exact z
    · rw [List.getElem?_eq_none z] at e; cases e
  have Sf := S.forget i (some (.ref a))
  have es' : σ.set i (some (.ref a)) = σ := by
    apply List.ext_getElem?
    intro j
    rw [List.getElem?_set]
    by_cases hj : i = j
    · subst hj; rw [if_pos rfl, e, if_pos il]
    · rw [if_neg hj]
  rw [es'] at Sf
  have T : Sta K O G (upd H a (.lst ys)) σ (Γ.set i none) := by
    refine ⟨fun b u q => ?_, fun b u q => ?_, Sf.d, Sf.sl.mono (Same.refl _) fun b hb u q => ?_, Sf.nd, Sf.ng, Sf.no, Sf.om⟩
    · rw [upd_ne (ne_of_none q ga)]; exact S.g b u q
    · rw [upd_ne (ne_of_none q oa)]; exact S.o b u q
    · rw [upd_ne (fun z : b = a => na (by rw [← z]; exact hb))]; exact q
  have T2 := (T.push (v := .ref a) (s := .ol a es) (.ol upd_same r) (by simp [Sl.fp]) (fun b hb => by simp [Sl.fp] at hb; subst hb; exact ga) (fun b hb => by simp [Sl.fp] at hb; subst hb; exact oa) (fun b hb => by simp [Sl.fp] at hb; subst hb; exact na)).put i
  rw [es', List.set_set] at T2
  exact T2
theorem go_setO {ti : TE} {a0 : Addr} {ds0 : List Dt} (h : Ev K W te Γ (fun v Γ1 => ∃ a ds, Γ1[i]? = some (some (.ol a ds)) ∧ Ev K W ti Γ1 (fun y Γ2 => ∃ a ds k j, Γ2[i]? = some (some (.ol a ds)) ∧ y = .int k ∧ ixN ds.length k = some j ∧ PP.nx (Γ2.set i (some (.ol a (ds.set j v))))) PP.xc) PP.xc) :
    Go K W (tAsg te (gSub (tVar i) ti rSetL)) Γ PP := fun O G H σ D S a b c d e =>
  h O G H σ _ S (fun v G1 H1 Γ1 dv s1 S1 r ⟨a1, ds1, hg1, h1⟩ => by
    obtain ⟨v1, e1, o1⟩ := S1.get hg1
    have z1 := o1.adr rfl
    subst z1
    refine ⟨_, e1, h1 O G1 H1 σ _ S1 (fun u G2 H2 Γ2 dy s2 S2 r2 ⟨a2, ds2, k, j, hg2, ey, hj, p⟩ => ?_) ((e σ).mono s1)⟩
    obtain ⟨v2, e2, o2⟩ := S2.get hg2
    rw [e1] at e2
    obtain rfl : V.ref a1 = v2 := Option.some.inj (Option.some.inj e2)
    have z2 := o2.adr rfl
    cases z2
    subst ey; cases r2
    cases o2 with
    | ol hh rr =>
      refine ⟨_, _, k, j, rfl, rfl, hh, by rw [rr.length]; exact hj, ?_⟩
      exact a G2 _ σ _ (s1.trans s2) (S2.mutL hg2 (rr.set j (r.mono s2))) p) (e σ)
theorem go_append {a0 : Addr} {ds0 : List Dt} (hi : Γ[i]? = some (some (.ol a0 ds0))) (h : Ev K W te Γ (fun v Γ1 => ∃ a ds, Γ1[i]? = some (some (.ol a ds)) ∧ ds.length < 1000000 ∧ PP.nx (Γ1.set i (some (.ol a (ds ++ [v]))))) PP.xc) :
    Go K W (tDrop (tBM K "list" rAppend (tVar i) (tCons te tNil))) Γ PP := fun O G H σ D S a b c d e => by
  obtain ⟨v0, e0, o0⟩ := S.get hi
  have z0 := o0.adr rfl
  subst z0
  cases o0 with
  | ol hh0 rr0 =>
  refine ⟨_, e0, .inl ⟨rfl, _, SqL.of hh0⟩, h O G H σ _ S (fun v G1 H1 Γ1 dv s1 S1 r ⟨a1, ds1, hg, hl, p⟩ => ?_) (e σ)⟩
  obtain ⟨v1, e1, o1⟩ := S1.get hg
  rw [e0] at e1
  obtain rfl := Option.some.inj (Option.some.inj e1)
  have z1 := o1.adr rfl
  cases z1
  cases o1 with
  | ol hh rr =>
    refine ⟨_, _, _, rfl, rfl, hh, by rw [rr.length]; exact Nat.lt_of_lt_of_le hl (by decide), ?_⟩
    exact a G1 _ σ _ s1 (S1.mutL hg (rr.append (.cons r .nil))) p
theorem go_extend {a0 : Addr} {ds0 : List Dt} (hi : Γ[i]? = some (some (.ol a0 ds0))) (h : Ev K W te Γ (fun v Γ1 => ∃ a ds es, v = .lst es ∧ Γ1[i]? = some (some (.ol a ds)) ∧ ds.length + es.length ≤ 1000000 ∧ PP.nx (Γ1.set i (some (.ol a (ds ++ es))))) PP.xc) :
    Go K W (tDrop (tBM K "list" rExtend (tVar i) (tCons te tNil))) Γ PP := fun O G H σ D S a b c d e => by
  obtain ⟨v0, e0, o0⟩ := S.get hi
  have z0 := o0.adr rfl
  subst z0
  cases o0 with
  | ol hh0 rr0 =>
  refine ⟨_, e0, .inl ⟨rfl, _, SqL.of hh0⟩, h O G H σ _ S (fun v G1 H1 Γ1 dv s1 S1 r ⟨a1, ds1, es, ev, hg, hl, p⟩ => ?_) (e σ)⟩
  subst ev
  obtain ⟨v1, e1, o1⟩ := S1.get hg
  rw [e0] at e1
  obtain rfl := Option.some.inj (Option.some.inj e1)
  have z1 := o1.adr rfl
  cases z1
  cases o1 with
  | ol hh rr =>
    cases r with
    | lst hb rb =>
      refine ⟨_, _, _, _, rfl, rfl, hh, S1.g _ _ hb, by rw [rr.length, rb.length]; exact big_ok hl, ?_⟩
      exact a G1 _ σ _ s1 (S1.mutL hg (rr.append rb)) p
theorem Sta.unpack {O G H : Hp} {σ : St} {a : Addr} {φ : List Dt → Prop} (S : Sta K O G H σ Γ) (hi : Γ[i]? = some (some (.os a φ))) : ∃ ds, φ ds ∧ Sta K O G H σ (Γ.set i (some (.ol a ds))) := by
  obtain ⟨v, e, o⟩ := S.get hi
  cases o with
  | @os a xs ds _ hh rr hp =>
    refine ⟨ds, hp, ?_⟩
    obtain ⟨m1, m2⟩ := fps_part hi S.nd
    have il : i < σ.length := by
      rcases Nat.lt_or_ge i σ.length with z | z
      · exact z
      · rw [List.getElem?_eq_none z] at e; cases e
    have Sf := S.forget i (some (.ref a))
    have es' : σ.set i (some (.ref a)) = σ := by
      apply List.ext_getElem?
      intro j
      rw [List.getElem?_set]
      by_cases hj : i = j
      · subst hj; rw [if_pos rfl, e, if_pos il]
      · rw [if_neg hj]
    rw [es'] at Sf
    have ma : a ∈ fps Γ := mem_fps hi a (by simp [Sl.fp])
    have T2 := (Sf.push (v := .ref a) (s := .ol a ds) (.ol hh rr) (by simp [Sl.fp]) (fun b hb => by simp [Sl.fp] at hb; subst hb; exact S.ng _ ma) (fun b hb => by simp [Sl.fp] at hb; subst hb; exact S.no _ ma) (fun b hb => by simp [Sl.fp] at hb; subst hb; exact m2 _ (by simp [Sl.fp]))).put i
    rw [es', List.set_set] at T2
    exact T2
theorem go_unpack {t : TS} {a : Addr} {φ : List Dt → Prop} (hi : Γ[i]? = some (some (.os a φ))) (h : ∀ ds, φ ds → Go K W t (Γ.set i (some (.ol a ds))) PP) : Go K W t Γ PP := fun O G H σ D S => by
  obtain ⟨ds, hp, S2⟩ := S.unpack hi
  exact h ds hp O G H σ D S2
end
end DL
namespace L2
open PySem PySem.Spec PyProof.Rows
theorem Inv.track {X : Cx} {pins : List (Addr × Obj)} {σ : St} {H : Hp} {s : Shared} {a C : Addr} {d : Option Addr} {oe : Obj} {vs : Array Value} (I : Inv X pins σ H s) (ha : s.heap.get? a = some oe) (hz : Zc (.ref C) d oe) (hd : oe.data = .fields vs) (na : H a = none)
    (n0 : X.s_0.heap.get? a = none) (nL : a ≠ X.env.locals) (nC : ∀ x c, X.env.cells.lookup x = some c → c ≠ a) (nP : ∀ p ∈ X.pn ++ pins, p.1 ≠ a) : Inv X pins σ (upd H a (DL.ExK C d a)) s := by
  have b0 : ∀ b o, X.s_0.heap.get? b = some o → b ≠ a := fun b o e z => by rw [z, n0] at e; cases e
  have keep : ∀ b o, H b = some o → upd H a (DL.ExK C d a) b = some o := fun b o e => by rw [upd_ne (ne_of_none e na)]; exact e
  refine ⟨I.ok, I.os, I.bare, ⟨I.base.keep, I.base.slot, fun b o e n hx => ?_, I.base.there, fun b xs e => keep _ _ (I.base.tups b xs e), fun b o u e => keep _ _ (I.base.frzs b o u e), fun b ps e => ?_⟩, I.loc, I.cell, ?_, fun x c e => ?_, fun p hp => ?_, fun b o e => ?_, I.len⟩
  · rw [upd_ne (b0 b o e)]; exact I.base.free b o e n hx
  · obtain ⟨m, e⟩ := I.base.tbls b ps e
    exact ⟨m, keep _ _ e⟩
  · rw [upd_ne (Ne.symm nL)]; exact I.free
  · rw [upd_ne (nC x c e)]; exact I.freeC x c e
  · obtain ⟨e1, e2, e3⟩ := I.pin p hp
    exact ⟨e1, by rw [upd_ne (nP p hp)]; exact e2, e3⟩
  · by_cases hb : b = a
    · subst hb
      rw [upd_same] at e
      cases e
      exact ⟨⟨oe, vs, ha, hz, hd⟩, ⟨oe, ha⟩, fun h1 h2 ⟨o, v, e1, r⟩ k => ⟨o, v, k o e1, r⟩⟩
    · rw [upd_ne hb] at e
      exact (I.hok b o e).stay (fun c v _ q => q) (fun c q => keep _ _ q) fun c xs q => keep _ _ q
structure Hdl where
  c : Value
  i : Option Nat
  ts : Addr → Value → Option Addr → TS
def slotOff (i : Option Nat) (σ : St) : St := match i with
  | none => σ
  | some i => σ.set i none
def slotOn (i : Option Nat) (a : Addr) (σ : St) : St := match i with
  | none => σ
  | some i => σ.set i (some (.ref a))
def trkE (cls : Value) (d : Option Addr) (a : Addr) (H : Hp) : Hp := match cls with
  | .ref C => upd H a (DL.ExK C d a)
  | _ => H
def wHds (K : PySem.W.Frag) (Wout : WX) (D : Ends) : List Hdl → WX
  | [] => Wout
  | h :: r => fun cls d σ H => ∃ b, PySem.W.exmOne K cls h.c = some b ∧ (b = true → ∀ a, H a = none → h.ts a cls d { nx := fun σ' H' => H' a = none → D.nx (slotOff h.i σ') (trkE cls d a H'), rt := fun v H' => H' a = none → D.rt v (trkE cls d a H'), bk := fun σ' H' => H' a = none → D.bk (slotOff h.i σ') (trkE cls d a H'), ct := fun σ' H' => H' a = none → D.ct (slotOff h.i σ') (trkE cls d a H') } (slotOn h.i a σ) H) ∧
    (b = false → wHds K Wout D r cls d σ H)
def tTry (K : PySem.W.Frag) (Wout : WX) (l : List Hdl) (tb : WX → TS) : TS := fun D σ H => tb (wHds K Wout D l) D σ H
inductive HdlOk (X : Cx) : List ExceptHandler → List Hdl → Prop
  | nil : HdlOk X [] []
  | cons {x : Str} {c : Value} {ts : Addr → Value → Option Addr → TS} {b₀ : Stmt} {suite : List Stmt} {np pos' : Pos} {hds : List ExceptHandler} {l : List Hdl} (hc : Names X x c)
      (hsu : ∀ (a : Addr) (oe : Obj) (cls : Value) (d : Option Addr) (pn : List (Addr × Obj)), Zc cls d oe → (∃ vs, oe.data = .fields vs) → PSs (X.suite a ((a, oe) :: pn)) (b₀ :: suite) (ts a cls d)) (r : HdlOk X hds l) :
      HdlOk X (.ExceptHandler (some (.Name x np)) none (b₀ :: suite) pos' :: hds) (⟨c, none, ts⟩ :: l)
  | named {x n : Str} {i : Nat} {c : Value} {ts : Addr → Value → Option Addr → TS} {b₀ : Stmt} {suite : List Stmt} {np pos' : Pos} {hds : List ExceptHandler} {l : List Hdl} (hc : Names X x c) (hi : X.N[i]? = some n) (hln : X.env.kindOf n = some .local)
      (hsu : ∀ (a : Addr) (oe : Obj) (cls : Value) (d : Option Addr) (pn : List (Addr × Obj)), Zc cls d oe → (∃ vs, oe.data = .fields vs) → PSs (X.suite a ((a, oe) :: pn)) (b₀ :: suite) (ts a cls d)) (r : HdlOk X hds l) :
      HdlOk X (.ExceptHandler (some (.Name x np)) (some n) (b₀ :: suite) pos' :: hds) (⟨c, some i, ts⟩ :: l)
section
variable {X : Cx} {body : List Stmt} {h₀ : ExceptHandler} {hds : List ExceptHandler} {l : List Hdl} {pos : Pos} {tb : WX → TS} {Wout : WX}
theorem ps_try_h (hex : X.ex = []) (hs : X.stack = X.env :: X.outer) (hf : X.env.frame = some X.env.locals) (hN : X.N.Nodup) (tk : Takes X Wout)
    (hb : ∀ (W : WX) (pn : List (Addr × Obj)) (xe : Value → Shared → Prop), Takes (X.tr pn xe) W → PassesOwn (model X.prog X.w) X.A X.env xe → PSs (X.tr pn xe) body (tb W))
    (hh : HdlOk X (h₀ :: hds) l) : PS X (.Try body (h₀ :: hds) [] [] pos) (tTry X.K Wout l tb) := by
  refine ⟨fun pins s σ H D I h => ?_⟩
  have ok := I.ok
  have hfr : X.A.frames = some (X.env :: X.outer) := by rw [ok.frames, hs]
  refine wpAny_Try_except ?_
  refine wpAny_mono ((hb (wHds X.K Wout D l) (X.pn ++ pins) (fun e s₁ => wpAny (model X.prog X.w) X.A (noteFrame e X.env) (fun _ s₂ => wpAny (model X.prog X.w) X.A (setFlight e none) (fun _ s₃ =>
    wpAny (model X.prog X.w) X.A (handleBy e X.env (h₀ :: hds)) (SP X pins D) X.xe s₃) X.xe s₂) X.xe s₁) (fun u s' xx => ?_) PassesOwn.looking).run [] s σ H D (I.toTry _) h) (fun f s1 hsp => ?_) (fun e s1 he => he)
  · -- the catch
    obtain ⟨a, B, sI, pins', σ', H', cls, d, rfl, J', nb, up, sky, na, os, ag, w⟩ := xx
    have J : Inv X pins σ' H' sI := J'.ofTry ok
    have sky' : Sky B (X.env :: X.outer) a (Zc cls d) X.env.locals s'.heap := by rw [← hs]; exact sky
    show wpAny (model X.prog X.w) X.A (noteFrame (.ref a) X.env) _ _ _
    refine Sky.land Zc.steady hfr hf sky' fun h3 fl3 up3 => ?_
    have J3 : Inv X pins σ' H' { s' with heap := h3 } := J.landed nb fl3.1 (up.trans up3) os ag
    obtain ⟨oe3, vs3, he3, hz3, hd3⟩ := fl3.there
    have notFr : ∀ {h : Heap} {o : Obj} {vs : Array Value}, h.FunFrames B (X.env :: X.outer) → h.get? a = some o → o.data = .fields vs → a ∉ frs (X.env :: X.outer) := fun {h o vs} ff e dd hm => by
      obtain ⟨_, o', e', hnf⟩ := ff.mem hm
      rw [e] at e'; cases e'
      exact hnf _ dd
    have nfr := notFr fl3.2.2.1 he3 hd3
    have nL : a ≠ X.env.locals := fun z => nfr (List.mem_filterMap.mpr ⟨X.env, List.mem_cons_self, by rw [hf, z]⟩)
    have nF : a ∉ X.fs := fun hm => by
      obtain ⟨e, he, q⟩ := List.mem_filterMap.mp hm
      exact nfr (List.mem_filterMap.mpr ⟨e, List.mem_cons_of_mem _ he, q⟩)
    have S3 := J3.suite he3 hd3 na nL nF
    have nB : B.get? a = none := fl3.2.1
    have nI : sI.heap.get? a = none := by
      cases e : sI.heap.get? a with
      | none => rfl
      | some o =>
        have z := nb a o e (by rw [hs]; exact nfr)
        rw [nB] at z; cases z
    have n0 : X.s_0.heap.get? a = none := by
      cases e : X.s_0.heap.get? a with
      | none => rfl
      | some o =>
        obtain ⟨o', z⟩ := J.base.there a o e (by rw [hex]; exact fun z => nomatch z)
        rw [nI] at z; cases z
    have nC : ∀ x c, X.env.cells.lookup x = some c → c ≠ a := fun x c e z => by
      obtain ⟨v, o, ho, _⟩ := J.cell x c e
      rw [z, nI] at ho; cases ho
    have nP : ∀ p ∈ X.pn ++ pins, p.1 ≠ a := fun p hp z => by
      obtain ⟨e, _⟩ := J.pin p hp
      rw [z, nI] at e; cases e
    have fin : ∀ {oe : Obj} {vs : Array Value} {σ6 : St} {H6 : Hp} {s6 : Shared}, Zc cls d oe → oe.data = .fields vs → Inv X ((a, oe) :: pins) σ6 H6 s6 → Inv X pins σ6 (trkE cls d a H6) s6 := fun {oe vs σ6 H6 s6} hz hd I6 => by
      obtain ⟨e1, e2, _⟩ := I6.pin (a, oe) (List.mem_append_right _ List.mem_cons_self)
      have I7 : Inv X pins σ6 H6 s6 := I6.pins_of fun p hp => I6.pin p (List.mem_append_right _ (List.mem_cons_of_mem _ hp))
      unfold trkE
      cases cls with
      | ref C => exact I7.track e1 hz hd e2 n0 nL nC nP
      | _ => exact I7
    have gone : ∀ {oe : Obj} {σ6 : St} {H6 : Hp} {s6 : Shared}, Inv X ((a, oe) :: pins) σ6 H6 s6 → H6 a = none := fun I6 => (I6.pin _ (List.mem_append_right _ List.mem_cons_self)).2.1
    have keepP : ∀ {oe : Obj} {σ6 : St} {H6 : Hp} {s6 : Shared}, Inv (X.suite a ((a, oe) :: (X.pn ++ pins))) [] σ6 H6 s6 → Inv X ((a, oe) :: pins) σ6 H6 s6 := fun {oe σ6 H6 s6} S6 =>
      (S6.unsuite ok).pins_of fun p hp => by
        refine S6.pin p ?_
        rcases List.mem_cons.mp hp with rfl | hp
        · exact List.mem_append_left _ List.mem_cons_self
        · exact List.mem_append_left _ (List.mem_cons_of_mem _ (List.mem_append_right _ hp))
    have test : ∀ {x : Str} {c : Value} {np : Pos}, Names X x c → ∀ {Q : Value → Shared → Prop} {E : Value → Shared → Prop}, Q c { s' with heap := h3 } → wpAny (model X.prog X.w) (X.A.mark (some (.ref a))) (eval (.Name x np) X.env) Q E { s' with heap := h3 } := fun {x c np} hc {Q E} q => by
      obtain ⟨hg, hdbg, hm | ⟨hm, hv, hnn⟩⟩ := hc
      · exact ld_glob (X := X.suite a ((a, oe3) :: (X.pn ++ pins))) S3 hg hm q hdbg
      · exact ld_blt (X := X.suite a ((a, oe3) :: (X.pn ++ pins))) S3 hg hm hv q hnn hdbg
    have LT : PySem.W.Looks (model X.prog X.w) h3 (typeOf (.ref a)) cls := fun A Q E s k q => wpAny_typeOf_ref (k _ _ he3) (by rw [hz3.1]; exact q)
    have go : ∀ {hds' : List ExceptHandler} {l' : List Hdl}, HdlOk X hds' l' → wHds X.K Wout D l' cls d σ' H' →
        wpAny (model X.prog X.w) X.A (handleBy (.ref a) X.env hds') (SP X pins D) X.xe { s' with heap := h3 } := by
      intro hds' l' hk
      induction hk with
      | nil =>
        intro w
        refine wpAny_handleBy_nil ?_
        obtain ⟨k1, k2, k3, oe, vs, T, oT, ts', he, hz, hd, h1, hr⟩ := id fl3
        unfold PySem.passOn
        refine wpAny_bind (wpAny_field he hd h1 ?_)
        rw [if_neg (show ¬ ((Value.ref T == Value.none) = true) from by simp)]
        have fin : wpAny (model X.prog X.w) X.A (setFlight (.ref a) X.env.frame) (fun _ s4 => wpAny (model X.prog X.w) X.A (throw (.ref a) : Sem Flow) (SP X pins D) X.xe s4) X.xe { s' with heap := h3 } := by
          rw [hf]
          refine HandSPX.setFlight_upZ fl3 fun h4 hh4 up4 => wpAny_throw (tk _ _ ?_)
          exact ⟨a, B, sI, pins, σ', H', cls, d, rfl, J, nb, (up.trans up3).trans up4, .inr (.inr (by rw [hs]; exact hh4)), na, os, ag, w⟩
        first
          | exact wpAny_bind (wpAny_pure (wpAny_bind fin))
          | exact wpAny_bind fin
      | @cons x c ts b₀ suite np pos' hds2 l2 hc hsu r ih =>
        intro w
        obtain ⟨b, hb1, hyes, hno⟩ := w
        refine wpAny_handleBy_cons (codeAny_handlers_test ?_) (by intro q; cases q)
        have LM := PySem.W.exm_one (M := model X.prog X.w) (J3.kIn) LT hb1
        refine test hc (LM.here ?_)
        cases b with
        | true =>
          refine codeAny_handlers_suite ?_
          refine HandSPX.lands_againZ fl3 fun h4 fl4 up4 => ?_
          have J4 : Inv X pins σ' H' { s' with heap := h4 } := J.landed nb fl4.1 ((up.trans up3).trans up4) os ag
          obtain ⟨oe4, vs4, he4, hz4, hd4⟩ := fl4.there
          have S4 := J4.suite he4 hd4 na nL nF
          refine wpAny_mono ((hsu a oe4 cls d (X.pn ++ pins) hz4 ⟨_, hd4⟩).run [] _ _ H' _ S4 (hyes rfl a na)) (fun f s6 hsp => ?_) (fun _ _ z => False.elim z)
          cases f with
          | next =>
            obtain ⟨σ6, H6, S6, q6⟩ := hsp
            exact ⟨_, _, fin hz4 hd4 (keepP S6), q6 (gone (keepP S6))⟩
          | brk =>
            obtain ⟨σ6, H6, S6, q6⟩ := hsp
            exact ⟨_, _, fin hz4 hd4 (keepP S6), q6 (gone (keepP S6))⟩
          | cont =>
            obtain ⟨σ6, H6, S6, q6⟩ := hsp
            exact ⟨_, _, fin hz4 hd4 (keepP S6), q6 (gone (keepP S6))⟩
          | ret u =>
            obtain ⟨v6, σ6, H6, S6, r6, q6⟩ := hsp
            exact ⟨_, _, _, fin hz4 hd4 (keepP S6), r6, q6 (gone (keepP S6))⟩
        | false =>
          show wpAny _ X.A (handleBy (.ref a) X.env hds2) _ _ _
          exact ih (hno rfl)
      | @named x n i c ts b₀ suite np pos' hds2 l2 hc hi hln hsu r ih =>
        intro w
        obtain ⟨b, hb1, hyes, hno⟩ := w
        have hloc : Loc X.env.scope n := .inl hln
        refine wpAny_handleBy_cons (codeAny_handlers_test ?_) (by intro q; cases q)
        have LM := PySem.W.exm_one (M := model X.prog X.w) (J3.kIn) LT hb1
        refine test hc (LM.here ?_)
        cases b with
        | true =>
          refine codeAny_handlers_suite_as ?_
          refine HandSPX.lands_againZ fl3 fun h4 fl4 up4 => ?_
          have J4 : Inv X pins σ' H' { s' with heap := h4 } := J.landed nb fl4.1 ((up.trans up3).trans up4) os ag
          obtain ⟨oe4, vs4, he4, hz4, hd4⟩ := fl4.there
          have S4 := J4.suite he4 hd4 na nL nF
          refine store_ok (X := X.suite a ((a, oe4) :: (X.pn ++ pins))) (v := .ref a) S4 hN hi hloc rfl (fun s5 S5 => ?_) (.inr hln)
          refine wpAny_mono ((hsu a oe4 cls d (X.pn ++ pins) hz4 ⟨_, hd4⟩).run [] s5 _ H' _ S5 (hyes rfl a na)) (fun f s6 hsp => ?_) (fun _ _ z => False.elim z)
          have end_ : ∀ {σ6 : St} {H6 : Hp} {Q : Shared → Prop}, Inv (X.suite a ((a, oe4) :: (X.pn ++ pins))) [] σ6 H6 s6 → (∀ s7, Inv X pins (σ6.set i none) (trkE cls d a H6) s7 → Q s7) →
              wpAny (model X.prog X.w) X.A (do bindName X.env n .none; unbindBehindTheSuite X.env n pos') (fun _ s7 => Q s7) X.xe s6 := fun {σ6 H6 Q} S6 hq => gone_ok (keepP S6) hN hi hln fun s7 I7 => hq s7 (fin hz4 hd4 I7)
          cases f with
          | next =>
            obtain ⟨σ6, H6, S6, q6⟩ := hsp
            exact end_ S6 fun s7 J7 => ⟨_, _, J7, q6 (gone (keepP S6))⟩
          | brk =>
            obtain ⟨σ6, H6, S6, q6⟩ := hsp
            exact end_ S6 fun s7 J7 => ⟨_, _, J7, q6 (gone (keepP S6))⟩
          | cont =>
            obtain ⟨σ6, H6, S6, q6⟩ := hsp
            exact end_ S6 fun s7 J7 => ⟨_, _, J7, q6 (gone (keepP S6))⟩
          | ret u =>
            obtain ⟨v6, σ6, H6, S6, r6, q6⟩ := hsp
            exact end_ S6 fun s7 J7 => ⟨_, _, _, J7, r6, q6 (gone (keepP S6))⟩
        | false =>
          show wpAny _ X.A (handleBy (.ref a) X.env hds2) _ _ _
          exact ih (hno rfl)
    exact go hh w
  · cases f with
    | next =>
      obtain ⟨σ', H', J', q⟩ := hsp
      exact wpAny_execs_nil ⟨σ', H', J'.ofTry ok, q⟩
    | brk =>
      obtain ⟨σ', H', J', q⟩ := hsp
      exact ⟨σ', H', J'.ofTry ok, q⟩
    | cont =>
      obtain ⟨σ', H', J', q⟩ := hsp
      exact ⟨σ', H', J'.ofTry ok, q⟩
    | ret u =>
      obtain ⟨v, σ', H', J', r, q⟩ := hsp
      exact ⟨v, σ', H', J'.ofTry ok, r, q⟩
end
def rIsiE (K : PySem.W.Frag) : List V → Hp → VK → Prop := fun xs H Q => ∃ (a C : Addr) (d : Option Addr) (c : V) (u : Value) (b : Bool), xs = [.ref a, c] ∧ H a = some (DL.ExK C d a) ∧ (d = none ∨ ∃ dd fs, d = some dd ∧ H dd = some (.xd fs)) ∧ ClsV c u ∧ ExcC K C ∧ PySem.W.kitOne K (.ref C) u = some b ∧ Q (.bl b) H
theorem exk_inst {X : Cx} {pins : List (Addr × Obj)} {σ : St} {H : Hp} {s : Shared} {a C : Addr} {d : Option Addr} (I : Inv X pins σ H s) (ha : H a = some (DL.ExK C d a)) (hd : d = none ∨ ∃ dd fs, d = some dd ∧ H dd = some (.xd fs)) :
    ∃ oe od, PySem.W.InstAt s.heap a oe C od := by
  obtain ⟨⟨oe, vs, h1, h2, h3⟩, _, _⟩ := I.hok a _ ha
  rcases hd with rfl | ⟨dd, fs, rfl, hx⟩
  · refine ⟨oe, none, h1, h2.1, by unfold PySem.W.notCls; rw [h3] <;> rfl, ?_⟩
    rw [h2.2]; trivial
  · obtain ⟨mA, hns, hr⟩ := I.hok dd _ hx
    obtain ⟨od, ho, hl⟩ := lookIn_ns hns
    exact ⟨oe, some od, h1, h2.1, by unfold PySem.W.notCls; rw [h3] <;> rfl, by rw [h2.2]; exact ho⟩
theorem call_isiE {X : Cx} : CallR X (.builtin "isinstance") (rIsiE X.K) := by
  intro pins s σ H xs us Q I r h
  obtain ⟨a, C, d, c, u, b, rfl, ha, hd, k, f, e, q⟩ := h
  obtain ⟨u1, u2, rfl, r1, r2⟩ := vals2 r
  have e2 := k.eq r2
  subst e2
  cases (show u1 = Value.ref a from r1)
  obtain ⟨oe, od, J⟩ := exk_inst I ha hd
  refine PySem.W.kia_one (PySem.W.kitx_exc ?_ f.hg f.hk f.hs f.ha f.hn f.ht f.hm) I.kIn J e (fun z => nomatch z) fun tk => ⟨.bl b, H, I.tok tk, rfl, q⟩
  obtain ⟨cd, hc, _⟩ := PySem.W.any_some f.hd
  rw [hc]; rfl
def rIsiP (K : PySem.W.Frag) : List V → Hp → VK → Prop := fun xs H Q => rIsi K xs H Q ∨ rIsiE K xs H Q
theorem call_isiP {X : Cx} : CallR X (.builtin "isinstance") (rIsiP X.K) := call_isi.or call_isiE
def tFldP (K : PySem.W.Frag) (ta : TE) (f : Str) : TE := fun σ H Q => ta σ H fun x H1 => (∃ a C dx fs v, x = .ref a ∧ H1 a = some (.ins C dx fs) ∧ Cls K C ∧ NoAttr K C f ∧ fs.lookup f = some v ∧ Q v H1) ∨
  (∃ a C dd fs v, x = .ref a ∧ H1 a = some (DL.ExK C (some dd) a) ∧ H1 dd = some (.xd fs) ∧ XfC K C ∧ PySem.W.findIn K (.ref C) f = some none ∧ fs.lookup f = some v ∧ Q v H1)
theorem pe_fldP {X : Cx} {e : Expr} {f : Str} {pos : Pos} {ta : TE} (he : PE X e ta) (hb : attributeBase e f X.env (eval e X.env) = eval e X.env := by rfl) : PE X (.Attribute e f pos) (tFldP X.K ta f) := by
  refine ⟨fun pins s σ H Q I h => ?_⟩
  refine attr_of hb (thn (he.run pins s σ H _ I h) fun u s1 hh => ?_)
  obtain ⟨x, H1, I1, rx, hh⟩ := hh
  rcases hh with ⟨a, C, dx, fs, v, ex, ea, hc, hn, l, q⟩ | ⟨a, C, dd, fs, v, ex, ea, ed, T, hno, l, q⟩
  · subst ex
    obtain rfl : u = Value.ref a := rx
    exact getattr_ok I1 ea hc hn l fun w s2 I2 rw' => ⟨v, H1, I2, rw', q⟩
  · subst ex
    obtain rfl : u = Value.ref a := rx
    obtain ⟨⟨oe, vs, h1, h2, h3⟩, _, _⟩ := I1.hok a _ ea
    obtain ⟨mA, hns, hr⟩ := I1.hok dd _ ed
    obtain ⟨od, ho, hl⟩ := lookIn_ns hns
    obtain ⟨w, hw, rw'⟩ := RelO.some_of (v := v) (o := mA f) (by rw [← l]; exact hr f)
    have J : PySem.W.InstAt s1.heap a oe C (some od) := ⟨h1, h2.1, by unfold PySem.W.notCls; rw [h3] <;> rfl, by rw [h2.2]; exact ho⟩
    exact HandSPX.exc_get I1.kIn J T.ga T.gg T.exC (PySem.W.findObj_own T.hdC hno rfl (by rw [hl, hw])) (handed_of rw') ⟨v, H1, I1.tok _, rw', q⟩
end L2
namespace DL
open PySem PySem.Spec L2
section
variable {K : PySem.W.Frag} {W : WX} {Γ : Gm} {X : XP} {te ta tb : TE} {i : Nat} {PP : Po} {g : TG} {tbd : TS}
def gOff (i : Option Nat) (Γ : Gm) : Gm := match i with
  | none => Γ
  | some i => Γ.set i none
def gOn (i : Option Nat) (a C : Addr) (d : Option Addr) (fs : List (Str × Dt)) (Γ : Gm) : Gm := match i with
  | none => Γ
  | some i => Γ.set i (some (.ex a C d fs))
def fixS : Sl → Sl
  | .ex _ C _ fs => .fr (.exc C fs)
  | s => s
def fixE : Gm → Gm
  | [] => []
  | none :: r => none :: fixE r
  | some s :: r => some (fixS s) :: fixE r
def exOk (a C : Addr) (d : Option Addr) : Sl → Prop
  | .ex a' C' d' _ => a' = a ∧ C' = C ∧ d' = d
  | _ => True
def ExAll (a C : Addr) (d : Option Addr) : Gm → Prop
  | [] => True
  | none :: r => ExAll a C d r
  | some s :: r => exOk a C d s ∧ ExAll a C d r
theorem fp_fix (s : Sl) : (fixS s).fp = s.fp := by cases s <;> rfl
theorem fps_fix : ∀ Γ : Gm, fps (fixE Γ) = fps Γ
  | [] => rfl
  | none :: r => by simp only [fixE, fps]; rw [fps_fix r]
  | some s :: r => by simp only [fixE, fps, fpO]; rw [fps_fix r, fp_fix]
theorem slots_fix {G H : Hp} {a C : Addr} {d : Option Addr} (ha : G a = some (ExK C d a)) : ∀ {σ : St} {Γ : Gm}, Slots K G H σ Γ → ExAll a C d Γ → Slots K G H σ (fixE Γ)
  | _, _, .nil, _ => .nil
  | _, _, .no r, h => .no (slots_fix ha r h)
  | _, _, .yes o r, ⟨h1, h2⟩ => by
    refine .yes ?_ (slots_fix ha r h2)
    cases o with
    | ex rx =>
      obtain ⟨rfl, rfl, rfl⟩ := h1
      exact .fr (.exc ha rx)
    | fr r => exact .fr r
    | ol x y => exact .ol x y
    | os x y z => exact .os x y z
    | oK x y => exact .oK x y
    | oT x y => exact .oT x y
    | oo x y => exact .oo x y
    | tb x y z => exact .tb x y z
    | oN x y => exact .oN x y
    | odK x y => exact .odK x y
    | odT x y => exact .odT x y
theorem sta_fix {O G H : Hp} {σ : St} {a C : Addr} {d : Option Addr} (S : Sta K O G H σ Γ) (na : H a = none) (h : ExAll a C d Γ) : ∃ G2, Same G G2 ∧ Sta K O G2 (upd H a (ExK C d a)) σ (fixE Γ) := by
  have ex := Ext.new (ob := ExK C d a) S.g na
  have S2 := S.ext ex
  exact ⟨_, ex.g, S2.g, S2.o, S2.d, slots_fix upd_same S2.sl h, by rw [fps_fix]; exact S2.nd, fun b hb => S2.ng b (by rw [fps_fix] at hb; exact hb), fun b hb => S2.no b (by rw [fps_fix] at hb; exact hb), S2.om⟩
def Hds (K : PySem.W.Frag) (PP : Po) : List Hdl → XP
  | [] => PP.xc
  | h :: r => fun C fs Γ => ∃ b, PySem.W.exmOne K (.ref C) h.c = some b ∧ (b = true → ∀ a d, Go K (fun _ _ _ _ => False) (h.ts a (.ref C) d) (gOn h.i a C d fs Γ)
      { nx := fun Γ2 => ExAll a C d (gOff h.i Γ2) ∧ PP.nx (fixE (gOff h.i Γ2)), rt := fun s Γ2 => ExAll a C d (some s :: Γ2) ∧ PP.rt (fixS s) (fixE Γ2), xc := fun _ _ _ => False,
        bk := fun Γ2 => ExAll a C d (gOff h.i Γ2) ∧ PP.bk (fixE (gOff h.i Γ2)), ct := fun Γ2 => ExAll a C d (gOff h.i Γ2) ∧ PP.ct (fixE (gOff h.i Γ2)) }) ∧ (b = false → Hds K PP r C fs Γ)
theorem sta_off {O G H : Hp} {σ : St} {j : Option Nat} (S : Sta K O G H σ Γ) : Sta K O G H (slotOff j σ) (gOff j Γ) := by
  cases j with
  | none => exact S
  | some j => exact S.forget j none
theorem sta_on {O G H : Hp} {σ : St} {j : Option Nat} {a C : Addr} {d : Option Addr} {fs : List (Str × Dt)} (S : Sta K O G H σ Γ) (r : RepX K G d fs) : Sta K O G H (slotOn j a σ) (gOn j a C d fs Γ) := by
  cases j with
  | none => exact S
  | some j => exact (S.push (v := .ref a) (s := .ex a C d fs) (.ex r) (by simp [Sl.fp]) (by simp [Sl.fp]) (by simp [Sl.fp]) (by simp [Sl.fp])).put j
theorem go_try {tt : WX → TS} {l : List Hdl} (h : ∀ W', Go K W' (tt W') Γ { PP with xc := Hds K PP l }) : Go K W (tTry K W l tt) Γ PP := fun O G H σ D S a b c d e => by
  refine h (wHds K W D l) O G H σ D S a b c d fun σ2 => ?_
  have go : ∀ (l : List Hdl), XOk K (wHds K W D l) O G σ2 (Hds K PP l) := by
    intro l
    induction l with
    | nil => exact e σ2
    | cons hd r ih =>
      intro C dd fs G2 H2 Γ2 s2 S2 rx ⟨bb, e1, p1, p2⟩
      refine ⟨bb, e1, fun hb ad na => ?_, fun hb => ih C dd fs G2 H2 Γ2 s2 S2 rx (p2 hb)⟩
      refine p1 hb ad dd O G2 H2 _ _ (sta_on S2 rx) (fun G3 H3 σ3 Γ3 s3 S3 ⟨p3, p4⟩ n3 => ?_) (fun v G3 H3 σ3 Γ3 z s3 S3 ⟨p3, p4⟩ n3 => ?_) (fun G3 H3 σ3 Γ3 s3 S3 ⟨p3, p4⟩ n3 => ?_) (fun G3 H3 σ3 Γ3 s3 S3 ⟨p3, p4⟩ n3 => ?_) ?_
      · obtain ⟨G4, s4, S4⟩ := sta_fix (sta_off S3) n3 p3
        exact a G4 _ _ _ (s2.trans (s3.trans s4)) S4 p4
      · obtain ⟨G4, s4, S4⟩ := sta_fix S3 n3 p3
        exact b v G4 _ σ3 _ _ (s2.trans (s3.trans s4)) S4 p4
      · obtain ⟨G4, s4, S4⟩ := sta_fix (sta_off S3) n3 p3
        exact c G4 _ _ _ (s2.trans (s3.trans s4)) S4 p4
      · obtain ⟨G4, s4, S4⟩ := sta_fix (sta_off S3) n3 p3
        exact d G4 _ _ _ (s2.trans (s3.trans s4)) S4 p4
      · intro σ3 C3 d3 fs3 G3 H3 Γ3 s3 S3 r3 p3
        exact p3.elim
  exact go l
inductive ClsD : Dt → Value → Prop
  | ty (n : String) : ClsD (.ty n) (.type n)
  | own (C : Addr) : ClsD (.ref C) (.ref C)
structure InsF (K : PySem.W.Frag) (C : Addr) : Prop where
  cl : Cls K C
  ha : PySem.W.findIn K (.ref C) "__class__" = some (some (.builtin "object.__class__"))
  hn : PySem.W.specialIn K (.builtin "object.__class__") "__get__" = some (some (.builtin "getset_descriptor.__get__"))
  ht : PySem.W.takesIn K (.builtin "object.__class__") = some true
  hm : PySem.W.mroIn K C (.type "object") = some true
inductive TyD (K : PySem.W.Frag) : Dt → Value → Prop
  | non : TyD K .non (.type "NoneType")
  | bl (b : Bool) : TyD K (.bl b) (.type "bool")
  | int (i : Int) : TyD K (.int i) (.type "int")
  | str (x : Str) : TyD K (.str x) (.type "str")
  | lst (ds : List Dt) : TyD K (.lst ds) (.type "list")
  | tup (ds : List Dt) : TyD K (.tup ds) (.type "tuple")
  | dK (ds : List (Key × Dt)) : TyD K (.dK ds) (.type "dict")
  | obj {C : Addr} {fs : List (Str × Dt)} (f : InsF K C) : TyD K (.obj C fs) (.ref C)
  | exc {C : Addr} {fs : List (Str × Dt)} (f : ExcC K C) : TyD K (.exc C fs) (.ref C)
def dIsi (K : PySem.W.Frag) (ds : List Dt) (R : Dt → Prop) : Prop := ∃ x c t u b, ds = [x, c] ∧ ClsD c u ∧ TyD K x t ∧ PySem.W.kitOne K t u = some b ∧ R (.bl b)
theorem rdc_isi : RDC K (rIsiP K) (dIsi K) := fun G H xs ds R Q s r ⟨x, c, t, u, b, e, hc, ht, hk, p⟩ q => by
  subst e
  cases r with
  | cons r1 r2 => cases r2 with
    | @cons cv _ _ _ r2 r3 =>
    cases r3
    have hc' : ClsV cv u ∧ True := by
      cases hc with
      | ty n => cases r2; exact ⟨.ty n, trivial⟩
      | own C => cases r2; exact ⟨.own C, trivial⟩
    have fin : ∀ {v : V}, TyX K H v t → Rep K G v x → rIsiP K [v, cv] H Q := fun {v} ty _ => .inl ⟨v, cv, t, u, b, rfl, hc'.1, ty, hk, q _ G H _ (Ext.refl s) (.bl b) p⟩
    cases ht with
    | non => cases r1; exact fin (.base .non) .non
    | bl b => cases r1; exact fin (.base (.bl b)) (.bl b)
    | int i => cases r1; exact fin (.base (.int i)) (.int i)
    | str z => cases r1; exact fin (.base (.str z)) (.str z)
    | lst ds => cases r1 with
      | lst ha rr => exact fin (.base (.lst (s _ _ ha))) (.lst ha rr)
    | tup ds => cases r1 with
      | tup ha rr => exact fin (.base (.tup (s _ _ ha))) (.tup ha rr)
    | dK ds => cases r1 with
      | dK ha rr => exact fin (.fDict (s _ _ ha)) (.dK ha rr)
    | obj f => cases r1 with
      | obj ha rr => exact fin (.base (.ins (s _ _ ha) f.cl f.ha f.hn f.ht f.hm)) (.obj ha rr)
    | exc f => cases r1 with
      | exc ha rx =>
        refine .inr ⟨_, _, _, _, u, b, rfl, s _ _ ha, ?_, hc'.1, f, hk, q _ G H _ (Ext.refl s) (.bl b) p⟩
        cases rx with
        | none => exact .inl rfl
        | some hd _ => exact .inr ⟨_, _, rfl, s _ _ hd⟩
theorem ev_fld {f : Str} {P : Dt → Gm → Prop} (h : Ev K W te Γ (fun d Γ1 => (∃ C fs y, d = .obj C fs ∧ Cls K C ∧ NoAttr K C f ∧ fs.lookup f = some y ∧ P y Γ1) ∨ (∃ C fs y, d = .exc C fs ∧ XfC K C ∧ PySem.W.findIn K (.ref C) f = some none ∧ fs.lookup f = some y ∧ P y Γ1)) X) : Ev K W (tFldP K te f) Γ P X := fun O G H σ Q S q x =>
  h O G H σ _ S (fun v G1 H1 Γ1 d s1 S1 r hh => by
    rcases hh with ⟨C, fs, y, e, hc, hn, hl, p⟩ | ⟨C, fs, y, e, hc, hn, hl, p⟩
    · subst e
      cases r with
      | obj ha rf =>
        obtain ⟨u, hu, ru⟩ := rf.look hl
        exact .inl ⟨_, _, _, _, u, rfl, S1.g _ _ ha, hc, hn, hu, q u G1 H1 Γ1 y s1 S1 ru p⟩
    · subst e
      cases r with
      | exc ha rx =>
        cases rx with
        | none => simp at hl
        | some hd rf =>
          obtain ⟨u, hu, ru⟩ := rf.look hl
          exact .inr ⟨_, _, _, _, u, rfl, S1.g _ _ ha, S1.g _ _ hd, hc, hn, hu, q u G1 H1 Γ1 y s1 S1 ru p⟩) x
end
end DL
namespace DL
open PySem PySem.Spec L2
section
variable {X : Cx} {x : Str} {ps : List Str} {k j : Nat} {S : DSp} {W : WX} {e : Expr} {es : List Expr} {t : TA} {p pos : Pos}
end
def fun_of {K : PySem.W.Frag} {x qual : Str} {st : Stmt} {f : Addr} {fd : FuncData} (F : FunD K x qual (defArgs st) (defBody st) (defScope st) [] [] f fd) : Fun K x qual st f fd := by
  obtain ⟨oc, od, dV, kV, doc, pm, an, cdv, ct, osl, e, l, c, d, _⟩ := F.ex
  rcases d with ⟨_, rfl⟩ | ⟨z, _⟩
  · exact ⟨⟨oc, od, kV, doc, pm, an, cdv, ct, osl, e, l, c⟩, F.kp⟩
  · exact absurd rfl z
structure EDef where
  x : Str
  qual : Str
  params : Arguments
  body : List Stmt
  scope : Scope
  fs : List Str
abbrev FnE : Type := Option (Str × Str × Arguments × FuncBody × Scope × Addr × Addr)
def fnE (K : PySem.W.Frag) (x : Str) : FnE := match K.lookup (He.ma K (He.ga K x) "__init__") with
  | some ⟨_, _, .func fd, _⟩ => some (fd.name, fd.qualname, fd.params, fd.body, fd.scope, fd.globals, fd.builtins)
  | _ => none
def EDef.val (d : EDef) : FnE := some ("__init__", d.qual, d.params, .stmts d.body, d.scope, mainGlobals, builtinsNs)
def clsB (K : PySem.W.Frag) (C : Addr) : Bool := match K.lookup C with
  | some ⟨.type "type", _, .cls cd, sl⟩ => (match cd.mro, sl.toList with
    | .ref C' :: bm, [_, _, _, _, some (.builtin n), _] => C' == C && n == "ValueError.__new__" && !cd.hasDel && cd.hasDict && HandSPX.refsVE bm && He.eqO (PySem.W.alongIn K "__init__" bm) (some (some (.builtin "ValueError.__init__")))
    | _, _ => false)
  | _ => false
theorem clsB_ok {K : PySem.W.Frag} {C : Addr} (q : clsB K C = true) : ∃ nm qn N bs bm sn sub ab col dd k0 k1 k2 k3 k5, K.lookup C = some (excClassObj nm qn C N bs bm true sn sub ab col dd k0 k1 k2 k3 k5 "ValueError.__new__") ∧ HandSPX.refsVE bm = true ∧
    PySem.W.alongIn K "__init__" ((Value.ref C :: bm).dropWhile (· != .ref C) |>.drop 1) = some (some (.builtin "ValueError.__init__")) := by
  unfold clsB at q
  split at q
  · rename_i dd cd sl ho
    split at q
    · rename_i C' bm k0 k1 k2 k3 n k5 hm hs
      simp only [Bool.and_eq_true, beq_iff_eq, Bool.not_eq_true'] at q
      obtain ⟨⟨⟨⟨⟨rfl, rfl⟩, hdel⟩, hdct⟩, hr⟩, hal⟩ := q
      obtain ⟨nm, bs, mro, ns, qn, hd, sn, sub, ab, col, del⟩ := cd
      dsimp only at hm hdel hdct
      subst hm hdel hdct
      have hsl : sl = #[k0, k1, k2, k3, some (.builtin "ValueError.__new__"), k5] := by
        obtain ⟨l⟩ := sl
        simp only at hs
        rw [hs]
      subst hsl
      exact ⟨nm, qn, ns, bs, bm, sn, sub, ab, col, dd, k0, k1, k2, k3, k5, ho, hr, by rw [ESX.drop_own]; exact He.eqO_ok hal⟩
    · cases q
  · cases q
def initB (file : Str) (K : PySem.W.Frag) (C fI : Addr) (qual : Str) : Bool := match K.lookup fI with
  | some ⟨_, _, .func fd, _⟩ => (match fd.closure, fd.code, fd.defaults, fd.kwdefaults with
    | [(n, cc)], .ref cda, .none, .none => decide (n = "__class__") && PySem.W.codeIn K (.ref cda) qual && (match K.lookup cc with
        | some ⟨_, _, .cell (some (.ref D)), _⟩ => D == C
        | _ => false) && (match K.lookup cda with
        | some ⟨_, _, .fields vs, _⟩ => (match (vs : Array Value)[2]? with
          | some (Value.str f _) => decide (f = file)
          | _ => false)
        | _ => false)
    | _, _, _, _ => false)
  | _ => false
theorem init_ok {prog : Program} {K : PySem.W.Frag} {x qual : Str} {a : Pos} {fps : List (Str × Pos)} {body : List Stmt} {C : Addr}
    (e : fnE K x = (some ("__init__", qual, ER.eArgs a fps, FuncBody.stmts body, ER.eScope (ER.nmz fps), mainGlobals, builtinsNs) : FnE)) (q : initB prog.main.file K C (He.ma K (He.ga K x) "__init__") qual = true) : ER.InitT prog K qual a fps body C (He.ma K (He.ga K x) "__init__") := by
  unfold fnE at e
  unfold initB at q
  cases lk : K.lookup (He.ma K (He.ga K x) "__init__") with
  | none => rw [lk] at e; cases e
  | some o =>
    obtain ⟨oc, od, dt, osl⟩ := o
    rw [lk] at e q
    cases dt with
    | func fd =>
      obtain ⟨n1, n2, n3, n4, n5, n6, n7, n8, n9, n10, n11, n12, n13, n14, n15⟩ := fd
      have e2 : (some (n1, n2, n3, n4, n5, n6, n15) : FnE) = (some ("__init__", qual, ER.eArgs a fps, FuncBody.stmts body, ER.eScope (ER.nmz fps), mainGlobals, builtinsNs) : FnE) := e
      simp only [Option.some.injEq, Prod.mk.injEq] at e2
      obtain ⟨h1, h2, h3, h4, h5, h6, h7⟩ := e2
      subst h1 h2 h3 h4 h5 h6 h7
      dsimp only at q
      split at q
      · rename_i n cc cda
        simp only [Bool.and_eq_true, decide_eq_true_eq] at q
        obtain ⟨⟨⟨rfl, q2⟩, q3⟩, q4⟩ := q
        split at q3
        · rename_i c1 c2 D c4 hcell
          have : D = C := by simpa using q3
          subst this
          split at q4
          · rename_i e1 e2 vs e4 hcode
            split at q4
            · rename_i f tf hv
              have : f = prog.main.file := by simpa using q4
              subst this
              exact ⟨_, _, _, _, _, _, _, _, _, _, _, _, _, _, _, _, _, lk, q2, hcell, hcode, hv⟩
            · cases q4
          · cases q4
        · cases q3
      · cases q
    | _ => cases e
def errB (prog : Program) (K : PySem.W.Frag) (x qual : Str) (fs : List Str) : Bool :=
  let C := He.ga K x
  let fI := He.ma K C "__init__"
  He.eqO (PySem.W.nsIn K mainGlobals x) (some (some (.ref C))) && (clsB K C && (He.eqO (PySem.W.findIn K (.ref C) "__setattr__") (some (some (.builtin "object.__setattr__"))) && (He.eqO (PySem.W.findIn K (.ref C) "__getattribute__") (some (some (.builtin "BaseException.__getattribute__"))) &&
  (He.eqO (PySem.W.findIn K (.ref C) "__getattr__") (some none) && ((fs.all fun f => He.eqO (PySem.W.findIn K (.ref C) f) (some none)) && (He.eqO (PySem.W.findIn K (.ref C) "__init__") (some (some (.ref fI))) && (decide (PySem.W.typeIn K (.ref fI) = some (.type "function")) &&
  (PySem.W.keepIn K (.ref C) && (decide (PySem.W.subIn K (.ref C) (.type "BaseException") = some true) && (decide (PySem.W.typeIn K (.ref C) = some (.type "type")) && (PySem.W.hasDictIn K C && (He.eqO (PySem.W.nsIn K mainGlobals "super") (some none) &&
  (!(prog.main.scope.names.lookup ("super" : Str)).isSome && (He.eqO (PySem.W.nsIn K cStatics "thirdparty.any") (some none) && initB prog.main.file K C fI qual))))))))))))))
theorem err_ok {prog : Program} {K : PySem.W.Frag} {h : Heap} {mg : Str → Option Value} {x qual : Str} {fs : List Str} (X : K.In h) (G : h.Ns mainGlobals mg) (q : errB prog K x qual fs = true) :
    ER.ErrT prog K mg x fs (He.ga K x) (He.ma K (He.ga K x) "__init__") ∧ initB prog.main.file K (He.ga K x) (He.ma K (He.ga K x) "__init__") qual = true := by
  unfold errB at q
  simp only [Bool.and_eq_true, List.all_eq_true, decide_eq_true_eq, Bool.not_eq_true'] at q
  obtain ⟨q1, q2, q3, q4, q5, q6, q7, q8, q9, q10, q11, q12, q13, q14, q15, q16⟩ := q
  exact ⟨⟨PySem.W.mg_of X G (He.eqO_ok q1), clsB_ok q2, He.eqO_ok q3, He.eqO_ok q4, He.eqO_ok q5, fun f hf => He.eqO_ok (q6 f hf), He.eqO_ok q7, q8, q9, q10, q11, q12, PySem.W.mg_none_of X G (He.eqO_ok q13), q14, He.eqO_ok q15⟩, q16⟩
structure ErrK (prog : Program) (K : PySem.W.Frag) (mg : Str → Option Value) (x : Str) (C : Addr) (fs : List Str) : Prop where
  mker : ER.Mker prog K mg C fs
  gC : mg x = some (.ref C)
  kC : PySem.W.keepIn K (.ref C) = true
  exC : PySem.W.subIn K (.ref C) (.type "BaseException") = some true
  tyC : PySem.W.typeIn K (.ref C) = some (.type "type")
  xf : XfC K C
  no : ∀ f ∈ fs, PySem.W.findIn K (.ref C) f = some none
theorem ErrK.at {X : Cx} {x : Str} {C : Addr} {fs : List Str} (E : ErrK X.prog X.K X.mg x C fs) : ErrC X x C fs := ⟨E.mker, E.gC, E.kC, raises_own E.exC E.tyC⟩
theorem errK_of {prog : Program} {K : PySem.W.Frag} {mg : Str → Option Value} {x : Str} {fs : List Str} {C fI : Addr} (T : ER.ErrT prog K mg x fs C fI) (M : ER.Mker prog K mg C fs) : ErrK prog K mg x C fs :=
  ⟨M, T.gC, T.kC, T.exC, T.tyC, ⟨T.ga, T.gg, T.exC, T.hdC⟩, T.noN⟩
def insFB (K : PySem.W.Frag) (C : Addr) : Bool :=
  PySem.W.plainGet K C Str.empty && (PySem.W.hasDictIn K C && (PySem.W.plainOver K C && (He.eqO (PySem.W.findIn K (.ref C) "__setattr__") (some (some (.builtin "object.__setattr__"))) &&
  (He.eqO (PySem.W.findIn K (.ref C) "__class__") (some (some (.builtin "object.__class__"))) && (He.eqO (PySem.W.specialIn K (.builtin "object.__class__") "__get__") (some (some (.builtin "getset_descriptor.__get__"))) && (decide (PySem.W.takesIn K (.builtin "object.__class__") = some true) && decide (PySem.W.mroIn K C (.type "object") = some true)))))))
theorem insFB_ok {K : PySem.W.Frag} {C : Addr} (q : insFB K C = true) : InsF K C := by
  unfold insFB at q
  simp only [Bool.and_eq_true, decide_eq_true_eq] at q
  obtain ⟨q1, q2, q3, q4, q5, q6, q7, q8⟩ := q
  exact ⟨⟨q1, q2, q3, He.eqO_ok q4⟩, He.eqO_ok q5, He.eqO_ok q6, q7, q8⟩
abbrev AlX : Type := Bool × List He.FnW × List FnE
def obsX (prog : Program) (fx : PySem.W.Frag → Bool) (fa : List He.Fa) (fn : List He.DefD) (en : List EDef) (K : PySem.W.Frag) : AlX :=
  (fx K && ((fa.all fun f => f.ok K) && ((fn.all fun d => d.ok K) && en.all fun d => errB prog K d.x d.qual d.fs)), fn.map fun d => He.fnW K d.at_, en.map fun d => fnE K d.x)
def valsD : List He.DefD → List He.FnW
  | [] => []
  | d :: r => d.val :: valsD r
def valsE : List EDef → List FnE
  | [] => []
  | d :: r => d.val :: valsE r
theorem valsD_eq : ∀ l : List He.DefD, valsD l = l.map He.DefD.val
  | [] => rfl
  | d :: r => by rw [valsD, valsD_eq r]; rfl
theorem valsE_eq : ∀ l : List EDef, valsE l = l.map EDef.val
  | [] => rfl
  | d :: r => by rw [valsE, valsE_eq r]; rfl
def valX (fn : List He.DefD) (en : List EDef) : AlX := (true, valsD fn, valsE en)
def SaysX (prog : Program) (fx : PySem.W.Frag → Bool) (fa : List He.Fa) (fn : List He.DefD) (en : List EDef) (K : PySem.W.Frag) : Prop := obsX prog fx fa fn en K = valX fn en
def asX (g : Addr → Option Obj) (n : Nat) : List Addr := cStatics :: He.asD g n
section
variable {prog : Program} {fx : PySem.W.Frag → Bool} {fa : List He.Fa} {fn : List He.DefD} {en : List EDef} {K : PySem.W.Frag}
theorem SaysX.parts (c : SaysX prog fx fa fn en K) : fx K = true ∧ (fa.all fun f => f.ok K) = true ∧ (fn.all fun d => d.ok K) = true ∧ (en.all fun d => errB prog K d.x d.qual d.fs) = true := by
  have z : (fx K && ((fa.all fun f => f.ok K) && ((fn.all fun d => d.ok K) && en.all fun d => errB prog K d.x d.qual d.fs))) = true := congrArg (fun z : AlX => z.1) c
  rw [Bool.and_eq_true, Bool.and_eq_true, Bool.and_eq_true] at z
  exact z
theorem SaysX.own (c : SaysX prog fx fa fn en K) : fx K = true := c.parts.1
theorem SaysX.fact (c : SaysX prog fx fa fn en K) (i : Nat) {f : He.Fa} (h : fa[i]? = some f := by rfl) : f.ok K = true := List.all_eq_true.mp c.parts.2.1 f (List.mem_of_getElem? h)
theorem SaysX.def_ (c : SaysX prog fx fa fn en K) (i : Nat) {d : He.DefD} (h : fn[i]? = some d := by rfl) : ∃ fd, FunD K d.name d.qual d.params d.body d.scope (d.dvs K) (d.kws K) (He.fAd K d.at_) fd := by
  have e : fn.map (fun d => He.fnW K d.at_) = fn.map He.DefD.val := (congrArg (fun z : AlX => z.2.1) c).trans (valsD_eq fn)
  have e2 : (fn.map fun d => He.fnW K d.at_)[i]? = (fn.map He.DefD.val)[i]? := by rw [e]
  rw [List.getElem?_map, List.getElem?_map, h] at e2
  exact He.DefD.funD (Option.some.inj e2) (List.all_eq_true.mp c.parts.2.2.1 d (List.mem_of_getElem? h))
theorem SaysX.err (c : SaysX prog fx fa fn en K) (i : Nat) {d : EDef} (h : en[i]? = some d := by rfl) : fnE K d.x = d.val ∧ errB prog K d.x d.qual d.fs = true := by
  have e : en.map (fun d => fnE K d.x) = en.map EDef.val := (congrArg (fun z : AlX => z.2.2) c).trans (valsE_eq en)
  have e2 : (en.map fun d => fnE K d.x)[i]? = (en.map EDef.val)[i]? := by rw [e]
  rw [List.getElem?_map, List.getElem?_map, h] at e2
  exact ⟨Option.some.inj e2, List.all_eq_true.mp c.parts.2.2.2 d (List.mem_of_getElem? h)⟩
end
def SLaw : DSp := fun args R _ => ∃ ns : List Int, args = [.fr (.scr ns)] ∧ ns.length ≤ 63 ∧ ∀ args', R (.fr (.bl true)) args'
theorem law_sp {K : PySem.W.Frag} {H : Hp} {a : Addr} {ns : List Int} (hl : ns.length ≤ 63) (hS : SqL K H a (ns.map V.int)) : spD K SLaw [.ref a] H (fun v _ => v = .bl true) fun _ _ _ => False := by
  refine ⟨fun _ => none, H, [.fr (.scr ns)], fun res _ => res = .fr (.bl true), fun _ _ _ => False, ⟨Same.refl _, (fun b o e => by cases e), (fun b e => absurd rfl e), .yes (.fr (.scr hS)) .nil, (by simp [fps, fpO, Sl.fp]), (by simp [fps, fpO, Sl.fp]), (by simp [fps, fpO, Sl.fp]), (fun b o e => by cases e)⟩, ⟨ns, rfl, hl, fun _ => rfl⟩, ?_, ?_⟩
  · intro v G2 H2 res args' s2 S2 e
    subst e
    have h := S2.head
    cases h with | fr r => cases r; rfl
  · intro C d fs G2 H2 args' s2 S2 r e
    exact e.elim
theorem cx_none {P : Program} {w : World} {H : Hp} {s : Shared} {e : Value} {s' : Shared} (h : L2.CX P w [] H s (fun _ _ _ => False) e s') : False := by
  obtain ⟨_, _, _, _, _, _, _, _, _, _, _, _, z⟩ := h
  exact z
theorem end_of {l : PySem.W.OpenLaw} {k n : Nat} {q : Program} {loose : List Str} {XP : (Str → Option Value) → Heap → Prop} {YP : World → Heap → Prop} {d : DefRec} (hn : l.most = some n) (hn2 : n ≤ 63) (hdf : d.params.defaults = []) (hr : Room k callerA)
    (F : ∀ (w : World) (mg : Str → Option Value) (fa : Addr) (h : Heap), YP w h → h.Ns mainGlobals mg → mg d.name = some (.ref fa) →
      ∃ (K : PySem.W.Frag) (fd : FuncData), K.In h ∧ (∀ (s : Shared) (u : Value), BindsTo s fd ⟨[u], []⟩ [("_law_script", u)]) ∧
        ∀ base : Heap, FnOk l.prog w K mg base (L2.CX l.prog w) k fa fd ["_law_script"] (spD K SLaw)) :
    PySem.W.WalkO q loose XP YP l.row.toRowW d [] (fun f vs => PySem.call f vs) := by
  refine Att.attach_call hn hdf fun w s0 s1 mg mb fa o pm cd doc a vs ns G Y ho hd hcd hmg hobj hints hlen hg => ?_
  obtain ⟨K, fd, KX, hb, hF⟩ := F w mg fa _ Y G.T.g hmg
  exact law_call KX G.T.g G.T.b G.T.builtins G.T.nolimit hg hobj hints (Nat.le_trans hlen (Nat.le_trans hn2 (by decide))) hr (fun base _ _ => hF base) hb (fun H hO hS => law_sp (Nat.le_trans hlen hn2) hS) fun H e s' z => cx_none z
end DL
namespace L2
open PySem PySem.Spec
def tAsgO (te : TE) (g : TG) : TS := tAsg te g
def tRetO (te : TE) : TS := tRet te
def tCall1 (_ : Nat) := @tCallS
end L2
namespace DL
open PySem PySem.Spec L2
section
variable {K : PySem.W.Frag} {W : WX} {Γ : Gm} {X : XP} {P : Dt → Gm → Prop} {te ta tb : TE} {i : Nat} {PP : Po} {R : Dt → Prop}
theorem Sta.frzAt {O G H : Hp} {σ : St} {s : Sl} {d : Dt} (S : Sta K O G H σ Γ) (hi : Γ[i]? = some (some s)) (f : Frz s d) : ∃ G2, Same G G2 ∧ Sta K O G2 H σ (Γ.set i (some (.fr d))) := by
  obtain ⟨v, e, o⟩ := S.get hi
  obtain ⟨m1, m2⟩ := fps_part hi S.nd
  have il : i < σ.length := by
    rcases Nat.lt_or_ge i σ.length with z | z
    · exact z
    · rw [List.getElem?_eq_none z] at e; cases e
  have Sf := S.forget i (some v)
  have es : σ.set i (some v) = σ := by
    apply List.ext_getElem?
    intro j
    rw [List.getElem?_set]
    by_cases hj : i = j
    · subst hj; rw [if_pos rfl, e, if_pos il]
    · rw [if_neg hj]
  rw [es] at Sf
  have Sp := Sf.push o m1 (fun a ha => S.ng a (mem_fps hi a ha)) (fun a ha => S.no a (mem_fps hi a ha)) m2
  obtain ⟨G2, s2, S2, r⟩ := Sp.freeze1 f
  have S3 := (S2.pushF r).put i
  rw [es, List.set_set] at S3
  exact ⟨G2, s2, S3⟩
theorem ev_varF {s : Sl} {d : Dt} (h : Γ[i]? = some (some s)) (f : Frz s d) (p : P d (Γ.set i (some (.fr d)))) : Ev K W (tVar i) Γ P X := fun O G H σ Q S q _ => by
  obtain ⟨G2, s2, S2⟩ := S.frzAt h f
  have il : i < Γ.length := by
    rcases Nat.lt_or_ge i Γ.length with z | z
    · exact z
    · rw [List.getElem?_eq_none z] at h; cases h
  obtain ⟨v, e, r⟩ := S2.getF (i := i) (d := d) (by rw [List.getElem?_set_self il])
  exact ⟨v, e, q v G2 H _ d s2 S2 r p⟩
theorem evo_pack {P : Sl → Gm → Prop} (φ : List Dt → Prop) (h : EvO K W te Γ (fun s Γ1 => ∃ a ds, s = .ol a ds ∧ φ ds ∧ P (.os a φ) Γ1) X) : EvO K W te Γ P X := fun O G H σ Q S q x =>
  h O G H σ _ S (fun v G2 H2 Γ2 s s1 S2 ⟨a, ds, e, hp, p⟩ => by
    subst e
    refine q v G2 H2 Γ2 (.os a φ) s1 ?_ p
    have hd := S2.head
    refine ⟨S2.g, S2.o, S2.d, ?_, S2.nd, S2.ng, S2.no, S2.om⟩
    cases hd with
    | ol h1 h2 => exact .yes (.os h1 h2 hp) S2.tail.sl) x
theorem go_mid {t1 t2 : TS} (M : Gm → Prop) (h1 : Go K W t1 Γ { PP with nx := M }) (h2 : ∀ Γ1, M Γ1 → Go K W t2 Γ1 PP) : Go K W (tSeq t1 t2) Γ PP :=
  go_seq (h1.imp (fun _ p => h2 _ p) (fun _ _ p => p) (fun _ _ _ p => p) (fun _ p => p) (fun _ p => p))
theorem l_addI {i j : Int} (h : R (.int (i + j))) : dAdd (.int i) (.int j) R := h
theorem l_eqI {i j : Int} (h : R (.bl (decide (i = j)))) : dEq (.int i) (.int j) R := .inl ⟨_, rfl, h⟩
theorem l_eqS {i j : Str} (h : R (.bl (decide (i = j)))) : dEq (.str i) (.str j) R := .inl ⟨_, rfl, h⟩
theorem l_eqB {i j : Bool} (h : R (.bl (decide (i = j)))) : dEq (.bl i) (.bl j) R := .inl ⟨_, rfl, h⟩
theorem l_neI {i j : Int} (h : R (.bl (!decide (i = j)))) : dNe (.int i) (.int j) R := .inl ⟨_, rfl, h⟩
theorem l_neS {i j : Str} (h : R (.bl (!decide (i = j)))) : dNe (.str i) (.str j) R := .inl ⟨_, rfl, h⟩
theorem l_neB {i j : Bool} (h : R (.bl (!decide (i = j)))) : dNe (.bl i) (.bl j) R := .inl ⟨_, rfl, h⟩
theorem l_eqX {x y : Dt} {b : Bool} (e : eqS x y = some b) (h : R (.bl b)) : dEq x y R := .inl ⟨_, e, h⟩
theorem l_neX {x y : Dt} {b : Bool} (e : eqS x y = some b) (h : R (.bl (!b))) : dNe x y R := .inl ⟨_, e, h⟩
theorem l_isN (h : R (.bl true)) : dIs .non .non R := ⟨rfl, h⟩
theorem l_isnN (h : R (.bl false)) : dIsnt .non .non R := ⟨rfl, h⟩
theorem l_lenL {ds : List Dt} (h : R (.int ds.length)) : dLen [.lst ds] R := h
theorem l_lenT {ds : List Dt} (h : R (.int ds.length)) : dLen [.tup ds] R := h
theorem l_lenC {ds : List Int} (h : R (.int ds.length)) : dLen [.scr ds] R := h
theorem l_abs {i : Int} (h : R (.int (if i < 0 then -i else i))) : dAbs [.int i] R := ⟨_, rfl, h⟩
theorem l_max {i j : Int} (h : R (.int (if j > i then j else i))) : dMax [.int i, .int j] R := ⟨_, _, rfl, h⟩
theorem l_min {i j : Int} (h : R (.int (if j < i then j else i))) : dMin [.int i, .int j] R := ⟨_, _, rfl, h⟩
theorem l_intI {i : Int} (h : R (.int i)) : dInt [.int i] R := h
theorem l_intB {b : Bool} (h : R (.int (if b then 1 else 0))) : dInt [.bl b] R := h
theorem l_listL {ds : List Dt} (h : R (.lst ds)) : dList [.lst ds] R := h
theorem l_listT {ds : List Dt} (h : R (.lst ds)) : dList [.tup ds] R := h
theorem l_tupleL {ds : List Dt} (h : R (.tup ds)) : dTuple [.lst ds] R := h
theorem l_tupleT {ds : List Dt} (h : R (.tup ds)) : dTuple [.tup ds] R := h
theorem l_inS {c : Nat} {z : Str} (h : R (.bl (decide (c ∈ z.cps.toList)))) : dIn false (.str ⟨#[c]⟩) (.str z) R := ⟨c, rfl, by simpa using h⟩
theorem l_ninS {c : Nat} {z : Str} (h : R (.bl (!decide (c ∈ z.cps.toList)))) : dIn true (.str ⟨#[c]⟩) (.str z) R := ⟨c, rfl, by simpa using h⟩
theorem l_ixL {ds : List Dt} {j : Int} {v : Dt} (e : atI ds j = some v) (h : R v) : dIx (.lst ds) (.int j) R := ⟨_, _, rfl, e, h⟩
theorem l_ixT {ds : List Dt} {j : Int} {v : Dt} (e : atI ds j = some v) (h : R v) : dIx (.tup ds) (.int j) R := ⟨_, _, rfl, e, h⟩
theorem l_ixC {ds : List Int} {j : Int} {v : Int} (e : atI ds j = some v) (h : R (.int v)) : dIx (.scr ds) (.int j) R := ⟨_, _, rfl, e, h⟩
theorem l_slL {ds : List Dt} {lo hi : Option Int} (h : R (.lst (cutD ds lo hi))) : dSl (.lst ds) lo hi R := h
theorem l_slT {ds : List Dt} {lo hi : Option Int} (h : R (.tup (cutD ds lo hi))) : dSl (.tup ds) lo hi R := h
theorem l_isi {x c : Dt} {t u : Value} {b : Bool} (hc : ClsD c u) (ht : TyD K x t) (hk : PySem.W.kitOne K t u = some b) (h : R (.bl b)) : dIsi K [x, c] R := ⟨_, _, _, _, _, rfl, hc, ht, hk, h⟩
def St4 (ds : List Dt) : Prop := ∃ a b c k : Int, ds = [.int a, .int b, .int c, .int k]
theorem St4.mk (a b c k : Int) : St4 [.int a, .int b, .int c, .int k] := ⟨a, b, c, k, rfl⟩
end
theorem mkO {X : Cx} {s : Stmt} {te : TE} {g : TG} (h : PS X s (tAsg te g)) : PS X s (tAsgO te g) := h
theorem mkR {X : Cx} {s : Stmt} {te : TE} (h : PS X s (tRet te)) : PS X s (tRetO te) := h
theorem mk1 {X : Cx} {e : Expr} (i : Nat) {sp : Sp} {W : WX} {t : TA} (h : PE X e (tCallS sp (WE W) t)) : PE X e (tCall1 i sp (WE W) t) := h
section
variable {K : PySem.W.Frag} {W : WX} {Γ : Gm} {X : XP} {P : Dt → Gm → Prop} {te ta tb : TE} {i : Nat} {PP : Po}
theorem ec1 {S : DSp} {t : TA} {P : Sl → Gm → Prop} (h : EvB K W i t Γ (fun ds es Γ1 => ∃ s, Γ1[i]? = some (some s) ∧ S (ds.map .fr ++ s :: es.map .fr) (fun res args' => ∃ s', args' = ds.map .fr ++ s' :: es.map .fr ∧ P res (Γ1.set i (some s')))
    (fun C fs args' => ∃ s', args' = ds.map .fr ++ s' :: es.map .fr ∧ X C fs (Γ1.set i (some s')))) X) : EvO K W (tCall1 i (spD K S) (WE W) t) Γ P X := evo_call1 h
theorem ev_call0 {S : DSp} {t : TA} (h : EvO K W (tCallS (spD K S) (WE W) t) Γ (fun s Γ2 => ∃ d, Frz s d ∧ P d Γ2) X) : Ev K W (tCallS (spD K S) (WE W) t) Γ P X := ev_frz h
theorem ev_call1 {S : DSp} {t : TA} {j : Nat} (h : EvO K W (tCall1 j (spD K S) (WE W) t) Γ (fun s Γ2 => ∃ d, Frz s d ∧ P d Γ2) X) : Ev K W (tCall1 j (spD K S) (WE W) t) Γ P X := ev_frz h
end
section
variable {K : PySem.W.Frag} {W : WX} {Γ : Gm} {P : Dt → Gm → Prop} {te ta tb : TE} {i : Nat} {nx : Gm → Prop} {rt : Sl → Gm → Prop} {xc : XP} {bk ct : Gm → Prop} {t1 t2 : TS} {tt : TT} {g : TG} {X : XP}
theorem g_seq (h : Go K W t1 Γ ⟨fun Γ1 => Go K W t2 Γ1 ⟨nx, rt, xc, bk, ct⟩, rt, xc, bk, ct⟩) : Go K W (tSeq t1 t2) Γ ⟨nx, rt, xc, bk, ct⟩ := go_seq h
theorem g_mid (M : Gm → Prop) (h1 : Go K W t1 Γ ⟨M, rt, xc, bk, ct⟩) (h2 : ∀ Γ1, M Γ1 → Go K W t2 Γ1 ⟨nx, rt, xc, bk, ct⟩) : Go K W (tSeq t1 t2) Γ ⟨nx, rt, xc, bk, ct⟩ := go_mid M h1 h2
theorem g_next (h : nx Γ) : Go K W tNext Γ ⟨nx, rt, xc, bk, ct⟩ := go_next h
theorem g_break (h : bk Γ) : Go K W tBreak Γ ⟨nx, rt, xc, bk, ct⟩ := go_break h
theorem g_cont (h : ct Γ) : Go K W tCont Γ ⟨nx, rt, xc, bk, ct⟩ := go_cont h
theorem g_if (h : EvT K W tt Γ (fun b Γ1 => (b = true → Go K W t1 Γ1 ⟨nx, rt, xc, bk, ct⟩) ∧ (b = false → Go K W t2 Γ1 ⟨nx, rt, xc, bk, ct⟩)) xc) : Go K W (tIfS tt t1 t2) Γ ⟨nx, rt, xc, bk, ct⟩ := go_if h
theorem g_setF (h : Ev K W te Γ (fun d Γ1 => nx (Γ1.set i (some (.fr d)))) xc) : Go K W (tAsg te (gName i)) Γ ⟨nx, rt, xc, bk, ct⟩ := go_setF h
theorem g_setO (h : EvO K W te Γ (fun s Γ1 => nx (Γ1.set i (some s))) xc) : Go K W (tAsgO te (gName i)) Γ ⟨nx, rt, xc, bk, ct⟩ := go_set h
theorem g_setC {S : DSp} {t : TA} (h : EvO K W (tCallS (spD K S) (WE W) t) Γ (fun s Γ1 => nx (Γ1.set i (some s))) xc) : Go K W (tAsg (tCallS (spD K S) (WE W) t) (gName i)) Γ ⟨nx, rt, xc, bk, ct⟩ := go_set h
theorem g_setC1 {S : DSp} {t : TA} {j : Nat} (h : EvO K W (tCall1 j (spD K S) (WE W) t) Γ (fun s Γ1 => nx (Γ1.set i (some s))) xc) : Go K W (tAsg (tCall1 j (spD K S) (WE W) t) (gName i)) Γ ⟨nx, rt, xc, bk, ct⟩ := go_set h
theorem g_sub {ti : TE} (h : Ev K W te Γ (fun v Γ1 => ∃ a ds, Γ1[i]? = some (some (.ol a ds)) ∧ Ev K W ti Γ1 (fun y Γ2 => ∃ a ds k j, Γ2[i]? = some (some (.ol a ds)) ∧ y = .int k ∧ ixN ds.length k = some j ∧ nx (Γ2.set i (some (.ol a (ds.set j v))))) xc) xc) :
    Go K W (tAsg te (gSub (tVar i) ti rSetL)) Γ ⟨nx, rt, xc, bk, ct⟩ := go_setO (a0 := 0) (ds0 := []) h
theorem g_asg (h : Ev K W te Γ (fun d Γ1 => GoG K W g d Γ1 nx xc) xc) : Go K W (tAsg te g) Γ ⟨nx, rt, xc, bk, ct⟩ := go_asg h
theorem g_drop (h : EvO K W te Γ (fun _ Γ1 => nx Γ1) xc) : Go K W (tDrop te) Γ ⟨nx, rt, xc, bk, ct⟩ := go_drop h
theorem g_append {a0 : Addr} {ds0 : List Dt} (hi : Γ[i]? = some (some (.ol a0 ds0))) (h : Ev K W te Γ (fun v Γ1 => ∃ a ds, Γ1[i]? = some (some (.ol a ds)) ∧ ds.length < 1000000 ∧ nx (Γ1.set i (some (.ol a (ds ++ [v]))))) xc) :
    Go K W (tDrop (tBM K "list" rAppend (tVar i) (tCons te tNil))) Γ ⟨nx, rt, xc, bk, ct⟩ := go_append hi h
theorem g_extend {a0 : Addr} {ds0 : List Dt} (hi : Γ[i]? = some (some (.ol a0 ds0))) (h : Ev K W te Γ (fun v Γ1 => ∃ a ds es, v = .lst es ∧ Γ1[i]? = some (some (.ol a ds)) ∧ ds.length + es.length ≤ 1000000 ∧ nx (Γ1.set i (some (.ol a (ds ++ es))))) xc) :
    Go K W (tDrop (tBM K "list" rExtend (tVar i) (tCons te tNil))) Γ ⟨nx, rt, xc, bk, ct⟩ := go_extend hi h
theorem g_retN (h : rt (.fr .non) Γ) : Go K W tRetN Γ ⟨nx, rt, xc, bk, ct⟩ := go_retN h
theorem g_retO (h : EvO K W te Γ rt xc) : Go K W (tRetO te) Γ ⟨nx, rt, xc, bk, ct⟩ := go_ret h
theorem g_retF (h : Ev K W te Γ (fun d Γ1 => rt (.fr d) Γ1) xc) : Go K W (tRet te) Γ ⟨nx, rt, xc, bk, ct⟩ := go_ret (evo_of h)
theorem g_raise {C : Addr} {fs : List Str} {t : TA} (h : EvA K W t Γ (fun ds Γ1 => ds.length = fs.length ∧ xc C (fs.zip ds) Γ1) xc) : Go K W (tRaiseE C fs W t) Γ ⟨nx, rt, xc, bk, ct⟩ := go_raise h
theorem g_while {tc : TT} {tbd : TS} (I : Nat → Gm → Prop) (m : Nat) (h0 : I m Γ) (hs : ∀ m Γ2, I m Γ2 → EvT K W tc Γ2 (fun b Γ3 => (b = true → Go K W tbd Γ3 ⟨fun Γ4 => ∃ m', m' < m ∧ I m' Γ4, rt, xc, nx, fun Γ4 => ∃ m', m' < m ∧ I m' Γ4⟩) ∧ (b = false → nx Γ3)) xc) :
    Go K W (tWhile tc tbd) Γ ⟨nx, rt, xc, bk, ct⟩ := go_while I m h0 hs
def HdsX (K : PySem.W.Frag) (nx : Gm → Prop) (rt : Sl → Gm → Prop) (xc : XP) (bk ct : Gm → Prop) : List Hdl → XP := Hds K ⟨nx, rt, xc, bk, ct⟩
theorem g_try {tt : WX → TS} {l : List Hdl} (h : ∀ W', Go K W' (tt W') Γ ⟨nx, rt, HdsX K nx rt xc bk ct l, bk, ct⟩) : Go K W (tTry K W l tt) Γ ⟨nx, rt, xc, bk, ct⟩ := go_try h
theorem hx_yes {C : Addr} {fs : List (Str × Dt)} {h : Hdl} {r : List Hdl} (e : PySem.W.exmOne K (.ref C) h.c = some true) (k : ∀ a d, Go K (fun _ _ _ _ => False) (h.ts a (.ref C) d) (gOn h.i a C d fs Γ)
    ⟨fun Γ2 => ExAll a C d (gOff h.i Γ2) ∧ nx (fixE (gOff h.i Γ2)), fun s Γ2 => ExAll a C d (some s :: Γ2) ∧ rt (fixS s) (fixE Γ2), fun _ _ _ => False, fun Γ2 => ExAll a C d (gOff h.i Γ2) ∧ bk (fixE (gOff h.i Γ2)), fun Γ2 => ExAll a C d (gOff h.i Γ2) ∧ ct (fixE (gOff h.i Γ2))⟩) :
    HdsX K nx rt xc bk ct (h :: r) C fs Γ := ⟨true, e, fun _ => k, fun z => nomatch z⟩
theorem hx_no {C : Addr} {fs : List (Str × Dt)} {h : Hdl} {r : List Hdl} (e : PySem.W.exmOne K (.ref C) h.c = some false) (k : HdsX K nx rt xc bk ct r C fs Γ) : HdsX K nx rt xc bk ct (h :: r) C fs Γ := ⟨false, e, fun z => (nomatch z), fun _ => k⟩
theorem e_int {j : Int} (p : P (.int j) Γ) : Ev K W (tC (.int j)) Γ P X := ev_c p
theorem e_str {j : Str} (p : P (.str j) Γ) : Ev K W (tC (.str j)) Γ P X := ev_c p
theorem e_bl {j : Bool} (p : P (.bl j) Γ) : Ev K W (tC (.bl j)) Γ P X := ev_c p
theorem e_non (p : P .non Γ) : Ev K W (tC .non) Γ P X := ev_c p
theorem e_ty {j : String} (p : P (.ty j) Γ) : Ev K W (tC (.ty j)) Γ P X := ev_c p
theorem e_ref {j : Addr} (p : P (.ref j) Γ) : Ev K W (tC (.ref j)) Γ P X := ev_c p
end
section
variable {R : Dt → Prop}
theorem atI_in {α : Type} {xs : List α} {j : Int} (h1 : 0 ≤ j) (h2 : j < xs.length) : ∃ v, atI xs j = some v ∧ xs[j.toNat]? = some v := by
  have hj : j.toNat < xs.length := by omega
  refine ⟨xs[j.toNat], ?_, by simp⟩
  unfold atI ixN
  have e1 : ¬ j < 0 := by omega
  simp [h1, h2, hj]
theorem x_ixC {ns : List Int} {j : Int} (h1 : 0 ≤ j) (h2 : j < ns.length) (h : ∀ v, R (.int v)) : dIx (.scr ns) (.int j) R := by
  obtain ⟨v, e, _⟩ := atI_in h1 h2
  exact l_ixC e (h v)
theorem x_ixL {ds : List Dt} {j : Int} (h1 : 0 ≤ j) (h2 : j < ds.length) (h : ∀ v, ds[j.toNat]? = some v → R v) : dIx (.lst ds) (.int j) R := by
  obtain ⟨v, e, f⟩ := atI_in h1 h2
  exact l_ixL e (h v f)
end
section
variable {K : PySem.W.Frag} {W : WX} {Γ : Gm} {te : TE} {i : Nat} {nx : Gm → Prop} {rt : Sl → Gm → Prop} {xc : XP} {bk ct : Gm → Prop} {g : TG} {X : XP}
theorem evo_ex {P : Sl → Gm → Prop} {a C : Addr} {d : Option Addr} {fs : List (Str × Dt)} (h : Γ[i]? = some (some (.ex a C d fs))) (p : P (.ex a C d fs) Γ) : EvO K W (tVar i) Γ P X := fun O G H σ Q S q _ => by
  obtain ⟨v, e, r⟩ := S.get h
  exact ⟨v, e, q v G H Γ _ (Same.refl _) (S.push r (by simp [Sl.fp]) (by simp [Sl.fp]) (by simp [Sl.fp]) (by simp [Sl.fp])) p⟩
theorem ex_and {a C : Addr} {d : Option Addr} {Γ : Gm} {Q : Prop} (h : ExAll a C d Γ) (q : Q) : ExAll a C d Γ ∧ Q := ⟨h, q⟩
theorem own_at {l : List Bool} (h : l.all id = true) (i : Nat) {b : Bool} (e : l[i]? = some b := by rfl) : b = true := by
  rw [List.all_eq_true] at h
  exact h b (List.mem_of_getElem? e)
end
section
theorem app_len (x y : Str) : (x ++ y).length = x.length + y.length := by
  show (x ++ y).cps.size = _
  rw [PySem.Str.cps_append, Array.size_append]; rfl
end
class OpC (K : PySem.W.Frag) (r : R2) (ρ : outParam (Dt → Dt → (Dt → Prop) → Prop)) : Prop where
  rd : RD K r ρ
class CbC (K : PySem.W.Frag) (r : List V → Hp → VK → Prop) (ρ : outParam (List Dt → (Dt → Prop) → Prop)) : Prop where
  rd : RDC K r ρ
section
variable {K : PySem.W.Frag} {W : WX} {Γ : Gm} {X : XP} {P : Dt → Gm → Prop} {te ta tb : TE}
instance : OpC K (rAddP K) (dAdd) := ⟨rd_add⟩
instance : OpC K (rSubP) (dI0 fun i j => .int (i - j)) := ⟨rd_sub⟩
instance : OpC K (rMulP) (dI CMul fun i j => .int (i * j)) := ⟨rd_mul⟩
instance : OpC K (rFdivP) (dI CDiv fun i j => .int (i / j)) := ⟨rd_fdiv⟩
instance : OpC K (rModP) (dI (fun _ j => 0 < j) fun i j => .int (i % j)) := ⟨rd_mod⟩
instance : OpC K (rPowP) (dI CPow fun i j => .int (i ^ j.toNat)) := ⟨rd_pow⟩
instance : OpC K (rLtP) (dI0 fun i j => .bl (decide (i < j))) := ⟨rd_lt⟩
instance : OpC K (rLeP) (dI0 fun i j => .bl (decide (i ≤ j))) := ⟨rd_le⟩
instance : OpC K (rGtP) (dI0 fun i j => .bl (decide (j < i))) := ⟨rd_gt⟩
instance : OpC K (rGeP) (dI0 fun i j => .bl (decide (j ≤ i))) := ⟨rd_ge⟩
instance : OpC K (rEqP K) (dEq) := ⟨rd_eq⟩
instance : OpC K (rNeP K) (dNe) := ⟨rd_ne⟩
instance : OpC K (rIsP) (dIs) := ⟨rd_is⟩
instance : OpC K (rIsntP) (dIsnt) := ⟨rd_isnt⟩
instance : OpC K (rInP K) (dIn false) := ⟨rd_in⟩
instance : OpC K (rNotInP K) (dIn true) := ⟨rd_notIn⟩
instance : OpC K (rIxP K) (dIx) := ⟨rd_ix⟩
instance : CbC K (rLenP K) (dLen) := ⟨rdc_len⟩
instance : CbC K (rAbsP) (dAbs) := ⟨rdc_abs⟩
instance : CbC K (rMaxP) (dMax) := ⟨rdc_max⟩
instance : CbC K (rMinP) (dMin) := ⟨rdc_min⟩
instance : CbC K (rIntP) (dInt) := ⟨rdc_int⟩
instance : CbC K (rStrP) (dStr) := ⟨rdc_str⟩
instance : CbC K (rListP K) (dList) := ⟨rdc_list⟩
instance : CbC K (rTupleP K) (dTuple) := ⟨rdc_tuple⟩
instance : CbC K (rIsiP K) (dIsi K) := ⟨rdc_isi⟩
theorem v_op {r : R2} {ρ : Dt → Dt → (Dt → Prop) → Prop} [c : OpC K r ρ] (h : Ev K W ta Γ (fun x Γ1 => Ev K W tb Γ1 (fun y Γ2 => ρ x y fun z => P z Γ2) X) X) : Ev K W (tOp r ta tb) Γ P X := ev_op c.rd h
theorem v_cb {r : List V → Hp → VK → Prop} {ρ : List Dt → (Dt → Prop) → Prop} {t : TA} [c : CbC K r ρ] (h : EvA K W t Γ (fun ds Γ1 => ρ ds fun z => P z Γ1) X) : Ev K W (tCB r t) Γ P X := ev_cb c.rd h
theorem l_I0 {R : Dt → Prop} {g : Int → Int → Dt} {i j : Int} (h : R (g i j)) : dI0 g (.int i) (.int j) R := ⟨_, _, rfl, rfl, h⟩
end
section
variable {X : Cx}
theorem op_addK (K : PySem.W.Frag) (h : X.K = K) : OpR X (binaryOp .Add) (rAddP K) := by subst h; exact op_addP
theorem ix_K (K : PySem.W.Frag) (h : X.K = K) (hu : X.A.units + 64 < cLine) : IxR X (rIxP K) := by subst h; exact ix_P (by omega)
theorem sl_K (K : PySem.W.Frag) (h : X.K = K) : SlR X (rSlP K) := by subst h; exact sl_P
theorem call_lenK (K : PySem.W.Frag) (h : X.K = K) : CallR X (.builtin "len") (rLenP K) := by subst h; exact call_lenP
theorem call_listK (K : PySem.W.Frag) (h : X.K = K) : CallR X (.type "list") (rListP K) := by subst h; exact call_listP
theorem call_tupleK (K : PySem.W.Frag) (h : X.K = K) : CallR X (.type "tuple") (rTupleP K) := by subst h; exact call_tupleP
theorem call_isiK (K : PySem.W.Frag) (h : X.K = K) : CallR X (.builtin "isinstance") (rIsiP K) := by subst h; exact call_isiP
theorem op_eqK (K : PySem.W.Frag) (h : X.K = K) (hu : X.A.units + 64 < cLine) : OpR X (compareOp .Eq) (rEqP K) := by subst h; exact op_eqP hu
theorem op_neK (K : PySem.W.Frag) (h : X.K = K) (hu : X.A.units + 64 < cLine) : OpR X (compareOp .NotEq) (rNeP K) := by subst h; exact op_neP hu
theorem pi_seqK {tg l : Expr} {tl : TE} (K : PySem.W.Frag) (h : X.K = K) (hl : PE X l tl) : PI X tg l (iSeq K tl) := by subst h; exact pi_seq hl
theorem pe_fldK {e : Expr} {f : Str} {pos : Pos} {ta : TE} (K : PySem.W.Frag) (h : X.K = K) (he : PE X e ta) (hb : attributeBase e f X.env (eval e X.env) = eval e X.env := by rfl) : PE X (.Attribute e f pos) (tFldP K ta f) := by subst h; exact pe_fldP he hb
end
class KitC (a c : String) (r : outParam Bool) : Prop where
  kit : ∀ K : PySem.W.Frag, PySem.W.kitOne K (.type a) (.type c) = some r
class TyC (d : Dt) (a : outParam String) : Prop where
  ty : ∀ K : PySem.W.Frag, TyD K d (.type a)
instance : KitC "NoneType" "int" false := ⟨fun K => by kernel_rfl⟩
instance : KitC "NoneType" "str" false := ⟨fun K => by kernel_rfl⟩
instance : KitC "NoneType" "bool" false := ⟨fun K => by kernel_rfl⟩
instance : KitC "NoneType" "list" false := ⟨fun K => by kernel_rfl⟩
instance : KitC "NoneType" "tuple" false := ⟨fun K => by kernel_rfl⟩
instance : KitC "NoneType" "dict" false := ⟨fun K => by kernel_rfl⟩
instance : KitC "bool" "int" true := ⟨fun K => by kernel_rfl⟩
instance : KitC "bool" "str" false := ⟨fun K => by kernel_rfl⟩
instance : KitC "bool" "bool" true := ⟨fun K => by kernel_rfl⟩
instance : KitC "bool" "list" false := ⟨fun K => by kernel_rfl⟩
instance : KitC "bool" "tuple" false := ⟨fun K => by kernel_rfl⟩
instance : KitC "bool" "dict" false := ⟨fun K => by kernel_rfl⟩
instance : KitC "int" "int" true := ⟨fun K => by kernel_rfl⟩
instance : KitC "int" "str" false := ⟨fun K => by kernel_rfl⟩
instance : KitC "int" "bool" false := ⟨fun K => by kernel_rfl⟩
instance : KitC "int" "list" false := ⟨fun K => by kernel_rfl⟩
instance : KitC "int" "tuple" false := ⟨fun K => by kernel_rfl⟩
instance : KitC "int" "dict" false := ⟨fun K => by kernel_rfl⟩
instance : KitC "str" "int" false := ⟨fun K => by kernel_rfl⟩
instance : KitC "str" "str" true := ⟨fun K => by kernel_rfl⟩
instance : KitC "str" "bool" false := ⟨fun K => by kernel_rfl⟩
instance : KitC "str" "list" false := ⟨fun K => by kernel_rfl⟩
instance : KitC "str" "tuple" false := ⟨fun K => by kernel_rfl⟩
instance : KitC "str" "dict" false := ⟨fun K => by kernel_rfl⟩
instance : KitC "list" "int" false := ⟨fun K => by kernel_rfl⟩
instance : KitC "list" "str" false := ⟨fun K => by kernel_rfl⟩
instance : KitC "list" "bool" false := ⟨fun K => by kernel_rfl⟩
instance : KitC "list" "list" true := ⟨fun K => by kernel_rfl⟩
instance : KitC "list" "tuple" false := ⟨fun K => by kernel_rfl⟩
instance : KitC "list" "dict" false := ⟨fun K => by kernel_rfl⟩
instance : KitC "tuple" "int" false := ⟨fun K => by kernel_rfl⟩
instance : KitC "tuple" "str" false := ⟨fun K => by kernel_rfl⟩
instance : KitC "tuple" "bool" false := ⟨fun K => by kernel_rfl⟩
instance : KitC "tuple" "list" false := ⟨fun K => by kernel_rfl⟩
instance : KitC "tuple" "tuple" true := ⟨fun K => by kernel_rfl⟩
instance : KitC "tuple" "dict" false := ⟨fun K => by kernel_rfl⟩
instance : KitC "dict" "int" false := ⟨fun K => by kernel_rfl⟩
instance : KitC "dict" "str" false := ⟨fun K => by kernel_rfl⟩
instance : KitC "dict" "bool" false := ⟨fun K => by kernel_rfl⟩
instance : KitC "dict" "list" false := ⟨fun K => by kernel_rfl⟩
instance : KitC "dict" "tuple" false := ⟨fun K => by kernel_rfl⟩
instance : KitC "dict" "dict" true := ⟨fun K => by kernel_rfl⟩
instance : TyC (.non) "NoneType" := ⟨fun K => .non⟩
instance {b : Bool} : TyC (.bl b) "bool" := ⟨fun K => .bl b⟩
instance {i : Int} : TyC (.int i) "int" := ⟨fun K => .int i⟩
instance {x : Str} : TyC (.str x) "str" := ⟨fun K => .str x⟩
instance {x : List Dt} : TyC (.lst x) "list" := ⟨fun K => .lst x⟩
instance {x : List Dt} : TyC (.tup x) "tuple" := ⟨fun K => .tup x⟩
instance {x : List (Key × Dt)} : TyC (.dK x) "dict" := ⟨fun K => .dK x⟩
theorem x_isi {K : PySem.W.Frag} {R : Dt → Prop} {x : Dt} {a c : String} {r : Bool} [t : TyC x a] [k : KitC a c r] (h : R (.bl r)) : dIsi K [x, .ty c] R := l_isi (.ty c) (t.ty K) (k.kit K) h
theorem x_fldE {K : PySem.W.Frag} {C : Addr} {fs : List (Str × Dt)} {f : Str} {y : Dt} {Q : Dt → Prop} (hc : XfC K C) (hn : PySem.W.findIn K (.ref C) f = some none) (hl : fs.lookup f = some y) (p : Q y) :
    (∃ C' fs' y, Dt.exc C fs = .obj C' fs' ∧ Cls K C' ∧ NoAttr K C' f ∧ fs'.lookup f = some y ∧ Q y) ∨ (∃ C' fs' y, Dt.exc C fs = .exc C' fs' ∧ XfC K C' ∧ PySem.W.findIn K (.ref C') f = some none ∧ fs'.lookup f = some y ∧ Q y) := .inr ⟨_, _, _, rfl, hc, hn, hl, p⟩
theorem x_isE {K : PySem.W.Frag} {R : Dt → Prop} {C D : Addr} {fs : List (Str × Dt)} {b : Bool} (f : ExcC K C) (hk : PySem.W.kitOne K (.ref C) (.ref D) = some b) (h : R (.bl b)) : dIsi K [.exc C fs, .ref D] R := l_isi (.own D) (.exc f) hk h
theorem x_isV {K : PySem.W.Frag} {R : Dt → Prop} {C : Addr} {n : String} {fs : List (Str × Dt)} {b : Bool} (f : ExcC K C) (hk : PySem.W.kitOne K (.ref C) (.type n) = some b) (h : R (.bl b)) : dIsi K [.exc C fs, .ty n] R := l_isi (.ty n) (.exc f) hk h
inductive Fl : Dt → Prop
  | non : Fl .non
  | bl (b : Bool) : Fl (.bl b)
  | int (i : Int) : Fl (.int i)
  | str {z : Str} (h : z.length ≤ 1000) : Fl (.str z)
def isInt : Dt → Bool
  | .int _ => true
  | _ => false
def isStr : Dt → Bool
  | .str _ => true
  | _ => false
def isBl : Dt → Bool
  | .bl _ => true
  | _ => false
def eqStr (s : Str) : Dt → Bool
  | .str z => decide (z = s)
  | _ => false
section
variable {R : Dt → Prop} {K : PySem.W.Frag}
theorem f_eqS {d : Dt} {s : Str} (f : Fl d) (h : R (.bl (eqStr s d))) : dEq d (.str s) R := by
  cases f with
  | non => exact l_eqX rfl h
  | bl b => exact l_eqX rfl h
  | int i => exact l_eqX rfl h
  | str l => exact l_eqS h
theorem f_eqD {d : Dt} (f : Fl d) (h : R (.bl true)) : dEq d d R := by
  cases f with
  | non => exact l_eqX rfl h
  | bl b => exact l_eqX (by simp [eqS]) h
  | int i => exact l_eqX (by simp [eqS]) h
  | str l => exact l_eqX (by simp [eqS]) h
theorem f_neD {d : Dt} (f : Fl d) (h : R (.bl false)) : dNe d d R := by
  cases f with
  | non => exact l_neX (b := true) rfl h
  | bl b => exact l_neX (b := true) (by simp [eqS]) h
  | int i => exact l_neX (b := true) (by simp [eqS]) h
  | str l => exact l_neX (b := true) (by simp [eqS]) h
theorem f_isInt {d : Dt} (f : Fl d) (h : R (.bl (isInt d || isBl d))) : dIsi K [d, .ty "int"] R := by
  cases f with
  | non => exact x_isi h
  | bl b => exact x_isi h
  | int i => exact x_isi h
  | str l => exact x_isi h
theorem f_isBl {d : Dt} (f : Fl d) (h : R (.bl (isBl d))) : dIsi K [d, .ty "bool"] R := by
  cases f with
  | non => exact x_isi h
  | bl b => exact x_isi h
  | int i => exact x_isi h
  | str l => exact x_isi h
theorem f_isStr {d : Dt} (f : Fl d) (h : R (.bl (isStr d))) : dIsi K [d, .ty "str"] R := by
  cases f with
  | non => exact x_isi h
  | bl b => exact x_isi h
  | int i => exact x_isi h
  | str l => exact x_isi h
end
end DL
namespace L2
open PySem PySem.Spec PyProof.Rows
section
variable {X : Cx} {CX : CXT} {k : Nat} {f C : Addr} {fd : FuncData} {ps : List Str} {sp : Sp} {E : St → XK} {x m : Str} {p pos apos : Pos} {e o : Expr} {es : List Expr} {ta : TE} {t : TA}
def tMakeS (C : Addr) (sp : Sp) (E : St → XK) (t : TA) : TE := fun σ H Q => t σ H fun vs H1 =>
  ∀ y dy, H1 y = none → H1 dy = none → dy ≠ y → sp (.ref y :: vs) (upd (upd H1 dy (.own y)) y (.ins C dy [])) (fun v H2 => v = .non ∧ Q (.ref y) H2) (E σ)
end
end L2
namespace DL
open PySem PySem.Spec L2
section
variable {X : Cx} {x m : Str} {ps : List Str} {k j : Nat} {S : DSp} {W : WX} {e o : Expr} {es : List Expr} {t : TA} {ta : TE} {p pos apos : Pos} {C f : Addr}
theorem ps_fldK {value : Expr} {f : Str} {pos' : Pos} {tv : TE} (K : PySem.W.Frag) (h : X.K = K) (ha : PE X o ta) (hv : PE X value tv) (hs : swapsWith value (some (.Attribute o f pos')) pos.line X.env = pure false := by rfl) : PS X (.Assign [.Attribute o f pos'] value pos) (sFld K ta tv f) := by
  subst h
  exact ps_fld ha hv hs
end
section
variable {K : PySem.W.Frag} {W : WX} {Γ : Gm} {X : XP} {P : Dt → Gm → Prop} {te ta tb tv : TE} {i : Nat} {nx : Gm → Prop} {rt : Sl → Gm → Prop} {xc : XP} {bk ct : Gm → Prop}
abbrev frF (fs : List (Str × Dt)) : List (Str × Sl) := fs.map fun p => (p.1, .fr p.2)
def putD (f : Str) (d : Dt) : List (Str × Dt) → List (Str × Dt)
  | [] => [(f, d)]
  | (g, c) :: r => if g = f then (g, d) :: r else (g, c) :: putD f d r
theorem fpF_fr : ∀ fs : List (Str × Dt), fpF (frF fs) = []
  | [] => rfl
  | (f, d) :: r => by
    show (Sl.fr d).fp ++ fpF (frF r) = []
    rw [fpF_fr r]; rfl
theorem ownF_rep {G H : Hp} : ∀ {vs : List (Str × V)} {fs : List (Str × Dt)}, OwnF K G H vs (frF fs) → RepF K G vs fs
  | _, [], .nil => .nil
  | _, (f, d) :: r, .cons (.fr h) t => .cons h (ownF_rep t)
theorem rep_ownF {G H : Hp} : ∀ {vs : List (Str × V)} {fs : List (Str × Dt)}, RepF K G vs fs → OwnF K G H vs (frF fs)
  | _, _, .nil => .nil
  | _, _, .cons h t => .cons (.fr h) (rep_ownF t)
theorem Sta.frz1 {O G H : Hp} {σ : St} {v : V} {s : Sl} {a : Addr} {ob : HO} (S : Sta K O G H (some v :: σ) (some s :: Γ)) (hf : s.fp = [a]) (ha : H a = some ob) : Same G (upd G a ob) ∧ Sta K O (upd G a ob) H σ Γ := by
  have na : G a = none := S.ng a (by simp [fps, fpO, hf])
  have oa : O a = none := S.no a (by simp [fps, fpO, hf])
  obtain ⟨s1, s2⟩ := same_frz S.g ha na
  have T := S.tail
  have nd := S.nd
  simp only [fps, fpO, hf] at nd
  have nf : a ∉ fps Γ := fun z => (List.nodup_append.mp nd).2.2 a (by simp) a z rfl
  refine ⟨s1, s2, T.o, fun b hb => ?_, T.sl.mono s1 fun _ _ _ q => q, T.nd, fun b hb => ?_, T.no, T.om⟩
  · by_cases e : b = a
    · subst e; exact absurd oa hb
    · rw [upd_ne e]; exact T.d b hb
  · by_cases e : b = a
    · subst e; exact absurd hb nf
    · rw [upd_ne e]; exact T.ng b hb
theorem ev_make {S : DSp} {C : Addr} {t : TA} (h : EvA K W t Γ (fun ds Γ1 => ∀ y, S (.oo y C [] :: ds.map .fr) (fun res args' => ∃ fs, res = .fr .non ∧ args' = .oo y C (frF fs) :: ds.map .fr ∧ P (.obj C fs) Γ1) (fun D fs _ => X D fs Γ1)) X) : Ev K W (tMakeS C (spD K S) (WE W) t) Γ P X := fun O G H σ Q S0 q x =>
  h O G H σ _ S0 (fun vs G1 H1 Γ1 ds s1 S1 r hS y dy ny nd ne => by
    have e1 : Ext G1 H1 G1 (upd H1 dy (.own y)) := Ext.raw S1.g nd
    have ny2 : upd H1 dy (.own y) y = none := by rw [upd_ne (Ne.symm ne)]; exact ny
    have e2 : Ext G1 (upd H1 dy (.own y)) G1 (upd (upd H1 dy (.own y)) y (.ins C dy [])) := Ext.raw e1.s ny2
    have S2 := S1.ext (e1.trans e2)
    have Se := S2.entry0 r
    have yf : y ∉ fps Γ1 := fun z => S1.there y z ny
    have Sp := Se.push (v := .ref y) (s := .oo y C []) (.oo upd_same .nil) (by simp [Sl.fp, fpF]) (fun a ha => by
      simp [Sl.fp, fpF] at ha; subst ha; exact S1.g.free ny) (fun a ha => by
      simp [Sl.fp, fpF] at ha; subst ha
      rw [forn_out yf]; exact S1.o.free ny) (fun a ha => by rw [fps_fr]; simp)
    refine ⟨_, G1, .oo y C [] :: ds.map .fr, _, _, Sp, hS y, fun v G2 H2 res args' s2 T2 p => ?_, fun D d fs G2 H2 args' s2 T2 rx p => ?_⟩
    · obtain ⟨fs, er, ea, p⟩ := p
      subst er ea
      have hv := T2.head
      cases hv with
      | fr rv =>
      cases rv
      refine ⟨rfl, ?_⟩
      have Tt := T2.tail
      have oy := Tt.head
      have Tb := S2.back s2 T2.g T2.o T2.d
      have fpy : (Sl.oo y C (frF fs)).fp = [y] := by simp only [Sl.fp]; rw [fpF_fr]
      have Tp := Tb.push oy (by rw [fpy]; simp) (fun a ha => Tt.ng a (by simp only [List.map_cons, fps, fpO, List.mem_append]; exact .inl ha)) (fun a ha => by
        have n := Tt.no a (by simp only [List.map_cons, fps, fpO, List.mem_append]; exact .inl ha)
        by_cases hf : a ∈ fps Γ1
        · exact S1.no a hf
        · rw [forn_out hf] at n; exact n) (fun a ha z => by
        rw [fpy] at ha; simp at ha; subst ha; exact yf z)
      cases oy with
      | @oo _ _ dx fsv _ hy of =>
      obtain ⟨s3, T3⟩ := Tp.frz1 fpy hy
      exact q (.ref y) _ H2 Γ1 (.obj C fs) (s1.trans (s2.trans s3)) T3 (.obj upd_same ((ownF_rep of).mono s3)) p
    · exact x D d fs G2 H2 Γ1 (s1.trans s2) (S2.back s2 T2.g T2.o T2.d) rx p) x
theorem repF_put {G : Hp} {f : Str} {v : V} {d : Dt} (h : Rep K G v d) : ∀ {vs : List (Str × V)} {fs : List (Str × Dt)}, RepF K G vs fs → RepF K G (putF f v vs) (putD f d fs)
  | _, _, .nil => .cons h .nil
  | _, _, .cons (f := g) (vs := r) (ds := r') q t => by
    unfold putF putD
    by_cases e : g = f
    · rw [if_pos e, if_pos e]; exact .cons h t
    · rw [if_neg e, if_neg e]; exact .cons q (repF_put h t)
theorem Sta.mutO {O G H : Hp} {σ : St} {a C dx : Addr} {s : Sl} {fs : List (Str × Dt)} {vs : List (Str × V)} (S : Sta K O G H σ Γ) (hi : Γ[i]? = some (some s)) (hf : s.fp = [a]) (ev : σ[i]? = some (some (.ref a))) (r : RepF K G vs fs) :
    Sta K O G (upd H a (.ins C dx vs)) σ (Γ.set i (some (.oo a C (frF fs)))) := by
  have ma : a ∈ fps Γ := mem_fps hi a (by rw [hf]; simp)
  have ga := S.ng a ma
  have oa := S.no a ma
  obtain ⟨m1, m2⟩ := fps_part hi S.nd
  have na : a ∉ fps (Γ.set i none) := m2 a (by rw [hf]; simp)
  have il : i < σ.length := by
    rcases Nat.lt_or_ge i σ.length with z | z
    · exact z
    · rw [List.getElem?_eq_none z] at ev; cases ev
  have Sf := S.forget i (some (.ref a))
  have es : σ.set i (some (.ref a)) = σ := by
    apply List.ext_getElem?
    intro j
    rw [List.getElem?_set]
    by_cases hj : i = j
    · subst hj; rw [if_pos rfl, ev, if_pos il]
    · rw [if_neg hj]
  rw [es] at Sf
  have T : Sta K O G (upd H a (.ins C dx vs)) σ (Γ.set i none) := by
    refine ⟨fun b u q => ?_, fun b u q => ?_, Sf.d, Sf.sl.mono (Same.refl _) fun b hb u q => ?_, Sf.nd, Sf.ng, Sf.no, Sf.om⟩
    · rw [upd_ne (ne_of_none q ga)]; exact S.g b u q
    · rw [upd_ne (ne_of_none q oa)]; exact S.o b u q
    · rw [upd_ne (fun z : b = a => na (by rw [← z]; exact hb))]; exact q
  have fpa : (Sl.oo a C (frF fs)).fp = [a] := by simp only [Sl.fp]; rw [fpF_fr]
  have T2 := (T.push (v := .ref a) (s := .oo a C (frF fs)) (.oo upd_same (rep_ownF r)) (by rw [fpa]; simp) (fun b hb => by rw [fpa] at hb; simp at hb; subst hb; exact ga) (fun b hb => by rw [fpa] at hb; simp at hb; subst hb; exact oa) (fun b hb => by rw [fpa] at hb; simp at hb; subst hb; exact na)).put i
  rw [es, List.set_set] at T2
  exact T2
theorem g_fld {f : Str} (h : Ev K W tv Γ (fun d Γ1 => ∃ a C fs, Γ1[i]? = some (some (.oo a C (frF fs))) ∧ (Cls K C ∧ NoAttr K C f ∧ fs.length < 1000) ∧ nx (Γ1.set i (some (.oo a C (frF (putD f d fs)))))) xc) : Go K W (sFld K (tVar i) tv f) Γ ⟨nx, rt, xc, bk, ct⟩ := fun O G H σ D S a b c d e =>
  h O G H σ _ S (fun v G1 H1 Γ1 dv s1 S1 r ⟨ad, C, fs, hg, ⟨hc, hn, hl⟩, p⟩ => by
    obtain ⟨u, eu, ou⟩ := S1.get hg
    have z := ou.adr rfl
    subst z
    cases ou with
    | @oo _ _ dx fsv _ hy of =>
    have rf := ownF_rep of
    refine ⟨_, eu, ad, C, dx, fsv, rfl, hy, hc, hn, by rw [rf.length]; exact hl, ?_⟩
    exact a G1 _ σ _ s1 (S1.mutO hg (by simp only [Sl.fp]; rw [fpF_fr]) eu (repF_put r rf)) p) (e σ)
end
end DL
namespace DL
open PySem PySem.Spec L2
def EvI (K : PySem.W.Frag) (W : WX) (wi : TI) (Γ : Gm) (P : List Dt → Gm → Prop) (X : XP) : Prop :=
  ∀ (O G H : Hp) (σ : St) (R : It → Hp → Prop), Sta K O G H σ Γ →
    (∀ (J : It) (G2 H2 : Hp) (Γ2 : Gm) (xs : List Dt) (n : Nat) (GG : Hp → Prop) (Y : Nat → Hp → V → Hp → Prop), Same G G2 → Sta K O G2 H2 σ Γ2 → Walk J n GG Y → n = xs.length → (∀ H', Same G2 H' → GG H') →
      (∀ k x v G3 H3 H4, xs[k]? = some x → Same G2 G3 → Same G3 H3 → Y k H3 v H4 → ∃ G4, DL.Ext G3 H3 G4 H4 ∧ Rep K G4 v x) → P xs Γ2 → R J H2) → XOk K W O G σ X → wi σ H R
section
variable {K : PySem.W.Frag} {W : WX} {Γ : Gm} {X : XP} {te ta tb : TE} {i : Nat} {nx : Gm → Prop} {rt : Sl → Gm → Prop} {xc : XP} {bk ct : Gm → Prop} {g : TG} {tbd : TS} {wi : TI} {PI : List Dt → Gm → Prop}
theorem g_forI (h : EvI K W wi Γ (fun xs Γ1 => ∃ I : Nat → Gm → Prop, I 0 Γ1 ∧ (∀ k x Γ2, xs[k]? = some x → I k Γ2 → GoG K W g x Γ2 (fun Γ3 => Go K W tbd Γ3 ⟨I (k + 1), rt, xc, nx, I (k + 1)⟩) xc) ∧ (∀ Γ2, I xs.length Γ2 → nx Γ2)) xc) :
    Go K W (tFor wi g tbd) Γ ⟨nx, rt, xc, bk, ct⟩ := fun O G H σ D S a b c d e =>
  h O G H σ _ S (fun J G1 H1 Γ1 xs n GG Y s1 S1 w hn hG hY ⟨I, h0, hs, hd⟩ => go_walk (PP := ⟨nx, rt, xc, bk, ct⟩) w xs hn S1 hG (fun k x v G2 H2 H3 _ hx s2 g2 y => hY k x v G2 H2 H3 hx s2 g2 y)
    (fun G2 H2 σ2 Γ2 s2 S2 p => a G2 H2 σ2 Γ2 (s1.trans s2) S2 p) (fun v G2 H2 σ2 Γ2 z s2 S2 p => b v G2 H2 σ2 Γ2 z (s1.trans s2) S2 p) (fun σ2 => (e σ2).mono s1) I h0 hs hd) (e σ)
theorem ei_seq (h : Ev K W te Γ (fun d Γ1 => ∃ xs, SeqD d xs ∧ PI xs Γ1) X) : EvI K W (iSeq K te) Γ PI X := fun O G H σ R S q x =>
  h O G H σ _ S (fun v G1 H1 Γ1 dd s1 S1 r ⟨xs, sq, p⟩ => by
    cases sq with
    | lst ds =>
      cases r with
      | @lst ad vs _ ha rs =>
        refine .inl ⟨ad, rfl, ⟨vs, SqL.of (S1.g _ _ ha)⟩, q _ G1 H1 Γ1 _ _ _ _ s1 S1 (walk_list (K := K) (a := ad) (xs := vs)) rs.length (fun H' s' => SqL.of (s' _ _ ha)) (fun k x v G2 H2 H3 hx s2 g2 y => ?_) p⟩
        obtain ⟨rfl, hv⟩ := y
        obtain ⟨d', hd', rr⟩ := rs.get' hv
        rw [hx] at hd'; cases hd'
        exact ⟨G2, Ext.refl g2, rr.mono s2⟩
    | tup ds =>
      cases r with
      | @tup ad vs _ ha rs =>
        refine .inr (.inl ⟨ad, rfl, ⟨vs, SqT.of (S1.g _ _ ha)⟩, q _ G1 H1 Γ1 _ _ _ _ s1 S1 (walk_tup (K := K) (a := ad) (xs := vs)) rs.length (fun H' s' => SqT.of (s' _ _ ha)) (fun k x v G2 H2 H3 hx s2 g2 y => ?_) p⟩)
        obtain ⟨rfl, hv⟩ := y
        obtain ⟨d', hd', rr⟩ := rs.get' hv
        rw [hx] at hd'; cases hd'
        exact ⟨G2, Ext.refl g2, rr.mono s2⟩
    | scr ns =>
      cases r with
      | @scr ad _ ha =>
        refine .inl ⟨ad, rfl, ⟨_, S1.g.seq ha⟩, q _ G1 H1 Γ1 _ _ _ _ s1 S1 (walk_list (K := K) (a := ad) (xs := ns.map V.int)) (by simp) (fun H' s' => s'.seq ha) (fun k x v G2 H2 H3 hx s2 g2 y => ?_) p⟩
        obtain ⟨rfl, hv⟩ := y
        rw [List.getElem?_map] at hv hx
        cases z : ns[k]? with
        | none => rw [z] at hx; cases hx
        | some n =>
          rw [z] at hx hv
          cases hx; cases hv
          exact ⟨G2, Ext.refl g2, .int n⟩
    | str z =>
      cases r
      refine .inr (.inr (.inl ⟨z, rfl, q _ G1 H1 Γ1 _ _ _ _ s1 S1 (walk_str (z := z)) (by simp) (fun _ _ => trivial) (fun k x v G2 H2 H3 hx s2 g2 y => ?_) p⟩))
      obtain ⟨rfl, c, hc, rfl⟩ := y
      rw [List.getElem?_map] at hx
      have hc' : z.cps.toList[k]? = some c := by simpa using hc
      rw [hc'] at hx
      cases hx
      exact ⟨G2, Ext.refl g2, .str _⟩
    | dK ds =>
      cases r with
      | @dK ad ob vs _ ha rs =>
        exact .inr (.inr (.inr ⟨ad, ob, rfl, .inl ⟨vs, S1.g _ _ ha, q _ G1 H1 Γ1 (ds.map fun p => kD p.1) _ _ _ s1 S1 (walk_keys (d := ad) (o := ob) (kvs := vs)) (by rw [rs.length, List.length_map]) (fun H' s' => s' _ _ ha) (fun k x v G2 H2 H3 hx s2 g2 y => item_K (rs.mono s2) g2 hx y) p⟩⟩))
    | dT ds =>
      cases r with
      | @dT ad ob vs _ ha rs =>
        exact .inr (.inr (.inr ⟨ad, ob, rfl, .inr ⟨vs, S1.g _ _ ha, q _ G1 H1 Γ1 (ds.map fun p => kDs p.1) _ _ _ s1 S1 (walk_keysT (d := ad) (o := ob) (kvs := vs)) (by rw [rs.length, List.length_map]) (fun H' s' => s' _ _ ha) (fun k x v G2 H2 H3 hx s2 g2 y => item_T (rs.mono s2) g2 hx y) p⟩⟩))) x
def rngD (m n : Int) : List Dt := (List.range (n - m).toNat).map fun (k : Nat) => .int (m + (k : Int))
theorem rngD_get {m n : Int} {k : Nat} {x : Dt} (h : (rngD m n)[k]? = some x) : x = .int (m + k) ∧ m + k < n := by
  unfold rngD at h
  rw [List.getElem?_map] at h
  rcases Nat.lt_or_ge k (n - m).toNat with z | z
  · rw [List.getElem?_range z] at h
    cases h
    exact ⟨rfl, by omega⟩
  · rw [List.getElem?_eq_none (by simpa using z)] at h; cases h
theorem rngD_len (m n : Int) : (rngD m n).length = (n - m).toNat := by simp [rngD]
theorem ei_rng2 {t : TA} (h : EvA K W t Γ (fun ds Γ1 => ∃ m n : Int, ds = [.int m, .int n] ∧ (-(2 ^ 62) ≤ m ∧ m < 2 ^ 62 ∧ -(2 ^ 62) ≤ n ∧ n < 2 ^ 62) ∧ PI (rngD m n) Γ1) X) : EvI K W (iRng2 t) Γ PI X := fun O G H σ R S q x =>
  h O G H σ _ S (fun vs G1 H1 Γ1 ds s1 S1 r ⟨m, n, en, l, p⟩ => by
    subst en
    cases r with
    | cons r1 r2 =>
      cases r2 with
      | cons r2 r3 =>
      cases r1; cases r2; cases r3
      refine ⟨m, n, rfl, l, q _ G1 H1 Γ1 _ _ _ _ s1 S1 (walk_range (lo := m) (n := (n - m).toNat)) (rngD_len m n).symm (fun _ _ => trivial) (fun k x v G2 H2 H3 hx s2 g2 y => ?_) p⟩
      obtain ⟨rfl, rfl⟩ := y
      obtain ⟨rfl, _⟩ := rngD_get hx
      exact ⟨G2, Ext.refl g2, .int _⟩) x
theorem ei_rng1 {t : TA} (h : EvA K W t Γ (fun ds Γ1 => ∃ n : Int, ds = [.int n] ∧ (-(2 ^ 62) ≤ n ∧ n < 2 ^ 62) ∧ PI (rngD 0 n) Γ1) X) : EvI K W (iRng1 t) Γ PI X := fun O G H σ R S q x =>
  h O G H σ _ S (fun vs G1 H1 Γ1 ds s1 S1 r ⟨n, en, ⟨l1, l2⟩, p⟩ => by
    subst en
    cases r with
    | cons r1 r2 =>
      cases r1; cases r2
      refine ⟨n, rfl, l1, l2, q _ G1 H1 Γ1 _ _ _ _ s1 S1 (walk_range (lo := 0) (n := n.toNat)) (by rw [rngD_len]; simp) (fun _ _ => trivial) (fun k x v G2 H2 H3 hx s2 g2 y => ?_) p⟩
      obtain ⟨rfl, rfl⟩ := y
      obtain ⟨rfl, _⟩ := rngD_get hx
      exact ⟨G2, Ext.refl g2, .int _⟩) x
end
section
variable {K : PySem.W.Frag} {G H : Hp}
theorem slots_of : ∀ {σ : St} {Γ : Gm}, σ.length = Γ.length → (∀ (i : Nat) (s : Sl), Γ[i]? = some (some s) → ∃ v, σ[i]? = some (some v) ∧ Own K G H v s) → Slots K G H σ Γ
  | [], [], _, _ => .nil
  | [], _ :: _, h, _ => by simp at h
  | _ :: _, [], h, _ => by simp at h
  | x :: σ, none :: Γ, h, k => .no (slots_of (by simpa using h) fun i s e => by simpa using k (i + 1) s (by simpa using e))
  | x :: σ, some y :: Γ, h, k => by
    obtain ⟨v, e, o⟩ := k 0 y rfl
    simp at e
    subst e
    exact .yes o (slots_of (by simpa using h) fun i s e => by simpa using k (i + 1) s (by simpa using e))
def wipeG (Γ : Gm) : List Nat → Gm
  | [] => Γ
  | v :: vs => (wipeG Γ vs).set v none
theorem wipe_get : ∀ {vs : List Nat} {σ : St} {i : Nat} {v : V}, (wipe σ vs)[i]? = some (some v) → σ[i]? = some (some v)
  | [], _, _, _, h => h
  | w :: vs, σ, i, v, h => by
    unfold wipe at h
    rw [List.getElem?_set] at h
    by_cases e : w = i
    · rw [if_pos e] at h
      split at h
      · cases h
      · cases h
    · rw [if_neg e] at h
      exact wipe_get h
theorem sta_unwipe {O : Hp} {σ : St} {Γ : Gm} {vs : List Nat} (S : Sta K O G H (wipe σ vs) Γ) : Sta K O G H σ Γ := by
  refine ⟨S.g, S.o, S.d, slots_of (by rw [← S.sl.len, wipe_length]) fun i s e => ?_, S.nd, S.ng, S.no, S.om⟩
  obtain ⟨v, e, o⟩ := S.get e
  exact ⟨v, wipe_get e, o⟩
theorem sta_wipe {O : Hp} {σ : St} {Γ : Gm} (S : Sta K O G H σ Γ) : ∀ vs : List Nat, Sta K O G H (wipe σ vs) (wipeG Γ vs)
  | [] => S
  | v :: vs => (sta_wipe S vs).forget v none
theorem updM {O : Hp} {D : Addr} {o : HO} (h : ∀ a u, O a = some u → MutT (some u)) (mu : MutT (some o)) : ∀ a u, upd O D o a = some u → MutT (some u) := fun a u q => by
  by_cases e : a = D
  · subst e; rw [upd_same] at q; cases q; exact mu
  · rw [upd_ne e] at q; exact h a u q
theorem Sta.toO {O : Hp} {σ : St} {Γ : Gm} {D : Addr} {o : HO} (S : Sta K O G H σ Γ) (hD : H D = some o) (oD : O D = none) (gD : G D = none) (fD : D ∉ fps Γ) (mu : Mut (some o)) : Sta K (upd O D o) G H σ Γ := by
  refine ⟨S.g, fun a u q => ?_, fun a q => ?_, S.sl, S.nd, S.ng, fun a ha => ?_, updM S.om (.inl mu)⟩
  · by_cases e : a = D
    · subst e; rw [upd_same] at q; cases q; exact hD
    · rw [upd_ne e] at q; exact S.o a u q
  · by_cases e : a = D
    · subst e; exact gD
    · rw [upd_ne e] at q; exact S.d a q
  · rw [upd_ne (fun z : a = D => fD (z ▸ ha))]; exact S.no a ha
theorem Sta.offO {O : Hp} {σ : St} {Γ : Gm} {D : Addr} {o : HO} (S : Sta K (upd O D o) G H σ Γ) (oD : O D = none) : Sta K O G H σ Γ := by
  refine ⟨S.g, fun a u q => S.o a u (by rw [upd_ne (ne_of_none q oD)]; exact q), fun a q => S.d a ?_, S.sl, S.nd, S.ng, fun a ha => ?_, fun a u q => S.om a u (by rw [upd_ne (ne_of_none q oD)]; exact q)⟩
  · by_cases e : a = D
    · subst e; exact absurd oD q
    · rw [upd_ne e]; exact q
  · have n := S.no a ha
    by_cases e : a = D
    · subst e; rw [upd_same] at n; cases n
    · rw [upd_ne e] at n; exact n
theorem Sta.updO {O : Hp} {σ : St} {Γ : Gm} {D : Addr} {o o' : HO} (S : Sta K (upd O D o) G H σ Γ) (mu : Mut (some o')) : Sta K (upd O D o') G (upd H D o') σ Γ := by
  have gD : G D = none := S.d D (by rw [upd_same]; simp)
  have fD : D ∉ fps Γ := fun z => by have n := S.no D z; rw [upd_same] at n; cases n
  refine ⟨fun a u q => ?_, fun a u q => ?_, fun a q => ?_, S.sl.mono (Same.refl _) fun a ha u q => ?_, S.nd, S.ng, fun a ha => ?_, fun a u q => ?om⟩
  · rw [upd_ne (ne_of_none q gD)]; exact S.g a u q
  · by_cases e : a = D
    · subst e; rw [upd_same] at q ⊢; exact q
    · rw [upd_ne e] at q ⊢; exact S.o a u (by rw [upd_ne e]; exact q)
  · by_cases e : a = D
    · subst e; exact gD
    · rw [upd_ne e] at q; exact S.d a (by rw [upd_ne e]; exact q)
  · rw [upd_ne (fun z : a = D => fD (z ▸ ha))]; exact q
  · rw [upd_ne (fun z : a = D => fD (z ▸ ha))]
    have n := S.no a ha
    rw [upd_ne (fun z : a = D => fD (z ▸ ha))] at n
    exact n
  case om =>
    by_cases e : a = D
    · subst e; rw [upd_same] at q; cases q; exact .inl mu
    · rw [upd_ne e] at q; exact S.om a u (by rw [upd_ne e]; exact q)
end
def Wr (g : TG) (vs : List Nat) : Prop := ∀ (v : V) (σ : St) (H : Hp) (Q : St → Hp → Prop), g v σ H Q → g v σ H fun σ2 H2 => wipe σ2 vs = wipe σ vs ∧ Q σ2 H2
def Wrs (g : TGs) (vs : List Nat) : Prop := ∀ (v : List V) (σ : St) (H : Hp) (Q : St → Hp → Prop), g v σ H Q → g v σ H fun σ2 H2 => wipe σ2 vs = wipe σ vs ∧ Q σ2 H2
abbrev WF : WX := fun _ _ _ _ => False
abbrev XF : XP := fun _ _ _ => False
theorem wipe_set {σ : St} {x : Option V} : ∀ {vs : List Nat} {i : Nat}, i ∈ vs → wipe (σ.set i x) vs = wipe σ vs
  | [], _, h => by simp at h
  | w :: vs, i, h => by
    unfold wipe
    by_cases e : i = w
    · subst e
      by_cases m : i ∈ vs
      · rw [wipe_set m]
      · have key : ∀ (us : List Nat), (wipe (σ.set i x) us).set i none = (wipe σ us).set i none := by
          intro us
          induction us with
          | nil => simp [wipe]
          | cons u us ih =>
            unfold wipe
            by_cases q : u = i
            · subst q
              rw [List.set_set, List.set_set]; exact ih
            · rw [List.set_comm _ _ q, ih, List.set_comm _ _ q]
        exact key vs
    · have m : i ∈ vs := by
        rcases List.mem_cons.mp h with z | z
        · exact absurd z e
        · exact z
      rw [wipe_set m]
theorem wipe_in {σ : St} {us : List Nat} : ∀ {vs : List Nat}, (∀ v ∈ vs, v ∈ us) → wipe (wipe σ vs) us = wipe σ us
  | [], _ => rfl
  | v :: vs, h => by
    show wipe ((wipe σ vs).set v none) us = _
    rw [wipe_set (h v (by simp)), wipe_in fun w hw => h w (by simp [hw])]
theorem wr_name {i : Nat} {vs : List Nat} (h : i ∈ vs) : Wr (gName i) vs := fun v σ H Q q => ⟨wipe_set h, q⟩
theorem wrs_nil {vs : List Nat} : Wrs gNil vs := fun v σ H Q ⟨e, q⟩ => ⟨e, rfl, q⟩
def MoG (g : TG) : Prop := ∀ (v : V) (σ : St) (H : Hp) (Q Q' : St → Hp → Prop), (∀ a b, Q a b → Q' a b) → g v σ H Q → g v σ H Q'
def MoGs (g : TGs) : Prop := ∀ (v : List V) (σ : St) (H : Hp) (Q Q' : St → Hp → Prop), (∀ a b, Q a b → Q' a b) → g v σ H Q → g v σ H Q'
theorem mo_name {i : Nat} : MoG (gName i) := fun v σ H Q Q' k q => k _ _ q
theorem mos_nil : MoGs gNil := fun v σ H Q Q' k ⟨e, q⟩ => ⟨e, k _ _ q⟩
theorem mos_cons {g : TG} {r : TGs} (a : MoG g) (b : MoGs r) : MoGs (gCons g r) := fun v σ H Q Q' k ⟨x, y, e, q⟩ => ⟨x, y, e, a _ _ _ _ _ (fun _ _ z => b _ _ _ _ _ k z) q⟩
theorem mo_tup {K : PySem.W.Frag} {n : Nat} {r : TGs} (b : MoGs r) : MoG (gTup K n r) := fun v σ H Q Q' k ⟨a, xs, e, s, l, q⟩ => ⟨a, xs, e, s, l, b _ _ _ _ _ k q⟩
theorem wrs_cons {g : TG} {r : TGs} {vs : List Nat} (m : MoG g) (mr : MoGs r) (a : Wr g vs) (b : Wrs r vs) : Wrs (gCons g r) vs := fun v σ H Q ⟨x, y, e, q⟩ =>
  ⟨x, y, e, m _ _ _ _ _ (fun σ1 H1 ⟨e1, z⟩ => mr _ _ _ _ _ (fun σ2 H2 ⟨e2, w⟩ => ⟨e2.trans e1, w⟩) (b _ _ _ _ z)) (a _ _ _ _ q)⟩
theorem wr_tup {K : PySem.W.Frag} {n : Nat} {r : TGs} {vs : List Nat} (b : Wrs r vs) : Wr (gTup K n r) vs := fun v σ H Q ⟨a, xs, e, s, l, q⟩ => ⟨a, xs, e, s, l, b _ _ _ _ q⟩
section
variable {K : PySem.W.Frag} {W : WX} {Γ : Gm} {X : XP} {te : TE} {tt : TT} {g : TG} {wi : TI} {vs : List Nat}
theorem evo_lc {P : Sl → Gm → Prop} (hw : Wr g vs) (hm : MoG g) (h : EvI K W wi Γ (fun xs Γ1 => ∃ I : Nat → List Dt → Gm → Prop, I 0 [] (wipeG Γ1 vs) ∧
      (∀ k x acc Γ2, xs[k]? = some x → I k acc Γ2 → GoG K WF g x Γ2 (fun Γ3 => EvT K WF tt Γ3 (fun b Γ4 => (b = true → Ev K WF te Γ4 (fun y Γ5 => acc.length < 1000000 ∧ I (k + 1) (acc ++ [y]) (wipeG Γ5 vs)) XF) ∧ (b = false → I (k + 1) acc (wipeG Γ4 vs))) XF) XF) ∧
      (∀ a acc Γ2, I xs.length acc Γ2 → P (.ol a acc) Γ2)) X) : EvO K W (tLc wi g tt te vs) Γ P X := fun O G H σ Q S q x =>
  h O G H σ _ S (fun J G1 H1 Γ1 xs n GG Y s1 S1 w hn hG hY ⟨I, h0, hs, hd⟩ => by
    intro D nD
    have oD : O D = none := S1.o.free nD
    have gD : G1 D = none := S1.g.free nD
    have fD : D ∉ fps Γ1 := fun z => S1.there D z nD
    have xf : ∀ {O' G' : Hp} {σ' : St}, XOk K WF O' G' σ' XF := fun {O' G' σ'} C d fs G2 H2 Γ2 _ _ _ z => z
    refine lc_it w (fun k H' => ∃ (G2 : Hp) (Γ2 : Gm) (acc : List Dt) (av : List V), Same G1 G2 ∧ Sta K (upd O D (.lst av)) G2 H' (wipe σ vs) Γ2 ∧ Reps K G2 av acc ∧ I k acc Γ2) ?_ (fun k H' _ ⟨G2, Γ2, acc, av, s2, S2, _⟩ => hG H' (s2.trans S2.g)) ?_ ?_
    · have T := (S1.ext (Ext.raw (ob := .lst []) S1.g nD)).toO upd_same oD gD fD trivial
      exact ⟨G1, _, [], [], Same.refl _, sta_wipe T vs, .nil, h0⟩
    · rintro k v H2 H3 hk ⟨G2, Γ2, acc, av, s2, S2, ra, p⟩ y
      have hx : xs[k]? = some (xs[k]'(by omega)) := by simp
      obtain ⟨G3, ex, r⟩ := hY k _ v G2 H2 H3 hx s2 S2.g y
      refine hm _ _ _ _ _ (fun σ2 H2 z => (fun (e : wipe σ2 vs = wipe σ vs) => ⟨e, z.2 e⟩) (z.1.trans (wipe_in fun v hv => hv))) (hw v (wipe σ vs) H3 (fun σ2 H2 => wipe σ2 vs = wipe σ vs → tt σ2 H2 fun b H3 => if b = true then te σ2 H3 fun y H4 => ∃ acc, H4 D = some (HO.lst acc) ∧ acc.length < sizeLine ∧
        ∃ (G2 : Hp) (Γ2 : Gm) (acc_1 : List Dt) (av : List V), Same G1 G2 ∧ Sta K (upd O D (HO.lst av)) G2 (upd H4 D (HO.lst (acc ++ [y]))) (wipe σ vs) Γ2 ∧ Reps K G2 av acc_1 ∧ I (k + 1) acc_1 Γ2
        else ∃ (G2 : Hp) (Γ2 : Gm) (acc : List Dt) (av : List V), Same G1 G2 ∧ Sta K (upd O D (HO.lst av)) G2 H3 (wipe σ vs) Γ2 ∧ Reps K G2 av acc ∧ I (k + 1) acc Γ2) ?_)
      refine hs k _ acc Γ2 hx p _ G3 H3 _ v _ (S2.ext ex) r (fun G4 H4 σ4 Γ4 s4 S4 p4 e4 => ?_) fun σ5 => xf
      have r4 : Reps K G4 av acc := (ra.mono ex.g).mono s4
      have s14 : Same G1 G4 := s2.trans (ex.g.trans s4)
      refine p4 _ G4 H4 σ4 _ S4 (fun b G5 H5 Γ5 s5 S5 p5 => ?_) xf
      cases b with
      | false =>
        refine iteF ⟨G5, _, acc, av, s14.trans s5, ?_, r4.mono s5, p5.2 rfl⟩
        have T := sta_wipe S5 vs
        rw [e4] at T
        exact T
      | true =>
        refine iteT (p5.1 rfl _ G5 H5 σ4 _ S5 (fun y G6 H6 Γ6 dy s6 S6 r6 p6 => ?_) xf)
        refine ⟨av, S6.o D _ upd_same, by rw [((r4.mono s5).mono s6).length]; exact Nat.lt_of_lt_of_le p6.1 (by decide), G6, _, acc ++ [dy], av ++ [y], s14.trans (s5.trans s6), ?_, ((r4.mono s5).mono s6).append (.cons r6 .nil), p6.2⟩
        have T := sta_wipe (S6.updO (o' := .lst (av ++ [y])) trivial) vs
        rw [e4] at T
        exact T
    · rintro H2 ⟨G2, Γ2, acc, av, s2, S2, ra, p⟩
      have T := sta_unwipe S2
      have hD : H2 D = some (.lst av) := T.o D _ upd_same
      have gD2 : G2 D = none := T.d D (by rw [upd_same]; simp)
      have fD2 : D ∉ fps Γ2 := fun z => by have n := T.no D z; rw [upd_same] at n; cases n
      refine q (.ref D) G2 H2 Γ2 (.ol D acc) (s1.trans s2) ((T.offO oD).push (.ol hD ra) (by simp [Sl.fp]) ?_ ?_ ?_) (hd D acc Γ2 (by rw [← hn]; exact p))
      · intro b hb; simp [Sl.fp] at hb; subst hb; exact gD2
      · intro b hb; simp [Sl.fp] at hb; subst hb; exact oD
      · intro b hb; simp [Sl.fp] at hb; subst hb; exact fD2) x
end
def Cnt (fs : List (Str × Dt)) (n : Nat) : Prop := fs.length ≤ n
theorem cnt_nil : Cnt [] 0 := Nat.le_refl _
theorem cnt_put {f : Str} {d : Dt} : ∀ {fs : List (Str × Dt)} {n : Nat}, Cnt fs n → Cnt (putD f d fs) (n + 1)
  | [], n, _ => by unfold Cnt putD; simp
  | (g, c) :: r, n, h => by
    unfold Cnt at h
    unfold putD
    by_cases e : g = f
    · rw [if_pos e]; unfold Cnt; simp at h ⊢; omega
    · rw [if_neg e]
      have := cnt_put (f := f) (d := d) (fs := r) (n := n - 1) (by unfold Cnt; simp at h; omega)
      unfold Cnt at this ⊢
      simp at h ⊢
      omega
theorem cnt_lt {fs : List (Str × Dt)} {n : Nat} (h : Cnt fs n) (k : n < 1000) : fs.length < 1000 := Nat.lt_of_le_of_lt h k
section
variable {K : PySem.W.Frag} {W : WX} {Γ : Gm} {X : XP} {P : Dt → Gm → Prop} {tv : TE} {i : Nat} {nx : Gm → Prop} {rt : Sl → Gm → Prop} {xc : XP} {bk ct : Gm → Prop}
theorem g_make {S : DSp} {C : Addr} {t : TA} (h : Ev K W (tMakeS C (spD K S) (WE W) t) Γ (fun _ Γ1 => nx Γ1) xc) : Go K W (tDrop (tMakeS C (spD K S) (WE W) t)) Γ ⟨nx, rt, xc, bk, ct⟩ := go_drop (evo_of h)
theorem x_fldO {C : Addr} {fs : List (Str × Dt)} {f : Str} {y : Dt} {Q : Dt → Prop} (hc : Cls K C) (hn : NoAttr K C f) (hl : fs.lookup f = some y) (p : Q y) :
    (∃ C' fs' y, Dt.obj C fs = .obj C' fs' ∧ Cls K C' ∧ NoAttr K C' f ∧ fs'.lookup f = some y ∧ Q y) ∨ (∃ C' fs' y, Dt.obj C fs = .exc C' fs' ∧ XfC K C' ∧ PySem.W.findIn K (.ref C') f = some none ∧ fs'.lookup f = some y ∧ Q y) := .inl ⟨_, _, _, rfl, hc, hn, hl, p⟩
theorem ev_mk {S : DSp} {C : Addr} {t : TA} (h : EvA K W t Γ (fun ds Γ1 => ∀ y, S (.oo y C (frF []) :: ds.map .fr) (fun res args' => ∃ fs, res = .fr .non ∧ args' = .oo y C (frF fs) :: ds.map .fr ∧ P (.obj C fs) Γ1) (fun D fs _ => X D fs Γ1)) X) : Ev K W (tMakeS C (spD K S) (WE W) t) Γ P X := ev_make h
theorem pg_tupK {X : Cx} {es : List Expr} {k : Nat} {t : TGs} {n : Nat} {pos : Pos} (K : PySem.W.Frag) (h : X.K = K) (hc : X.calm = true) (hg : PGs X es t) (hn : (assignEach es X.env).length = n := by rfl) (hst : (assignEach es X.env).findIdx? (·.1) = none := by rfl) : PG X (.Tuple es k pos) (gTup K n t) := by
  subst h; exact pg_tup hc hg hn hst
end
end DL
namespace OX
open PySem PySem.Spec PyProof.Rows PySem.SeqAt
section
variable {prog : Program} {w : World} {A : Around} {E : Value → Shared → Prop} {s : Shared} {K : PySem.W.Frag} {x y C f : Addr} {ox oy : Obj} {od od' : Option Obj}
theorem ne_body (X : K.In s.heap) (I : PySem.W.InstAt s.heap x ox C od) (he : PySem.W.findIn K (.ref C) "__eq__" = some (some (.ref f))) (hf : PySem.W.isFn K (.ref f) = true) (hu : A.units < cLine) {Q : Fin → Shared → Prop}
    (h : wpAny (model prog w) A (call (.ref f) [.ref x, .ref y]) (fun v s' => ∃ b, v = .bool b ∧ Q (.done (.ret (.bool (!b)))) s') E s) : wpAny (model prog w) A (Builtin.«object.__ne__» ⟨[.ref x, .ref y], []⟩) Q E s := by
  unfold Builtin.«object.__ne__»
  repeat (first
    | with_reducible refine wpAny_cRoomFor hu ?_
    | (refine wpAny_bind (m := callSpecialIfBound? (.ref x) (Str.ofString "__eq__") [.ref y]) (PySem.W.ifBound_K X I he hf (wpAny_mono h (fun r s' hr => by
        obtain ⟨b, rfl, hq⟩ := hr
        repeat (first | exact hq | exact wpAny_pure hq | exact wpAny_truthy_bool hq | (refine wpAny_bind (m := truthy (.bool _)) (wpAny_truthy_bool ?_)) | wp_step)) fun _ _ e => e)))
    | wp_step)
theorem ne_bound {M : Model} {args : List Value} {Q : Option Value → Shared → Prop} (X : K.In s.heap) (I : PySem.W.InstAt s.heap x ox C od) (hs : PySem.W.findIn K (.ref C) "__ne__" = some (some (.builtin "object.__ne__")))
    (h : wpAny M A (call (.builtin "object.__ne__") (.ref x :: args)) (fun v => Q (some v)) E s) : wpAny M A (callSpecialIfBound? (.ref x) "__ne__" args) Q E s := by
  simp only [callSpecialIfBound?, bindSpecialIfBound?]
  refine wpAny_holding (wpAny_bind (wpAny_bind (wpAny_bind (I.type.here ((PySem.W.looks_findIn X hs).here (wpAny_bind (wpAny_askSetting (wpAny_ite ?_))))))))
  have last : wpAny M A (call (.builtin "object.__ne__") ([.ref x] ++ args) >>= fun v => pure (some v)) Q E s := wpAny_bind (wpAny_mono h (fun v s' q => wpAny_pure q) fun _ _ q => q)
  split
  · exact wpAny_bind (wpAny_of_eq (F.cmp_object.ne.bind _) (wpAny_pure (by exact last)))
  · exact wpAny_tryCatch (wpAny_bind (wpAny_of_eq (F.cmp_object.ne.bind _) (wpAny_pure (by exact last))))
theorem ne_own (X : K.In s.heap) (I : PySem.W.InstAt s.heap x ox C od) (J : PySem.W.InstAt s.heap y oy C od') (hm : PySem.W.mroIn K C (.type "object") = some true) (hn : PySem.W.findIn K (.ref C) "__ne__" = some (some (.builtin "object.__ne__")))
    (he : PySem.W.findIn K (.ref C) "__eq__" = some (some (.ref f))) (hf : PySem.W.isFn K (.ref f) = true) (hu : A.units + 1 < cLine) {Q : Value → Shared → Prop}
    (h : wpAny (model prog w) A.in1 (call (.ref f) [.ref x, .ref y]) (fun v s' => ∃ b, v = .bool b ∧ Q (.bool (!b)) s') E s) : wpAny (model prog w) A (richCompare .NotEq (.ref x) (.ref y)) Q E s := by
  have one : wpAny (model prog w) A (tryCompare (.ref x) "__ne__" (.ref y)) (fun r s' => ∃ b, r = some (.bool b) ∧ Q (.bool b) s') E s := by
    simp only [tryCompare]
    refine wpAny_bind (ne_bound X I hn (wpAny_call (codeAny_call_builtin F.cmp_object.ne.plain F.cmpEntry_ne (PySem.W.check_slot F.cmpKind_ne F.cmpSplit_ne (I.type.andThen (PySem.W.looks_mroIn X hm)) (F.cmpArgs_ne _ _) (ne_body (A := A.in1) X I he hf hu (wpAny_mono h (fun v s' hv => ?_) fun _ _ e => e))))))
    obtain ⟨b, rfl, hq⟩ := hv
    first | exact ⟨b, rfl, wpAny_pure ⟨_, rfl, hq⟩⟩ | exact ⟨b, rfl, wpAny_pure (wpAny_pure ⟨_, rfl, hq⟩)⟩ | exact ⟨b, rfl, ⟨_, rfl, hq⟩⟩
  unfold richCompare
  simp only [oneThing_ref]
  refine wpAny_holding (wpAny_bind (wpAny_cRoomFor (Nat.lt_of_succ_lt hu) ?_))
  rw [cmpInfo_NotEq]
  dsimp only
  refine wpAny_bind (I.type.here (wpAny_bind (J.type.here ?_)))
  rw [show (Value.ref C != Value.ref C) = false from by simp]
  simp only [Bool.false_eq_true, if_false]
  refine wpAny_bind (wpAny_pure ?_)
  simp only [Bool.false_eq_true, if_false]
  refine wpAny_bind (wpAny_mono one (fun v s' hv => ?_) fun _ _ e => e)
  obtain ⟨b, rfl, hq⟩ := hv
  first | exact wpAny_pure hq | exact wpAny_pure (wpAny_pure hq)
end
end OX
namespace L2
open PySem PySem.Spec PyProof.Rows
section
variable {X : Cx} {CX : CXT} {k : Nat} {f C : Addr} {fd : FuncData} {ps : List Str} {sp : Sp} {E : St → XK} {pos : Pos} {a b : Expr} {ta tb : TE}
def tCmpO (C : Addr) (neg : Bool) (sp : Sp) (E : St → XK) (ta tb : TE) : TE := fun σ H Q => ta σ H fun x H1 => tb σ H1 fun y H2 => ∃ p q dx dy fs gs, x = .ref p ∧ y = .ref q ∧ H2 p = some (.ins C dx fs) ∧ H2 q = some (.ins C dy gs) ∧
  sp [.ref p, .ref q] H2 (fun v H3 => ∃ j, v = .bl j ∧ Q (.bl (j ^^ neg)) H3) (E σ)
structure EqC (K : PySem.W.Frag) (C f : Addr) : Prop where
  eq : PySem.W.findIn K (.ref C) "__eq__" = some (some (.ref f))
  fn : PySem.W.isFn K (.ref f) = true
  ne : PySem.W.findIn K (.ref C) "__ne__" = some (some (.builtin "object.__ne__"))
  mro : PySem.W.mroIn K C (.type "object") = some true
end
end L2
namespace DL
open PySem PySem.Spec L2
section
variable {X : Cx} {ps : List Str} {k j : Nat} {S : DSp} {W : WX} {a b : Expr} {ta tb : TE} {pos : Pos} {C f : Addr}
end
section
variable {K : PySem.W.Frag} {W : WX} {Γ : Gm} {X : XP} {P : Dt → Gm → Prop} {ta tb : TE}
theorem call_at {S : DSp} {O G H : Hp} {σ : St} {vs : List V} {ds : List Dt} {Q : VK} {R : Sl → Prop} (S1 : Sta K O G H σ Γ) (r : Reps K G vs ds) (hS : S (ds.map .fr) (fun res _ => R res) (fun C fs _ => X C fs Γ)) (x : XOk K W O G σ X)
    (q : ∀ (v : V) (G2 H2 : Hp) (res : Sl), Same G G2 → Sta K O G2 H2 (some v :: σ) (some res :: Γ) → R res → Q v H2) : spD K S vs H Q (WE W σ) := by
  refine ⟨forn O H (fps Γ), G, ds.map .fr, _, _, S1.entry0 r, hS, fun v G2 H2 res args' s2 S2 p => ?_, fun C d fs G2 H2 args' s2 S2 rx p => ?_⟩
  · have T := S1.back s2 S2.g S2.o S2.d
    have nd := S2.nd
    simp only [fps, fpO] at nd
    have mem : ∀ a ∈ res.fp, a ∈ fps (some res :: sls args') := fun a ha => by simp [fps, fpO, ha]
    refine q v G2 H2 res s2 (T.push S2.head (List.nodup_append.mp nd).1 (fun a ha => S2.ng a (mem a ha)) (fun a ha => ?_) (fun a ha z => ?_)) p
    · have n := S2.no a (mem a ha)
      by_cases hf : a ∈ fps Γ
      · exact S1.no a hf
      · rw [forn_out hf] at n; exact n
    · have n := S2.no a (mem a ha)
      rw [forn_in z] at n
      exact S1.there a z n
  · exact x C d fs G2 H2 Γ s2 (S1.back s2 S2.g S2.o S2.d) rx p
theorem ev_cmpO {S : DSp} {C : Addr} {neg : Bool} (h : Ev K W ta Γ (fun d Γ1 => Ev K W tb Γ1 (fun e Γ2 => ∃ fs gs, d = .obj C fs ∧ e = .obj C gs ∧ S [.fr d, .fr e] (fun res _ => ∃ k, res = .fr (.bl k) ∧ P (.bl (k ^^ neg)) Γ2) (fun D fs _ => X D fs Γ2)) X) X) : Ev K W (tCmpO C neg (spD K S) (WE W) ta tb) Γ P X := fun O G H σ Q S0 q x =>
  h O G H σ _ S0 (fun v1 G1 H1 Γ1 d1 s1 S1 r1 h1 => h1 O G1 H1 σ _ S1 (fun v2 G2 H2 Γ2 d2 s2 S2 r2 hh => by
    obtain ⟨fs, gs, e1, e2, hS⟩ := hh
    subst e1 e2
    have r1' := r1.mono s2
    have k1 := r1'
    have k2 := r2
    cases r1' with
    | @obj p _ dx fsv _ hp rf =>
    cases r2 with
    | @obj q' _ dy gsv _ hq rg =>
    refine ⟨p, q', dx, dy, fsv, gsv, rfl, rfl, S2.g _ _ hp, S2.g _ _ hq, ?_⟩
    refine call_at (R := fun res => ∃ k, res = .fr (.bl k) ∧ P (.bl (k ^^ neg)) Γ2) S2 (.cons k1 (.cons k2 .nil)) hS ((x.mono s1).mono s2) fun v G3 H3 res s3 S3 hr => ?_
    obtain ⟨k, er, hP⟩ := hr
    subst er
    have hd := S3.head
    cases hd with
    | fr rv =>
    cases rv
    exact ⟨k, rfl, q (.bl (k ^^ neg)) G3 H3 Γ2 _ (s1.trans (s2.trans s3)) S3.tail (.bl _) hP⟩) (x.mono s1)) x
end
def eqCB (K : PySem.W.Frag) (C f : Addr) : Bool := He.eqO (PySem.W.findIn K (.ref C) "__eq__") (some (some (.ref f))) && (PySem.W.isFn K (.ref f) && (He.eqO (PySem.W.findIn K (.ref C) "__ne__") (some (some (.builtin "object.__ne__"))) && decide (PySem.W.mroIn K C (.type "object") = some true)))
theorem eqCB_ok {K : PySem.W.Frag} {C f : Addr} (q : eqCB K C f = true) : EqC K C f := by
  unfold eqCB at q
  simp only [Bool.and_eq_true, decide_eq_true_eq] at q
  obtain ⟨q1, q2, q3, q4⟩ := q
  exact ⟨He.eqO_ok q1, q2, He.eqO_ok q3, q4⟩
theorem kit_self {K : PySem.W.Frag} {C : Addr} : PySem.W.kitOne K (.ref C) (.ref C) = some true := by
  unfold PySem.W.kitOne
  rw [if_pos (by simp)]
theorem x_isO {K : PySem.W.Frag} {R : Dt → Prop} {C : Addr} {fs : List (Str × Dt)} (f : InsF K C) (h : R (.bl true)) : dIsi K [.obj C fs, .ref C] R := l_isi (.own C) (.obj f) kit_self h
end DL
namespace L2
open PySem PySem.Spec
def rNegP : V → Hp → VK → Prop := rU fun i => .int (-i)
theorem un_negP {X : Cx} : UnR X (unaryOp .USub) rNegP := un_neg
end L2
namespace DL
open PySem PySem.Spec L2
inductive Pl : Nat → Dt → Prop
  | non {n : Nat} : Pl n .non
  | bl {n : Nat} (b : Bool) : Pl n (.bl b)
  | int {n : Nat} (i : Int) : Pl n (.int i)
  | str {n : Nat} {x : Str} (h : PyData.strOk x = true) : Pl n (.str x)
  | lst {n : Nat} {xs : List Dt} (h : ∀ d ∈ xs, Pl n d) : Pl (n + 1) (.lst xs)
  | tup {n : Nat} {xs : List Dt} (h : ∀ d ∈ xs, Pl n d) : Pl (n + 1) (.tup xs)
mutual
def eqD : Dt → Dt → Bool
  | .non, .non => true
  | .bl a, .bl b => a == b
  | .bl a, .int j => (if a then 1 else 0) == j
  | .int i, .bl b => i == (if b then 1 else 0)
  | .int i, .int j => i == j
  | .str x, .str y => x == y
  | .lst xs, .lst ys => eqDs xs ys
  | .tup xs, .tup ys => eqDs xs ys
  | _, _ => false
def eqDs : List Dt → List Dt → Bool
  | [], [] => true
  | x :: xs, y :: ys => eqD x y && eqDs xs ys
  | _, _ => false
end
theorem py_list {n : Nat} : ∀ {xs : List Dt}, (∀ d ∈ xs, ∃ p, d.py = some p ∧ p.canLay0 = true ∧ p.depth ≤ n) → ∃ ps, pyL xs = some ps ∧ PyData.canLayAll0 ps = true ∧ PyData.depthAll ps ≤ n
  | [], _ => ⟨[], rfl, rfl, Nat.zero_le _⟩
  | x :: xs, h => by
    obtain ⟨p, e, c, d⟩ := h x (by simp)
    obtain ⟨ps, es, cs, ds⟩ := py_list (xs := xs) fun d hd => h d (by simp [hd])
    refine ⟨p :: ps, by simp only [pyL]; rw [e, es], by simp [PyData.canLayAll0, c, cs], ?_⟩
    simp only [PyData.depthAll]
    omega
theorem Pl.py {n : Nat} {d : Dt} (h : Pl n d) : ∃ p, d.py = some p ∧ p.canLay0 = true ∧ p.depth ≤ n := by
  induction h with
  | non => exact ⟨_, rfl, rfl, Nat.zero_le _⟩
  | bl b => exact ⟨_, rfl, rfl, Nat.zero_le _⟩
  | int i => exact ⟨_, rfl, rfl, Nat.zero_le _⟩
  | str h => exact ⟨_, rfl, h, Nat.zero_le _⟩
  | lst _ ih =>
    obtain ⟨ps, e, c, d⟩ := py_list ih
    exact ⟨.list ps, by simp only [Dt.py]; rw [e]; rfl, c, by simp only [PyData.depth]; omega⟩
  | tup _ ih =>
    obtain ⟨ps, e, c, d⟩ := py_list ih
    exact ⟨.tuple ps, by simp only [Dt.py]; rw [e]; rfl, c, by simp only [PyData.depth]; omega⟩
mutual
theorem eqD_ok : ∀ {x y : Dt} {p q : PyData}, x.py = some p → y.py = some q → PyData.eqv p q = eqD x y
  | .non, y, p, q, h1, h2 => by cases y <;> simp [Dt.py] at h1 h2 <;> first | (obtain ⟨_, _, rfl⟩ := h2; subst h1; simp [PyData.eqv, eqD]) | (subst h1 h2; simp [PyData.eqv, eqD])
  | .bl a, y, p, q, h1, h2 => by cases y <;> simp [Dt.py] at h1 h2 <;> first | (obtain ⟨_, _, rfl⟩ := h2; subst h1; simp [PyData.eqv, eqD]) | (subst h1 h2; simp [PyData.eqv, eqD])
  | .int i, y, p, q, h1, h2 => by cases y <;> simp [Dt.py] at h1 h2 <;> first | (obtain ⟨_, _, rfl⟩ := h2; subst h1; simp [PyData.eqv, eqD]) | (subst h1 h2; simp [PyData.eqv, eqD])
  | .str i, y, p, q, h1, h2 => by cases y <;> simp [Dt.py] at h1 h2 <;> first | (obtain ⟨_, _, rfl⟩ := h2; subst h1; simp [PyData.eqv, eqD]) | (subst h1 h2; simp [PyData.eqv, eqD])
  | .lst xs, y, p, q, h1, h2 => by
    simp [Dt.py] at h1
    obtain ⟨ps, e1, rfl⟩ := h1
    cases y <;> simp [Dt.py] at h2 <;> first
      | (obtain ⟨qs, e2, rfl⟩ := h2; first | (simp only [PyData.eqv, eqD]; exact eqDs_ok e1 e2) | simp [PyData.eqv, eqD])
      | (subst h2; simp [PyData.eqv, eqD])
  | .tup xs, y, p, q, h1, h2 => by
    simp [Dt.py] at h1
    obtain ⟨ps, e1, rfl⟩ := h1
    cases y <;> simp [Dt.py] at h2 <;> first
      | (obtain ⟨qs, e2, rfl⟩ := h2; first | (simp only [PyData.eqv, eqD]; exact eqDs_ok e1 e2) | simp [PyData.eqv, eqD])
      | (subst h2; simp [PyData.eqv, eqD])
  | .ty _, _, _, _, h1, _ => by simp [Dt.py] at h1
  | .ref _, _, _, _, h1, _ => by simp [Dt.py] at h1
  | .scr _, _, _, _, h1, _ => by simp [Dt.py] at h1
  | .obj _ _, _, _, _, h1, _ => by simp [Dt.py] at h1
  | .dK _, _, _, _, h1, _ => by simp [Dt.py] at h1
  | .dT _, _, _, _, h1, _ => by simp [Dt.py] at h1
  | .exc _ _, _, _, _, h1, _ => by simp [Dt.py] at h1
  | .at_ _ _, _, _, _, h1, _ => by simp [Dt.py] at h1
  | .fn _ _ _ _ _, _, _, _, h1, _ => by simp [Dt.py] at h1
  | .dN _ _ _, _, _, _, h1, _ => by simp [Dt.py] at h1
theorem eqDs_ok : ∀ {xs ys : List Dt} {ps qs : List PyData}, pyL xs = some ps → pyL ys = some qs → PyData.eqvAll ps qs = eqDs xs ys
  | [], [], _, _, h1, h2 => by simp [pyL] at h1 h2; subst h1 h2; rfl
  | [], y :: ys, _, _, h1, h2 => by
    simp only [pyL] at h1 h2
    cases h1
    split at h2
    · cases h2; rfl
    · cases h2
  | x :: xs, [], _, _, h1, h2 => by
    simp only [pyL] at h1 h2
    cases h2
    split at h1
    · cases h1; rfl
    · cases h1
  | x :: xs, y :: ys, _, _, h1, h2 => by
    simp only [pyL] at h1 h2
    split at h1
    · rename_i p ps ep eps
      split at h2
      · rename_i q qs eq eqs
        cases h1; cases h2
        simp only [PyData.eqvAll, eqDs]
        rw [eqD_ok ep eq, eqDs_ok eps eqs]
      · cases h2
    · cases h1
end
section
variable {R : Dt → Prop} {x y : Dt}
theorem p_eq {n m : Nat} (hx : Pl n x) (hy : Pl m y) (hn : n ≤ 64) (hm : m ≤ 64) (h : R (.bl (eqD x y))) : dEq x y R := by
  obtain ⟨p, e1, c1, d1⟩ := hx.py
  obtain ⟨q, e2, c2, d2⟩ := hy.py
  refine .inr ⟨p, q, e1, e2, ?_, ?_, by rw [eqD_ok e1 e2]; exact h⟩
  · unfold SeqAt.shaped; rw [c1]; simp; omega
  · unfold SeqAt.shaped; rw [c2]; simp; omega
theorem p_ne {n m : Nat} (hx : Pl n x) (hy : Pl m y) (hn : n ≤ 64) (hm : m ≤ 64) (h : R (.bl (!eqD x y))) : dNe x y R := by
  obtain ⟨p, e1, c1, d1⟩ := hx.py
  obtain ⟨q, e2, c2, d2⟩ := hy.py
  refine .inr ⟨p, q, e1, e2, ?_, ?_, by rw [eqD_ok e1 e2]; exact h⟩
  · unfold SeqAt.shaped; rw [c1]; simp; omega
  · unfold SeqAt.shaped; rw [c2]; simp; omega
end
def dNeg (x : Dt) (R : Dt → Prop) : Prop := ∃ i, x = .int i ∧ R (.int (-i))
theorem rd_neg {K : PySem.W.Frag} : RD1 K rNegP dNeg := fun G H x dx R Q s rx ⟨i, e, p⟩ q => by
  subst e; cases rx
  exact ⟨i, rfl, q _ G H _ (Ext.refl s) (.int _) p⟩
end DL
namespace DL
open PySem PySem.Spec L2
class Wk (g : Prop) (h : outParam Prop) : Prop where
  go : h → g
class At (Γ : Gm) (i : Nat) (s : outParam Sl) : Prop where
  h : Γ[i]? = some (some s)
class SetG (Γ : Gm) (i : Nat) (s : Option Sl) (Γ' : outParam Gm) : Prop where
  h : Γ.set i s = Γ'
class FrzC (s : Sl) (d : outParam Dt) : Prop where
  h : Frz s d
section
variable {Γ Γ1 Γ2 : Gm} {s t : Sl} {x v w : Option Sl} {i j n : Nat}
instance : At (some s :: Γ) 0 s := ⟨rfl⟩
instance [a : At Γ n s] : At (x :: Γ) (n + 1) s := ⟨by simpa using a.h⟩
instance : SetG (x :: Γ) 0 v (v :: Γ) := ⟨rfl⟩
instance [a : SetG Γ n v Γ1] : SetG (x :: Γ) (n + 1) v (x :: Γ1) := ⟨by rw [List.set_cons_succ, a.h]⟩
instance (priority := high) [a : SetG Γ i v Γ1] [b : SetG Γ1 j w Γ2] : SetG (Γ.set i v) j w Γ2 := ⟨by rw [a.h, b.h]⟩
instance {d : Dt} : FrzC (.fr d) d := ⟨.fr d⟩
instance {a : Addr} {ds : List Dt} : FrzC (.ol a ds) (.lst ds) := ⟨.ol a ds⟩
instance {a : Addr} {P : Program} {w : World} {kvs : List (NX.NK × V)} : FrzC (.oN a P w kvs) (.dN P w kvs) := ⟨.oN a P w kvs⟩
end
def Br (b : Bool) (A B : Prop) : Prop := (b = true → A) ∧ (b = false → B)
def BrP (p A B : Prop) : Prop := (p → A) ∧ (¬ p → B)
def Side (c Q : Prop) : Prop := c ∧ Q
def OwnL (Γ : Gm) (i : Nat) (Q : Addr → List Dt → Prop) : Prop := ∃ a ds, Γ[i]? = some (some (.ol a ds)) ∧ Q a ds
def OwnO (Γ : Gm) (i : Nat) (Q : Addr → Addr → List (Str × Dt) → Prop) : Prop := ∃ a C fs, Γ[i]? = some (some (.oo a C (frF fs))) ∧ Q a C fs
def Fz (s : Sl) (Q : Dt → Prop) : Prop := ∃ d, Frz s d ∧ Q d
def IsB (d : Dt) (Q : Bool → Prop) : Prop := ∃ b, d = .bl b ∧ Q b
def IsI (d : Dt) (Q : Int → Prop) : Prop := ∃ b, d = .int b ∧ Q b
def IsS (d : Dt) (Q : Str → Prop) : Prop := ∃ b, d = .str b ∧ Q b
def IsL (d : Dt) (Q : List Dt → Prop) : Prop := ∃ b, d = .lst b ∧ Q b
def IsO (C : Addr) (d : Dt) (Q : List (Str × Dt) → Prop) : Prop := ∃ b, d = .obj C b ∧ Q b
def Bk (args : List Sl) (Γ : Gm) (Q : List Sl → Prop) : Prop := ∃ args', Back args Γ args' ∧ Q args'
def Fld (K : PySem.W.Frag) (f : Str) (d : Dt) (Q : Dt → Prop) : Prop := (∃ C fs y, d = .obj C fs ∧ Cls K C ∧ NoAttr K C f ∧ fs.lookup f = some y ∧ Q y) ∨ (∃ C fs y, d = .exc C fs ∧ XfC K C ∧ PySem.W.findIn K (.ref C) f = some none ∧ fs.lookup f = some y ∧ Q y)
def CallS (S : DSp) (ds : List Dt) (R : Sl → Prop) (Y : Addr → List (Str × Dt) → Prop) : Prop := S (ds.map .fr) (fun res _ => R res) (fun C fs _ => Y C fs)
def CallB (S : DSp) (ds es : List Dt) (s : Sl) (R : Sl → Sl → Prop) (Y : Addr → List (Str × Dt) → Sl → Prop) : Prop :=
  S (ds.map .fr ++ s :: es.map .fr) (fun res args' => ∃ s', args' = ds.map .fr ++ s' :: es.map .fr ∧ R res s') (fun C fs args' => ∃ s', args' = ds.map .fr ++ s' :: es.map .fr ∧ Y C fs s')
def CallM (S : DSp) (C : Addr) (ds : List Dt) (R : List (Str × Dt) → Prop) (Y : Addr → List (Str × Dt) → Prop) : Prop :=
  ∀ y, S (.oo y C (frF []) :: ds.map .fr) (fun res args' => ∃ fs, res = .fr .non ∧ args' = .oo y C (frF fs) :: ds.map .fr ∧ R fs) (fun D fs _ => Y D fs)
def SeqQ (d : Dt) (Q : List Dt → Prop) : Prop := ∃ xs, SeqD d xs ∧ Q xs
section
variable {A B Q p : Prop}
theorem Side.mk (a : A) (b : B) : Side A B := ⟨a, b⟩
theorem BrP.mk (a : p → A) (b : ¬ p → B) : BrP p A B := ⟨a, b⟩
theorem Br.mk {b : Bool} (h1 : b = true → A) (h2 : b = false → B) : Br b A B := ⟨h1, h2⟩
instance : Wk (Br true A B) A := ⟨fun h => ⟨fun _ => h, fun z => nomatch z⟩⟩
instance : Wk (Br false A B) B := ⟨fun h => ⟨fun z => (nomatch z), fun _ => h⟩⟩
instance {b : Bool} : Wk (Br (!b) A B) (Br b B A) := ⟨fun h => ⟨fun z => h.2 (by simpa using z), fun z => h.1 (by simpa using z)⟩⟩
instance [Decidable p] : Wk (Br (decide p) A B) (BrP p A B) := ⟨fun h => ⟨fun z => h.1 (of_decide_eq_true z), fun z => h.2 (of_decide_eq_false z)⟩⟩
instance : Wk (BrP (¬ p) A B) (BrP p B A) := ⟨fun h => ⟨fun z => h.2 z, fun z => h.1 (Classical.not_not.mp z)⟩⟩
instance {Γ : Gm} {i : Nat} {a : Addr} {ds : List Dt} {Q : Addr → List Dt → Prop} [h : At Γ i (.ol a ds)] : Wk (OwnL Γ i Q) (Q a ds) := ⟨fun q => ⟨a, ds, h.h, q⟩⟩
instance (priority := high) {Γ Γ' : Gm} {i j : Nat} {v : Option Sl} {Q : Addr → List Dt → Prop} [h : SetG Γ j v Γ'] : Wk (OwnL (Γ.set j v) i Q) (OwnL Γ' i Q) := ⟨fun q => by rw [h.h]; exact q⟩
instance {Γ : Gm} {i : Nat} {a C : Addr} {fs : List (Str × Dt)} {Q : Addr → Addr → List (Str × Dt) → Prop} [h : At Γ i (.oo a C (frF fs))] : Wk (OwnO Γ i Q) (Q a C fs) := ⟨fun q => ⟨a, C, fs, h.h, q⟩⟩
instance (priority := high) {Γ Γ' : Gm} {i j : Nat} {v : Option Sl} {Q : Addr → Addr → List (Str × Dt) → Prop} [h : SetG Γ j v Γ'] : Wk (OwnO (Γ.set j v) i Q) (OwnO Γ' i Q) := ⟨fun q => by rw [h.h]; exact q⟩
instance {s : Sl} {d : Dt} {Q : Dt → Prop} [h : FrzC s d] : Wk (Fz s Q) (Q d) := ⟨fun q => ⟨d, h.h, q⟩⟩
instance {b : Bool} {Q : Bool → Prop} : Wk (IsB (.bl b) Q) (Q b) := ⟨fun q => ⟨b, rfl, q⟩⟩
instance {b : Int} {Q : Int → Prop} : Wk (IsI (.int b) Q) (Q b) := ⟨fun q => ⟨b, rfl, q⟩⟩
instance {b : Str} {Q : Str → Prop} : Wk (IsS (.str b) Q) (Q b) := ⟨fun q => ⟨b, rfl, q⟩⟩
instance {b : List Dt} {Q : List Dt → Prop} : Wk (IsL (.lst b) Q) (Q b) := ⟨fun q => ⟨b, rfl, q⟩⟩
instance {C : Addr} {fs : List (Str × Dt)} {Q : List (Str × Dt) → Prop} : Wk (IsO C (.obj C fs) Q) (Q fs) := ⟨fun q => ⟨fs, rfl, q⟩⟩
instance {ds : List Dt} {Q : List Dt → Prop} : Wk (SeqQ (.lst ds) Q) (Q ds) := ⟨fun q => ⟨_, .lst ds, q⟩⟩
instance {ds : List Dt} {Q : List Dt → Prop} : Wk (SeqQ (.tup ds) Q) (Q ds) := ⟨fun q => ⟨_, .tup ds, q⟩⟩
instance {ds : List Int} {Q : List Dt → Prop} : Wk (SeqQ (.scr ds) Q) (Q (ds.map .int)) := ⟨fun q => ⟨_, .scr ds, q⟩⟩
instance {z : Str} {Q : List Dt → Prop} : Wk (SeqQ (.str z) Q) (Q (z.cps.toList.map fun c => .str ⟨#[c]⟩)) := ⟨fun q => ⟨_, .str z, q⟩⟩
end
section
variable {K : PySem.W.Frag} {W : WX} {Γ Γ' : Gm} {X : XP} {j : Nat} {v : Option Sl}
instance (priority := 2000) {t : TS} {PP : Po} [h : SetG Γ j v Γ'] : Wk (Go K W t (Γ.set j v) PP) (Go K W t Γ' PP) := ⟨fun q => by rw [h.h]; exact q⟩
instance (priority := 2000) {t : TE} {P : Dt → Gm → Prop} [h : SetG Γ j v Γ'] : Wk (Ev K W t (Γ.set j v) P X) (Ev K W t Γ' P X) := ⟨fun q => by rw [h.h]; exact q⟩
instance (priority := 2000) {t : TE} {P : Sl → Gm → Prop} [h : SetG Γ j v Γ'] : Wk (EvO K W t (Γ.set j v) P X) (EvO K W t Γ' P X) := ⟨fun q => by rw [h.h]; exact q⟩
instance (priority := 2000) {t : TT} {P : Bool → Gm → Prop} [h : SetG Γ j v Γ'] : Wk (EvT K W t (Γ.set j v) P X) (EvT K W t Γ' P X) := ⟨fun q => by rw [h.h]; exact q⟩
instance (priority := 2000) {t : TA} {P : List Dt → Gm → Prop} [h : SetG Γ j v Γ'] : Wk (EvA K W t (Γ.set j v) P X) (EvA K W t Γ' P X) := ⟨fun q => by rw [h.h]; exact q⟩
instance (priority := 2000) {t : TA} {i : Nat} {P : List Dt → List Dt → Gm → Prop} [h : SetG Γ j v Γ'] : Wk (EvB K W i t (Γ.set j v) P X) (EvB K W i t Γ' P X) := ⟨fun q => by rw [h.h]; exact q⟩
instance (priority := 2000) {t : TO} {P : Option Int → Gm → Prop} [h : SetG Γ j v Γ'] : Wk (EvP K W t (Γ.set j v) P X) (EvP K W t Γ' P X) := ⟨fun q => by rw [h.h]; exact q⟩
instance (priority := 2000) {t : TI} {P : List Dt → Gm → Prop} [h : SetG Γ j v Γ'] : Wk (EvI K W t (Γ.set j v) P X) (EvI K W t Γ' P X) := ⟨fun q => by rw [h.h]; exact q⟩
instance (priority := 2000) {t : TG} {d : Dt} {P : Gm → Prop} [h : SetG Γ j v Γ'] : Wk (GoG K W t d (Γ.set j v) P X) (GoG K W t d Γ' P X) := ⟨fun q => by rw [h.h]; exact q⟩
instance (priority := 2000) {t : TGs} {d : List Dt} {P : Gm → Prop} [h : SetG Γ j v Γ'] : Wk (GoGs K W t d (Γ.set j v) P X) (GoGs K W t d Γ' P X) := ⟨fun q => by rw [h.h]; exact q⟩
instance (priority := 2000) {args : List Sl} {Q : List Sl → Prop} [h : SetG Γ j v Γ'] : Wk (Bk args (Γ.set j v) Q) (Bk args Γ' Q) := ⟨fun q => by rw [h.h]; exact q⟩
end
section
variable {K : PySem.W.Frag} {W : WX} {Γ Γ' : Gm} {X : XP} {P : Dt → Gm → Prop} {PO : Sl → Gm → Prop} {PB : Bool → Gm → Prop} {te ta tb ti tv : TE} {tt tu : TT} {t tr : TA} {i j : Nat} {nx : Gm → Prop} {rt : Sl → Gm → Prop} {xc : XP} {bk ct : Gm → Prop} {t1 t2 tbd : TS} {g : TG} {S : DSp} {s : Sl} {C : Addr} {f m : Str} {a : Addr} {ds : List Dt}
instance : Wk (Go K W (tSeq t1 t2) Γ ⟨nx, rt, xc, bk, ct⟩) (Go K W t1 Γ ⟨fun Γ1 => Go K W t2 Γ1 ⟨nx, rt, xc, bk, ct⟩, rt, xc, bk, ct⟩) := ⟨g_seq⟩
instance : Wk (Go K W (tIfS tt t1 t2) Γ ⟨nx, rt, xc, bk, ct⟩) (EvT K W tt Γ (fun b Γ1 => Br b (Go K W t1 Γ1 ⟨nx, rt, xc, bk, ct⟩) (Go K W t2 Γ1 ⟨nx, rt, xc, bk, ct⟩)) xc) := ⟨g_if⟩
instance (priority := low) : Wk (Go K W (tAsg te (gName i)) Γ ⟨nx, rt, xc, bk, ct⟩) (Ev K W te Γ (fun d Γ1 => nx (Γ1.set i (some (.fr d)))) xc) := ⟨g_setF⟩
instance : Wk (Go K W (tAsg (tCallS (spD K S) (WE W) t) (gName i)) Γ ⟨nx, rt, xc, bk, ct⟩) (EvO K W (tCallS (spD K S) (WE W) t) Γ (fun s Γ1 => nx (Γ1.set i (some s))) xc) := ⟨g_setC⟩
instance : Wk (Go K W (tAsg (tCall1 j (spD K S) (WE W) t) (gName i)) Γ ⟨nx, rt, xc, bk, ct⟩) (EvO K W (tCall1 j (spD K S) (WE W) t) Γ (fun s Γ1 => nx (Γ1.set i (some s))) xc) := ⟨g_setC1⟩
instance : Wk (Go K W (tAsgO te (gName i)) Γ ⟨nx, rt, xc, bk, ct⟩) (EvO K W te Γ (fun s Γ1 => nx (Γ1.set i (some s))) xc) := ⟨g_setO⟩
instance : Wk (Go K W (tAsg te (gSub (tVar i) ti rSetL)) Γ ⟨nx, rt, xc, bk, ct⟩) (Ev K W te Γ (fun v Γ1 => OwnL Γ1 i fun _ _ => Ev K W ti Γ1 (fun y Γ2 => IsI y fun k => OwnL Γ2 i fun a ds => ∃ j, ixN ds.length k = some j ∧ nx (Γ2.set i (some (.ol a (ds.set j v))))) xc) xc) :=
  ⟨fun h => g_sub (h.imp fun v Γ1 ⟨a, ds, e, h1⟩ => ⟨a, ds, e, h1.imp fun y Γ2 ⟨k, ey, a, ds, e2, j, hj, p⟩ => ⟨a, ds, k, j, e2, ey, hj, p⟩⟩)⟩
instance (priority := 50) : Wk (Go K W (tAsg te g) Γ ⟨nx, rt, xc, bk, ct⟩) (Ev K W te Γ (fun d Γ1 => GoG K W g d Γ1 nx xc) xc) := ⟨g_asg⟩
instance : Wk (Go K W tNext Γ ⟨nx, rt, xc, bk, ct⟩) (nx Γ) := ⟨g_next⟩
instance : Wk (Go K W tBreak Γ ⟨nx, rt, xc, bk, ct⟩) (bk Γ) := ⟨g_break⟩
instance : Wk (Go K W tCont Γ ⟨nx, rt, xc, bk, ct⟩) (ct Γ) := ⟨g_cont⟩
instance : Wk (Go K W tRetN Γ ⟨nx, rt, xc, bk, ct⟩) (rt (.fr .non) Γ) := ⟨g_retN⟩
instance : Wk (Go K W (tRetO te) Γ ⟨nx, rt, xc, bk, ct⟩) (EvO K W te Γ rt xc) := ⟨g_retO⟩
instance (priority := low) : Wk (Go K W (tRet te) Γ ⟨nx, rt, xc, bk, ct⟩) (Ev K W te Γ (fun d Γ1 => rt (.fr d) Γ1) xc) := ⟨g_retF⟩
instance : Wk (Go K W (tRet (tCallS (spD K S) (WE W) t)) Γ ⟨nx, rt, xc, bk, ct⟩) (EvO K W (tCallS (spD K S) (WE W) t) Γ rt xc) := ⟨fun h => go_ret h⟩
instance : Wk (Go K W (tRet (tCall1 j (spD K S) (WE W) t)) Γ ⟨nx, rt, xc, bk, ct⟩) (EvO K W (tCall1 j (spD K S) (WE W) t) Γ rt xc) := ⟨fun h => go_ret h⟩
instance [q : At Γ i (.ol a ds)] : Wk (Go K W (tDrop (tBM K "list" rAppend (tVar i) (tCons te tNil))) Γ ⟨nx, rt, xc, bk, ct⟩) (Ev K W te Γ (fun v Γ1 => OwnL Γ1 i fun a ds => Side (ds.length < 1000000) (nx (Γ1.set i (some (.ol a (ds ++ [v])))))) xc) :=
  ⟨fun h => g_append q.h (h.imp fun v Γ1 ⟨a, ds, e, l, p⟩ => ⟨a, ds, e, l, p⟩)⟩
instance [q : At Γ i (.ol a ds)] : Wk (Go K W (tDrop (tBM K "list" rExtend (tVar i) (tCons te tNil))) Γ ⟨nx, rt, xc, bk, ct⟩) (Ev K W te Γ (fun v Γ1 => IsL v fun es => OwnL Γ1 i fun a ds => Side (ds.length + es.length ≤ 1000000) (nx (Γ1.set i (some (.ol a (ds ++ es)))))) xc) :=
  ⟨fun h => g_extend q.h (h.imp fun v Γ1 ⟨es, ev, a, ds, e, l, p⟩ => ⟨a, ds, es, ev, e, l, p⟩)⟩
instance : Wk (Go K W (sFld K (tVar i) tv f) Γ ⟨nx, rt, xc, bk, ct⟩) (Ev K W tv Γ (fun d Γ1 => OwnO Γ1 i fun a C fs => Side (Cls K C ∧ NoAttr K C f ∧ fs.length < 1000) (nx (Γ1.set i (some (.oo a C (frF (putD f d fs))))))) xc) :=
  ⟨fun h => g_fld (h.imp fun d Γ1 ⟨a, C, fs, e, l, p⟩ => ⟨a, C, fs, e, l, p⟩)⟩
instance : Wk (Go K W (tDrop (tMakeS C (spD K S) (WE W) t)) Γ ⟨nx, rt, xc, bk, ct⟩) (Ev K W (tMakeS C (spD K S) (WE W) t) Γ (fun _ Γ1 => nx Γ1) xc) := ⟨g_make⟩
instance (priority := low) : Wk (Go K W (tDrop te) Γ ⟨nx, rt, xc, bk, ct⟩) (EvO K W te Γ (fun _ Γ1 => nx Γ1) xc) := ⟨g_drop⟩
instance {fs : List Str} : Wk (Go K W (tRaiseE C fs W t) Γ ⟨nx, rt, xc, bk, ct⟩) (EvA K W t Γ (fun ds Γ1 => Side (ds.length = fs.length) (xc C (fs.zip ds) Γ1)) xc) := ⟨g_raise⟩
instance {l : List Hdl} {tt : WX → TS} : Wk (Go K W (tTry K W l tt) Γ ⟨nx, rt, xc, bk, ct⟩) (∀ W', Go K W' (tt W') Γ ⟨nx, rt, HdsX K nx rt xc bk ct l, bk, ct⟩) := ⟨g_try⟩
instance {d : Dt} [h : At Γ i (.fr d)] : Wk (Ev K W (tVar i) Γ P X) (P d Γ) := ⟨fun p => ev_var h.h p⟩
instance (priority := low) {d : Dt} [h : At Γ i s] [f : FrzC s d] [q : SetG Γ i (some (.fr d)) Γ'] : Wk (Ev K W (tVar i) Γ P X) (P d Γ') := ⟨fun p => ev_varF h.h f.h (by rw [q.h]; exact p)⟩
instance {b : Int} : Wk (Ev K W (tC (.int b)) Γ P X) (P (.int b) Γ) := ⟨e_int⟩
instance {b : Str} : Wk (Ev K W (tC (.str b)) Γ P X) (P (.str b) Γ) := ⟨e_str⟩
instance {b : Bool} : Wk (Ev K W (tC (.bl b)) Γ P X) (P (.bl b) Γ) := ⟨e_bl⟩
instance : Wk (Ev K W (tC .non) Γ P X) (P .non Γ) := ⟨e_non⟩
instance {b : String} : Wk (Ev K W (tC (.ty b)) Γ P X) (P (.ty b) Γ) := ⟨e_ty⟩
instance {b : Addr} : Wk (Ev K W (tC (.ref b)) Γ P X) (P (.ref b) Γ) := ⟨e_ref⟩
instance (priority := low) {r : R2} {ρ : Dt → Dt → (Dt → Prop) → Prop} [c : OpC K r ρ] : Wk (Ev K W (tOp r ta tb) Γ P X) (Ev K W ta Γ (fun x Γ1 => Ev K W tb Γ1 (fun y Γ2 => ρ x y fun z => P z Γ2) X) X) := ⟨fun h => v_op h⟩
instance [q : At Γ i (.ol a ds)] : Wk (Ev K W (tOp (rIxP K) (tVar i) te) Γ P X) (Ev K W te Γ (fun y Γ1 => OwnL Γ1 i fun _ ds => dIx (.lst ds) y fun z => P z Γ1) X) :=
  ⟨fun h => ev_ixO (h.imp fun y Γ1 ⟨a, ds, e, j, v, ey, ha, p⟩ => ⟨a, ds, j, v, e, ey, ha, p⟩) q.h⟩
instance (priority := low) {r : List V → Hp → VK → Prop} {ρ : List Dt → (Dt → Prop) → Prop} [c : CbC K r ρ] : Wk (Ev K W (tCB r t) Γ P X) (EvA K W t Γ (fun ds Γ1 => ρ ds fun z => P z Γ1) X) := ⟨fun h => v_cb h⟩
instance [q : At Γ i (.ol a ds)] : Wk (Ev K W (tCB (rLenP K) (tCons (tVar i) tNil)) Γ P X) (P (.int ds.length) Γ) := ⟨fun h => ev_lenO q.h h⟩
instance : Wk (Ev K W (tCallS (spD K S) (WE W) t) Γ P X) (EvO K W (tCallS (spD K S) (WE W) t) Γ (fun s Γ2 => Fz s fun d => P d Γ2) X) := ⟨ev_call0⟩
instance : Wk (Ev K W (tCall1 j (spD K S) (WE W) t) Γ P X) (EvO K W (tCall1 j (spD K S) (WE W) t) Γ (fun s Γ2 => Fz s fun d => P d Γ2) X) := ⟨ev_call1⟩
instance : Wk (Ev K W (tMakeS C (spD K S) (WE W) t) Γ P X) (EvA K W t Γ (fun ds Γ1 => CallM S C ds (fun fs => P (.obj C fs) Γ1) fun D fs => X D fs Γ1) X) := ⟨ev_mk⟩
instance {neg : Bool} : Wk (Ev K W (tCmpO C neg (spD K S) (WE W) ta tb) Γ P X) (Ev K W ta Γ (fun d Γ1 => Ev K W tb Γ1 (fun e Γ2 => IsO C d fun _ => IsO C e fun _ => CallS S [d, e] (fun res => ∃ k, res = .fr (.bl k) ∧ P (.bl (k ^^ neg)) Γ2) (fun D fs => X D fs Γ2)) X) X) :=
  ⟨fun h => ev_cmpO (h.imp fun d Γ1 h1 => h1.imp fun e Γ2 ⟨fs, e1, gs, e2, h2⟩ => ⟨fs, gs, e1, e2, h2⟩)⟩
instance : Wk (Ev K W (tFldP K te f) Γ P X) (Ev K W te Γ (fun d Γ1 => Fld K f d fun y => P y Γ1) X) := ⟨ev_fld⟩
instance : Wk (Ev K W (tTup t) Γ P X) (EvA K W t Γ (fun ds Γ1 => Side (ds.length ≤ 1000000) (P (.tup ds) Γ1)) X) := ⟨ev_tup⟩
instance : Wk (Ev K W (tLst t) Γ P X) (EvA K W t Γ (fun ds Γ1 => Side (ds.length ≤ 1000000) (P (.lst ds) Γ1)) X) := ⟨ev_lst⟩
instance : Wk (Ev K W (tAndV ta tb) Γ P X) (Ev K W ta Γ (fun d Γ1 => IsB d fun b => Br b (Ev K W tb Γ1 P X) (P (.bl false) Γ1)) X) := ⟨ev_andV⟩
instance : Wk (Ev K W (tOrV ta tb) Γ P X) (Ev K W ta Γ (fun d Γ1 => IsB d fun b => Br b (P (.bl true) Γ1) (Ev K W tb Γ1 P X)) X) := ⟨fun h => ev_orV (h.imp fun d Γ1 ⟨b, e, h1, h2⟩ => ⟨b, e, h2, h1⟩)⟩
instance : Wk (Ev K W (tNotV ta) Γ P X) (Ev K W ta Γ (fun d Γ1 => IsB d fun b => P (.bl (!b)) Γ1) X) := ⟨ev_notV⟩
instance : Wk (Ev K W (tIf tt ta tb) Γ P X) (EvT K W tt Γ (fun b Γ1 => Br b (Ev K W ta Γ1 P X) (Ev K W tb Γ1 P X)) X) := ⟨ev_if⟩
instance {lo hi : TO} : Wk (Ev K W (tSl (rSlP K) te lo hi) Γ P X) (Ev K W te Γ (fun d Γ1 => EvP K W lo Γ1 (fun l Γ2 => EvP K W hi Γ2 (fun u Γ3 => dSl d l u fun z => P z Γ3) X) X) X) := ⟨ev_sl⟩
instance : Wk (Ev K W (tUn rNegP ta) Γ P X) (Ev K W ta Γ (fun x Γ1 => IsI x fun i => P (.int (-i)) Γ1) X) := ⟨fun h => ev_un rd_neg h⟩
instance : Wk (EvT K W (tTest te) Γ PB X) (Ev K W te Γ (fun d Γ1 => IsB d fun b => PB b Γ1) X) := ⟨et_test⟩
instance : Wk (EvT K W (tB te) Γ PB X) (Ev K W te Γ (fun d Γ1 => IsB d fun b => PB b Γ1) X) := ⟨et_B⟩
instance : Wk (EvT K W (tAnd tt tu) Γ PB X) (EvT K W tt Γ (fun b Γ1 => Br b (EvT K W tu Γ1 PB X) (PB false Γ1)) X) := ⟨et_and⟩
instance : Wk (EvT K W (tOr tt tu) Γ PB X) (EvT K W tt Γ (fun b Γ1 => Br b (PB true Γ1) (EvT K W tu Γ1 PB X)) X) := ⟨fun h => et_or (h.imp fun b Γ1 ⟨h1, h2⟩ => ⟨h2, h1⟩)⟩
instance : Wk (EvT K W (tNot tt) Γ PB X) (EvT K W tt Γ (fun b Γ1 => PB (!b) Γ1) X) := ⟨et_not⟩
instance : Wk (EvO K W (tCallS (spD K S) (WE W) t) Γ PO X) (EvA K W t Γ (fun ds Γ1 => CallS S ds (fun res => PO res Γ1) fun C fs => X C fs Γ1) X) := ⟨evo_call0⟩
instance : Wk (EvO K W (tCall1 i (spD K S) (WE W) t) Γ PO X) (EvB K W i t Γ (fun ds es Γ1 => ∃ s, Γ1[i]? = some (some s) ∧ CallB S ds es s (fun res s' => PO res (Γ1.set i (some s'))) fun C fs s' => X C fs (Γ1.set i (some s'))) X) := ⟨fun h => ec1 h⟩
instance : Wk (EvO K W (tLst t) Γ PO X) (EvA K W t Γ (fun ds Γ1 => Side (ds.length ≤ 1000000) (∀ a, PO (.ol a ds) Γ1)) X) := ⟨evo_lst⟩
instance {b C : Addr} {d : Option Addr} {fs : List (Str × Dt)} [h : At Γ i (.ex b C d fs)] : Wk (EvO K W (tVar i) Γ PO X) (PO (.ex b C d fs) Γ) := ⟨fun p => evo_ex h.h p⟩
instance (priority := low) [h : At Γ i s] [q : SetG Γ i none Γ'] : Wk (EvO K W (tVar i) Γ PO X) (PO s Γ') := ⟨fun p => evo_move h.h (by rw [q.h]; exact p)⟩
variable {PA : List Dt → Gm → Prop}
instance : Wk (EvA K W tNil Γ PA X) (PA [] Γ) := ⟨ea_nil⟩
instance : Wk (EvA K W (tCons te tr) Γ PA X) (Ev K W te Γ (fun d Γ1 => EvA K W tr Γ1 (fun ds Γ2 => PA (d :: ds) Γ2) X) X) := ⟨ea_cons⟩
instance [h : At Γ i s] {Q : List Dt → List Dt → Gm → Prop} : Wk (EvB K W i (tCons (tVar i) tr) Γ Q X) (EvA K W tr Γ (fun es Γ2 => Q [] es Γ2) X) := ⟨fun q => eb_here h.h q⟩
instance (priority := low) {Q : List Dt → List Dt → Gm → Prop} : Wk (EvB K W i (tCons te tr) Γ Q X) (Ev K W te Γ (fun d Γ1 => EvB K W i tr Γ1 (fun ds es Γ2 => Q (d :: ds) es Γ2) X) X) := ⟨eb_cons⟩
instance {Q : Option Int → Gm → Prop} : Wk (EvP K W tNoPart Γ Q X) (Q none Γ) := ⟨ep_none⟩
instance {Q : Option Int → Gm → Prop} : Wk (EvP K W (tPart te) Γ Q X) (Ev K W te Γ (fun d Γ1 => IsI d fun j => Q (some j) Γ1) X) := ⟨ep_some⟩
variable {N : Gm → Prop} {d : Dt} {gr : TGs}
instance [q : SetG Γ i (some (.fr d)) Γ'] : Wk (GoG K W (gName i) d Γ N X) (N Γ') := ⟨fun h => gg_name (by rw [q.h]; exact h)⟩
instance {n : Nat} : Wk (GoG K W (gTup K n gr) (.tup ds) Γ N X) (Side (ds.length = n) (GoGs K W gr ds Γ N X)) := ⟨fun h => gg_tup rfl h.1 h.2⟩
instance : Wk (GoGs K W gNil [] Γ N X) (N Γ) := ⟨gs_nil⟩
instance : Wk (GoGs K W (gCons g gr) (d :: ds) Γ N X) (GoG K W g d Γ (fun Γ1 => GoGs K W gr ds Γ1 N X) X) := ⟨gs_cons⟩
instance : Wk (EvI K W (iSeq K te) Γ PA X) (Ev K W te Γ (fun d Γ1 => SeqQ d fun xs => PA xs Γ1) X) := ⟨ei_seq⟩
instance : Wk (EvI K W (iRng1 t) Γ PA X) (EvA K W t Γ (fun ds Γ1 => ∃ n : Int, ds = [.int n] ∧ Side (-(2 ^ 62) ≤ n ∧ n < 2 ^ 62) (PA (rngD 0 n) Γ1)) X) := ⟨ei_rng1⟩
instance : Wk (EvI K W (iRng2 t) Γ PA X) (EvA K W t Γ (fun ds Γ1 => ∃ m n : Int, ds = [.int m, .int n] ∧ Side (-(2 ^ 62) ≤ m ∧ m < 2 ^ 62 ∧ -(2 ^ 62) ≤ n ∧ n < 2 ^ 62) (PA (rngD m n) Γ1)) X) := ⟨ei_rng2⟩
end
section
variable {R : Dt → Prop} {i j : Int} {K : PySem.W.Frag}
instance {g : Int → Int → Dt} : Wk (dI0 g (.int i) (.int j) R) (R (g i j)) := ⟨l_I0⟩
instance : Wk (dAdd (.int i) (.int j) R) (R (.int (i + j))) := ⟨l_addI⟩
instance {x y : Str} : Wk (dAdd (.str x) (.str y) R) (Side (x.length + y.length ≤ sizeLine) (R (.str (x ++ y)))) := ⟨fun h => h⟩
instance {x y : List Dt} : Wk (dAdd (.lst x) (.lst y) R) (Side (x.length + y.length ≤ 1000000) (R (.lst (x ++ y)))) := ⟨fun h => h⟩
instance {x y : List Dt} : Wk (dAdd (.tup x) (.tup y) R) (Side (x.length + y.length ≤ 1000000) (R (.tup (x ++ y)))) := ⟨fun h => h⟩
instance {C : Int → Int → Prop} {g : Int → Int → Dt} : Wk (dI C g (.int i) (.int j) R) (Side (C i j) (R (g i j))) := ⟨fun h => ⟨_, _, rfl, rfl, h.1, h.2⟩⟩
instance : Wk (dEq (.int i) (.int j) R) (R (.bl (decide (i = j)))) := ⟨l_eqI⟩
instance {x y : Str} : Wk (dEq (.str x) (.str y) R) (R (.bl (decide (x = y)))) := ⟨l_eqS⟩
instance {x y : Bool} : Wk (dEq (.bl x) (.bl y) R) (R (.bl (decide (x = y)))) := ⟨l_eqB⟩
instance : Wk (dEq .non .non R) (R (.bl true)) := ⟨l_eqX rfl⟩
instance : Wk (dEq (.int i) .non R) (R (.bl false)) := ⟨l_eqX rfl⟩
instance {x : Str} : Wk (dEq (.str x) .non R) (R (.bl false)) := ⟨l_eqX rfl⟩
instance {x : Str} : Wk (dEq .non (.str x) R) (R (.bl false)) := ⟨l_eqX rfl⟩
instance {x : Str} : Wk (dEq (.int i) (.str x) R) (R (.bl false)) := ⟨l_eqX rfl⟩
instance {x : Str} : Wk (dEq (.str x) (.int i) R) (R (.bl false)) := ⟨l_eqX rfl⟩
instance : Wk (dEq .non (.int i) R) (R (.bl false)) := ⟨l_eqX rfl⟩
instance : Wk (dNe (.int i) (.int j) R) (R (.bl (!decide (i = j)))) := ⟨l_neI⟩
instance {x y : Str} : Wk (dNe (.str x) (.str y) R) (R (.bl (!decide (x = y)))) := ⟨l_neS⟩
instance {x y : Bool} : Wk (dNe (.bl x) (.bl y) R) (R (.bl (!decide (x = y)))) := ⟨l_neB⟩
instance : Wk (dIs .non .non R) (R (.bl true)) := ⟨l_isN⟩
instance (priority := low) {x : Dt} : Wk (dIs x .non R) (R (.bl (isNon x))) := ⟨fun h => ⟨rfl, h⟩⟩
instance : Wk (dIs (.int i) .non R) (R (.bl false)) := ⟨fun h => ⟨rfl, h⟩⟩
instance {x : Str} : Wk (dIs (.str x) .non R) (R (.bl false)) := ⟨fun h => ⟨rfl, h⟩⟩
instance {x : Bool} : Wk (dIs (.bl x) .non R) (R (.bl false)) := ⟨fun h => ⟨rfl, h⟩⟩
instance {x : List Dt} : Wk (dIs (.tup x) .non R) (R (.bl false)) := ⟨fun h => ⟨rfl, h⟩⟩
instance {x : List Dt} : Wk (dIs (.lst x) .non R) (R (.bl false)) := ⟨fun h => ⟨rfl, h⟩⟩
instance {C : Addr} {x : List (Str × Dt)} : Wk (dIs (.obj C x) .non R) (R (.bl false)) := ⟨fun h => ⟨rfl, h⟩⟩
instance : Wk (dIsnt .non .non R) (R (.bl false)) := ⟨l_isnN⟩
instance (priority := low) {x : Dt} : Wk (dIsnt x .non R) (R (.bl (!isNon x))) := ⟨fun h => ⟨rfl, h⟩⟩
instance : Wk (dIsnt (.int i) .non R) (R (.bl true)) := ⟨fun h => ⟨rfl, h⟩⟩
instance {x : Str} : Wk (dIsnt (.str x) .non R) (R (.bl true)) := ⟨fun h => ⟨rfl, h⟩⟩
instance {x : Bool} : Wk (dIsnt (.bl x) .non R) (R (.bl true)) := ⟨fun h => ⟨rfl, h⟩⟩
instance {x : List Dt} : Wk (dIsnt (.tup x) .non R) (R (.bl true)) := ⟨fun h => ⟨rfl, h⟩⟩
instance {x : List Dt} : Wk (dIsnt (.lst x) .non R) (R (.bl true)) := ⟨fun h => ⟨rfl, h⟩⟩
instance {C : Addr} {x : List (Str × Dt)} : Wk (dIsnt (.obj C x) .non R) (R (.bl true)) := ⟨fun h => ⟨rfl, h⟩⟩
instance {x : List Dt} : Wk (dLen [.lst x] R) (R (.int x.length)) := ⟨l_lenL⟩
instance {x : List Dt} : Wk (dLen [.tup x] R) (R (.int x.length)) := ⟨l_lenT⟩
instance {x : List Int} : Wk (dLen [.scr x] R) (R (.int x.length)) := ⟨l_lenC⟩
instance {x : Str} : Wk (dLen [.str x] R) (Side (x.length ≤ sizeLine) (R (.int x.length))) := ⟨fun h => h⟩
instance : Wk (dAbs [.int i] R) (R (.int (if i < 0 then -i else i))) := ⟨l_abs⟩
instance : Wk (dMax [.int i, .int j] R) (R (.int (if j > i then j else i))) := ⟨l_max⟩
instance : Wk (dMin [.int i, .int j] R) (R (.int (if j < i then j else i))) := ⟨l_min⟩
instance : Wk (dInt [.int i] R) (R (.int i)) := ⟨l_intI⟩
instance {b : Bool} : Wk (dInt [.bl b] R) (R (.int (if b then 1 else 0))) := ⟨l_intB⟩
instance : Wk (dStr [.int i] R) (Side (i.natAbs.log2 < 1920) (R (.str (toString i)))) := ⟨fun h => ⟨_, rfl, h.1, h.2⟩⟩
instance {x : List Dt} : Wk (dList [.lst x] R) (R (.lst x)) := ⟨l_listL⟩
instance {x : List Dt} : Wk (dList [.tup x] R) (R (.lst x)) := ⟨l_listT⟩
instance {x : List Dt} : Wk (dTuple [.lst x] R) (R (.tup x)) := ⟨l_tupleL⟩
instance {x : List Dt} : Wk (dTuple [.tup x] R) (R (.tup x)) := ⟨l_tupleT⟩
instance {c : Nat} {z : Str} : Wk (dIn false (.str ⟨#[c]⟩) (.str z) R) (R (.bl (decide (c ∈ z.cps.toList)))) := ⟨l_inS⟩
instance {c : Nat} {z : Str} : Wk (dIn true (.str ⟨#[c]⟩) (.str z) R) (R (.bl (!decide (c ∈ z.cps.toList)))) := ⟨l_ninS⟩
instance {x : List Dt} {lo hi : Option Int} : Wk (dSl (.lst x) lo hi R) (R (.lst (cutD x lo hi))) := ⟨l_slL⟩
instance {x : List Dt} {lo hi : Option Int} : Wk (dSl (.tup x) lo hi R) (R (.tup (cutD x lo hi))) := ⟨l_slT⟩
instance {x : Str} {lo hi : Option Int} : Wk (dSl (.str x) lo hi R) (Side (x.length ≤ sizeLine) (R (.str (cutS x lo hi)))) := ⟨fun h => h⟩
instance {x : Dt} {a c : String} {r : Bool} [t : TyC x a] [k : KitC a c r] : Wk (dIsi K [x, .ty c] R) (R (.bl r)) := ⟨x_isi⟩
end
class BackC (args : List Sl) (Γ : Gm) (args' : outParam (List Sl)) (c : outParam Prop) : Prop where
  h : c → Back args Γ args'
section
variable {Γ : Gm} {as as' : List Sl} {x : Option Sl} {c : Prop}
instance : BackC [] Γ [] True := ⟨fun _ => .nil⟩
instance {d : Dt} [b : BackC as Γ as' c] : BackC (.fr d :: as) (x :: Γ) (.fr d :: as') c := ⟨fun h => .fr (b.h h)⟩
instance {d : Dt} {p : Addr} {q : Str} [b : BackC as Γ as' c] : BackC (.tb (.fr d) p q :: as) (x :: Γ) (.fr d :: as') c := ⟨fun h => .tb (b.h h)⟩
instance {a : Addr} {ds : List Dt} {φ : List Dt → Prop} [b : BackC as Γ as' c] : BackC (.os a φ :: as) (some (.ol a ds) :: Γ) (.os a φ :: as') (φ ds ∧ c) := ⟨fun h => .pack h.1 (b.h h.2)⟩
instance {a : Addr} {φ : List Dt → Prop} [b : BackC as Γ as' c] : BackC (.os a φ :: as) (some (.os a φ) :: Γ) (.os a φ :: as') c := ⟨fun h => .own rfl rfl (b.h h)⟩
instance {a : Addr} {ds es : List Dt} [b : BackC as Γ as' c] : BackC (.ol a ds :: as) (some (.ol a es) :: Γ) (.ol a es :: as') c := ⟨fun h => .own rfl rfl (b.h h)⟩
instance {a C : Addr} {fs gs : List (Str × Sl)} [b : BackC as Γ as' c] : BackC (.oo a C fs :: as) (some (.oo a C gs) :: Γ) (.oo a C gs :: as') c := ⟨fun h => .own rfl rfl (b.h h)⟩
instance {Q : List Sl → Prop} [b : BackC as Γ as' True] : Wk (Bk as Γ Q) (Q as') := ⟨fun h => ⟨_, b.h trivial, h⟩⟩
instance (priority := low) {Q : List Sl → Prop} [b : BackC as Γ as' c] : Wk (Bk as Γ Q) (Side c (Q as')) := ⟨fun h => ⟨_, b.h h.1, h.2⟩⟩
end
theorem w_start {K : PySem.W.Frag} {W : WX} {Γ : Gm} {t : TS} {args : List Sl} {R : Sl → List Sl → Prop} {Y : Addr → List (Str × Dt) → List Sl → Prop} (h : Go K W t Γ ⟨fun Γ2 => Bk args Γ2 (R (.fr .non)), fun s Γ2 => Bk args Γ2 (R s), fun C fs Γ2 => Bk args Γ2 (Y C fs), fun _ => False, fun _ => False⟩) : Go K W t Γ (poOf args R Y) := h
theorem isSide {A B : Prop} (h : Side A B) : Side A B := h
theorem isBrP {p A B : Prop} (h : BrP p A B) : BrP p A B := h
theorem isBr {p : Bool} {A B : Prop} (h : Br p A B) : Br p A B := h
theorem isFld {K : PySem.W.Frag} {f : Str} {d : Dt} {Q : Dt → Prop} (h : Fld K f d Q) : Fld K f d Q := h
theorem br_t {b : Bool} {A B : Prop} (h : b = true) (a : A) : Br b A B := ⟨fun _ => a, fun z => absurd (h.symm.trans z) (by decide)⟩
theorem br_f {b : Bool} {A B : Prop} (h : b = false) (a : B) : Br b A B := ⟨fun z => absurd (h.symm.trans z) (by decide), fun _ => a⟩
theorem f_obj {K : PySem.W.Frag} {C : Addr} {fs : List (Str × Dt)} {f : Str} {y : Dt} {Q : Dt → Prop} (hc : Cls K C) (hn : NoAttr K C f) (hl : fs.lookup f = some y) (p : Q y) : Fld K f (.obj C fs) Q := x_fldO hc hn hl p
theorem f_exc {K : PySem.W.Frag} {C : Addr} {fs : List (Str × Dt)} {f : Str} {y : Dt} {Q : Dt → Prop} (hc : XfC K C) (hn : PySem.W.findIn K (.ref C) f = some none) (hl : fs.lookup f = some y) (p : Q y) : Fld K f (.exc C fs) Q := x_fldE hc hn hl p
end DL
namespace L2
open PySem PySem.Spec
def tForJ (_ : List Nat) (wi : TI) (g : TG) (tb : TS) : TS := tFor wi g tb
def tWhileJ (_ : List Nat) (tc : TT) (tb : TS) : TS := tWhile tc tb
end L2
namespace DL
open PySem PySem.Spec L2
theorem mkF {X : Cx} {s : Stmt} (junk : List Nat) {wi : TI} {g : TG} {tb : TS} (h : PS X s (tFor wi g tb)) : PS X s (tForJ junk wi g tb) := h
theorem mkW {X : Cx} {s : Stmt} (junk : List Nat) {tc : TT} {tb : TS} (h : PS X s (tWhile tc tb)) : PS X s (tWhileJ junk tc tb) := h
def setA (Γ : Gm) : List (Nat × Option Sl) → Gm
  | [] => Γ
  | (i, s) :: r => setA (Γ.set i s) r
class WipeC (Γ : Gm) (l : List Nat) (Γ' : outParam Gm) : Prop where
  h : wipeG Γ l = Γ'
class SetAC (Γ : Gm) (l : List (Nat × Option Sl)) (Γ' : outParam Gm) : Prop where
  h : setA Γ l = Γ'
section
variable {Γ Γ1 Γ2 : Gm} {i : Nat} {s : Option Sl} {l : List Nat} {r : List (Nat × Option Sl)}
instance : WipeC Γ [] Γ := ⟨rfl⟩
instance [a : WipeC Γ l Γ1] [b : SetG Γ1 i none Γ2] : WipeC Γ (i :: l) Γ2 := ⟨by unfold wipeG; rw [a.h, b.h]⟩
instance (priority := high) {j : Nat} {v : Option Sl} [a : SetG Γ j v Γ1] [b : WipeC Γ1 l Γ2] : WipeC (Γ.set j v) l Γ2 := ⟨by rw [a.h, b.h]⟩
instance : SetAC Γ [] Γ := ⟨rfl⟩
instance [a : SetG Γ i s Γ1] [b : SetAC Γ1 r Γ2] : SetAC Γ ((i, s) :: r) Γ2 := ⟨by unfold setA; rw [a.h, b.h]⟩
end
section
variable {K : PySem.W.Frag} {W : WX} {Γ Γ' : Gm} {X : XP} {l : List Nat} {r : List (Nat × Option Sl)}
instance (priority := 2000) {t : TS} {PP : Po} [h : WipeC Γ l Γ'] : Wk (Go K W t (wipeG Γ l) PP) (Go K W t Γ' PP) := ⟨fun q => by rw [h.h]; exact q⟩
instance (priority := 2000) {t : TS} {PP : Po} [h : SetAC Γ r Γ'] : Wk (Go K W t (setA Γ r) PP) (Go K W t Γ' PP) := ⟨fun q => by rw [h.h]; exact q⟩
instance (priority := 2000) {t : TG} {d : Dt} {P : Gm → Prop} [h : SetAC Γ r Γ'] : Wk (GoG K W t d (setA Γ r) P X) (GoG K W t d Γ' P X) := ⟨fun q => by rw [h.h]; exact q⟩
instance (priority := 2000) {t : TT} {P : Bool → Gm → Prop} [h : SetAC Γ r Γ'] : Wk (EvT K W t (setA Γ r) P X) (EvT K W t Γ' P X) := ⟨fun q => by rw [h.h]; exact q⟩
instance (priority := 2000) {args : List Sl} {Q : List Sl → Prop} [h : WipeC Γ l Γ'] : Wk (Bk args (wipeG Γ l) Q) (Bk args Γ' Q) := ⟨fun q => by rw [h.h]; exact q⟩
instance (priority := 2000) {args : List Sl} {Q : List Sl → Prop} [h : SetAC Γ r Γ'] : Wk (Bk args (setA Γ r) Q) (Bk args Γ' Q) := ⟨fun q => by rw [h.h]; exact q⟩
end
theorem sta_wipe0 {K : PySem.W.Frag} {O G H : Hp} {σ : St} {Γ : Gm} (S : Sta K O G H σ Γ) : ∀ l : List Nat, Sta K O G H σ (wipeG Γ l) := fun l => by
  have T := sta_wipe S l
  exact sta_unwipe T
def Loop (K : PySem.W.Frag) (W : WX) (junk : List Nat) (g : TG) (tbd : TS) (PP : Po) (xs : List Dt) (Γ : Gm) : Prop :=
  ∃ I : Nat → Gm → Prop, I 0 Γ ∧ (∀ k x Γ2, xs[k]? = some x → I k Γ2 → GoG K W g x Γ2 (fun Γ3 => Go K W tbd Γ3 ⟨fun Γ4 => I (k + 1) (wipeG Γ4 junk), PP.rt, PP.xc, fun Γ4 => PP.nx (wipeG Γ4 junk), fun Γ4 => I (k + 1) (wipeG Γ4 junk)⟩) PP.xc) ∧ ∀ Γ2, I xs.length Γ2 → PP.nx Γ2
section
variable {K : PySem.W.Frag} {W : WX} {Γ Γ' : Gm} {X : XP} {nx : Gm → Prop} {rt : Sl → Gm → Prop} {xc : XP} {bk ct : Gm → Prop} {g : TG} {tbd : TS} {wi : TI} {junk : List Nat} {PP : Po} {xs : List Dt}
theorem Go.wipe {t : TS} (h : Go K W t Γ PP) {l : List Nat} (e : wipeG Γ' l = Γ) : Go K W t Γ' PP := fun O G H σ D S a b c d f => h O G H σ D (by rw [← e]; exact sta_wipe0 S l) a b c d f
theorem go_endW {t : TS} {N B C : Gm → Prop} {l : List Nat} (h : Go K W t Γ ⟨fun Γ4 => N (wipeG Γ4 l), rt, xc, fun Γ4 => B (wipeG Γ4 l), fun Γ4 => C (wipeG Γ4 l)⟩) : Go K W t Γ ⟨N, rt, xc, B, C⟩ := fun O G H σ D S a b c d e =>
  h O G H σ D S (fun G2 H2 σ2 Γ2 s S2 p => a G2 H2 σ2 _ s (sta_wipe0 S2 l) p) b (fun G2 H2 σ2 Γ2 s S2 p => c G2 H2 σ2 _ s (sta_wipe0 S2 l) p) (fun G2 H2 σ2 Γ2 s S2 p => d G2 H2 σ2 _ s (sta_wipe0 S2 l) p) e
theorem go_forJ (h : EvI K W wi Γ (fun xs Γ1 => Loop K W junk g tbd ⟨nx, rt, xc, bk, ct⟩ xs (wipeG Γ1 junk)) xc) : Go K W (tForJ junk wi g tbd) Γ ⟨nx, rt, xc, bk, ct⟩ := by
  refine g_forI fun O G H σ R S q x => h O G H σ R S (fun J G2 H2 Γ2 xs n GG Y s S2 w hn hG hY hL => ?_) x
  obtain ⟨I, h0, hs, hd⟩ := hL
  refine q J G2 H2 (wipeG Γ2 junk) xs n GG Y s (sta_wipe0 S2 junk) w hn hG hY ⟨I, h0, fun k x Γ3 hx hI => ?_, hd⟩
  have z := hs k x Γ3 hx hI
  exact fun O G H σ v Q S r q e => z O G H σ v Q S r (fun G2 H2 σ2 Γ2 s S2 p => q G2 H2 σ2 Γ2 s S2 (go_endW p)) e
instance : Wk (Go K W (tForJ junk wi g tbd) Γ ⟨nx, rt, xc, bk, ct⟩) (EvI K W wi Γ (fun xs Γ1 => Loop K W junk g tbd ⟨nx, rt, xc, bk, ct⟩ xs (wipeG Γ1 junk)) xc) := ⟨go_forJ⟩
instance (priority := 2000) {l : List Nat} [h : WipeC Γ l Γ'] : Wk (Loop K W junk g tbd PP xs (wipeG Γ l)) (Loop K W junk g tbd PP xs Γ') := ⟨fun q => by rw [h.h]; exact q⟩
def LpN {α : Type} (J : Nat → α → Prop) (emb : α → List (Nat × Option Sl)) (Γ : Gm) (k : Nat) (Γ4 : Gm) : Prop := ∃ s, J k s ∧ Γ4 = setA Γ (emb s)
theorem loop_inv {α : Type} (J : Nat → α → Prop) (emb : α → List (Nat × Option Sl)) (s0 : α) (h0 : J 0 s0) (e0 : Γ = setA Γ (emb s0))
    (hs : ∀ k x s, xs[k]? = some x → J k s → GoG K W g x (setA Γ (emb s)) (fun Γ3 => Go K W tbd Γ3 ⟨fun Γ4 => LpN J emb Γ (k + 1) (wipeG Γ4 junk), rt, xc, fun Γ4 => nx (wipeG Γ4 junk), fun Γ4 => LpN J emb Γ (k + 1) (wipeG Γ4 junk)⟩) xc)
    (hd : ∀ s, J xs.length s → nx (setA Γ (emb s))) : Loop K W junk g tbd ⟨nx, rt, xc, bk, ct⟩ xs Γ :=
  ⟨LpN J emb Γ, ⟨s0, h0, e0⟩, fun k x Γ2 hx ⟨s, hJ, e⟩ => by rw [e]; exact hs k x s hx hJ, fun Γ2 ⟨s, hJ, e⟩ => by rw [e]; exact hd s hJ⟩
theorem loop_map {α β : Type} {ys : List β} {pic : β → Dt} (J : Nat → α → Prop) (emb : α → List (Nat × Option Sl)) (s0 : α) (h0 : J 0 s0) (e0 : Γ = setA Γ (emb s0))
    (hs : ∀ k y s, ys[k]? = some y → J k s → GoG K W g (pic y) (setA Γ (emb s)) (fun Γ3 => Go K W tbd Γ3 ⟨fun Γ4 => LpN J emb Γ (k + 1) (wipeG Γ4 junk), rt, xc, fun Γ4 => nx (wipeG Γ4 junk), fun Γ4 => LpN J emb Γ (k + 1) (wipeG Γ4 junk)⟩) xc)
    (hd : ∀ s, J ys.length s → nx (setA Γ (emb s))) : Loop K W junk g tbd ⟨nx, rt, xc, bk, ct⟩ (ys.map pic) Γ :=
  loop_inv J emb s0 h0 e0 (fun k x s hx hJ => by
    rw [List.getElem?_map] at hx
    cases q : ys[k]? with
    | none => rw [q] at hx; cases hx
    | some y => rw [q] at hx; cases hx; exact hs k y s q hJ) (fun s hJ => hd s (by simpa using hJ))
theorem loop_rng {α : Type} {m n : Int} (J : Nat → α → Prop) (emb : α → List (Nat × Option Sl)) (s0 : α) (h0 : J 0 s0) (e0 : Γ = setA Γ (emb s0))
    (hs : ∀ (k : Nat) s, m + k < n → J k s → GoG K W g (.int (m + k)) (setA Γ (emb s)) (fun Γ3 => Go K W tbd Γ3 ⟨fun Γ4 => LpN J emb Γ (k + 1) (wipeG Γ4 junk), rt, xc, fun Γ4 => nx (wipeG Γ4 junk), fun Γ4 => LpN J emb Γ (k + 1) (wipeG Γ4 junk)⟩) xc)
    (hd : ∀ s, J (n - m).toNat s → nx (setA Γ (emb s))) : Loop K W junk g tbd ⟨nx, rt, xc, bk, ct⟩ (rngD m n) Γ :=
  loop_inv J emb s0 h0 e0 (fun k x s hx hJ => by
    obtain ⟨rfl, hk⟩ := rngD_get hx
    exact hs k s hk hJ) (fun s hJ => hd s (by rw [rngD_len] at hJ; exact hJ))
end
def LpW {α : Type} (J : Nat → α → Prop) (emb : α → List (Nat × Option Sl)) (Γ : Gm) (m : Nat) (Γ4 : Gm) : Prop := ∃ m', m' < m ∧ ∃ s, J m' s ∧ Γ4 = setA Γ (emb s)
def LoopW (K : PySem.W.Frag) (W : WX) (junk : List Nat) (tc : TT) (tbd : TS) (PP : Po) (Γ : Gm) : Prop := Go K W (tWhileJ junk tc tbd) Γ PP
section
variable {K : PySem.W.Frag} {W : WX} {Γ Γ' : Gm} {nx : Gm → Prop} {rt : Sl → Gm → Prop} {xc : XP} {bk ct : Gm → Prop} {tc : TT} {tbd : TS} {junk : List Nat} {PP : Po}
instance [h : WipeC Γ junk Γ'] : Wk (Go K W (tWhileJ junk tc tbd) Γ PP) (LoopW K W junk tc tbd PP Γ') := ⟨fun q => Go.wipe q h.h⟩
theorem while_inv {α : Type} (J : Nat → α → Prop) (emb : α → List (Nat × Option Sl)) (m0 : Nat) (s0 : α) (h0 : J m0 s0) (e0 : Γ = setA Γ (emb s0))
    (hs : ∀ m s, J m s → EvT K W tc (setA Γ (emb s)) (fun b Γ3 => Br b (Go K W tbd Γ3 ⟨fun Γ4 => LpW J emb Γ m (wipeG Γ4 junk), rt, xc, fun Γ4 => nx (wipeG Γ4 junk), fun Γ4 => LpW J emb Γ m (wipeG Γ4 junk)⟩) (nx (wipeG Γ3 junk))) xc) :
    LoopW K W junk tc tbd ⟨nx, rt, xc, bk, ct⟩ Γ := by
  refine g_while (fun m Γ2 => ∃ s, J m s ∧ Γ2 = setA Γ (emb s)) m0 ⟨s0, h0, e0⟩ ?_
  intro m Γ2 ⟨s, hJ, e⟩
  subst e
  intro O G H σ Q S q x
  refine hs m s hJ O G H σ Q S (fun b G2 H2 Γ3 s2 S2 p => ?_) x
  cases b with
  | true => exact q true G2 H2 Γ3 s2 S2 ⟨fun _ => go_endW (p.1 rfl), fun z => nomatch z⟩
  | false => exact q false G2 H2 (wipeG Γ3 junk) s2 (sta_wipe0 S2 junk) ⟨fun z => (nomatch z), fun _ => p.2 rfl⟩
end
end DL
namespace PySem
open Sem (wp)
open Builtin Builtin.Str
theorem meets_enum_new1 {v : Value} {o : Obj} {H : Heap → Prop} (B : Begins v o H) :
    Meets (Builtin.«enumerate.__new__» ⟨[.type "enumerate", v], []⟩) (fun _ R s => H s.heap ∧
      R (.ok (.ret (.ref (s.heap.push o).objs.size))) { s with heap := (s.heap.push o).push { cls := .type "enumerate", data := .fields #[.none, .bool false, .ref s.heap.objs.size, rawInt 0, .none, .none] } }) :=
  .of_wp fun prog w A R s h => by
    obtain ⟨hp, g, d, tk, os⟩ := s; obtain ⟨h1, h⟩ := h
    have hsub := sub_enumerate
    have q1 : ∀ {A' : Around} {E : Value → Shared → Prop} {Q : Value → Shared → Prop}, Q (.ref hp.objs.size) ⟨hp.push o, g, d, tk, os⟩ → wpAny (model prog w) A' (pyIter v) Q E ⟨hp, g, d, tk, os⟩ :=
      fun q => B.iter prog w _ _ ⟨hp, g, d, tk, os⟩ _ h1 q
    wp_walk using q1
    refine wpAny_stack_any fun st => wpAny_pure ?_
    split
    · rename_i c _ _ _ _ _
      cases (c == Value.type "enumerate")
      · wp_walk using q1
        exact ⟨_, rfl, h⟩
      · wp_walk using q1
        exact ⟨_, rfl, h⟩
    · wp_walk using q1
      exact ⟨_, rfl, h⟩
section
variable {prog : Program} {w : World} {A : Around} {E : Value → Shared → Prop} {s : Shared}
theorem enum_begins1 {v : Value} {o : Obj} {H : Heap → Prop} {Q : Value → Shared → Prop} (B : Begins v o H) (h1 : H s.heap)
    (h : ∀ h', IsEnum h' (s.heap.objs.size + 1) s.heap.objs.size 0 .none → h'.get? s.heap.objs.size = some o → h'.objs.size = s.heap.objs.size + 2 →
      (∀ b o, s.heap.get? b = some o → h'.get? b = some o) → Q (.ref (s.heap.objs.size + 1)) { s with heap := h' }) :
    wpAny (model prog w) A (call (.type "enumerate") [v]) Q E s := by
  refine callType_new F.called_enumerate (by decide) (F.typeCall_enumerate_1 _) (F.newCall_enumerate_1 _) (fun obj => F.args_object_init_2 obj _) F.entry_enumerate_new
    (meets_enum_new1 B) ⟨h1, ?_⟩
  have hz : (s.heap.push o).objs.size = s.heap.objs.size + 1 := Heap.size_push ..
  show _ ∧ _
  rw [hz]
  have he : IsEnum ((s.heap.push o).push { cls := .type "enumerate", data := .fields #[.none, .bool false, .ref s.heap.objs.size, rawInt 0, .none, .none] }) (s.heap.objs.size + 1) s.heap.objs.size 0 .none := by
    have := Heap.get?_push_size (s.heap.push o) (o := { cls := .type "enumerate", data := .fields #[.none, .bool false, .ref s.heap.objs.size, rawInt 0, .none, .none] }) rfl
    rw [hz] at this; exact this
  refine ⟨⟨_, he, rfl⟩, h _ he (Heap.get?_push_of_some _ (Heap.get?_push_size _ B.free)) (by rw [Heap.size_push, hz]) fun b o x => Heap.get?_push_of_some _ (Heap.get?_push_of_some _ x)⟩
end
end PySem
namespace L2
open PySem PySem.Spec PyProof.Rows
def IteT (K : PySem.W.Frag) (a : Addr) : It :=
  ⟨fun i H => ∃ (xs : List V) (x : V), SqT K H a xs ∧ xs[i]? = some x, fun i H v H' => ∃ T x, v = .ref T ∧ H T = none ∧ H' = upd H T (.tup [.int (i : Nat), x]) ∧ ∀ xs, SqT K H a xs → xs[i]? = some x, fun i H => ∃ xs : List V, SqT K H a xs ∧ xs.length = i⟩
theorem turn_enumT {P : Program} {w : World} {K : PySem.W.Frag} {elts : List Expr} {kk : Nat} {tpos : Pos} (a e it : Addr) (hai : a ≠ it) (hea : e ≠ a) :
    Turn P w K (.Tuple elts kk tpos) (IteT K a) [e, it] e (fun i h => (∃ old, IsEnum h e it ((i : Nat) : Int) old) ∧ h.IsTupleIter it a i ∧ e ≠ it) where
  mem := by simp
  obj := fun i h st b hb => by
    obtain ⟨⟨old, he⟩, ⟨o, ho, hc, hd⟩, _⟩ := st
    have e' : b = e ∨ b = it := by simpa using hb
    rcases e' with z | z
    · rw [z]; exact ⟨_, he, fun v q => nomatch q⟩
    · rw [z]; exact ⟨o, ho, fun v q => by rw [hd] at q; cases q⟩
  keep := fun i h h' st k => let ⟨⟨old, he⟩, hi, hne⟩ := st; ⟨⟨old, k e (by simp) _ he⟩, hi.at fun o q => k it (by simp) o q, hne⟩
  item := by
    intro X hP hw hK hc i pins s σ H E I hf st hg
    subst hP hw hK
    obtain ⟨⟨old, he⟩, hit, hne⟩ := st
    obtain ⟨xs, x, hq, hx⟩ := hg
    obtain ⟨its, rv, p, hz⟩ := I.tuple hq
    obtain ⟨u, hu, ru⟩ := rv.get hx
    have hel : e < s.heap.objs.size := Heap.lt_size he
    have hil : it < s.heap.objs.size := by obtain ⟨_, q, _⟩ := hit; exact Heap.lt_size q
    have hil2 : i < its.toArray.size := by
      rcases Nat.lt_or_ge i its.length with z | z
      · simpa using z
      · rw [List.getElem?_eq_none z] at hu; cases hu
    have p' : s.heap.IsTuple a its.toArray := p
    refine wpAny_pyNext_enum_itemD (Draws.tuple (prog := X.prog) (w := X.w) (A := X.A.in1) (I.ok.hd hc) it a hai its.toArray) he ⟨hit, p'⟩ hil2 hne (by simp; exact ⟨hne, hea⟩) fun u' h' tk hP' ho hit' hT hsz hk => ?_
    have eu : u' = u := by
      have hP2 : its.toArray[i]? = some u' := hP'
      rw [List.getElem?_toArray, hu] at hP2
      exact (Option.some.inj hP2).symm
    subst eu
    refine ⟨_, rfl, wpAny_letOwnedTupleGo_enum (s := { s with heap := h', toks := tk + 1 }) ho fun h'' he' sb => ?_⟩
    have hT2 : h''.get? s.heap.objs.size = some { cls := .type "tuple", data := .seq #[.int i tk, u'] } := (sb.2 _ (Nat.ne_of_gt hel)).trans hT
    have new : ObjOk X.prog X.w (upd H s.heap.objs.size (.tup [.int (i : Nat), x])) h'' s.heap.objs.size (.tup [.int (i : Nat), x]) :=
      ⟨by show 2 ≤ sizeLine; decide, [.int i tk, u'], .cons ⟨_, rfl⟩ (.cons ru .nil), ⟨_, hT2, rfl, _, rfl⟩⟩
    have I1 : Inv X pins σ (upd H s.heap.objs.size (.tup [.int (i : Nat), x])) { s with heap := h'', toks := tk + 1 } :=
      I.turnedNew (ch := [e, it]) (fun b ob hb q => (sb.2 b (fun z => hb (by simp [z]))).trans (hk b ob (fun z => hb (by simp [z])) (fun z => hb (by simp [z])) q)) hf (Nat.le_refl _) new
    refine ⟨.ref s.heap.objs.size, _, I1, rfl, ⟨_, x, rfl, I.hok.fresh (Nat.le_refl _), rfl, fun ys hy => by rw [I.tuple_inj hy hq]; exact hx⟩, ⟨⟨u', ?_⟩, hit'.1.at fun o q => (sb.2 it (Ne.symm hne)).trans q, hne⟩, fun b hb => ?_⟩
    · have e1 : ((i + 1 : Nat) : Int) = (i : Int) + 1 := by omega
      rw [e1]; exact he'
    · have hb' : b < s.heap.objs.size := by
        have e' : b = e ∨ b = it := by simpa using hb
        rcases e' with z | z
        · rw [z]; exact hel
        · rw [z]; exact hil
      rw [upd_ne (Nat.ne_of_lt hb')]
      exact (hf b hb).1
  done := by
    intro X hP hw hK hc i pins s σ H E I hf st hg
    subst hP hw hK
    obtain ⟨⟨old, he⟩, hit, hne⟩ := st
    obtain ⟨xs, hq, hx⟩ := hg
    obtain ⟨its, rv, p, hz⟩ := I.tuple hq
    obtain ⟨f0, f1, f2, f3, f4, f5⟩ := hf it (by simp)
    have hl := rv.length
    have p' : s.heap.IsTuple a its.toArray := p
    have hi : its.toArray.size = i := by simp; omega
    exact wpAny_pyNext_enum_endD (Draws.tuple (prog := X.prog) (w := X.w) (A := X.A.in1) (I.ok.hd hc) it a hai its.toArray) he (by rw [hi]; exact ⟨hit, p'⟩) fun h' eb => ⟨rfl, I.turned (t' := s.toks) (fun b o hb q => eb b o hb q) f0 f1 f3 f4 f5⟩
  self := fun A i s Q E st h => let ⟨⟨_, he⟩, _⟩ := st; wpAny_pyIter_enum he h
theorem walk_enumT {K : PySem.W.Frag} {a : Addr} {xs : List V} : Walk (IteT K a) xs.length (fun H => SqT K H a xs) (YPair (fun i => some (.int (i : Nat))) (fun i => xs[i]?)) := by
  refine ⟨fun i _ hi q => ⟨xs, xs[i], q, by simp [hi]⟩, fun _ q => ⟨xs, q, rfl⟩, fun i H v H' _ q y => ?_⟩
  obtain ⟨T, x, h1, h2, h3, h4⟩ := y
  exact ⟨T, .int (i : Nat), x, h1, h2, h3, rfl, h4 xs q⟩
def iEnumA (K : PySem.W.Frag) (ta : TA) : TI := fun σ H R => ta σ H fun vs H1 => ∃ a, vs = [.ref a] ∧ ((∃ xs, SqL K H1 a xs ∧ R (Ite K a) H1) ∨ ∃ xs, SqT K H1 a xs ∧ R (IteT K a) H1)
theorem pi_enumK {X : Cx} {e : Expr} {ta : TA} {p pos tpos : Pos} {elts : List Expr} {kk : Nat} (K : PySem.W.Frag) (hK : X.K = K) (hg : Gl X "enumerate") (hm : X.mg "enumerate" = none) (ha : PA X [e] ta) (hs : starEach [e] X.env = [(false, eval e X.env)] := by rfl) :
    PI X (.Tuple elts kk tpos) (.Call (.Name "enumerate" p) [e] [] pos) (iEnumA K ta) := by
  subst hK
  refine ⟨fun pins s σ H R I h => ?_⟩
  refine Call_ (ld_blt I hg hm boot_enumerate (PyProof.Rows.callWith_type1 (thn (ha.run pos pins s σ H _ I h) fun us s1 ⟨vs, H1, I1, r1, q1⟩ => ?_) hs rfl))
  obtain ⟨a, ex, q1⟩ := q1
  subst ex
  cases r1 with
  | cons r rr =>
    cases rr
    cases r
    have fresh2 : ∀ b ∈ [s1.heap.objs.size + 1, s1.heap.objs.size], FpOk X pins H1 b := fun b hb => by
      have e' : b = s1.heap.objs.size + 1 ∨ b = s1.heap.objs.size := by simpa using hb
      have hle : s1.heap.objs.size ≤ b := by
        rcases e' with z | z
        · rw [z]; exact Nat.le_add_right _ _
        · rw [z]; exact Nat.le_refl _
      exact I1.fpOk hle (I1.hok.fresh hle)
    rcases q1 with ⟨xs, hq, q⟩ | ⟨xs, hq, q⟩
    · obtain ⟨its, rv, p', hz⟩ := I1.list hq
      refine call_enumerate_list p'.isList fun h' he hit hsz hk => wpAny_pyIter_enum he ?_
      have I2 : Inv X pins σ H1 { s1 with heap := h' } := I1.kept (t' := s1.toks) hk
      exact ⟨s1.heap.objs.size + 1, [s1.heap.objs.size + 1, s1.heap.objs.size], _, _, H1, rfl, I2, turn_enum a (s1.heap.objs.size + 1) s1.heap.objs.size, ⟨⟨.none, he⟩, hit, Nat.succ_ne_self _⟩, fresh2, q⟩
    · obtain ⟨its, rv, p', hz⟩ := I1.tuple hq
      have p2 : s1.heap.IsTuple a its.toArray := p'
      obtain ⟨oa, hoa, _⟩ := id p2
      have hal : a < s1.heap.objs.size := Heap.lt_size hoa
      refine enum_begins1 (begins_tuple a its.toArray) p2 fun h' he hit hsz hk => wpAny_pyIter_enum he ?_
      have I2 : Inv X pins σ H1 { s1 with heap := h' } := I1.kept (t' := s1.toks) hk
      exact ⟨s1.heap.objs.size + 1, [s1.heap.objs.size + 1, s1.heap.objs.size], _, _, H1, rfl, I2, turn_enumT a (s1.heap.objs.size + 1) s1.heap.objs.size (Nat.ne_of_lt hal) (Ne.symm (Nat.ne_of_lt (Nat.lt_succ_of_lt hal))), ⟨⟨.none, he⟩, ⟨_, hit, rfl, rfl⟩, Nat.succ_ne_self _⟩, fresh2, q⟩
end L2
namespace L2
open PySem PySem.Spec PyProof.Rows
end L2
namespace DL
open PySem PySem.Spec L2
section
variable {K : PySem.W.Frag} {W : WX} {Γ : Gm} {X : XP} {PI : List Dt → Gm → Prop}
def enumD (xs : List Dt) : List Dt := xs.mapIdx fun i x => .tup [.int (i : Nat), x]
theorem enumD_get {xs : List Dt} {k : Nat} {x : Dt} (h : (enumD xs)[k]? = some x) : ∃ y, xs[k]? = some y ∧ x = .tup [.int (k : Nat), y] := by
  unfold enumD at h
  rw [List.getElem?_mapIdx] at h
  cases q : xs[k]? with
  | none => rw [q] at h; cases h
  | some y => rw [q] at h; cases h; exact ⟨y, rfl, rfl⟩
theorem enumD_len (xs : List Dt) : (enumD xs).length = xs.length := by simp [enumD]
def SeqA (ds : List Dt) (Q : List Dt → Prop) : Prop := ∃ xs, (ds = [.lst xs] ∨ ds = [.tup xs]) ∧ Q xs
instance {xs : List Dt} {Q : List Dt → Prop} : Wk (SeqA [.lst xs] Q) (Q xs) := ⟨fun h => ⟨xs, .inl rfl, h⟩⟩
instance {xs : List Dt} {Q : List Dt → Prop} : Wk (SeqA [.tup xs] Q) (Q xs) := ⟨fun h => ⟨xs, .inr rfl, h⟩⟩
theorem pair_new {G3 H3 : Hp} {T : Addr} {x y : V} {a b : Dt} (g : Same G3 H3) (n : H3 T = none) (rx : Rep K G3 x a) (ry : Rep K G3 y b) : ∃ G4, DL.Ext G3 H3 G4 (upd H3 T (.tup [x, y])) ∧ Rep K G4 (.ref T) (.tup [a, b]) :=
  ⟨_, Ext.new g n, Rep.newT g n (.cons rx (.cons ry .nil))⟩
theorem ei_enum {t : TA} (h : EvA K W t Γ (fun ds Γ1 => SeqA ds fun xs => PI (enumD xs) Γ1) X) : EvI K W (iEnumA K t) Γ PI X := fun O G H σ R S q x =>
  h O G H σ _ S (fun vs G1 H1 Γ1 ds s1 S1 r ⟨xs, ed, p⟩ => by
    have fin : ∀ {xv : List V}, Reps K G1 xv xs → ∀ k x v G2 H2 H3, (enumD xs)[k]? = some x → Same G1 G2 → Same G2 H2 → YPair (fun i => some (.int (i : Nat))) (fun i => xv[i]?) k H2 v H3 → ∃ G4, DL.Ext G2 H2 G4 H3 ∧ Rep K G4 v x := fun {xv} rr k x v G2 H2 H3 hx s2 g2 y => by
      obtain ⟨y', hy, rfl⟩ := enumD_get hx
      obtain ⟨T, a, b, rfl, nT, rfl, ea, eb⟩ := y
      cases ea
      obtain ⟨d', hd', r'⟩ := rr.get' eb
      rw [hy] at hd'; cases hd'
      exact pair_new g2 nT (.int _) (r'.mono s2)
    rcases ed with rfl | rfl
    · cases r with
      | cons r1 r2 =>
        cases r2
        cases r1 with
        | @lst ad xv _ ha rr =>
          exact ⟨ad, rfl, .inl ⟨xv, SqL.of (S1.g _ _ ha), q _ G1 H1 Γ1 _ _ _ _ s1 S1 (walk_enum (K := K) (a := ad) (xs := xv)) (by rw [enumD_len]; exact rr.length) (fun H' s' => SqL.of (s' _ _ ha)) (fin rr) p⟩⟩
    · cases r with
      | cons r1 r2 =>
        cases r2
        cases r1 with
        | @tup ad xv _ ha rr =>
          exact ⟨ad, rfl, .inr ⟨xv, SqT.of (S1.g _ _ ha), q _ G1 H1 Γ1 _ _ _ _ s1 S1 (walk_enumT (K := K) (a := ad) (xs := xv)) (by rw [enumD_len]; exact rr.length) (fun H' s' => SqT.of (s' _ _ ha)) (fin rr) p⟩⟩) x
instance {t : TA} : Wk (EvI K W (iEnumA K t) Γ PI X) (EvA K W t Γ (fun ds Γ1 => SeqA ds fun xs => PI (enumD xs) Γ1) X) := ⟨ei_enum⟩
end
end DL
namespace L2
open PySem PySem.Spec PyProof.Rows
def FnK (P : Program) (w : World) (K : PySem.W.Frag) (mg : Str → Option Value) (base : Heap) (k : Nat) (f : Addr) (ks : List Str) (sp : Sp) : Prop :=
  ∀ (A : Around) (outer : List Env) (s : Shared) (H : Hp) (us ws : List Value) (vs zs : List V) (Q : VK) (E : XK), Room k A → Env0 P w K mg base A outer s H → Vals vs us → Vals zs ws → ws.length = ks.length → sp (vs ++ zs) H Q E →
    codeAny (model P w) A (.call (.ref f) ⟨us, ks.zip ws⟩) (CR (L2.CX P w) outer P w H s Q E) s
section
variable {P : Program} {w : World} {K : PySem.W.Frag} {mg : Str → Option Value} {base : Heap} {j k : Nat} {f : Addr} {sp sp' : Sp} {ks : List Str}
theorem FnK.mono (F : FnK P w K mg base j f ks sp) (h : j ≤ k) : FnK P w K mg base k f ks sp := fun A outer s H us ws vs zs Q E hr => F A outer s H us ws vs zs Q E (hr.mono h)
theorem FnK.imp (F : FnK P w K mg base k f ks sp) (h : ∀ vs H Q E, sp' vs H Q E → sp vs H Q E) : FnK P w K mg base k f ks sp' := fun A outer s H us ws vs zs Q E hr e0 r rz l hs => F A outer s H us ws vs zs Q E hr e0 r rz l (h _ _ _ _ hs)
theorem FnR.toK (F : FnR P w K mg base (L2.CX P w) k f sp) : FnK P w K mg base k f [] sp := fun A outer s H us ws vs zs Q E hr e0 r rz l hs => by
  obtain rfl : ws = [] := List.length_eq_zero_iff.mp l
  cases rz
  rw [List.append_nil] at hs
  exact F A outer s H us vs Q E hr e0 r hs
theorem FnOk.toK {fd : FuncData} {ps : List Str} (F : FnOk P w K mg base (L2.CX P w) k f fd ps sp) (b : Binds K fd ps []) : FnK P w K mg base k f [] sp :=
  FnR.toK ((F.raw b .nil).imp fun vs H Q E h => by rw [List.append_nil]; exact h)
end
section
variable {X : Cx} {pins : List (Addr × Obj)} {σ : St} {H : Hp} {s : Shared} {k : Nat} {f C : Addr} {sp : Sp} {E : XK} {Q : VK} {us ws : List Value} {vs zs : List V} {ks : List Str}
theorem run_fnK (F : FnK X.prog X.w X.K X.mg X.base k f ks sp) (hr : Room k X.A) (hx : PassesAt (L2.CX X.prog X.w) X σ E) (I : Inv X pins σ H s) (r : Vals vs us) (rz : Vals zs ws) (l : ws.length = ks.length) (h : sp (vs ++ zs) H Q E) :
    codeAny (model X.prog X.w) X.A (.call (.ref f) ⟨us, ks.zip ws⟩) (fun r s' => match r with | .ok (.ret v) => EP X pins σ Q v s' | .ok _ => False | .error e => X.xe e s') s := by
  refine codeAny_mono (F X.A X.stack s H us ws vs zs Q E hr I.env0 r rz l h) fun r s' hq => ?_
  cases r with
  | error e => exact hx pins H s e s' I hq
  | ok fl =>
    cases fl with
    | ret u => exact I.after hq
    | next => exact False.elim hq
    | brk => exact False.elim hq
    | cont => exact False.elim hq
theorem run_fnK0 (F : FnK X.prog X.w X.K X.mg X.base k f [] sp) (hr : Room k X.A) (hx : PassesAt (L2.CX X.prog X.w) X σ E) (I : Inv X pins σ H s) (r : Vals vs us) (h : sp vs H Q E) :
    codeAny (model X.prog X.w) X.A (.call (.ref f) ⟨us, []⟩) (fun r s' => match r with | .ok (.ret v) => EP X pins σ Q v s' | .ok _ => False | .error e => X.xe e s') s :=
  run_fnK (ws := []) (zs := []) (ks := []) F hr hx I r .nil rfl (by rw [List.append_nil]; exact h)
theorem run_makeK (M : Mk X.K C f) (F : FnK X.prog X.w X.K X.mg X.base k f ks sp) (hr : Room (k + 1) X.A) (hx : PassesAt (L2.CX X.prog X.w) X σ E) (I : Inv X pins σ H s) (r : Vals vs us) (rz : Vals zs ws) (l : ws.length = ks.length)
    (h : ∀ y dy, H y = none → H dy = none → dy ≠ y → sp (.ref y :: (vs ++ zs)) (upd (upd H dy (.own y)) y (.ins C dy [])) (fun v H2 => v = .non ∧ Q (.ref y) H2) E) :
    wpAny (model X.prog X.w) X.A (call (.ref C) us (ks.zip ws)) (EP X pins σ Q) X.xe s := by
  have hn := h (s.heap.objs.size + 1) s.heap.objs.size (I.hok.fresh (Nat.le_succ _)) (I.hok.fresh (Nat.le_refl _)) (Nat.ne_of_lt (Nat.lt_succ_self _))
  have J := Inv.made (C := C) I
  have rr : Vals (V.ref (s.heap.objs.size + 1) :: vs) (Value.ref (s.heap.objs.size + 1) :: us) := .cons rfl r
  have body := F _ X.stack _ _ (Value.ref (s.heap.objs.size + 1) :: us) ws _ zs _ E (hr.make C us (ks.zip ws)) (J.env0.make C us (ks.zip ws)) rr rz l hn
  refine wpAny_call (make_map (f := f) I.kIn M.makes M.init (beq_iff_eq.mp M.fn) (codeAny_mono body fun q s' hq => ?_))
  cases q with
  | error e => exact hx pins _ _ e s' J hq
  | ok fl =>
    cases fl with
    | ret u =>
      obtain ⟨v, H', I3, rv, ev, q3⟩ := J.after hq
      subst ev
      exact ⟨rv, ⟨V.ref (s.heap.objs.size + 1), H', I3, rfl, q3⟩⟩
    | next => exact hq.elim
    | brk => exact hq.elim
    | cont => exact hq.elim
end
end L2
namespace L2
open PySem PySem.Spec PyProof.Rows
end L2
namespace DL
open PySem PySem.Spec L2 PyProof.Rows
structure DN (P : Program) (w : World) (K : PySem.W.Frag) (mg : Str → Option Value) (base : Heap) (x : Str) (ks : List Str) (k : Nat) (S : DSp) : Prop where
  ex : ∃ f, FnK P w K mg base k f ks (spD K S) ∧ mg x = some (.ref f) ∧ PySem.W.keepIn K (.ref f) = true
structure DA (P : Program) (w : World) (K : PySem.W.Frag) (mg : Str → Option Value) (base : Heap) (f : Addr) (ks : List Str) (k : Nat) (S : DSp) : Prop where
  fn : FnK P w K mg base k f ks (spD K S)
section
variable {X : Cx} {x m : Str} {k j : Nat} {S : DSp} {W : WX} {e o : Expr} {es : List Expr} {kws : List Keyword} {t tk' : TA} {ta te : TE} {p p2 pos apos : Pos} {C f : Addr} {ks : List Str}
theorem pe_nK (K : PySem.W.Frag) (h : X.K = K) (D : DN X.prog X.w K X.mg X.base x [] k S) (hr : Room j X.A) (hj : k ≤ j) (tk : Takes X W) (ha : PA X (e :: es) t) (hg : Gl X x := by rfl) (hdb : (x == ("__debug__" : Str)) = false := by decide)
    (he : starEach (e :: es) X.env = (false, eval e X.env) :: starEach es X.env := by rfl) (hpl : (backTo pos (starEach es X.env)).any (·.1) = false := by rfl) : PE X (.Call (.Name x p) (e :: es) [] pos) (tCallS (spD K S) (WE W) t) := by
  subst h
  obtain ⟨f, F, hm, hk⟩ := D.ex
  refine ⟨fun pins s σ H Q I h => wpAny_Call_Name_kw (ld_glob I hg hm ?_ hdb)⟩
  refine PySem.W.callWith_K (h₀ := X.base) I.ok.mod.kin hk (thn (ha.run pos pins s σ H _ I h) fun us s1 ⟨vs, H1, I1, r, q⟩ => ⟨I1.kIn, ?_⟩) he hpl
  exact wpAny_call (run_fnK0 F (hr.mono hj) (passAt tk σ) I1 r q)
theorem pe_cK (K : PySem.W.Frag) (h : X.K = K) (M : Mk K C f) (D : DA X.prog X.w K X.mg X.base f [] k S) (hr : Room j X.A) (hj : k + 1 ≤ j) (tk : Takes X W) (hm : X.mg x = some (.ref C)) (ha : PA X (e :: es) t) (hg : Gl X x := by rfl) (hdb : (x == ("__debug__" : Str)) = false := by decide)
    (he : starEach (e :: es) X.env = (false, eval e X.env) :: starEach es X.env := by rfl) (hpl : (backTo pos (starEach es X.env)).any (·.1) = false := by rfl) : PE X (.Call (.Name x p) (e :: es) [] pos) (tMakeS C (spD K S) (WE W) t) := by
  subst h
  refine ⟨fun pins s σ H Q I h => wpAny_Call_Name_kw (ld_glob I hg hm ?_ hdb)⟩
  refine PySem.W.callWith_K (h₀ := X.base) I.ok.mod.kin M.kp (thn (ha.run pos pins s σ H _ I h) fun us s1 hh => ?_) he hpl
  obtain ⟨vs, H1, I1, r, q⟩ := hh
  exact ⟨I1.kIn, run_makeK (ks := []) (ws := []) (zs := []) M D.fn (hr.mono hj) (passAt tk σ) I1 r .nil rfl (fun y dy n1 n2 n3 => by rw [List.append_nil]; exact q y dy n1 n2 n3)⟩
end
section
variable {K : PySem.W.Frag} {W : WX} {Γ : Gm} {X : XP} {te : TE} {t tr : TA} {n : Nat} {PA : List Dt → Gm → Prop}
theorem ea_star (h : Ev K W te Γ (fun d Γ1 => SeqA [d] fun xs => EvA K W t Γ1 (fun es Γ2 => PA (xs ++ es) Γ2) X) X) : EvA K W (StX.tStar K te t) Γ PA X := fun O G H σ Q S q x =>
  h O G H σ _ S (fun v G1 H1 Γ1 d s1 S1 r ⟨xs, ed, h1⟩ => by
    have go : ∀ {ad : Addr} {xv : List V}, v = .ref ad → (SqT K H1 ad xv ∨ SqL K H1 ad xv) → Reps K G1 xv xs → StX.tStar K te t σ H Q ∨ (∃ p xs, v = V.ref p ∧ (SqT K H1 p xs ∨ SqL K H1 p xs) ∧ t σ H1 fun ys H2 => Q (xs ++ ys) H2) := fun {ad xv} e hq rr =>
      .inr ⟨ad, xv, e, hq, h1 O G1 H1 σ _ S1 (fun us G2 H2 Γ2 es s2 S2 r2 p => q _ G2 H2 Γ2 _ (s1.trans s2) S2 ((rr.mono s2).append r2) p) (x.mono s1)⟩
    rcases ed with e | e
    · obtain rfl : d = .lst xs := by simpa using e
      cases r with
      | @lst ad xv _ ha rr => exact ⟨ad, xv, rfl, .inr (SqL.of (S1.g _ _ ha)), h1 O G1 H1 σ _ S1 (fun us G2 H2 Γ2 es s2 S2 r2 p => q _ G2 H2 Γ2 _ (s1.trans s2) S2 ((rr.mono s2).append r2) p) (x.mono s1)⟩
    · obtain rfl : d = .tup xs := by simpa using e
      cases r with
      | @tup ad xv _ ha rr => exact ⟨ad, xv, rfl, .inl (SqT.of (S1.g _ _ ha)), h1 O G1 H1 σ _ S1 (fun us G2 H2 Γ2 es s2 S2 r2 p => q _ G2 H2 Γ2 _ (s1.trans s2) S2 ((rr.mono s2).append r2) p) (x.mono s1)⟩) x
instance : Wk (EvA K W (StX.tStar K te t) Γ PA X) (Ev K W te Γ (fun d Γ1 => SeqA [d] fun xs => EvA K W t Γ1 (fun es Γ2 => PA (xs ++ es) Γ2) X) X) := ⟨ea_star⟩
end
end DL
namespace DL
open PySem PySem.Spec L2 PyProof.Rows
section
variable {K : PySem.W.Frag} {O G G2 H H2 : Hp}
end
section
variable {P : Program} {w : World} {K : PySem.W.Frag} {mg : Str → Option Value} {base : Heap}
end
end DL
namespace DL
open PySem PySem.Spec L2
section
variable {K : PySem.W.Frag} {W : WX} {Γ Γ' : Gm} {X : XP} {nx : Gm → Prop} {rt : Sl → Gm → Prop} {xc : XP} {bk ct : Gm → Prop} {g : TG} {tbd : TS} {junk : List Nat} {xs : List Dt} {α β : Type}
def LpR (J : List β → α → Prop) (emb : α → List (Nat × Option Sl)) (Γ : Gm) (zs : List β) (Γ4 : Gm) : Prop := ∃ s, J zs s ∧ Γ4 = setA Γ (emb s)
theorem drop_at {ys : List β} {k : Nat} {y : β} (h : ys[k]? = some y) : ys.drop k = y :: ys.drop (k + 1) := by
  obtain ⟨hk, hy⟩ := List.getElem?_eq_some_iff.mp h
  rw [List.drop_eq_getElem_cons hk, hy]
theorem loop_rest {ys : List β} {pic : β → Dt} (J : List β → α → Prop) (emb : α → List (Nat × Option Sl)) (s0 : α) (h0 : J ys s0) (e0 : Γ = setA Γ (emb s0))
    (hs : ∀ y zs s, J (y :: zs) s → GoG K W g (pic y) (setA Γ (emb s)) (fun Γ3 => Go K W tbd Γ3 ⟨fun Γ4 => LpR J emb Γ zs (wipeG Γ4 junk), rt, xc, fun Γ4 => nx (wipeG Γ4 junk), fun Γ4 => LpR J emb Γ zs (wipeG Γ4 junk)⟩) xc)
    (hd : ∀ s, J [] s → nx (setA Γ (emb s))) : Loop K W junk g tbd ⟨nx, rt, xc, bk, ct⟩ (ys.map pic) Γ :=
  loop_map (fun k s => J (ys.drop k) s) emb s0 (by simpa using h0) e0 (fun k y s hy hJ => hs y (ys.drop (k + 1)) s (by rw [← drop_at hy]; exact hJ)) (fun s hJ => hd s (by rw [List.drop_length] at hJ; exact hJ))
def LpE (J : Nat → List β → α → Prop) (emb : α → List (Nat × Option Sl)) (Γ : Gm) (k : Nat) (zs : List β) (Γ4 : Gm) : Prop := ∃ s, J k zs s ∧ Γ4 = setA Γ (emb s)
theorem loop_enum {ys : List β} {pic : β → Dt} (J : Nat → List β → α → Prop) (emb : α → List (Nat × Option Sl)) (s0 : α) (h0 : J 0 ys s0) (e0 : Γ = setA Γ (emb s0))
    (hs : ∀ k y zs s, ys.drop k = y :: zs → J k (y :: zs) s → GoG K W g (.tup [.int (k : Nat), pic y]) (setA Γ (emb s)) (fun Γ3 => Go K W tbd Γ3 ⟨fun Γ4 => LpE J emb Γ (k + 1) zs (wipeG Γ4 junk), rt, xc, fun Γ4 => nx (wipeG Γ4 junk), fun Γ4 => LpE J emb Γ (k + 1) zs (wipeG Γ4 junk)⟩) xc)
    (hd : ∀ s, J ys.length [] s → nx (setA Γ (emb s))) : Loop K W junk g tbd ⟨nx, rt, xc, bk, ct⟩ (enumD (ys.map pic)) Γ := by
  refine loop_inv (fun k s => J k (ys.drop k) s) emb s0 (by simpa using h0) e0 (fun k x s hx hJ => ?_) (fun s hJ => hd s ?_)
  · obtain ⟨y', hy, rfl⟩ := enumD_get hx
    rw [List.getElem?_map] at hy
    cases q : ys[k]? with
    | none => rw [q] at hy; cases hy
    | some y =>
      rw [q] at hy; cases hy
      have e := drop_at q
      rw [e] at hJ
      exact hs k y (ys.drop (k + 1)) s e hJ
  · have hJ' : J (enumD (ys.map pic)).length (ys.drop (enumD (ys.map pic)).length) s := hJ
    rw [enumD_len, List.length_map, List.drop_length] at hJ'
    exact hJ'
end
section
variable {R : Dt → Prop} {x : Dt} {xs : List Dt}
instance : Wk (dIx (.lst (x :: xs)) (.int 0) R) (R x) := ⟨fun h => by obtain ⟨v, e, f⟩ := atI_in (xs := x :: xs) (j := 0) (by omega) (by simp); simp at f; subst f; exact l_ixL e h⟩
instance : Wk (dIx (.tup (x :: xs)) (.int 0) R) (R x) := ⟨fun h => by obtain ⟨v, e, f⟩ := atI_in (xs := x :: xs) (j := 0) (by omega) (by simp); simp at f; subst f; exact l_ixT e h⟩
theorem atI_last {β : Type} {ys : List β} {y : β} : atI (ys ++ [y]) (-1) = some y := by
  unfold atI ixN
  have e : ((-1 : Int) + ((ys.length : Int) + 1)).toNat = ys.length := by omega
  simp
  rw [if_pos (by omega), Option.bind_some, e]
  simp
instance : Wk (dIx (.lst (xs ++ [x])) (.int (-1)) R) (R x) := ⟨fun h => l_ixL atI_last h⟩
instance : Wk (dIx (.tup (xs ++ [x])) (.int (-1)) R) (R x) := ⟨fun h => l_ixT atI_last h⟩
theorem ix_of {β : Type} {ys : List β} {pic : β → Dt} {j : Int} {y : β} (h0 : 0 ≤ j) (h : ys[j.toNat]? = some y) (r : R (pic y)) : dIx (.lst (ys.map pic)) (.int j) R ∧ dIx (.tup (ys.map pic)) (.int j) R := by
  obtain ⟨hk, hy⟩ := List.getElem?_eq_some_iff.mp h
  obtain ⟨v, e, f⟩ := atI_in (xs := ys.map pic) (j := j) h0 (by simp; omega)
  rw [List.getElem?_map, h] at f
  cases f
  exact ⟨l_ixL e r, l_ixT e r⟩
end
section
variable {K : PySem.W.Frag} {O G H : Hp}
end
section
variable {K : PySem.W.Frag} {W : WX} {Γ : Gm} {te : TE} {i : Nat} {nx : Gm → Prop} {rt : Sl → Gm → Prop} {xc : XP} {bk ct : Gm → Prop}
theorem go_aug {f : Int → Int → Int} {x : Int} (hi : Γ[i]? = some (some (.fr (.int x)))) (h : Ev K W te Γ (fun d Γ1 => IsI d fun j => nx (Γ1.set i (some (.fr (.int (f x j)))))) xc) : Go K W (tAug i te (ipI f)) Γ ⟨nx, rt, xc, bk, ct⟩ := fun O G H σ D S a b c d e => by
  obtain ⟨v, ev, rv⟩ := S.getF hi
  cases rv
  refine ⟨_, ev, h O G H σ _ S (fun v2 G2 H2 Γ2 d2 s2 S2 r2 ⟨j, ed, p⟩ => ?_) (e σ)⟩
  subst ed
  cases r2
  exact ⟨x, j, rfl, rfl, a G2 H2 _ _ s2 (S2.putF (.int (f x j)) i) p⟩
instance {f : Int → Int → Int} {x : Int} [q : At Γ i (.fr (.int x))] : Wk (Go K W (tAug i te (ipI f)) Γ ⟨nx, rt, xc, bk, ct⟩) (Ev K W te Γ (fun d Γ1 => IsI d fun j => nx (Γ1.set i (some (.fr (.int (f x j)))))) xc) := ⟨fun h => go_aug q.h h⟩
end
end DL
namespace DL
open PySem PySem.Spec L2
section
variable {K : PySem.W.Frag} {W : WX} {Γ : Gm} {X : XP} {P : Dt → Gm → Prop} {te : TE} {t : TA} {i : Nat}
theorem own_view {O G H : Hp} {σ : St} {a : Addr} {ds : List Dt} (S : Sta K O G H σ Γ) (hi : Γ[i]? = some (some (.ol a ds))) : σ[i]? = some (some (.ref a)) ∧ ∃ G', Same G G' ∧ Same G' H ∧ Rep K G' (.ref a) (.lst ds) := by
  obtain ⟨v, e, o⟩ := S.get hi
  cases o with
  | @ol _ xs _ hh rr =>
    have na : G a = none := S.ng a (mem_fps hi a (by simp [Sl.fp]))
    obtain ⟨s1, s2⟩ := same_frz S.g hh na
    exact ⟨e, _, s1, s2, .lst upd_same (rr.mono s1)⟩
theorem Sta.look {O G G' G2 H H2 : Hp} {σ : St} (S : Sta K O G H σ Γ) (e : Ext G' H G2 H2) : Sta K O G H2 σ Γ ∧ Same G G :=
  ⟨S.ext ⟨Same.refl _, e.h, S.g.trans e.h, fun _ _ q => .inl q⟩, Same.refl _⟩
theorem ev_opO {r : R2} {ρ : Dt → Dt → (Dt → Prop) → Prop} (hr : RD K r ρ) {a : Addr} {ds : List Dt} (hi : Γ[i]? = some (some (.ol a ds))) (h : Ev K W te Γ (fun y Γ1 => OwnL Γ1 i fun _ ds => ρ (.lst ds) y fun z => IsB z fun b => P (.bl b) Γ1) X) : Ev K W (tOp r (tVar i) te) Γ P X := fun O G H σ Q S q x => by
  obtain ⟨v0, e0, o0⟩ := S.get hi
  refine ⟨v0, e0, h O G H σ _ S (fun v G1 H1 Γ1 d s1 S1 rd hh => ?_) x⟩
  obtain ⟨a1, ds1, hg, hp⟩ := hh
  obtain ⟨e1, G', s2, s3, rv⟩ := own_view S1 hg
  rw [e0] at e1
  obtain rfl := Option.some.inj (Option.some.inj e1)
  refine hr G' H1 _ v _ _ _ Q s3 rv (rd.mono s2) hp fun v2 G2 H2 d2 ex r2 ⟨b, eb, pb⟩ => ?_
  subst eb
  cases r2
  exact q _ G1 H2 Γ1 _ s1 (S1.look ex).1 (.bl b) pb
theorem ev_opR {r : R2} {ρ : Dt → Dt → (Dt → Prop) → Prop} (hr : RD K r ρ) {a : Addr} (h : Ev K W te Γ (fun y Γ1 => OwnL Γ1 i fun _ ds => ρ y (.lst ds) fun z => IsB z fun b => P (.bl b) Γ1) X) : Ev K W (tOp r te (tVar i)) Γ P X := fun O G H σ Q S q x => by
  refine h O G H σ _ S (fun v G1 H1 Γ1 d s1 S1 rd hh => ?_) x
  obtain ⟨a1, ds1, hg, hp⟩ := hh
  obtain ⟨e1, G', s2, s3, rv⟩ := own_view S1 hg
  refine ⟨_, e1, hr G' H1 v _ _ _ _ Q s3 (rd.mono s2) rv hp fun v2 G2 H2 d2 ex r2 ⟨b, eb, pb⟩ => ?_⟩
  subst eb
  cases r2
  exact q _ G1 H2 Γ1 _ s1 (S1.look ex).1 (.bl b) pb
theorem ev_cbO {r : List V → Hp → VK → Prop} {ρ : List Dt → (Dt → Prop) → Prop} (hr : RDC K r ρ) {a : Addr} {ds : List Dt} (hi : Γ[i]? = some (some (.ol a ds))) (h : EvA K W t Γ (fun es Γ1 => OwnL Γ1 i fun _ ds => ρ (.lst ds :: es) fun z => IsB z fun b => P (.bl b) Γ1) X) : Ev K W (tCB r (tCons (tVar i) t)) Γ P X := fun O G H σ Q S q x => by
  obtain ⟨v0, e0, o0⟩ := S.get hi
  refine ⟨v0, e0, h O G H σ _ S (fun vs G1 H1 Γ1 es s1 S1 rd hh => ?_) x⟩
  obtain ⟨a1, ds1, hg, hp⟩ := hh
  obtain ⟨e1, G', s2, s3, rv⟩ := own_view S1 hg
  rw [e0] at e1
  obtain rfl := Option.some.inj (Option.some.inj e1)
  refine hr G' H1 _ _ _ Q s3 (.cons rv (rd.mono s2)) hp fun v2 G2 H2 d2 ex r2 ⟨b, eb, pb⟩ => ?_
  subst eb
  cases r2
  exact q _ G1 H2 Γ1 _ s1 (S1.look ex).1 (.bl b) pb
instance {a : Addr} {ds : List Dt} [q : At Γ i (.ol a ds)] : Wk (Ev K W (tOp (rEqP K) (tVar i) te) Γ P X) (Ev K W te Γ (fun y Γ1 => OwnL Γ1 i fun _ ds => dEq (.lst ds) y fun z => IsB z fun b => P (.bl b) Γ1) X) := ⟨fun h => ev_opO rd_eq q.h h⟩
instance {a : Addr} {ds : List Dt} [q : At Γ i (.ol a ds)] : Wk (Ev K W (tOp (rNeP K) (tVar i) te) Γ P X) (Ev K W te Γ (fun y Γ1 => OwnL Γ1 i fun _ ds => dNe (.lst ds) y fun z => IsB z fun b => P (.bl b) Γ1) X) := ⟨fun h => ev_opO rd_ne q.h h⟩
instance {a : Addr} {ds : List Dt} [q : At Γ i (.ol a ds)] : Wk (Ev K W (tOp (rInP K) te (tVar i)) Γ P X) (Ev K W te Γ (fun y Γ1 => OwnL Γ1 i fun _ ds => dIn false y (.lst ds) fun z => IsB z fun b => P (.bl b) Γ1) X) := ⟨fun h => ev_opR (a := a) rd_in h⟩
instance {a : Addr} {ds : List Dt} [q : At Γ i (.ol a ds)] : Wk (Ev K W (tOp (rNotInP K) te (tVar i)) Γ P X) (Ev K W te Γ (fun y Γ1 => OwnL Γ1 i fun _ ds => dIn true y (.lst ds) fun z => IsB z fun b => P (.bl b) Γ1) X) := ⟨fun h => ev_opR (a := a) rd_notIn h⟩
instance {a : Addr} {ds : List Dt} [q : At Γ i (.ol a ds)] : Wk (Ev K W (tCB (rIsiP K) (tCons (tVar i) t)) Γ P X) (EvA K W t Γ (fun es Γ1 => OwnL Γ1 i fun _ ds => dIsi K (.lst ds :: es) fun z => IsB z fun b => P (.bl b) Γ1) X) := ⟨fun h => ev_cbO rdc_isi q.h h⟩
end
mutual
def plB : Nat → Dt → Bool
  | _, .non => true
  | _, .bl _ => true
  | _, .int _ => true
  | _, .str x => PyData.strOk x
  | n + 1, .lst xs => plBs n xs
  | n + 1, .tup xs => plBs n xs
  | _, _ => false
def plBs : Nat → List Dt → Bool
  | _, [] => true
  | n, x :: xs => plB n x && plBs n xs
end
mutual
theorem pl_of : ∀ {n : Nat} {d : Dt}, plB n d = true → Pl n d
  | _, .non, _ => .non
  | _, .bl b, _ => .bl b
  | _, .int i, _ => .int i
  | _, .str x, h => .str (by cases ‹Nat› <;> exact h)
  | n + 1, .lst xs, h => .lst (pls_of (n := n) h)
  | n + 1, .tup xs, h => .tup (pls_of (n := n) h)
  | 0, .lst xs, h => by cases h
  | 0, .tup xs, h => by cases h
  | _, .ty _, h => by cases ‹Nat› <;> cases h
  | _, .ref _, h => by cases ‹Nat› <;> cases h
  | _, .scr _, h => by cases ‹Nat› <;> cases h
  | _, .obj _ _, h => by cases ‹Nat› <;> cases h
  | _, .dK _, h => by cases ‹Nat› <;> cases h
  | _, .dT _, h => by cases ‹Nat› <;> cases h
  | _, .exc _ _, h => by cases ‹Nat› <;> cases h
  | _, .at_ _ _, h => by cases ‹Nat› <;> cases h
  | _, .fn _ _ _ _ _, h => by cases ‹Nat› <;> cases h
  | _, .dN _ _ _, h => by cases ‹Nat› <;> cases h
theorem pls_of : ∀ {n : Nat} {xs : List Dt}, plBs n xs = true → ∀ d ∈ xs, Pl n d
  | _, [], _, d, hd => by cases hd
  | n, x :: xs, h, d, hd => by
    have h' : plB n x = true ∧ plBs n xs = true := by simpa only [plBs, Bool.and_eq_true] using h
    rcases List.mem_cons.mp hd with e | hd
    · rw [e]; exact pl_of h'.1
    · exact pls_of h'.2 d hd
end
theorem pls_map {α : Type} {n : Nat} {f : α → Dt} {l : List α} (h : ∀ x ∈ l, plB n (f x) = true) : plBs n (l.map f) = true := by
  induction l with
  | nil => rfl
  | cons x l ih => simp only [List.map_cons, plBs, Bool.and_eq_true]; exact ⟨h x (by simp), ih fun y hy => h y (by simp [hy])⟩
theorem eqDs_map {α : Type} {f : α → Dt} (hf : ∀ x y, eqD (f x) (f y) = true ↔ x = y) : ∀ {l l' : List α}, eqDs (l.map f) (l'.map f) = true ↔ l = l'
  | [], [] => by simp [eqDs]
  | [], _ :: _ => by simp [eqDs]
  | _ :: _, [] => by simp [eqDs]
  | x :: l, y :: l' => by simp only [List.map_cons, eqDs, Bool.and_eq_true, hf, eqDs_map hf, List.cons.injEq]
section
variable {R : Dt → Prop} {x y : Dt}
theorem q_eq (n : Nat) (hx : plB n x = true) (hy : plB n y = true) (h : R (.bl (eqD x y))) (hn : n ≤ 64 := by decide) : dEq x y R := p_eq (pl_of hx) (pl_of hy) hn hn h
theorem q_ne (n : Nat) (hx : plB n x = true) (hy : plB n y = true) (h : R (.bl (!eqD x y))) (hn : n ≤ 64 := by decide) : dNe x y R := p_ne (pl_of hx) (pl_of hy) hn hn h
end
instance {K : PySem.W.Frag} {W : WX} {Γ : Gm} {X : XP} {P : Dt → Gm → Prop} {i : Nat} {a C : Addr} {d : Option Addr} {fs : List (Str × Dt)} {f : Str} [h : At Γ i (.ex a C d fs)] : Wk (Ev K W (tXf a (.ref C) d C f (tVar i)) Γ P X) (∃ y, fs.lookup f = some y ∧ P y Γ) := ⟨fun ⟨y, e, p⟩ => ev_xf h.h e p⟩
end DL
namespace L2
open PySem PySem.Spec PyProof.Rows
end L2
namespace DL
open PySem PySem.Spec L2
section
variable {K : PySem.W.Frag} {W : WX} {Γ : Gm} {X : XP} {P : Dt → Gm → Prop} {te : TE} {i : Nat}
def IsiX (K : PySem.W.Frag) (C : Addr) (c : Dt) (Q : Bool → Prop) : Prop := ∃ u b, ClsD c u ∧ ExcC K C ∧ PySem.W.kitOne K (.ref C) u = some b ∧ Q b
theorem isix_own {C D : Addr} {b : Bool} {Q : Bool → Prop} (f : ExcC K C) (hk : PySem.W.kitOne K (.ref C) (.ref D) = some b) (h : Q b) : IsiX K C (.ref D) Q := ⟨_, b, .own D, f, hk, h⟩
theorem isix_ty {C : Addr} {n : String} {b : Bool} {Q : Bool → Prop} (f : ExcC K C) (hk : PySem.W.kitOne K (.ref C) (.type n) = some b) (h : Q b) : IsiX K C (.ty n) Q := ⟨_, b, .ty n, f, hk, h⟩
end
end DL
namespace DL
open PySem PySem.Spec L2
theorem mkLc {X : Cx} {e : Expr} (vs : List Nat) {wi : TI} {g : TG} {tt : TT} {te : TE} {l : List Nat} (h : PE X e (tLc wi g tt te l)) (q : l = vs := by rfl) : PE X e (tLc wi g tt te vs) := by subst q; exact h
class MemC (i : Nat) (vs : List Nat) : Prop where
  h : i ∈ vs
instance (priority := high) {i : Nat} {vs : List Nat} : MemC i (i :: vs) := ⟨by simp⟩
instance {i j : Nat} {vs : List Nat} [h : MemC i vs] : MemC i (j :: vs) := ⟨List.mem_cons_of_mem _ h.h⟩
class WrC (g : TG) (vs : List Nat) : Prop where
  h : Wr g vs
  m : MoG g
class WrsC (g : TGs) (vs : List Nat) : Prop where
  h : Wrs g vs
  m : MoGs g
instance {i : Nat} {vs : List Nat} [m : MemC i vs] : WrC (gName i) vs := ⟨wr_name m.h, mo_name⟩
instance {vs : List Nat} : WrsC gNil vs := ⟨wrs_nil, mos_nil⟩
instance {g : TG} {r : TGs} {vs : List Nat} [a : WrC g vs] [b : WrsC r vs] : WrsC (gCons g r) vs := ⟨wrs_cons a.m b.m a.h b.h, mos_cons a.m b.m⟩
instance {K : PySem.W.Frag} {n : Nat} {r : TGs} {vs : List Nat} [b : WrsC r vs] : WrC (gTup K n r) vs := ⟨wr_tup b.h, mo_tup b.m⟩
def LC (K : PySem.W.Frag) (g : TG) (tt : TT) (te : TE) (vs : List Nat) (P : Sl → Gm → Prop) (xs : List Dt) (Γ : Gm) : Prop :=
  ∃ I : Nat → List Dt → Gm → Prop, I 0 [] Γ ∧
      (∀ k x acc Γ2, xs[k]? = some x → I k acc Γ2 → GoG K WF g x Γ2 (fun Γ3 => EvT K WF tt Γ3 (fun b Γ4 => (b = true → Ev K WF te Γ4 (fun y Γ5 => acc.length < 1000000 ∧ I (k + 1) (acc ++ [y]) (wipeG Γ5 vs)) XF) ∧ (b = false → I (k + 1) acc (wipeG Γ4 vs))) XF) XF) ∧
      (∀ a acc Γ2, I xs.length acc Γ2 → P (.ol a acc) Γ2)
section
variable {K : PySem.W.Frag} {W : WX} {Γ Γ' : Gm} {X : XP} {te : TE} {tt : TT} {g : TG} {wi : TI} {vs : List Nat} {P : Sl → Gm → Prop} {xs : List Dt}
instance [h : WrC g vs] : Wk (EvO K W (tLc wi g tt te vs) Γ P X) (EvI K W wi Γ (fun xs Γ1 => LC K g tt te vs P xs (wipeG Γ1 vs)) X) := ⟨fun q => evo_lc h.h h.m q⟩
instance {P : Dt → Gm → Prop} : Wk (Ev K W (tLc wi g tt te vs) Γ P X) (EvO K W (tLc wi g tt te vs) Γ (fun s Γ2 => Fz s fun d => P d Γ2) X) := ⟨ev_frz⟩
instance {nx : Gm → Prop} {rt : Sl → Gm → Prop} {xc : XP} {bk ct : Gm → Prop} {i : Nat} : Wk (Go K W (tAsg (tLc wi g tt te vs) (gName i)) Γ ⟨nx, rt, xc, bk, ct⟩) (EvO K W (tLc wi g tt te vs) Γ (fun s Γ1 => nx (Γ1.set i (some s))) xc) := ⟨g_setO⟩
instance (priority := 2000) {l : List Nat} [h : WipeC Γ l Γ'] : Wk (LC K g tt te vs P xs (wipeG Γ l)) (LC K g tt te vs P xs Γ') := ⟨fun q => by rw [h.h]; exact q⟩
instance {P : Bool → Gm → Prop} : Wk (EvT K W tYes Γ P X) (P true Γ) := ⟨fun p O G H σ Q S q x => q true G H Γ (Same.refl _) S p⟩
def LcN {α : Type} (J : Nat → List Dt → α → Prop) (emb : α → List (Nat × Option Sl)) (Γ : Gm) (k : Nat) (acc : List Dt) (Γ4 : Gm) : Prop := ∃ s, J k acc s ∧ Γ4 = setA Γ (emb s)
theorem lc_inv {α : Type} (J : Nat → List Dt → α → Prop) (emb : α → List (Nat × Option Sl)) (s0 : α) (h0 : J 0 [] s0) (e0 : Γ = setA Γ (emb s0))
    (hs : ∀ k x acc s, xs[k]? = some x → J k acc s → GoG K WF g x (setA Γ (emb s)) (fun Γ3 => EvT K WF tt Γ3 (fun b Γ4 => Br b (Ev K WF te Γ4 (fun y Γ5 => Side (acc.length < 1000000) (LcN J emb Γ (k + 1) (acc ++ [y]) (wipeG Γ5 vs))) XF) (LcN J emb Γ (k + 1) acc (wipeG Γ4 vs))) XF) XF)
    (hd : ∀ a acc s, J xs.length acc s → P (.ol a acc) (setA Γ (emb s))) : LC K g tt te vs P xs Γ :=
  ⟨LcN J emb Γ, ⟨s0, h0, e0⟩, fun k x acc Γ2 hx ⟨s, hJ, e⟩ => by rw [e]; exact hs k x acc s hx hJ, fun a acc Γ2 ⟨s, hJ, e⟩ => by rw [e]; exact hd a acc s hJ⟩
theorem lc_map {β : Type} {ys : List β} {pic : β → Dt} (f : β → Dt) (hl : ys.length ≤ 1000000)
    (hs : ∀ (k : Nat) y, ys[k]? = some y → GoG K WF g (pic y) Γ (fun Γ3 => EvT K WF tt Γ3 (fun b Γ4 => Br b (Ev K WF te Γ4 (fun z Γ5 => z = f y ∧ wipeG Γ5 vs = Γ) XF) False) XF) XF)
    (hd : ∀ a, P (.ol a (ys.map f)) Γ) : LC K g tt te vs P (ys.map pic) Γ := by
  refine lc_inv (α := Unit) (fun k acc _ => acc = (ys.take k).map f) (fun _ => []) () (by simp) rfl (fun k x acc _ hx hJ => ?_) (fun a acc _ hJ => ?_)
  · rw [List.getElem?_map] at hx
    cases q : ys[k]? with
    | none => rw [q] at hx; cases hx
    | some y =>
      rw [q] at hx; cases hx
      have hk : k < ys.length := (List.getElem?_eq_some_iff.mp q).1
      intro O G H σ v Q S r q' e
      refine hs k y q O G H σ v Q S r (fun G2 H2 σ2 Γ2 s S2 p => q' G2 H2 σ2 Γ2 s S2 ?_) e
      intro O G H σ Q S q3 x3
      refine p O G H σ Q S (fun b G2 H2 Γ2 s S2 p2 => q3 b G2 H2 Γ2 s S2 ?_) x3
      refine ⟨fun hb => ?_, fun hb => (p2.2 hb).elim⟩
      have p3 := p2.1 hb
      intro O G H σ Q S q4 x4
      refine p3 O G H σ Q S (fun v G2 H2 Γ2 d s S2 R p5 => q4 v G2 H2 Γ2 d s S2 R ?_) x4
      refine ⟨by rw [hJ]; simp; omega, (), ?_, ?_⟩
      · show acc ++ [_] = (ys.take (k + 1)).map f
        rw [hJ, p5.1, List.take_add_one, q]; simp
      · exact p5.2
  · have : acc = ys.map f := by rw [hJ]; simp
    rw [this]
    exact hd a
end
end DL
namespace DL
open PySem PySem.Spec L2
def dRep : Dt → Dt → (Dt → Prop) → Prop
  | .lst a, .int k, R => (-(2 ^ 63) ≤ k ∧ k < 2 ^ 63 ∧ a.length * k.toNat ≤ 1000000) ∧ R (.lst (List.replicate k.toNat a).flatten)
  | _, _, _ => False
theorem reps_flat {K : PySem.W.Frag} {G : Hp} {xs : List V} {ds : List Dt} (r : Reps K G xs ds) : ∀ n : Nat, Reps K G (List.replicate n xs).flatten (List.replicate n ds).flatten
  | 0 => by simp; exact .nil
  | n + 1 => by
    rw [List.replicate_succ, List.replicate_succ, List.flatten_cons, List.flatten_cons]
    exact r.append (reps_flat r n)
section
variable {K : PySem.W.Frag}
theorem rd_rep : RD K rRep dRep := fun G H x y dx dy R Q s rx ry h q => by
  unfold dRep at h
  split at h
  · obtain ⟨⟨l1, l2, l3⟩, p⟩ := h
    cases ry
    cases rx with
    | lst h1 r1 =>
    refine ⟨_, _, _, rfl, rfl, s _ _ h1, l1, l2, by rw [r1.length]; exact big_ok l3, fun a na => ?_⟩
    exact q _ _ _ _ (Ext.new s na) (Rep.newL s na (reps_flat r1 _)) p
  · exact h.elim
instance : OpC K rRep dRep := ⟨rd_rep⟩
instance {a : List Dt} {k : Int} {R : Dt → Prop} : Wk (dRep (.lst a) (.int k) R) (Side (-(2 ^ 63) ≤ k ∧ k < 2 ^ 63 ∧ a.length * k.toNat ≤ 1000000) (R (.lst (List.replicate k.toNat a).flatten))) := ⟨fun h => h⟩
end
theorem rngD_rget {m n : Int} {k : Nat} {x : Dt} (h : (rngD m n).reverse[k]? = some x) : x = .int (n - 1 - k) ∧ m ≤ n - 1 - k := by
  have hk : k < (rngD m n).reverse.length := (List.getElem?_eq_some_iff.mp h).1
  rw [List.length_reverse, rngD_len] at hk
  rw [List.getElem?_reverse (by rw [rngD_len]; exact hk), rngD_len] at h
  obtain ⟨rfl, _⟩ := rngD_get h
  refine ⟨?_, by omega⟩
  congr 1
  omega
section
variable {K : PySem.W.Frag} {W : WX} {Γ : Gm} {X : XP} {PI : List Dt → Gm → Prop}
theorem ei_rev1 {te : TE} (h : Ev K W te Γ (fun d Γ1 => ∃ n : Int, d = .int n ∧ (-(2 ^ 62) ≤ n ∧ n < 2 ^ 62) ∧ PI (rngD 0 n).reverse Γ1) X) : EvI K W (iRevR (tRg1 te)) Γ PI X := fun O G H σ R S q x =>
  h O G H σ _ S (fun v G1 H1 Γ1 d s1 S1 r ⟨n, en, ⟨l1, l2⟩, p⟩ => by
    subst en
    cases r
    refine ⟨n, rfl, by decide, by decide, l1, l2, q _ G1 H1 Γ1 _ _ _ _ s1 S1 walk_rangeC (by rw [List.length_reverse, rngD_len]) (fun _ _ => trivial) (fun k x v G2 H2 H3 hx s2 g2 y => ?_) p⟩
    obtain ⟨rfl, rfl⟩ := y
    obtain ⟨rfl, hk⟩ := rngD_rget hx
    have : (0 : Int) + (((n - 0).toNat : Nat) : Int) - 1 + (k : Nat) * (-1) = n - 1 - k := by omega
    refine ⟨G2, Ext.refl g2, ?_⟩
    show Rep K G2 (.int (0 + (((n - 0).toNat : Nat) : Int) - 1 + (k : Nat) * (-1))) _
    rw [this]
    exact .int _) x
instance {te : TE} : Wk (EvI K W (iRevR (tRg1 te)) Γ PI X) (Ev K W te Γ (fun d Γ1 => ∃ n : Int, d = .int n ∧ Side (-(2 ^ 62) ≤ n ∧ n < 2 ^ 62) (PI (rngD 0 n).reverse Γ1)) X) := ⟨fun h => ei_rev1 h⟩
end
section
variable {K : PySem.W.Frag} {W : WX} {Γ : Gm} {nx : Gm → Prop} {rt : Sl → Gm → Prop} {xc : XP} {bk ct : Gm → Prop} {g : TG} {tbd : TS} {junk : List Nat}
end
end DL
namespace L2
open PySem PySem.Spec PyProof.Rows
section
variable {X : Cx} {k : Nat} {f g C : Addr} {sp : Sp} {pos : Pos} {a b : Expr} {ta tb : TE} {pins : List (Addr × Obj)} {σ : St} {H : Hp} {s : Shared} {Q : VK} {us : List Value} {vs : List V}
theorem call_fnK {E : XK} (F : FnK X.prog X.w X.K X.mg X.base k f [] sp) (hr : Room k X.A) (hx : PassesAt (L2.CX X.prog X.w) X σ E) (I : Inv X pins σ H s) (r : Vals vs us) (h : sp vs H Q E) :
    wpAny (model X.prog X.w) X.A (call (.ref f) us) (EP X pins σ Q) X.xe s := wpAny_call (run_fnK0 F hr hx I r h)
theorem call_fnK1 {E : XK} (F : FnK X.prog X.w X.K X.mg X.base k f [] sp) (hr : Room (k + 1) X.A) (hx : PassesAt (L2.CX X.prog X.w) X σ E) (I : Inv X pins σ H s) (r : Vals vs us) (h : sp vs H Q E) :
    wpAny (model X.prog X.w) X.A.in1 (call (.ref f) us) (EP X pins σ Q) X.xe s := by
  have e0 : Env0 X.prog X.w X.K X.mg X.base X.A.in1 X.stack s H := by
    have e := I.env0
    exact ⟨e.frames, e.mod, e.bs, e.bsz, e.funs, e.frf, e.hok, e.bare⟩
  refine wpAny_call (codeAny_mono (F X.A.in1 X.stack s H us [] vs [] Q E hr.in1 e0 r .nil rfl (by rw [List.append_nil]; exact h)) fun r s' hq => ?_)
  cases r with
  | error e => exact hx pins H s e s' I hq
  | ok fl =>
    cases fl with
    | ret u => exact I.after hq
    | next => exact False.elim hq
    | brk => exact False.elim hq
    | cont => exact False.elim hq
structure OpO (K : PySem.W.Frag) (C f : Addr) (nm : Str) : Prop where
  me : PySem.W.findIn K (.ref C) nm = some (some (.ref f))
  fn : PySem.W.isFn K (.ref f) = true
  fi : PySem.W.fnIn K f = true
  sf : PySem.W.selfFirst K C = true
  sq : PySem.W.noSeq K C = true
def opOB (K : PySem.W.Frag) (C f : Addr) (nm : Str) : Bool := He.eqO (PySem.W.findIn K (.ref C) nm) (some (some (.ref f))) && (PySem.W.isFn K (.ref f) && (PySem.W.fnIn K f && (PySem.W.selfFirst K C && PySem.W.noSeq K C)))
theorem opOB_ok {K : PySem.W.Frag} {C f : Addr} {nm : Str} (q : opOB K C f nm = true) : OpO K C f nm := by
  unfold opOB at q
  simp only [Bool.and_eq_true] at q
  obtain ⟨q1, q2, q3, q4, q5⟩ := q
  exact ⟨He.eqO_ok q1, q2, q3, q4, q5⟩
theorem pe_eqD {E : St → XK} (c : EqC X.K C f) (F : FnK X.prog X.w X.K X.mg X.base k f [] sp) (hr : Room k X.A) (hx : ∀ σ, PassesAt (L2.CX X.prog X.w) X σ (E σ)) (pa : PE X a ta) (pb : PE X b tb) : PE X (.Compare a [.Eq] [b] pos) (tCmpO C false sp E ta tb) := by
  refine ⟨fun pins s σ H Q I h => wpAny_Compare1 (binT pa pb I h fun v u s2 x y H2 I2 rx ry z => ?_) (nobehind _ (by decide) (by decide))⟩
  obtain ⟨p, q, dx, dy, fs, gs, rfl, rfl, hp, hq, z⟩ := z
  obtain rfl : v = Value.ref p := rx
  obtain rfl : u = Value.ref q := ry
  show wpAny _ _ (richCompare .Eq (.ref p) (.ref q)) _ _ _
  obtain ⟨mA, J, _⟩ := ins_get I2.hok hp
  obtain ⟨mB, J', _⟩ := ins_get I2.hok hq
  obtain ⟨od, J, _⟩ := J.look
  obtain ⟨od', J', _⟩ := J'.look
  obtain ⟨m, hF⟩ := I2.fr
  refine PySem.W.cmp_K (op := .Eq) (tb := .ref C) hr.units0 hF I2.ok.mod.kin J J'.type (by simp [PySem.W.notFirst]) c.eq c.fn ?_
  refine thn (call_fnK (us := [.ref p, .ref q]) (vs := [.ref p, .ref q]) F hr (hx σ) I2 (.cons rfl (.cons rfl .nil)) z) fun r s3 hh => ?_
  obtain ⟨r', H3, I3, rr, j, ej, q3⟩ := hh
  subst ej
  cases rr
  exact ⟨.bl j, H3, I3, rfl, by simpa using q3⟩
theorem pe_neD {E : St → XK} (c : EqC X.K C f) (F : FnK X.prog X.w X.K X.mg X.base k f [] sp) (hr : Room (k + 1) X.A) (hx : ∀ σ, PassesAt (L2.CX X.prog X.w) X σ (E σ)) (pa : PE X a ta) (pb : PE X b tb) : PE X (.Compare a [.NotEq] [b] pos) (tCmpO C true sp E ta tb) := by
  refine ⟨fun pins s σ H Q I h => wpAny_Compare1 (binT pa pb I h fun v u s2 x y H2 I2 rx ry z => ?_) (nobehind _ (by decide) (by decide))⟩
  obtain ⟨p, q, dx, dy, fs, gs, rfl, rfl, hp, hq, z⟩ := z
  obtain rfl : v = Value.ref p := rx
  obtain rfl : u = Value.ref q := ry
  show wpAny _ _ (richCompare .NotEq (.ref p) (.ref q)) _ _ _
  obtain ⟨mA, J, _⟩ := ins_get I2.hok hp
  obtain ⟨mB, J', _⟩ := ins_get I2.hok hq
  obtain ⟨od, J, _⟩ := J.look
  obtain ⟨od', J', _⟩ := J'.look
  refine OX.ne_own I2.kIn J J' c.mro c.ne c.eq c.fn (by have := hr.units; omega) ?_
  refine thn (call_fnK1 (us := [.ref p, .ref q]) (vs := [.ref p, .ref q]) F hr (hx σ) I2 (.cons rfl (.cons rfl .nil)) z) fun r s3 hh => ?_
  obtain ⟨r', H3, I3, rr, j, ej, q3⟩ := hh
  subst ej
  cases rr
  exact ⟨j, rfl, .bl (!j), H3, I3, rfl, by simpa using q3⟩
def tLenO (C : Addr) (sp : Sp) (E : St → XK) (t : TA) : TE := fun σ H Q => t σ H fun vs H1 => ∃ p dx fs, vs = [.ref p] ∧ H1 p = some (.ins C dx fs) ∧ sp [.ref p] H1 (fun v H2 => ∃ n : Int, v = .int n ∧ 0 ≤ n ∧ n < 2 ^ 63 ∧ Q (.int n) H2) (E σ)
def tCallC (C : Addr) (sp : Sp) (E : St → XK) (tf : TE) (t : TA) : TE := fun σ H Q => tf σ H fun y H1 => ∃ a, y = V.ref a ∧ t σ H1 fun vs H2 => (∃ dx fs, H2 a = some (.ins C dx fs)) ∧ sp (V.ref a :: vs) H2 Q (E σ)
theorem pe_callC {E : St → XK} {fe e : Expr} {es : List Expr} {tf : TE} {t : TA} (c : OpO X.K C f "__call__") (F : FnK X.prog X.w X.K X.mg X.base k f [] sp) (hr : Room k X.A) (hx : ∀ σ, PassesAt (L2.CX X.prog X.w) X σ (E σ)) (hf : PE X fe tf) (ha : PA X (e :: es) t)
    (ht : eval (.Call fe (e :: es) [] pos) X.env = (do callWith pos (← eval fe X.env) [] (backTo pos (starEach (e :: es) X.env)) (backToKw pos (keywordEach [] X.env))))
    (he : starEach (e :: es) X.env = (false, eval e X.env) :: starEach es X.env) (hpl : (backTo pos (starEach es X.env)).any (·.1) = false) : PE X (.Call fe (e :: es) [] pos) (tCallC C sp E tf t) := by
  refine ⟨fun pins s σ H Q I h => ?_⟩
  refine Call_ (thn (hf.run pins s σ H _ I h) fun u s1 ⟨y, H1, I1, ry, a, ey, q⟩ => ?_) ht
  subst ey
  obtain rfl : u = Value.ref a := ry
  refine StX.callO_with (thn (ha.run pos pins s1 σ H1 _ I1 q) fun us s2 ⟨vs, H2, I2, r, hi, q2⟩ => ?_) he hpl
  obtain ⟨ox, od, J, hd⟩ := StX.insC_at (X := X) (C := C) I2 (.inr hi)
  exact ⟨⟨C, ox, od, J, hd⟩, wpAny_call (PySem.W.kco_code I2.kIn J hd c.me c.fn c.fi (run_fnK0 (us := .ref a :: us) (vs := .ref a :: vs) F hr (hx σ) I2 (.cons rfl r) q2))⟩
end
end L2
namespace DL
open PySem PySem.Spec L2 PyProof.Rows
section
variable {X : Cx} {k j : Nat} {S : DSp} {W : WX} {a b e fe : Expr} {es : List Expr} {ta tb tf : TE} {t : TA} {pos : Pos} {C f : Addr} {nm : Str}
theorem pe_eqDK (K : PySem.W.Frag) (h : X.K = K) (c : EqC K C f) (D : DA X.prog X.w K X.mg X.base f [] k S) (hr : Room j X.A) (hj : k + 1 ≤ j) (tk : Takes X W) (pa : PE X a ta) (pb : PE X b tb) : PE X (.Compare a [.Eq] [b] pos) (tCmpO C false (spD K S) (WE W) ta tb) := by
  subst h
  exact pe_eqD c D.fn (hr.mono (Nat.le_of_succ_le hj)) (fun σ => passAt tk σ) pa pb
theorem pe_neDK (K : PySem.W.Frag) (h : X.K = K) (c : EqC K C f) (D : DA X.prog X.w K X.mg X.base f [] k S) (hr : Room j X.A) (hj : k + 1 ≤ j) (tk : Takes X W) (pa : PE X a ta) (pb : PE X b tb) : PE X (.Compare a [.NotEq] [b] pos) (tCmpO C true (spD K S) (WE W) ta tb) := by
  subst h
  exact pe_neD c D.fn (hr.mono hj) (fun σ => passAt tk σ) pa pb
theorem pe_callOK (K : PySem.W.Frag) (h : X.K = K) (c : OpO K C f "__call__") (D : DA X.prog X.w K X.mg X.base f [] k S) (hr : Room j X.A) (hj : k + 1 ≤ j) (tk : Takes X W) (hf : PE X fe tf) (ha : PA X (e :: es) t)
    (ht : eval (.Call fe (e :: es) [] pos) X.env = (do callWith pos (← eval fe X.env) [] (backTo pos (starEach (e :: es) X.env)) (backToKw pos (keywordEach [] X.env))) := by rfl)
    (he : starEach (e :: es) X.env = (false, eval e X.env) :: starEach es X.env := by rfl) (hpl : (backTo pos (starEach es X.env)).any (·.1) = false := by rfl) : PE X (.Call fe (e :: es) [] pos) (tCallC C (spD K S) (WE W) tf t) := by
  subst h
  exact pe_callC c D.fn (hr.mono (Nat.le_of_succ_le hj)) (fun σ => passAt tk σ) hf ha ht he hpl
end
section
variable {K : PySem.W.Frag} {W : WX} {Γ : Gm} {X : XP} {P : Dt → Gm → Prop} {PO : Sl → Gm → Prop} {ta tb tf : TE} {t : TA} {S : DSp} {C : Addr} {neg : Bool}
theorem evo_callC (h : Ev K W tf Γ (fun d Γ1 => IsO C d fun _ => EvA K W t Γ1 (fun ds Γ2 => CallS S (d :: ds) (fun res => PO res Γ2) (fun D fs => X D fs Γ2)) X) X) : EvO K W (tCallC C (spD K S) (WE W) tf t) Γ PO X := fun O G H σ Q S0 q x =>
  h O G H σ _ S0 (fun v1 G1 H1 Γ1 d1 s1 S1 r1 hh => by
    obtain ⟨fs, e1, hA⟩ := hh
    subst e1
    have k1 := r1
    cases r1 with
    | @obj p _ dx fsv _ hp rf =>
    refine ⟨p, rfl, hA O G1 H1 σ _ S1 (fun vs G2 H2 Γ2 ds s2 S2 r2 hS => ⟨⟨dx, fsv, S2.g _ _ (s2 _ _ hp)⟩, ?_⟩) (x.mono s1)⟩
    exact call_at (R := fun res => PO res Γ2) S2 (.cons (k1.mono s2) r2) hS ((x.mono s1).mono s2) fun v G3 H3 res s3 S3 hr => q v G3 H3 Γ2 res (s1.trans (s2.trans s3)) S3 hr) x
instance : Wk (EvO K W (tCallC C (spD K S) (WE W) tf t) Γ PO X) (Ev K W tf Γ (fun d Γ1 => IsO C d fun _ => EvA K W t Γ1 (fun ds Γ2 => CallS S (d :: ds) (fun res => PO res Γ2) (fun D fs => X D fs Γ2)) X) X) := ⟨evo_callC⟩
instance : Wk (Ev K W (tCallC C (spD K S) (WE W) tf t) Γ P X) (EvO K W (tCallC C (spD K S) (WE W) tf t) Γ (fun s Γ2 => Fz s fun d => P d Γ2) X) := ⟨ev_frz⟩
end
end DL
namespace IX
open PySem PySem.Spec PyProof.Rows L2
variable {Z : Cx}
def tSi (w : World) (wi : TI) (g : TG) (tt : TT) (te : TE) (vs : List Nat) : TE := fun ρ G Q => wi ρ G fun J G1 => ∀ d, G1 d = none → ∃ V : Nat → Nat → Hp → Prop, (∃ m, V 0 m (upd G1 d (SetO w d (fun _ => false) 0))) ∧ ∀ i m G, V i m G →
  (J.stop i G ∧ Q (.ref d) G) ∨ (J.go i G ∧ ∃ N : Hp → Prop, (∀ G', N G' → ∃ m', m' < m ∧ V (i + 1) m' G') ∧ ∀ x G', J.yld i G x G' → g x (wipe ρ vs) G' fun ρ2 G2 => wipe ρ2 vs = wipe ρ vs ∧ tt ρ2 G2 fun b G3 =>
    if b = true then te ρ2 G3 fun y G4 => ∃ (c : Int) (M : Int → Bool) (n : Nat), y = .int c ∧ G4 d = some (SetO w d M n) ∧ n + 1 < scanBound ∧ N (upd G4 d (SetO w d (fun j => M j || decide (j = c)) (if M c = true then n else n + 1))) else N G3)
end IX
namespace IX
open PySem PySem.Spec PyProof.Rows L2
section
variable {P : Program} {w : World} {A : Around} {E : Value → Shared → Prop} {u : Shared} {a : Addr}
end
def rSortS (w : World) : List V → Hp → VK → Prop := fun vs G Q => ∃ (a : Addr) (M : Int → Bool) (n : Nat), vs = [V.ref a] ∧ G a = some (SetO w a M n) ∧
  ∀ (ns : List Int) (p : Addr), ns.Pairwise (· < ·) → (∀ k : Int, k ∈ ns ↔ M k = true) → G p = none → Q (.ref p) (upd G p (.lst (ns.map V.int)))
theorem si_it {w : World} {J : It} {n : Nat} {GG : Hp → Prop} {Y : Nat → Hp → V → Hp → Prop} {g : TG} {tt : TT} {te : TE} {vs : List Nat} {ρ : L2.St} {G1 : Hp} {d : Addr} {Qd : Hp → Prop} (wk : Walk J n GG Y) (Pv : Nat → Hp → Prop) (h0 : Pv 0 (upd G1 d (SetO w d (fun _ => false) 0))) (hG : ∀ i G, i ≤ n → Pv i G → GG G)
    (hs : ∀ i x G G', i < n → Pv i G → Y i G x G' → g x (wipe ρ vs) G' fun ρ2 G2 => wipe ρ2 vs = wipe ρ vs ∧ tt ρ2 G2 fun b G3 =>
      if b = true then te ρ2 G3 fun y G4 => ∃ (c : Int) (M : Int → Bool) (k : Nat), y = .int c ∧ G4 d = some (SetO w d M k) ∧ k + 1 < scanBound ∧ Pv (i + 1) (upd G4 d (SetO w d (fun j => M j || decide (j = c)) (if M c = true then k else k + 1))) else Pv (i + 1) G3) (hd : ∀ G, Pv n G → Qd G) :
    ∃ V : Nat → Nat → Hp → Prop, (∃ m, V 0 m (upd G1 d (SetO w d (fun _ => false) 0))) ∧ ∀ i m G, V i m G →
      (J.stop i G ∧ Qd G) ∨ (J.go i G ∧ ∃ N : Hp → Prop, (∀ G', N G' → ∃ m', m' < m ∧ V (i + 1) m' G') ∧ ∀ x G', J.yld i G x G' → g x (wipe ρ vs) G' fun ρ2 G2 => wipe ρ2 vs = wipe ρ vs ∧ tt ρ2 G2 fun b G3 =>
        if b = true then te ρ2 G3 fun y G4 => ∃ (c : Int) (M : Int → Bool) (k : Nat), y = .int c ∧ G4 d = some (SetO w d M k) ∧ k + 1 < scanBound ∧ N (upd G4 d (SetO w d (fun j => M j || decide (j = c)) (if M c = true then k else k + 1))) else N G3) := by
  refine ⟨fun i m G => m + i = n ∧ Pv i G, ⟨n, rfl, h0⟩, ?_⟩
  rintro i m G ⟨hm, p⟩
  by_cases hlt : i < n
  · refine .inr ⟨wk.goes i G hlt (hG i G (Nat.le_of_lt hlt) p), Pv (i + 1), fun G' p' => ⟨m - 1, by omega, by omega, p'⟩, fun x G' y => hs i x G G' hlt p (wk.yields i G x G' hlt (hG i G (Nat.le_of_lt hlt) p) y)⟩
  · obtain rfl : i = n := by omega
    exact .inl ⟨wk.stops G (hG _ G (Nat.le_refl _) p), hd G p⟩
end IX
namespace DL
open PySem PySem.Spec L2 PyProof.Rows
abbrev tSS (w : World) (wi : TI) (g : TG) (tt : TT) (te : TE) (vs : List Nat) : TE := tCB (IX.rSortS w) (tCons (IX.tSi w wi g tt te vs) tNil)
def Cn (U : List Int) (M : Int → Bool) (k : Nat) (acc : List Int) : Prop := (∀ j, M j = true ↔ j ∈ acc) ∧ (∀ j ∈ acc, j ∈ U) ∧ ∃ ms : List Int, ms.Nodup ∧ ms.length = k ∧ ∀ j, j ∈ ms ↔ M j = true
theorem sub_len : ∀ {l m : List Int}, l.Nodup → (∀ k ∈ l, k ∈ m) → l.length ≤ m.length
  | [], m, _, _ => by simp
  | a :: l, m, nd, h => by
    have ha : a ∈ m := h a (by simp)
    obtain ⟨h1, h2⟩ := List.nodup_cons.mp nd
    have := sub_len (l := l) (m := m.erase a) h2 fun k hk => (List.mem_erase_of_ne (fun e : k = a => h1 (by rw [← e]; exact hk))).mpr (h k (List.mem_cons_of_mem _ hk))
    rw [List.length_erase_of_mem ha] at this
    have := List.length_pos_of_mem ha
    simp
    omega
theorem cn_le {U l : List Int} (nd : l.Nodup) (h : ∀ j ∈ l, j ∈ U) : l.length ≤ U.length := sub_len nd h
section
variable {K : PySem.W.Frag} {W : WX} {Γ : Gm} {X : XP} {te : TE} {tt : TT} {g : TG} {wi : TI} {vs : List Nat} {w : World}
theorem evo_ss {P : Sl → Gm → Prop} (hw : Wr g vs) (hm : MoG g) (h : EvI K W wi Γ (fun xs Γ1 => ∃ (U : List Int) (I : Nat → List Int → Gm → Prop), U.length ≤ 4090 ∧ I 0 [] (wipeG Γ1 vs) ∧
      (∀ k x acc Γ2, xs[k]? = some x → I k acc Γ2 → GoG K WF g x Γ2 (fun Γ3 => EvT K WF tt Γ3 (fun b Γ4 => (b = true → Ev K WF te Γ4 (fun y Γ5 => ∃ c, y = .int c ∧ c ∈ U ∧ I (k + 1) (acc ++ [c]) (wipeG Γ5 vs)) XF) ∧ (b = false → I (k + 1) acc (wipeG Γ4 vs))) XF) XF) ∧
      (∀ acc Γ2, I xs.length acc Γ2 → ∀ a (ns : List Int), ns.Pairwise (· < ·) → (∀ k, k ∈ ns ↔ k ∈ acc) → P (.ol a (ns.map .int)) Γ2)) X) : EvO K W (tSS w wi g tt te vs) Γ P X := fun O G H σ Q S q x =>
  h O G H σ _ S (fun J G1 H1 Γ1 xs n GG Y s1 S1 wk hn hG hY ⟨U, I, hU, h0, hs, hd⟩ => by
    intro D nD
    have oD : O D = none := S1.o.free nD
    have gD : G1 D = none := S1.g.free nD
    have fD : D ∉ fps Γ1 := fun z => S1.there D z nD
    have xf : ∀ {O' G' : Hp} {σ' : L2.St}, XOk K WF O' G' σ' XF := fun {O' G' σ'} C d fs G2 H2 Γ2 _ _ _ z => z
    refine IX.si_it wk (fun k H' => ∃ (G2 : Hp) (Γ2 : Gm) (acc : List Int) (M : Int → Bool) (c : Nat), Same G1 G2 ∧ Sta K (upd O D (SetO w D M c)) G2 H' (wipe σ vs) Γ2 ∧ Cn U M c acc ∧ I k acc Γ2) ?_ (fun k H' _ ⟨G2, Γ2, acc, M, c, s2, S2, _⟩ => hG H' (s2.trans S2.g)) ?_ ?_
    · have T := (S1.ext (Ext.raw (ob := SetO w D (fun _ => false) 0) S1.g nD)).toO upd_same oD gD fD trivial
      exact ⟨G1, _, [], (fun _ => false), 0, Same.refl _, sta_wipe T vs, ⟨by simp, by simp, [], by simp, rfl, by simp⟩, h0⟩
    · rintro k v H2 H3 hk ⟨G2, Γ2, acc, M, c, s2, S2, cn, p⟩ y
      have hx : xs[k]? = some (xs[k]'(by omega)) := by simp
      obtain ⟨G3, ex, r⟩ := hY k _ v G2 H2 H3 hx s2 S2.g y
      refine hm _ _ _ _ _ (fun σ2 H2 z => (fun (e : wipe σ2 vs = wipe σ vs) => ⟨e, z.2 e⟩) (z.1.trans (wipe_in fun v hv => hv))) (hw v (wipe σ vs) H3 (fun σ2 H2 => wipe σ2 vs = wipe σ vs → tt σ2 H2 fun b H3 => if b = true then te σ2 H3 fun y H4 => ∃ (e : Int) (M : Int → Bool) (c : Nat), y = .int e ∧ H4 D = some (SetO w D M c) ∧ c + 1 < scanBound ∧
        ∃ (G2 : Hp) (Γ2 : Gm) (acc : List Int) (M' : Int → Bool) (c' : Nat), Same G1 G2 ∧ Sta K (upd O D (SetO w D M' c')) G2 (upd H4 D (SetO w D (fun j => M j || decide (j = e)) (if M e = true then c else c + 1))) (wipe σ vs) Γ2 ∧ Cn U M' c' acc ∧ I (k + 1) acc Γ2
        else ∃ (G2 : Hp) (Γ2 : Gm) (acc : List Int) (M : Int → Bool) (c : Nat), Same G1 G2 ∧ Sta K (upd O D (SetO w D M c)) G2 H3 (wipe σ vs) Γ2 ∧ Cn U M c acc ∧ I (k + 1) acc Γ2) ?_)
      refine hs k _ acc Γ2 hx p _ G3 H3 _ v _ (S2.ext ex) r (fun G4 H4 σ4 Γ4 s4 S4 p4 e4 => ?_) fun σ5 => xf
      have s14 : Same G1 G4 := s2.trans (ex.g.trans s4)
      refine p4 _ G4 H4 σ4 _ S4 (fun b G5 H5 Γ5 s5 S5 p5 => ?_) xf
      cases b with
      | false =>
        refine iteF ⟨G5, _, acc, M, c, s14.trans s5, ?_, cn, p5.2 rfl⟩
        have T := sta_wipe S5 vs
        rw [e4] at T
        exact T
      | true =>
        refine iteT (p5.1 rfl _ G5 H5 σ4 _ S5 (fun y G6 H6 Γ6 dy s6 S6 r6 p6 => ?_) xf)
        obtain ⟨e, ey, hl, p6⟩ := p6
        subst ey
        cases r6
        obtain ⟨c1, c2, ms, c3, c4, c5⟩ := cn
        refine ⟨e, M, c, rfl, S6.o D _ upd_same, by have := cn_le (U := U) c3 (fun j hj => c2 j ((c1 j).mp ((c5 j).mp hj))); show c + 1 < 4096; omega, G6, _, acc ++ [e], (fun j => M j || decide (j = e)), (if M e = true then c else c + 1), s14.trans (s5.trans s6), ?_, ⟨fun j => ?_, ?_, ?_⟩, p6⟩
        · have T := sta_wipe (S6.updO (o' := SetO w D (fun j => M j || decide (j = e)) (if M e = true then c else c + 1)) trivial) vs
          rw [e4] at T
          exact T
        · simp only [Bool.or_eq_true, decide_eq_true_eq, c1 j, List.mem_append, List.mem_singleton]
        · intro j hj
          rcases List.mem_append.mp hj with hj | hj
          · exact c2 j hj
          · obtain rfl := List.mem_singleton.mp hj
            exact hl
        · by_cases he : M e = true
          · rw [if_pos he]
            refine ⟨ms, c3, c4, fun j => ?_⟩
            rw [c5 j, Bool.or_eq_true, decide_eq_true_eq]
            exact ⟨.inl, fun z => z.elim id fun z => by rw [z]; exact he⟩
          · rw [if_neg he]
            refine ⟨e :: ms, List.nodup_cons.mpr ⟨fun z => he ((c5 e).mp z), c3⟩, by simp [c4], fun j => ?_⟩
            rw [List.mem_cons, c5 j, Bool.or_eq_true, decide_eq_true_eq]
            exact ⟨fun z => z.elim .inr .inl, fun z => z.elim .inr .inl⟩
    · rintro H2 ⟨G2, Γ2, acc, M, c, s2, S2, ⟨c1, c2, ms, c3, c4, c5⟩, p⟩
      have T := sta_unwipe S2
      have hD : H2 D = some (SetO w D M c) := T.o D _ upd_same
      have hd := hd acc Γ2 (by rw [← hn]; exact p)
      refine ⟨D, M, c, rfl, hD, fun ns a hp hk na => ?_⟩
      · have rn : Reps K G2 (ns.map V.int) (ns.map Dt.int) := by
          clear hp hk
          induction ns with
          | nil => exact .nil
          | cons n ns ih => exact .cons (.int n) ih
        exact q (.ref a) G2 _ Γ2 (.ol a (ns.map .int)) (s1.trans s2) ((T.offO oD).own1 na rfl (.ol upd_same rn)) (hd a ns hp fun k => by rw [hk k, c1 k])) x
def SC (K : PySem.W.Frag) (g : TG) (tt : TT) (te : TE) (vs : List Nat) (P : Sl → Gm → Prop) (xs : List Dt) (Γ : Gm) : Prop :=
  ∃ (U : List Int) (I : Nat → List Int → Gm → Prop), U.length ≤ 4090 ∧ I 0 [] Γ ∧
      (∀ k x acc Γ2, xs[k]? = some x → I k acc Γ2 → GoG K WF g x Γ2 (fun Γ3 => EvT K WF tt Γ3 (fun b Γ4 => (b = true → Ev K WF te Γ4 (fun y Γ5 => ∃ c, y = .int c ∧ c ∈ U ∧ I (k + 1) (acc ++ [c]) (wipeG Γ5 vs)) XF) ∧ (b = false → I (k + 1) acc (wipeG Γ4 vs))) XF) XF) ∧
      (∀ acc Γ2, I xs.length acc Γ2 → ∀ a (ns : List Int), ns.Pairwise (· < ·) → (∀ k, k ∈ ns ↔ k ∈ acc) → P (.ol a (ns.map .int)) Γ2)
instance {P : Sl → Gm → Prop} [h : WrC g vs] : Wk (EvO K W (tSS w wi g tt te vs) Γ P X) (EvI K W wi Γ (fun xs Γ1 => SC K g tt te vs P xs (wipeG Γ1 vs)) X) := ⟨fun q => evo_ss h.h h.m q⟩
instance {P : Dt → Gm → Prop} : Wk (Ev K W (tSS w wi g tt te vs) Γ P X) (EvO K W (tSS w wi g tt te vs) Γ (fun s Γ2 => Fz s fun d => P d Γ2) X) := ⟨ev_frz⟩
instance (priority := 2000) {P : Sl → Gm → Prop} {Γ' : Gm} {xs : List Dt} {l : List Nat} [h : WipeC Γ l Γ'] : Wk (SC K g tt te vs P xs (wipeG Γ l)) (SC K g tt te vs P xs Γ') := ⟨fun q => by rw [h.h]; exact q⟩
end
section
variable {R : Dt → Prop}
instance (priority := high) : Wk (dEq (.bl true) (.bl true) R) (R (.bl true)) := ⟨fun h => l_eqB (by simpa using h)⟩
instance (priority := high) : Wk (dEq (.bl false) (.bl false) R) (R (.bl true)) := ⟨fun h => l_eqB (by simpa using h)⟩
instance (priority := high) : Wk (dEq (.bl true) (.bl false) R) (R (.bl false)) := ⟨fun h => l_eqB (by simpa using h)⟩
instance (priority := high) : Wk (dEq (.bl false) (.bl true) R) (R (.bl false)) := ⟨fun h => l_eqB (by simpa using h)⟩
instance (priority := high) : Wk (dNe (.bl true) (.bl true) R) (R (.bl false)) := ⟨fun h => l_neB (by simpa using h)⟩
instance (priority := high) : Wk (dNe (.bl false) (.bl false) R) (R (.bl false)) := ⟨fun h => l_neB (by simpa using h)⟩
instance (priority := high) : Wk (dNe (.bl true) (.bl false) R) (R (.bl true)) := ⟨fun h => l_neB (by simpa using h)⟩
instance (priority := high) : Wk (dNe (.bl false) (.bl true) R) (R (.bl true)) := ⟨fun h => l_neB (by simpa using h)⟩
end
end DL
namespace OX
open PySem PySem.Spec PySem.W PySem.Calls PyProof.Rows Builtin
section
variable {prog : Program} {w : World} {A : Around} {E : Value → Shared → Prop} {s : Shared} {K : Frag} {x C L f g : Addr} {h₀ : Heap} {m : Str → Option Value} {ox : Obj} {od : Option Obj}
end
end OX
namespace L2
open PySem PySem.Spec PyProof.Rows
section
variable {X : Cx} {k : Nat} {f g C : Addr} {sp : Sp} {pos p : Pos} {a b e : Expr} {es : List Expr} {ta tb : TE} {t : TA}
theorem pe_lenO {x : Str} {E : St → XK} (c : OpO X.K C f "__len__") (F : FnK X.prog X.w X.K X.mg X.base k f [] sp) (hr : Room (k + 1) X.A) (hx : ∀ σ, PassesAt (L2.CX X.prog X.w) X σ (E σ)) (hg : Gl X x) (hm : X.mg x = none) (hv : bootBuiltins x = some (.builtin "len")) (ha : PA X (e :: es) t) (hn : x ≠ "__name__") (hdb : (x == ("__debug__" : Str)) = false)
    (he : starEach (e :: es) X.env = (false, eval e X.env) :: starEach es X.env) (hpl : (backTo pos (starEach es X.env)).any (·.1) = false) : PE X (.Call (.Name x p) (e :: es) [] pos) (tLenO C sp E t) := by
  refine ⟨fun pins s σ H Q I h => wpAny_Call_Name_kw (ld_blt I hg hm hv ?_ hn hdb)⟩
  refine PyProof.Rows.callWith_builtin1 (thn (ha.run pos pins s σ H _ I h) fun us s1 ⟨vs, H1, I1, r1, q1⟩ => ?_) he hpl
  obtain ⟨p, dx, fs, rfl, hp, z⟩ := q1
  rw [Vals.ref1 r1]
  obtain ⟨mA, J, _⟩ := ins_get I1.hok hp
  obtain ⟨od, J, _⟩ := J.look
  obtain ⟨m, hF⟩ := I1.fr
  refine PySem.W.len_K hF I1.ok.mod.kin J c.me c.fn (thn (call_fnK1 (us := [.ref p]) (vs := [.ref p]) F hr (hx σ) I1 (.cons rfl .nil) z) fun r s3 hh => ?_)
  obtain ⟨r', H3, I3, rr, n, en, l0, l1, q3⟩ := hh
  subst en
  obtain ⟨tk, rfl⟩ := (show ∃ t, r = Value.int n t from rr)
  exact ⟨⟨l0, l1⟩, .int n, H3, I3.tok _, ⟨_, rfl⟩, q3⟩
end
end L2
namespace DL
open PySem PySem.Spec L2 PyProof.Rows
section
variable {X : Cx} {k j : Nat} {S : DSp} {W : WX} {a b e : Expr} {es : List Expr} {ta tb : TE} {t : TA} {pos p : Pos} {C f : Addr} {x : Str}
theorem pe_lenOK (K : PySem.W.Frag) (h : X.K = K) (c : OpO K C f "__len__") (D : DA X.prog X.w K X.mg X.base f [] k S) (hr : Room j X.A) (hj : k + 1 ≤ j) (tk : Takes X W) (hm : X.mg x = none) (ha : PA X (e :: es) t) (hg : Gl X x := by rfl) (hv : bootBuiltins x = some (.builtin "len") := by decide +kernel) (hn : x ≠ "__name__" := by decide) (hdb : (x == ("__debug__" : Str)) = false := by decide)
    (he : starEach (e :: es) X.env = (false, eval e X.env) :: starEach es X.env := by rfl) (hpl : (backTo pos (starEach es X.env)).any (·.1) = false := by rfl) : PE X (.Call (.Name x p) (e :: es) [] pos) (tLenO C (spD K S) (WE W) t) := by
  subst h
  exact pe_lenO c D.fn (hr.mono hj) (fun σ => passAt tk σ) hg hm hv ha hn hdb he hpl
end
section
variable {K : PySem.W.Frag} {W : WX} {Γ : Gm} {X : XP} {P : Dt → Gm → Prop} {PO : Sl → Gm → Prop} {ta tb : TE} {t : TA} {S : DSp} {C : Addr}
theorem ev_lenO' (h : EvA K W t Γ (fun ds Γ1 => ∃ d, ds = [d] ∧ IsO C d fun _ => CallS S [d] (fun res => ∃ n : Int, res = .fr (.int n) ∧ (0 ≤ n ∧ n < 2 ^ 63) ∧ P (.int n) Γ1) (fun D fs => X D fs Γ1)) X) : Ev K W (tLenO C (spD K S) (WE W) t) Γ P X := fun O G H σ Q S0 q x =>
  h O G H σ _ S0 (fun vs G1 H1 Γ1 ds s1 S1 r1 hh => by
    obtain ⟨d, e0, fs, e1, hS⟩ := hh
    subst e0 e1
    cases r1 with
    | @cons v vs _ _ k1 kt =>
    cases kt
    have k1' := k1
    cases k1 with
    | @obj p _ dx fsv _ hp rf =>
    refine ⟨p, dx, fsv, rfl, S1.g _ _ hp, ?_⟩
    refine call_at (R := fun res => ∃ n : Int, res = .fr (.int n) ∧ (0 ≤ n ∧ n < 2 ^ 63) ∧ P (.int n) Γ1) S1 (.cons k1' .nil) hS (x.mono s1) fun v G3 H3 res s3 S3 hr => ?_
    obtain ⟨n, er, ⟨l0, l1⟩, hP⟩ := hr
    subst er
    have hd := S3.head
    cases hd with
    | fr rv =>
    cases rv
    exact ⟨n, rfl, l0, l1, q (.int n) G3 H3 Γ1 _ (s1.trans s3) S3.tail (.int n) hP⟩) x
instance : Wk (Ev K W (tLenO C (spD K S) (WE W) t) Γ P X) (EvA K W t Γ (fun ds Γ1 => ∃ d, ds = [d] ∧ IsO C d fun _ => CallS S [d] (fun res => ∃ n : Int, res = .fr (.int n) ∧ Side (0 ≤ n ∧ n < 2 ^ 63) (P (.int n) Γ1)) (fun D fs => X D fs Γ1)) X) := ⟨ev_lenO'⟩
end
def dAny (ds : List Dt) (R : Dt → Prop) : Prop := ∃ bs : List Bool, ds = [.lst (bs.map .bl)] ∧ R (.bl (bs.any id))
def dAll (ds : List Dt) (R : Dt → Prop) : Prop := ∃ bs : List Bool, ds = [.lst (bs.map .bl)] ∧ R (.bl (bs.all id))
theorem reps_bl {K : PySem.W.Frag} {G : Hp} : ∀ {bs : List Bool} {vs : List V}, Reps K G vs (bs.map .bl) → vs = bs.map V.bl
  | [], _, .nil => rfl
  | b :: bs, _, .cons h t => by cases h; rw [reps_bl t]; rfl
section
variable {K : PySem.W.Frag} {R : Dt → Prop}
theorem rdc_any : RDC K (rAny K) dAny := fun G H xs ds R Q s r h q => by
  obtain ⟨bs, rfl, p⟩ := h
  cases r with
  | cons r1 r2 =>
  cases r2
  cases r1 with
  | lst ha rr =>
  obtain rfl := reps_bl rr
  exact ⟨_, bs, rfl, SqL.of (s _ _ ha), q _ G H _ (DL.Ext.refl s) (.bl _) p⟩
theorem rdc_all : RDC K (rAll K) dAll := fun G H xs ds R Q s r h q => by
  obtain ⟨bs, rfl, p⟩ := h
  cases r with
  | cons r1 r2 =>
  cases r2
  cases r1 with
  | lst ha rr =>
  obtain rfl := reps_bl rr
  exact ⟨_, bs, rfl, SqL.of (s _ _ ha), q _ G H _ (DL.Ext.refl s) (.bl _) p⟩
instance : CbC K (rAny K) dAny := ⟨rdc_any⟩
instance : CbC K (rAll K) dAll := ⟨rdc_all⟩
end
theorem brp_t {p A B : Prop} (h : p) (a : A) : BrP p A B := ⟨fun _ => a, fun n => absurd h n⟩
theorem brp_f {p A B : Prop} (h : ¬ p) (b : B) : BrP p A B := ⟨fun z => absurd z h, fun _ => b⟩
theorem rngD_map (n : Nat) : rngD 0 (n : Int) = (List.range n).map fun i : Nat => .int (i : Int) := by
  apply List.ext_getElem?
  intro k
  rw [List.getElem?_map]
  by_cases h : k < n
  · rw [List.getElem?_range h]
    have hk : k < (rngD 0 (n : Int)).length := by rw [rngD_len]; omega
    have e : (rngD 0 (n : Int))[k]? = some ((rngD 0 (n : Int))[k]) := by simp
    have := (rngD_get e).1
    rw [e, this]
    simp
  · rw [List.getElem?_eq_none (by rw [rngD_len]; omega), List.getElem?_eq_none (by simp; omega)]
    rfl
section
variable {K : PySem.W.Frag} {W : WX} {Γ : Gm} {X : XP} {P : Dt → Gm → Prop} {ta tb : TE} {S : DSp} {C : Addr}
instance (priority := high) : Wk (Ev K W (tCmpO C false (spD K S) (WE W) ta tb) Γ P X) (Ev K W ta Γ (fun d Γ1 => Ev K W tb Γ1 (fun e Γ2 => IsO C d fun _ => IsO C e fun _ => CallS S [d, e] (fun res => ∃ k, res = .fr (.bl k) ∧ P (.bl k) Γ2) (fun D fs => X D fs Γ2)) X) X) :=
  ⟨fun h => ev_cmpO (h.imp fun d Γ1 h1 => h1.imp fun e Γ2 ⟨fs, e1, gs, e2, h2⟩ => ⟨fs, gs, e1, e2, by simp only [Bool.xor_false]; exact h2⟩)⟩
instance (priority := high) : Wk (Ev K W (tCmpO C true (spD K S) (WE W) ta tb) Γ P X) (Ev K W ta Γ (fun d Γ1 => Ev K W tb Γ1 (fun e Γ2 => IsO C d fun _ => IsO C e fun _ => CallS S [d, e] (fun res => ∃ k, res = .fr (.bl k) ∧ P (.bl (!k)) Γ2) (fun D fs => X D fs Γ2)) X) X) :=
  ⟨fun h => ev_cmpO (h.imp fun d Γ1 h1 => h1.imp fun e Γ2 ⟨fs, e1, gs, e2, h2⟩ => ⟨fs, gs, e1, e2, by simp only [Bool.xor_true]; exact h2⟩)⟩
end
end DL
namespace L2
open PySem PySem.Spec PyProof.Rows
section
variable {X : Cx} {k : Nat} {f g C : Addr} {sp : Sp} {pos : Pos} {a b : Expr} {ta tb : TE}
theorem pt_core {op : CmpOp} {r : V → V → St → Hp → VK → Prop} (ho : ∀ (pins : List (Addr × Obj)) (s : Shared) (σ : St) (H : Hp) (x y : V) (v u : Value) (Q : VK), Inv X pins σ H s → RelV x v → RelV y u → r x y σ H Q → wpAny (model X.prog X.w) X.A (compareOp op v u) (EP X pins σ Q) X.xe s)
    (ha : PE X a ta) (hb : PE X b tb) (hm : behindInMarks op b = false) : PT X (.Compare a [op] [b] pos) (tTest fun σ H Q => ta σ H fun x H1 => tb σ H1 fun y H2 => r x y σ H2 Q) := by
  refine ⟨fun pins s σ H Q I h => ?_⟩
  refine wpAny_isTrue_Compare1 (thn (ha.run pins s σ H _ I h) fun v s1 ⟨x, H1, I1, r1, q1⟩ => thn (hb.run pins s1 σ H1 _ I1 q1) fun u s2 ⟨y, H2, I2, r2, q2⟩ => thn (ho pins s2 σ H2 x y v u _ I2 r1 r2 q2) fun c s3 ⟨z, H3, I3, r3, j, e, q3⟩ => ?_) hm
  subst e
  cases r3
  exact wpAny_truthy_bool ⟨H3, I3, q3⟩
theorem pt_eqD {E : St → XK} (c : EqC X.K C f) (F : FnK X.prog X.w X.K X.mg X.base k f [] sp) (hr : Room k X.A) (hx : ∀ σ, PassesAt (L2.CX X.prog X.w) X σ (E σ)) (pa : PE X a ta) (pb : PE X b tb) : PT X (.Compare a [.Eq] [b] pos) (tTest (tCmpO C false sp E ta tb)) := by
  refine pt_core (fun pins s2 σ H2 x y v u Q I2 rx ry z => ?_) pa pb (nobehind _ (by decide) (by decide))
  obtain ⟨p, q, dx, dy, fs, gs, rfl, rfl, hp, hq, z⟩ := z
  obtain rfl : v = Value.ref p := rx
  obtain rfl : u = Value.ref q := ry
  show wpAny _ _ (richCompare .Eq (.ref p) (.ref q)) _ _ _
  obtain ⟨mA, J, _⟩ := ins_get I2.hok hp
  obtain ⟨mB, J', _⟩ := ins_get I2.hok hq
  obtain ⟨od, J, _⟩ := J.look
  obtain ⟨od', J', _⟩ := J'.look
  obtain ⟨m, hF⟩ := I2.fr
  refine PySem.W.cmp_K (op := .Eq) (tb := .ref C) hr.units0 hF I2.ok.mod.kin J J'.type (by simp [PySem.W.notFirst]) c.eq c.fn ?_
  refine thn (call_fnK (us := [.ref p, .ref q]) (vs := [.ref p, .ref q]) F hr (hx σ) I2 (.cons rfl (.cons rfl .nil)) z) fun r s3 hh => ?_
  obtain ⟨r', H3, I3, rr, j, ej, q3⟩ := hh
  subst ej
  cases rr
  exact ⟨.bl j, H3, I3, rfl, by simpa using q3⟩
theorem pt_neD {E : St → XK} (c : EqC X.K C f) (F : FnK X.prog X.w X.K X.mg X.base k f [] sp) (hr : Room (k + 1) X.A) (hx : ∀ σ, PassesAt (L2.CX X.prog X.w) X σ (E σ)) (pa : PE X a ta) (pb : PE X b tb) : PT X (.Compare a [.NotEq] [b] pos) (tTest (tCmpO C true sp E ta tb)) := by
  refine pt_core (fun pins s2 σ H2 x y v u Q I2 rx ry z => ?_) pa pb (nobehind _ (by decide) (by decide))
  obtain ⟨p, q, dx, dy, fs, gs, rfl, rfl, hp, hq, z⟩ := z
  obtain rfl : v = Value.ref p := rx
  obtain rfl : u = Value.ref q := ry
  show wpAny _ _ (richCompare .NotEq (.ref p) (.ref q)) _ _ _
  obtain ⟨mA, J, _⟩ := ins_get I2.hok hp
  obtain ⟨mB, J', _⟩ := ins_get I2.hok hq
  obtain ⟨od, J, _⟩ := J.look
  obtain ⟨od', J', _⟩ := J'.look
  refine OX.ne_own I2.kIn J J' c.mro c.ne c.eq c.fn (by have := hr.units; omega) ?_
  refine thn (call_fnK1 (us := [.ref p, .ref q]) (vs := [.ref p, .ref q]) F hr (hx σ) I2 (.cons rfl (.cons rfl .nil)) z) fun r s3 hh => ?_
  obtain ⟨r', H3, I3, rr, j, ej, q3⟩ := hh
  subst ej
  cases rr
  exact ⟨j, rfl, .bl (!j), H3, I3, rfl, by simpa using q3⟩
end
end L2
namespace DL
open PySem PySem.Spec L2 PyProof.Rows
section
variable {X : Cx} {k j : Nat} {S : DSp} {W : WX} {a b e fe : Expr} {es : List Expr} {ta tb tf : TE} {t : TA} {pos : Pos} {C f : Addr} {nm : Str}
theorem pt_eqDK (K : PySem.W.Frag) (h : X.K = K) (c : EqC K C f) (D : DA X.prog X.w K X.mg X.base f [] k S) (hr : Room j X.A) (hj : k + 1 ≤ j) (tk : Takes X W) (pa : PE X a ta) (pb : PE X b tb) : PT X (.Compare a [.Eq] [b] pos) (tTest (tCmpO C false (spD K S) (WE W) ta tb)) := by
  subst h
  exact pt_eqD c D.fn (hr.mono (Nat.le_of_succ_le hj)) (fun σ => passAt tk σ) pa pb
theorem pt_neDK (K : PySem.W.Frag) (h : X.K = K) (c : EqC K C f) (D : DA X.prog X.w K X.mg X.base f [] k S) (hr : Room j X.A) (hj : k + 1 ≤ j) (tk : Takes X W) (pa : PE X a ta) (pb : PE X b tb) : PT X (.Compare a [.NotEq] [b] pos) (tTest (tCmpO C true (spD K S) (WE W) ta tb)) := by
  subst h
  exact pt_neD c D.fn (hr.mono hj) (fun σ => passAt tk σ) pa pb
end
end DL
namespace L2
open PySem PySem.Spec PyProof.Rows
def smR (K : PySem.W.Frag) (C : Addr) (m : Str) : Addr := match PySem.W.findCls K (.ref C) (.type "type") m with
  | some (.get _ (.ref p) _ _) => p
  | _ => 0
def smF (K : PySem.W.Frag) (C : Addr) (m : Str) : Addr := match PySem.W.recIn K (smR K C m) "staticmethod" with
  | some (.ref f :: _) => f
  | _ => 0
section
variable {X : Cx} {C p g : Addr} {m x : Str} {pos apos np : Pos} {e : Expr} {es : List Expr} {t : TA} {k : Nat} {sp : Sp} {E : St → XK} {pl : Sem Bool}
end
end L2
namespace DL
open PySem PySem.Spec L2 PyProof.Rows
section
variable {X : Cx} {C p g : Addr} {m x : Str} {pos apos np : Pos} {e : Expr} {es : List Expr} {t : TA} {k j : Nat} {S : DSp} {W : WX} {pl : Sem Bool}
end
def sAd (K : PySem.W.Frag) (p : Str × Option Str) : Addr := match p.2 with
  | none => 0
  | some m => smF K (He.ga K p.1) m
def fnS (K : PySem.W.Frag) (p : Str × Option Str) : He.FnW := match K.lookup (sAd K p) with
  | some ⟨_, _, .func fd, _⟩ => some (fd.name, fd.qualname, fd.params, fd.body, fd.scope, fd.globals, fd.closure, fd.builtins)
  | _ => none
def okS (K : PySem.W.Frag) (d : He.DefD) : Bool := PySem.W.keepIn K (.ref (sAd K d.at_)) && (match K.lookup (sAd K d.at_) with
  | some ⟨_, _, .func fd, _⟩ => PySem.W.codeIn K fd.code d.qual && (He.dflB K fd.defaults (d.dvs K) && He.kwdB K fd.kwdefaults (d.kws K))
  | _ => false)
theorem funS {K : PySem.W.Frag} {d : He.DefD} (e : fnS K d.at_ = d.val) (c : okS K d = true) : ∃ fd, FunD K d.name d.qual d.params d.body d.scope (d.dvs K) (d.kws K) (sAd K d.at_) fd := by
  unfold okS at c
  rw [Bool.and_eq_true] at c
  obtain ⟨kp, c2⟩ := c
  unfold fnS at e
  cases q : K.lookup (sAd K d.at_) with
  | none => rw [q] at c2; cases c2
  | some o =>
    obtain ⟨oc, od, dt, osl⟩ := o
    rw [q] at c2 e
    cases dt with
    | func fd =>
      obtain ⟨a1, a2, a3, a4, a5, a6, a7, a8, a9, a10, a11, a12, a13, a14, a15⟩ := fd
      have e2 : (some (a1, a2, a3, a4, a5, a6, a7, a15) : He.FnW) = some (d.name, d.qual, d.params, .stmts d.body, d.scope, mainGlobals, [], builtinsNs) := e
      simp only [Option.some.injEq, Prod.mk.injEq] at e2
      obtain ⟨g1, g2, g3, g4, g5, g6, g7, g8⟩ := e2
      subst g1 g2 g3 g4 g5 g6 g7 g8
      have c3 : (PySem.W.codeIn K a13 d.qual && (He.dflB K a8 (d.dvs K) && He.kwdB K a9 (d.kws K))) = true := c2
      rw [Bool.and_eq_true, Bool.and_eq_true] at c3
      obtain ⟨k1, k3, k4⟩ := c3
      exact ⟨_, ⟨oc, od, a8, a9, a10, a11, a12, a13, a14, osl, rfl, q, k1, He.dflB_ok k3, He.kwdB_ok k4⟩, kp⟩
    | _ => cases c2
abbrev AlY : Type := AlX × List He.FnW
def obsY (prog : Program) (fx : PySem.W.Frag → Bool) (fa : List He.Fa) (fn : List He.DefD) (en : List EDef) (ss : List He.DefD) (K : PySem.W.Frag) : AlY := (obsX prog (fun K => fx K && ss.all fun d => okS K d) fa fn en K, ss.map fun d => fnS K d.at_)
def valY (fn : List He.DefD) (en : List EDef) (ss : List He.DefD) : AlY := (valX fn en, valsD ss)
def SaysY (prog : Program) (fx : PySem.W.Frag → Bool) (fa : List He.Fa) (fn : List He.DefD) (en : List EDef) (ss : List He.DefD) (K : PySem.W.Frag) : Prop := obsY prog fx fa fn en ss K = valY fn en ss
def obsYG (n : Nat) (prog : Program) (fx : PySem.W.Frag → Bool) (fa : List He.Fa) (fn : List He.DefD) (en : List EDef) (ss : List He.DefD) (g : Addr → Option Obj) : AlY := obsY prog fx fa fn en ss (He.frG g (asX g n))
def hookY (n : Nat) (prog : Program) (fx : PySem.W.Frag → Bool) (fa : List He.Fa) (fn : List He.DefD) (en : List EDef) (ss : List He.DefD) : PySem.W.Hook where
  α := AlY
  obs := fun s => obsYG n prog fx fa fn en ss s.heap.get?
  val := fun _ => valY fn en ss
  says := fun _ h => ∃ K : PySem.W.Frag, K.In h ∧ SaysY prog fx fa fn en ss K
  of := fun _ _ e => ⟨_, He.frG_in, e⟩
  keeps := fun _ _ _ ⟨K, hK, c⟩ k => ⟨K, PySem.W.Frag.In.keeps hK k, c⟩
theorem obsYG_eq {n : Nat} {prog : Program} {fx : PySem.W.Frag → Bool} {fa : List He.Fa} {fn : List He.DefD} {en : List EDef} {ss : List He.DefD} {g : Addr → Option Obj} {s : Shared} (h : ∀ a, g a = s.heap.get? a) : obsYG n prog fx fa fn en ss g = (hookY n prog fx fa fn en ss).obs s := by
  have e : g = s.heap.get? := funext h
  rw [e] <;> rfl
section
variable {prog : Program} {fx : PySem.W.Frag → Bool} {fa : List He.Fa} {fn : List He.DefD} {en : List EDef} {ss : List He.DefD} {K : PySem.W.Frag}
theorem SaysY.x (c : SaysY prog fx fa fn en ss K) : SaysX prog (fun K => fx K && ss.all fun d => okS K d) fa fn en K := congrArg Prod.fst c
theorem SaysY.own (c : SaysY prog fx fa fn en ss K) : fx K = true := by
  have := c.x.own
  rw [Bool.and_eq_true] at this
  exact this.1
theorem SaysY.fact (c : SaysY prog fx fa fn en ss K) (i : Nat) {f : He.Fa} (h : fa[i]? = some f := by rfl) : f.ok K = true := c.x.fact i h
theorem SaysY.def_ (c : SaysY prog fx fa fn en ss K) (i : Nat) {d : He.DefD} (h : fn[i]? = some d := by rfl) : ∃ fd, FunD K d.name d.qual d.params d.body d.scope (d.dvs K) (d.kws K) (He.fAd K d.at_) fd := c.x.def_ i h
theorem SaysY.err (c : SaysY prog fx fa fn en ss K) (i : Nat) {d : EDef} (h : en[i]? = some d := by rfl) : fnE K d.x = d.val ∧ errB prog K d.x d.qual d.fs = true := c.x.err i h
theorem SaysY.st (c : SaysY prog fx fa fn en ss K) (i : Nat) {d : He.DefD} (h : ss[i]? = some d := by rfl) : ∃ fd, FunD K d.name d.qual d.params d.body d.scope (d.dvs K) (d.kws K) (sAd K d.at_) fd := by
  have e : ss.map (fun d => fnS K d.at_) = ss.map He.DefD.val := (congrArg (fun z : AlY => z.2) c).trans (valsD_eq ss)
  have e2 : (ss.map fun d => fnS K d.at_)[i]? = (ss.map He.DefD.val)[i]? := by rw [e]
  rw [List.getElem?_map, List.getElem?_map, h] at e2
  have o := c.x.own
  rw [Bool.and_eq_true] at o
  exact funS (Option.some.inj e2) (List.all_eq_true.mp o.2 d (List.mem_of_getElem? h))
end
end DL
namespace OX
open PySem PySem.Spec PySem.W PySem.Calls PyProof.Rows Builtin
section
variable {prog : Program} {w : World} {A : Around} {E : Value → Shared → Prop} {s : Shared} {K : Frag} {x C L f g : Addr} {h₀ : Heap} {m : Str → Option Value} {ox : Obj} {od : Option Obj}
end
end OX
namespace L2
open PySem PySem.Spec PyProof.Rows
end L2
namespace DL
open PySem PySem.Spec L2 PyProof.Rows
section
variable {K : PySem.W.Frag} {W : WX} {Γ : Gm} {X : XP} {P : Dt → Gm → Prop} {PO : Sl → Gm → Prop} {ta tb : TE} {S : DSp} {C : Addr}
end
end DL
namespace DL
open PySem PySem.Spec L2 PyProof.Rows
section
variable {K : PySem.W.Frag} {W : WX} {Γ : Gm} {X : XP} {P : Dt → Gm → Prop} {PO : Sl → Gm → Prop} {te : TE}
theorem evo_revL (h : Ev K W te Γ (fun d Γ1 => IsL d fun ds => ∀ a, PO (.ol a ds.reverse) Γ1) X) : EvO K W (tRevL K te) Γ PO X := fun O G H σ Q S0 q x =>
  h O G H σ _ S0 (fun v G1 H1 Γ1 d s1 S1 r1 hh => by
    obtain ⟨ds, e, hP⟩ := hh
    subst e
    cases r1 with
    | @lst a xs _ ha rr =>
    refine ⟨a, xs, rfl, SqL.of (S1.g _ _ ha), fun p np => ?_⟩
    exact q (.ref p) G1 _ Γ1 (.ol p ds.reverse) s1 (S1.own1 np rfl (.ol upd_same rr.reverse)) (hP p)) x
instance : Wk (EvO K W (tRevL K te) Γ PO X) (Ev K W te Γ (fun d Γ1 => IsL d fun ds => ∀ a, PO (.ol a ds.reverse) Γ1) X) := ⟨evo_revL⟩
instance : Wk (Ev K W (tRevL K te) Γ P X) (EvO K W (tRevL K te) Γ (fun s Γ2 => Fz s fun d => P d Γ2) X) := ⟨ev_frz⟩
end
theorem inV_strs (z : Str) (ss : List Str) : inV (.str z) ((ss.map Dt.str).map toV) = decide (z ∈ ss) := by
  rw [Bool.eq_iff_iff, decide_eq_true_eq]
  unfold inV
  rw [List.any_eq_true]
  constructor
  · rintro ⟨v, hv, e⟩
    rw [List.map_map] at hv
    obtain ⟨s, hs, rfl⟩ := List.mem_map.mp hv
    have : s = z := by simpa [toV, eqV] using e
    rw [← this]; exact hs
  · intro h
    exact ⟨.str z, by rw [List.map_map]; exact List.mem_map.mpr ⟨z, h, rfl⟩, by simp [eqV]⟩
theorem flat_strs (ss : List Str) : (ss.map Dt.str).all flatD = true := by
  rw [List.all_eq_true]
  intro d hd
  obtain ⟨s, _, rfl⟩ := List.mem_map.mp hd
  rfl
section
variable {R : Dt → Prop} {z : Str} {ss : List Str}
instance : Wk (dIn false (.str z) (.tup (ss.map .str)) R) (R (.bl (decide (z ∈ ss)))) := ⟨fun h => ⟨rfl, flat_strs ss, by rw [show toV (.str z) = .str z from rfl, inV_strs, Bool.false_xor]; exact h⟩⟩
instance : Wk (dIn false (.str z) (.lst (ss.map .str)) R) (R (.bl (decide (z ∈ ss)))) := ⟨fun h => ⟨rfl, flat_strs ss, by rw [show toV (.str z) = .str z from rfl, inV_strs, Bool.false_xor]; exact h⟩⟩
instance : Wk (dIn true (.str z) (.tup (ss.map .str)) R) (R (.bl (!decide (z ∈ ss)))) := ⟨fun h => ⟨rfl, flat_strs ss, by rw [show toV (.str z) = .str z from rfl, inV_strs, Bool.true_xor]; exact h⟩⟩
instance : Wk (dIn true (.str z) (.lst (ss.map .str)) R) (R (.bl (!decide (z ∈ ss)))) := ⟨fun h => ⟨rfl, flat_strs ss, by rw [show toV (.str z) = .str z from rfl, inV_strs, Bool.true_xor]; exact h⟩⟩
end
section
variable {K : PySem.W.Frag} {W : WX} {Γ : Gm} {X : XP} {PO : Sl → Gm → Prop} {ta tb : TE}
theorem evo_addL (h : Ev K W ta Γ (fun x Γ1 => Ev K W tb Γ1 (fun y Γ2 => IsL x fun xs => IsL y fun ys => Side (xs.length + ys.length ≤ 1000000) (∀ a, PO (.ol a (xs ++ ys)) Γ2)) X) X) : EvO K W (tOp (rAddP K) ta tb) Γ PO X := fun O G H σ Q S0 q x =>
  h O G H σ _ S0 (fun v1 G1 H1 Γ1 d1 s1 S1 r1 h1 => h1 O G1 H1 σ _ S1 (fun v2 G2 H2 Γ2 d2 s2 S2 r2 hh => by
    obtain ⟨xs, e1, ys, e2, l, hP⟩ := hh
    subst e1 e2
    have r1' := r1.mono s2
    cases r1' with
    | lst h1 k1 =>
    cases r2 with
    | lst h2 k2 =>
    refine .inr (.inr (.inl ⟨_, _, _, _, rfl, rfl, S2.g _ _ h1, S2.g _ _ h2, by rw [k1.length, k2.length]; exact big_ok l, fun a na => ?_⟩))
    exact q (.ref a) G2 _ Γ2 (.ol a (xs ++ ys)) (s1.trans s2) (S2.own1 na rfl (.ol upd_same (k1.append k2))) (hP a)) (x.mono s1)) x
instance : Wk (EvO K W (tOp (rAddP K) ta tb) Γ PO X) (Ev K W ta Γ (fun x Γ1 => Ev K W tb Γ1 (fun y Γ2 => IsL x fun xs => IsL y fun ys => Side (xs.length + ys.length ≤ 1000000) (∀ a, PO (.ol a (xs ++ ys)) Γ2)) X) X) := ⟨evo_addL⟩
end
end DL
namespace L2
def tLend (_ : Nat) (t : TE) : TE := t
end L2
namespace DL
open PySem PySem.Spec L2
mutual
def noL : Dt → Bool
  | .lst _ => false
  | .scr _ => false
  | .tup xs => noLs xs
  | .obj _ fs => noLf fs
  | .dK kvs => noLk kvs
  | .dT kvs => noLt kvs
  | .exc _ fs => noLf fs
  | .at_ _ d => noL d
  | .fn _ _ _ _ _ => false
  | .dN _ _ _ => false
  | .non => true
  | .bl _ => true
  | .int _ => true
  | .str _ => true
  | .ty _ => true
  | .ref _ => true
def noLs : List Dt → Bool
  | [] => true
  | d :: r => noL d && noLs r
def noLf : List (Str × Dt) → Bool
  | [] => true
  | (_, d) :: r => noL d && noLf r
def noLk : List (Key × Dt) → Bool
  | [] => true
  | (_, d) :: r => noL d && noLk r
def noLt : List (List Key × Dt) → Bool
  | [] => true
  | (_, d) :: r => noL d && noLt r
end
def delH (G : Hp) (a : Addr) : Hp := fun b => if b = a then none else G b
theorem delH_ne {G : Hp} {a b : Addr} (h : b ≠ a) : delH G a b = G b := if_neg h
theorem delH_same {G : Hp} {a : Addr} : delH G a a = none := if_pos rfl
theorem delH_some {G : Hp} {a b : Addr} {o : HO} (h : delH G a b = some o) : b ≠ a ∧ G b = some o := by
  by_cases e : b = a
  · subst e; rw [delH_same] at h; cases h
  · exact ⟨e, by rw [delH_ne e] at h; exact h⟩
section
variable {K : PySem.W.Frag} {G : Hp} {a : Addr}
theorem del_ob {b : Addr} {ys : List V} {o : HO} (h : G a = some (.lst ys)) (q : G b = some o) (n : ∀ zs, o ≠ .lst zs) : delH G a b = some o := by
  rw [delH_ne]
  · exact q
  · intro e
    subst e
    rw [h] at q
    exact n ys (Option.some.inj q).symm
theorem and_l {x y : Bool} (h : (x && y) = true) : x = true := by cases x <;> simp_all
theorem and_r {x y : Bool} (h : (x && y) = true) : y = true := by cases x <;> simp_all
mutual
theorem Rep.del {ys : List V} (h : G a = some (.lst ys)) : ∀ {v : V} {d : Dt}, Rep K G v d → noL d = true → Rep K (delH G a) v d
  | _, _, .non, _ => .non
  | _, _, .bl b, _ => .bl b
  | _, _, .int i, _ => .int i
  | _, _, .str x, _ => .str x
  | _, _, .ty n, _ => .ty n
  | _, _, .ref a, _ => .ref a
  | _, _, .lst _ _, n => by simp [noL] at n
  | _, _, .scr _, n => by simp [noL] at n
  | _, _, .tup q r, n => .tup (del_ob h q nofun) (Reps.del h r (by simpa only [noL] using n))
  | _, _, .obj q r, n => .obj (del_ob h q nofun) (RepF.del h r (by simpa only [noL] using n))
  | _, _, .dK q r, n => .dK (del_ob h q nofun) (RepK.del h r (by simpa only [noL] using n))
  | _, _, .dT q r, n => .dT (del_ob h q nofun) (RepT.del h r (by simpa only [noL] using n))
  | _, _, .exc q r, n => .exc (del_ob h q (fun zs e => by unfold ExK at e; cases e)) (RepX.del h r (by simpa only [noL] using n))
  | _, _, .at_ r, n => .at_ (Rep.del h r (by simpa only [noL] using n))
  | _, _, .fn _ _, n => by simp [noL] at n
  | _, _, .dN _ _, n => by simp [noL] at n
theorem Reps.del {ys : List V} (h : G a = some (.lst ys)) : ∀ {v : List V} {d : List Dt}, Reps K G v d → noLs d = true → Reps K (delH G a) v d
  | _, _, .nil, _ => .nil
  | _, _, .cons q r, n => .cons (Rep.del h q (and_l (by simpa only [noLs] using n))) (Reps.del h r (and_r (by simpa only [noLs] using n)))
theorem RepF.del {ys : List V} (h : G a = some (.lst ys)) : ∀ {v : List (Str × V)} {d : List (Str × Dt)}, RepF K G v d → noLf d = true → RepF K (delH G a) v d
  | _, _, .nil, _ => .nil
  | _, _, .cons q r, n => .cons (Rep.del h q (and_l (by simpa only [noLf] using n))) (RepF.del h r (and_r (by simpa only [noLf] using n)))
theorem RepK.del {ys : List V} (h : G a = some (.lst ys)) : ∀ {v : List (Key × V)} {d : List (Key × Dt)}, RepK K G v d → noLk d = true → RepK K (delH G a) v d
  | _, _, .nil, _ => .nil
  | _, _, .cons q r, n => .cons (Rep.del h q (and_l (by simpa only [noLk] using n))) (RepK.del h r (and_r (by simpa only [noLk] using n)))
theorem RepT.del {ys : List V} (h : G a = some (.lst ys)) : ∀ {v : List (List Key × V)} {d : List (List Key × Dt)}, RepT K G v d → noLt d = true → RepT K (delH G a) v d
  | _, _, .nil, _ => .nil
  | _, _, .cons q r, n => .cons (Rep.del h q (and_l (by simpa only [noLt] using n))) (RepT.del h r (and_r (by simpa only [noLt] using n)))
theorem RepX.del {ys : List V} (h : G a = some (.lst ys)) : ∀ {v : Option Addr} {d : List (Str × Dt)}, RepX K G v d → noLf d = true → RepX K (delH G a) v d
  | _, _, .none, _ => .none
  | _, _, .some q r, n => .some (del_ob h q nofun) (RepF.del h r n)
end
end
mutual
def noS : Sl → Prop
  | .fr d => noL d = true
  | .ol _ ds => noLs ds = true
  | .os _ φ => ∀ ds, φ ds → noLs ds = true
  | .oK _ kvs => noLk kvs = true
  | .oT _ kvs => noLt kvs = true
  | .oo _ _ fs => noSf fs
  | .ex _ _ _ fs => noLf fs = true
  | .tb s _ _ => noS s
  | .oN _ _ _ _ => False
  | .odK _ kvs => ∀ e ∈ kvs, noLs e.2.2 = true
  | .odT _ kvs => ∀ e ∈ kvs, noLs e.2.2 = true
def noSf : List (Str × Sl) → Prop
  | [] => True
  | (_, s) :: r => noS s ∧ noSf r
end
section
variable {K : PySem.W.Frag} {G H : Hp} {a : Addr}
mutual
theorem Own.del {ys : List V} (h : G a = some (.lst ys)) : ∀ {v : V} {s : Sl}, Own K G H v s → noS s → Own K (delH G a) H v s
  | _, _, .fr r, n => .fr (r.del h (by simpa only [noS] using n))
  | _, _, .ol q r, n => .ol q (r.del h (by simpa only [noS] using n))
  | _, _, .os q r p, n => .os q (r.del h ((by simpa only [noS] using n : ∀ ds, _ → noLs ds = true) _ p)) p
  | _, _, .oK q r, n => .oK q (r.del h (by simpa only [noS] using n))
  | _, _, .oT q r, n => .oT q (r.del h (by simpa only [noS] using n))
  | _, _, .oo q r, n => .oo q (OwnF.del h r (by simpa only [noS] using n))
  | _, _, .ex r, n => .ex (r.del h (by simpa only [noS] using n))
  | _, _, .tb q c r, n => .tb q ⟨c.1, fun p u e => by
      obtain ⟨z, e1, e2⟩ := c.2 p u e
      exact ⟨z, e1, by
        unfold delH
        rw [if_neg]
        · exact e2
        · intro ez
          rw [ez, h] at e2
          cases e2⟩⟩ (Own.del h r (by simpa only [noS] using n))
  | _, _, .oN _ _, n => by simp only [noS] at n
  | _, _, .odK q r, n => .odK q fun e he => by
    obtain ⟨xs, e1, e2⟩ := r e he
    exact ⟨xs, e1, e2.del h ((by simpa only [noS] using n : ∀ e ∈ _, noLs e.2.2 = true) e he)⟩
  | _, _, .odT q r, n => .odT q fun e he => by
    obtain ⟨xs, e1, e2⟩ := r e he
    exact ⟨xs, e1, e2.del h ((by simpa only [noS] using n : ∀ e ∈ _, noLs e.2.2 = true) e he)⟩
theorem OwnF.del {ys : List V} (h : G a = some (.lst ys)) : ∀ {v : List (Str × V)} {s : List (Str × Sl)}, OwnF K G H v s → noSf s → OwnF K (delH G a) H v s
  | _, _, .nil, _ => .nil
  | _, _, .cons q r, n => .cons (Own.del h q (by simp only [noSf] at n; exact n.1)) (OwnF.del h r (by simp only [noSf] at n; exact n.2))
end
theorem Slots.of : ∀ {σ : St} {Γ : Gm}, σ.length = Γ.length → (∀ (j : Nat) (s : Sl), Γ[j]? = some (some s) → ∃ v, σ[j]? = some (some v) ∧ Own K G H v s) → Slots K G H σ Γ
  | [], [], _, _ => .nil
  | [], _ :: _, h, _ => by simp at h
  | _ :: _, [], h, _ => by simp at h
  | x :: σ, none :: Γ, h, p => .no (Slots.of (by simpa using h) fun j s e => by simpa using p (j + 1) s (by simpa using e))
  | x :: σ, some s :: Γ, h, p => by
    obtain ⟨v, e, o⟩ := p 0 s rfl
    have e' : x = some v := by simpa using e
    subst e'
    exact .yes o (Slots.of (by simpa using h) fun j s e => by simpa using p (j + 1) s (by simpa using e))
end
def Keep (Γ Γ2 : Gm) : Prop := ∀ (j : Nat) (s : Sl), Γ2[j]? = some (some s) → noS s ∨ (∃ d, s = .fr d ∧ Γ[j]? = some (some (.fr d))) ∨ ∃ d p q, s = .tb (.fr d) p q ∧ Γ[j]? = some (some (.tb (.fr d) p q))
section
variable {K : PySem.W.Frag} {W : WX} {Γ Γ2 : Gm} {X : XP} {P : Dt → Gm → Prop} {te : TE} {i : Nat} {a : Addr} {xs : List Dt} {O G H G1 G2 H2 : Hp} {σ : St}
theorem Sta.lent (S : Sta K O G H σ Γ) (hi : Γ[i]? = some (some (.ol a xs))) (s1 : Same G G1) (S1 : Sta K O G1 H σ (Γ.set i (some (.fr (.lst xs))))) (s2 : Same G1 G2) (S2 : Sta K O G2 H2 σ Γ2) (h2 : Γ2[i]? = some (some (.fr (.lst xs)))) (k : Keep (Γ.set i (some (.fr (.lst xs)))) Γ2) :
    Same G (delH G2 a) ∧ Sta K O (delH G2 a) H2 σ (Γ2.set i (some (.ol a xs))) ∧ ∃ ys, G2 a = some (.lst ys) := by
  obtain ⟨v, ev, ov⟩ := S.get hi
  have il : i < Γ.length := (List.getElem?_eq_some_iff.mp hi).1
  obtain ⟨v1, ev1, r1⟩ := S1.getF (i := i) (d := .lst xs) (by rw [List.getElem?_set_self il])
  rw [ev] at ev1
  obtain rfl : v = v1 := Option.some.inj (Option.some.inj ev1)
  have na : G a = none := S.ng a (mem_fps hi a (by simp [Sl.fp]))
  have oa : O a = none := S.no a (mem_fps hi a (by simp [Sl.fp]))
  cases ov with
  | @ol _ ys _ ha ry =>
  cases r1 with
  | @lst _ zs _ ga rz =>
  have e1 : zs = ys := by
    have := S1.g a _ ga
    rw [ha] at this
    cases this
    rfl
  subst e1
  have g2 : G2 a = some (.lst zs) := s2 a _ ga
  have sd : Same G (delH G2 a) := fun b o q => by
    rw [delH_ne (fun e => by subst e; rw [na] at q; cases q)]
    exact s2 b o (s1 b o q)
  refine ⟨sd, ⟨fun b o q => S2.g b o (delH_some q).2, S2.o, fun b hb => ?_, ?_, ?_, fun b hb => ?_, fun b hb => ?_, S2.om⟩, zs, g2⟩
  · by_cases e : b = a
    · subst e; exact delH_same
    · rw [delH_ne e]; exact S2.d b hb
  · refine Slots.of (by rw [List.length_set]; exact S2.sl.len) fun j s e => ?_
    by_cases hj : i = j
    · subst hj
      rw [List.getElem?_set_self (List.getElem?_eq_some_iff.mp h2).1] at e
      obtain rfl : .ol a xs = s := Option.some.inj (Option.some.inj e)
      exact ⟨_, ev, .ol (S2.g a _ g2) (ry.mono sd)⟩
    · rw [List.getElem?_set_ne hj] at e
      obtain ⟨w, ew, ow⟩ := S2.get e
      refine ⟨w, ew, ?_⟩
      rcases k j s e with n | ⟨d, rfl, ed⟩ | ⟨d, p, q, rfl, ed⟩
      · exact ow.del g2 n
      · rw [List.getElem?_set_ne hj] at ed
        obtain ⟨w0, ew0, r0⟩ := S.getF ed
        rw [ew] at ew0
        obtain rfl : w = w0 := Option.some.inj (Option.some.inj ew0)
        exact .fr (r0.mono sd)
      · rw [List.getElem?_set_ne hj] at ed
        obtain ⟨w0, ew0, o0⟩ := S.get ed
        rw [ew] at ew0
        obtain rfl : w = w0 := Option.some.inj (Option.some.inj ew0)
        cases o0 with
        | tb _ _ o1 =>
          cases ow with
          | tb h c _ => exact .tb h ⟨c.1, fun y u e3 => by
              obtain ⟨z, e4, e5⟩ := c.2 y u e3
              exact ⟨z, e4, by rw [delH_ne (fun e6 => by rw [e6, g2] at e5; cases e5)]; exact e5⟩⟩ (o1.mono sd fun b hb o e3 => by cases o1; simp [Sl.fp] at hb)
  · refine fps_set_nd i ?_
    show ([a] ++ fps Γ2).Nodup
    rw [List.nodup_append]
    refine ⟨by simp, S2.nd, fun x hx y hy e => ?_⟩
    have : x = a := by simpa using hx
    subst this
    subst e
    rw [S2.ng x hy] at g2
    cases g2
  · by_cases e : b = a
    · subst e; exact delH_same
    · rw [delH_ne e]
      rcases fps_set_sub i b hb with z | z
      · simp [fpO, Sl.fp] at z; exact absurd z e
      · exact S2.ng b z
  · rcases fps_set_sub i b hb with z | z
    · simp [fpO, Sl.fp] at z; subst z; exact oa
    · exact S2.no b z
def LendK (Γ Γ2 : Gm) (i : Nat) (a : Addr) (xs : List Dt) (N : Prop) (Q : Gm → Prop) : Prop := (N ∧ Γ2[i]? = some (some (.fr (.lst xs))) ∧ Keep Γ Γ2) ∧ Q (Γ2.set i (some (.ol a xs)))
theorem ev_lend (hi : Γ[i]? = some (some (.ol a xs))) (h : Ev K W te (Γ.set i (some (.fr (.lst xs)))) (fun z Γ2 => LendK (Γ.set i (some (.fr (.lst xs)))) Γ2 i a xs (noL z = true) (P z)) (fun C fs Γ2 => LendK (Γ.set i (some (.fr (.lst xs)))) Γ2 i a xs (noLf fs = true) (X C fs))) : Ev K W (tLend i te) Γ P X := fun O G H σ Q S q x => by
  obtain ⟨G1, s1, S1⟩ := S.frzAt hi (.ol a xs)
  refine h O G1 H σ Q S1 (fun v G2 H2 Γ2 d s2 S2 r hl => ?_) (fun C d fs G2 H2 Γ2 s2 S2 r hl => ?_)
  · obtain ⟨⟨n, h2, k⟩, p⟩ := hl
    obtain ⟨sd, S3, ys, g2⟩ := S.lent hi s1 S1 s2 S2 h2 k
    exact q v _ H2 _ d sd S3 (r.del g2 n) p
  · obtain ⟨⟨n, h2, k⟩, p⟩ := hl
    obtain ⟨sd, S3, ys, g2⟩ := S.lent hi s1 S1 s2 S2 h2 k
    exact x C d fs _ H2 _ sd S3 (r.del g2 n) p
theorem mkLend {X : Cx} {e : Expr} (i : Nat) (h : PE X e te) : PE X e (tLend i te) := h
class YesC (p : Prop) : Prop where
  h : p
class KeepC (Γ Γ2 : Gm) : Prop where
  h : Keep Γ Γ2
class KpC (x y : Option Sl) : Prop where
  h : ∀ s, y = some s → noS s ∨ (∃ d, s = .fr d ∧ x = some (.fr d)) ∨ ∃ d p q, s = .tb (.fr d) p q ∧ x = some (.tb (.fr d) p q)
instance : KeepC [] [] := ⟨fun j s e => by simp at e⟩
instance {x y : Option Sl} [h : KpC x y] [t : KeepC Γ Γ2] : KeepC (x :: Γ) (y :: Γ2) := ⟨fun j s e => by
  cases j with
  | zero =>
    have e' : y = some s := by simpa using e
    rcases h.h s e' with n | ⟨d, e1, e2⟩ | ⟨d, p, q, e1, e2⟩
    · exact .inl n
    · exact .inr (.inl ⟨d, e1, by simpa using e2⟩)
    · exact .inr (.inr ⟨d, p, q, e1, by simpa using e2⟩)
  | succ j =>
    rcases t.h j s (by simpa using e) with n | ⟨d, e1, e2⟩ | ⟨d, p, q, e1, e2⟩
    · exact .inl n
    · exact .inr (.inl ⟨d, e1, by simpa using e2⟩)
    · exact .inr (.inr ⟨d, p, q, e1, by simpa using e2⟩)⟩
instance {x : Option Sl} : KpC x none := ⟨fun s e => by cases e⟩
instance (priority := high) {d : Dt} : KpC (some (.fr d)) (some (.fr d)) := ⟨fun s e => by cases e; exact .inr (.inl ⟨d, rfl, rfl⟩)⟩
instance (priority := high) {d : Dt} {p : Addr} {q : Str} : KpC (some (.tb (.fr d) p q)) (some (.tb (.fr d) p q)) := ⟨fun s e => by cases e; exact .inr (.inr ⟨d, p, q, rfl, rfl⟩)⟩
instance (priority := low) {x : Option Sl} {s : Sl} [h : YesC (noS s)] : KpC x (some s) := ⟨fun s' e => by cases e; exact .inl h.h⟩
instance {d : Dt} [h : YesC (noL d = true)] : YesC (noS (.fr d)) := ⟨by simp only [noS]; exact h.h⟩
instance {ds : List Dt} [h : YesC (noLs ds = true)] : YesC (noS (.ol a ds)) := ⟨by simp only [noS]; exact h.h⟩
instance {C : Addr} {d : Option Addr} {fs : List (Str × Dt)} [h : YesC (noLf fs = true)] : YesC (noS (.ex a C d fs)) := ⟨by simp only [noS]; exact h.h⟩
instance {s : Sl} {p : Addr} {q : Str} [h : YesC (noS s)] : YesC (noS (.tb s p q)) := ⟨by simp only [noS]; exact h.h⟩
instance : YesC (noS (.os a St4)) := ⟨by
  simp only [noS]
  rintro ds ⟨i, j, k, l, rfl⟩
  simp [noLs, noL]⟩
instance {n : Int} : YesC (noL (.int n) = true) := ⟨by simp [noL]⟩
instance {n : Bool} : YesC (noL (.bl n) = true) := ⟨by simp [noL]⟩
instance {n : Str} : YesC (noL (.str n) = true) := ⟨by simp [noL]⟩
instance : YesC (noL .non = true) := ⟨by simp [noL]⟩
instance {n : String} : YesC (noL (.ty n) = true) := ⟨by simp [noL]⟩
instance {ds : List Dt} [h : YesC (noLs ds = true)] : YesC (noL (.tup ds) = true) := ⟨by simp only [noL]; exact h.h⟩
instance {C : Addr} {fs : List (Str × Dt)} [h : YesC (noLf fs = true)] : YesC (noL (.obj C fs) = true) := ⟨by simp only [noL]; exact h.h⟩
instance : YesC (noLs [] = true) := ⟨by simp [noLs]⟩
instance {d : Dt} {ds : List Dt} [h : YesC (noL d = true)] [t : YesC (noLs ds = true)] : YesC (noLs (d :: ds) = true) := ⟨by simp only [noLs, h.h, t.h]; rfl⟩
instance : YesC (noLf [] = true) := ⟨by simp [noLf]⟩
instance {f : Str} {d : Dt} {ds : List (Str × Dt)} [h : YesC (noL d = true)] [t : YesC (noLf ds = true)] : YesC (noLf ((f, d) :: ds) = true) := ⟨by simp only [noLf, h.h, t.h]; rfl⟩
theorem noLs_map {α : Type} {f : α → Dt} (h : ∀ x, noL (f x) = true) : ∀ l : List α, noLs (l.map f) = true
  | [] => by simp [noLs]
  | x :: l => by rw [List.map_cons]; simp only [noLs, h x, noLs_map h l]; rfl
instance {l : List Int} : YesC (noLs (l.map Dt.int) = true) := ⟨noLs_map (fun _ => by simp [noL]) l⟩
instance {l : List Str} : YesC (noLs (l.map Dt.str) = true) := ⟨noLs_map (fun _ => by simp [noL]) l⟩
instance {N : Prop} {Q : Gm → Prop} {Γ3 : Gm} [n : YesC N] [t : At Γ2 i (.fr (.lst xs))] [k : KeepC Γ Γ2] [s : SetG Γ2 i (some (.ol a xs)) Γ3] : Wk (LendK Γ Γ2 i a xs N Q) (Q Γ3) := ⟨fun q => ⟨⟨n.h, t.h, k.h⟩, by rw [s.h]; exact q⟩⟩
instance (priority := 2000) {N : Prop} {Q : Gm → Prop} {Γ0 Γ' Γb : Gm} {j : Nat} {v : Option Sl} [s : SetG Γ0 j v Γ'] : Wk (LendK Γb (Γ0.set j v) i a xs N Q) (LendK Γb Γ' i a xs N Q) := ⟨fun q => by rw [s.h]; exact q⟩
instance {Γ' : Gm} [t : At Γ i (.ol a xs)] [s : SetG Γ i (some (.fr (.lst xs))) Γ'] : Wk (Ev K W (tLend i te) Γ P X) (Ev K W te Γ' (fun z Γ2 => LendK Γ' Γ2 i a xs (noL z = true) (P z)) (fun C fs Γ2 => LendK Γ' Γ2 i a xs (noLf fs = true) (X C fs))) := ⟨fun h => ev_lend t.h (by rw [s.h]; exact h)⟩
instance {d : Dt} [t : At Γ i (.fr d)] : Wk (Ev K W (tLend i te) Γ P X) (Ev K W te Γ P X) := ⟨fun h => h⟩
end
end DL
namespace DL
open PySem PySem.Spec L2
section
variable {K : PySem.W.Frag} {W : WX} {Γ : Gm} {X : XP} {P : Dt → Gm → Prop} {PO : Sl → Gm → Prop} {te : TE} {i : Nat} {a : Addr} {ds : List Dt}
def SeqP (d : Dt) (Q : List Dt → Prop) : Prop := ∃ xs, (d = .lst xs ∨ d = .tup xs) ∧ Q xs
instance {xs : List Dt} {Q : List Dt → Prop} : Wk (SeqP (.lst xs) Q) (Q xs) := ⟨fun h => ⟨xs, .inl rfl, h⟩⟩
instance {xs : List Dt} {Q : List Dt → Prop} : Wk (SeqP (.tup xs) Q) (Q xs) := ⟨fun h => ⟨xs, .inr rfl, h⟩⟩
theorem evo_list (h : Ev K W te Γ (fun d Γ1 => SeqP d fun xs => ∀ a, PO (.ol a xs) Γ1) X) : EvO K W (tCB (rListP K) (tCons te tNil)) Γ PO X := fun O G H σ Q S0 q x =>
  h O G H σ _ S0 (fun v G1 H1 Γ1 d s1 S1 r1 hh => by
    obtain ⟨ds, e, hP⟩ := hh
    rcases e with rfl | rfl
    · cases r1 with
      | @lst p ys _ ha rr => exact ⟨p, ys, rfl, .inl (SqL.of (S1.g _ _ ha)), fun l nl => q (.ref l) G1 _ Γ1 (.ol l ds) s1 (S1.own1 nl rfl (.ol upd_same rr)) (hP l)⟩
    · cases r1 with
      | @tup p ys _ ha rr => exact ⟨p, ys, rfl, .inr (SqT.of (S1.g _ _ ha)), fun l nl => q (.ref l) G1 _ Γ1 (.ol l ds) s1 (S1.own1 nl rfl (.ol upd_same rr)) (hP l)⟩) x
instance : Wk (EvO K W (tCB (rListP K) (tCons te tNil)) Γ PO X) (Ev K W te Γ (fun d Γ1 => SeqP d fun xs => ∀ a, PO (.ol a xs) Γ1) X) := ⟨evo_list⟩
theorem evo_listO (hi : Γ[i]? = some (some (.ol a ds))) (h : ∀ b, PO (.ol b ds) Γ) : EvO K W (tCB (rListP K) (tCons (tVar i) tNil)) Γ PO X := fun O G H σ Q S q x => by
  obtain ⟨v, e, o⟩ := S.get hi
  cases o with
  | @ol _ ys _ ha rr => exact ⟨_, e, a, ys, rfl, .inl (SqL.of ha), fun l nl => q (.ref l) G _ Γ (.ol l ds) (Same.refl _) (S.own1 nl rfl (.ol upd_same rr)) (h l)⟩
instance (priority := high) [t : At Γ i (.ol a ds)] : Wk (EvO K W (tCB (rListP K) (tCons (tVar i) tNil)) Γ PO X) (∀ b, PO (.ol b ds) Γ) := ⟨fun h => evo_listO t.h h⟩
instance (priority := high) [t : At Γ i (.ol a ds)] : Wk (Ev K W (tCB (rListP K) (tCons (tVar i) tNil)) Γ P X) (P (.lst ds) Γ) := ⟨fun h => ev_frz (evo_listO t.h fun b => ⟨_, .ol b ds, h⟩)⟩
theorem evo_sl {lo hi : TO} (h : Ev K W te Γ (fun d Γ1 => IsL d fun xs => EvP K W lo Γ1 (fun l Γ2 => EvP K W hi Γ2 (fun u Γ3 => ∀ a, PO (.ol a (cutD xs l u)) Γ3) X) X) X) : EvO K W (tSl (rSlP K) te lo hi) Γ PO X := fun O G H σ Q S q x =>
  h O G H σ _ S (fun v G1 H1 Γ1 d s1 S1 r ⟨xs, e, h1⟩ => h1 O G1 H1 σ _ S1 (fun l G2 H2 Γ2 s2 S2 h2 => h2 O G2 H2 σ _ S2 (fun u G3 H3 Γ3 s3 S3 h3 => by
    subst e
    have r3 := (r.mono s2).mono s3
    have s13 := (s1.trans s2).trans s3
    cases r3 with
    | lst ha rr => exact .inl ⟨_, _, rfl, SqL.of (S3.g _ _ ha), fun a na => q _ _ _ Γ3 (.ol a (cutD xs l u)) s13 (S3.own1 na rfl (.ol upd_same (cut_rep rr _ _))) (h3 a)⟩) ((x.mono s1).mono s2)) (x.mono s1)) x
instance {lo hi : TO} : Wk (EvO K W (tSl (rSlP K) te lo hi) Γ PO X) (Ev K W te Γ (fun d Γ1 => IsL d fun xs => EvP K W lo Γ1 (fun l Γ2 => EvP K W hi Γ2 (fun u Γ3 => ∀ a, PO (.ol a (cutD xs l u)) Γ3) X) X) X) := ⟨evo_sl⟩
end
end DL
namespace L2
open PySem PySem.Spec
end L2
namespace DL
open PySem PySem.Spec L2
class KeyOf (d : Dt) (k : outParam Key) : Prop where
  h : d = kD k
class KeysOf (ds : List Dt) (ks : outParam (List Key)) : Prop where
  h : ds = ks.map kD
instance {i : Int} : KeyOf (.int i) (.inl i) := ⟨rfl⟩
instance {i : Str} : KeyOf (.str i) (.inr i) := ⟨rfl⟩
instance {k : Key} : KeyOf (kD k) k := ⟨rfl⟩
instance : KeysOf [] [] := ⟨rfl⟩
instance {d : Dt} {ds : List Dt} {k : Key} {ks : List Key} [a : KeyOf d k] [b : KeysOf ds ks] : KeysOf (d :: ds) (k :: ks) := ⟨by rw [a.h, b.h]; rfl⟩
instance {k : List Key} : KeysOf (k.map kD) k := ⟨rfl⟩
def VA {β : Type} (o : Option β) (Q : β → Prop) : Prop := ∃ v, o = some v ∧ Q v
theorem va_of {β : Type} {o : Option β} {v : β} {Q : β → Prop} (h : o = some v) (q : Q v) : VA o Q := ⟨v, h, q⟩
section
variable {R : Dt → Prop} {y : Dt} {k : Key} {ks : List Key} {ys : List Dt} {kvs : List (Key × Dt)} {tvs : List (List Key × Dt)}
instance [a : KeyOf y k] : Wk (dIx (.dK kvs) y R) (VA (vA kvs k) R) := ⟨fun ⟨v, e, q⟩ => ⟨k, v, a.h, e, q⟩⟩
instance [a : KeysOf ys ks] : Wk (dIx (.dT tvs) (.tup ys) R) (VA (vA tvs ks) R) := ⟨fun ⟨v, e, q⟩ => ⟨ks, v, by rw [a.h], e, q⟩⟩
instance [a : KeyOf y k] : Wk (dIn false y (.dK kvs) R) (R (.bl (vA kvs k).isSome)) := ⟨fun q => ⟨k, a.h, by simpa using q⟩⟩
instance [a : KeyOf y k] : Wk (dIn true y (.dK kvs) R) (R (.bl (!(vA kvs k).isSome))) := ⟨fun q => ⟨k, a.h, by simpa using q⟩⟩
instance [a : KeysOf ys ks] : Wk (dIn false (.tup ys) (.dT tvs) R) (R (.bl (vA tvs ks).isSome)) := ⟨fun q => ⟨ks, by rw [a.h], by simpa using q⟩⟩
instance [a : KeysOf ys ks] : Wk (dIn true (.tup ys) (.dT tvs) R) (R (.bl (!(vA tvs ks).isSome))) := ⟨fun q => ⟨ks, by rw [a.h], by simpa using q⟩⟩
instance : Wk (dLen [.dK kvs] R) (R (.int kvs.length)) := ⟨fun h => h⟩
instance : Wk (dLen [.dT tvs] R) (R (.int tvs.length)) := ⟨fun h => h⟩
instance {Q : List Dt → Prop} : Wk (SeqQ (.dK kvs) Q) (Q (kvs.map fun p => kD p.1)) := ⟨fun q => ⟨_, .dK kvs, q⟩⟩
instance {Q : List Dt → Prop} : Wk (SeqQ (.dT tvs) Q) (Q (tvs.map fun p => kDs p.1)) := ⟨fun q => ⟨_, .dT tvs, q⟩⟩
end
section
variable {K : PySem.W.Frag} {W : WX} {Γ Γ' : Gm} {X : XP} {P : Dt → Gm → Prop} {PO : Sl → Gm → Prop} {te ta tb ti tv : TE} {i j : Nat} {nx : Gm → Prop} {rt : Sl → Gm → Prop} {xc : XP} {bk ct : Gm → Prop} {a : Addr}
theorem set_here {σ : St} {v : V} (ev : σ[i]? = some (some v)) : σ.set i (some v) = σ := by
  apply List.ext_getElem?
  intro j
  rw [List.getElem?_set]
  by_cases hj : i = j
  · subst hj
    have il : i < σ.length := by
      rcases Nat.lt_or_ge i σ.length with z | z
      · exact z
      · rw [List.getElem?_eq_none z] at ev; cases ev
    rw [if_pos rfl, ev, if_pos il]
  · rw [if_neg hj]
theorem Sta.mutS2 {O G H : Hp} {σ : St} {v v2 : V} {s s2 s' : Sl} {ob : HO} (S : Sta K O G H (some v2 :: σ) (some s2 :: Γ)) (hi : Γ[i]? = some (some s)) (ev : σ[i]? = some (some v)) (ma : a ∈ s.fp) (hf : ∀ b ∈ s'.fp, b ∈ s.fp ∨ b ∈ s2.fp) (nd : s'.fp.Nodup) (ow : Own K G (upd H a ob) v s') :
    Sta K O G (upd H a ob) σ (Γ.set i (some s')) := by
  have T := S.tail
  have sub : ∀ b, b ∈ s.fp ∨ b ∈ s2.fp → G b = none ∧ O b = none ∧ b ∉ fps (Γ.set i none) := fun b hb => by
    rcases hb with hb | hb
    · exact ⟨T.ng b (mem_fps hi b hb), T.no b (mem_fps hi b hb), (fps_part hi T.nd).2 b hb⟩
    · refine ⟨S.ng b (by simp [fps, fpO, hb]), S.no b (by simp [fps, fpO, hb]), fun z => ?_⟩
      have nd := S.nd
      simp only [fps, fpO] at nd
      rcases fps_set_sub i b z with w | w
      · simp [fpO] at w
      · exact (List.nodup_append.mp nd).2.2 b hb b w rfl
  obtain ⟨ga, oa, na⟩ := sub a (.inl ma)
  have Sf := T.forget i (some v)
  rw [set_here ev] at Sf
  have T1 : Sta K O G (upd H a ob) σ (Γ.set i none) := by
    refine ⟨fun b u q => ?_, fun b u q => ?_, Sf.d, Sf.sl.mono (Same.refl _) fun b hb u q => ?_, Sf.nd, Sf.ng, Sf.no, Sf.om⟩
    · rw [upd_ne (ne_of_none q ga)]; exact S.g b u q
    · rw [upd_ne (ne_of_none q oa)]; exact S.o b u q
    · rw [upd_ne (fun z : b = a => na (by rw [← z]; exact hb))]; exact q
  have T2 := (T1.push ow nd (fun b hb => (sub b (hf b hb)).1) (fun b hb => (sub b (hf b hb)).2.1) (fun b hb => (sub b (hf b hb)).2.2)).put i
  rw [set_here ev, List.set_set] at T2
  exact T2
theorem Sta.mutS {O G H : Hp} {σ : St} {v : V} {s s' : Sl} {ob : HO} (S : Sta K O G H σ Γ) (hi : Γ[i]? = some (some s)) (ev : σ[i]? = some (some v)) (ma : a ∈ s.fp) (hf : ∀ b ∈ s'.fp, b ∈ s.fp) (nd : s'.fp.Nodup) (ow : Own K G (upd H a ob) v s') :
    Sta K O G (upd H a ob) σ (Γ.set i (some s')) := (S.pushF (v := .non) .non).mutS2 hi ev ma (fun b hb => .inl (hf b hb)) nd ow
def OwnK (Γ : Gm) (i : Nat) (Q : Addr → List (Key × Dt) → Prop) : Prop := ∃ a kvs, Γ[i]? = some (some (.oK a kvs)) ∧ Q a kvs
def OwnT (Γ : Gm) (i : Nat) (Q : Addr → List (List Key × Dt) → Prop) : Prop := ∃ a kvs, Γ[i]? = some (some (.oT a kvs)) ∧ Q a kvs
instance {kvs : List (Key × Dt)} {Q : Addr → List (Key × Dt) → Prop} [h : At Γ i (.oK a kvs)] : Wk (OwnK Γ i Q) (Q a kvs) := ⟨fun q => ⟨a, kvs, h.h, q⟩⟩
instance {kvs : List (List Key × Dt)} {Q : Addr → List (List Key × Dt) → Prop} [h : At Γ i (.oT a kvs)] : Wk (OwnT Γ i Q) (Q a kvs) := ⟨fun q => ⟨a, kvs, h.h, q⟩⟩
instance (priority := high) {v : Option Sl} {Q : Addr → List (Key × Dt) → Prop} [h : SetG Γ j v Γ'] : Wk (OwnK (Γ.set j v) i Q) (OwnK Γ' i Q) := ⟨fun q => by rw [h.h]; exact q⟩
instance (priority := high) {v : Option Sl} {Q : Addr → List (List Key × Dt) → Prop} [h : SetG Γ j v Γ'] : Wk (OwnT (Γ.set j v) i Q) (OwnT Γ' i Q) := ⟨fun q => by rw [h.h]; exact q⟩
theorem look_K {O G H : Hp} {σ : St} {kvs : List (Key × Dt)} (S : Sta K O G H σ Γ) (hi : Γ[i]? = some (some (.oK a kvs))) : ∃ xs, σ[i]? = some (some (.ref a)) ∧ H a = some (.dK xs) ∧ RepK K G xs kvs := by
  obtain ⟨v, e, o⟩ := S.get hi
  cases o with
  | oK h r => exact ⟨_, e, h, r⟩
theorem look_T {O G H : Hp} {σ : St} {kvs : List (List Key × Dt)} (S : Sta K O G H σ Γ) (hi : Γ[i]? = some (some (.oT a kvs))) : ∃ xs, σ[i]? = some (some (.ref a)) ∧ H a = some (.dT xs) ∧ RepT K G xs kvs := by
  obtain ⟨v, e, o⟩ := S.get hi
  cases o with
  | oT h r => exact ⟨_, e, h, r⟩
theorem ev_ixK {kv0 : List (Key × Dt)} (hi : Γ[i]? = some (some (.oK a kv0))) (h : Ev K W te Γ (fun y Γ1 => OwnK Γ1 i fun _ kvs => dIx (.dK kvs) y fun z => P z Γ1) X) : Ev K W (tOp (rIxP K) (tVar i) te) Γ P X := fun O G H σ Q S q x => by
  obtain ⟨x0, e0, _⟩ := look_K S hi
  refine ⟨_, e0, h O G H σ _ S (fun v G1 H1 Γ1 d s1 S1 r ⟨a', kvs, hg, k, u, ey, hv, p⟩ => ?_) x⟩
  obtain ⟨xs, e1, h1, r1⟩ := look_K S1 hg
  rw [e0] at e1
  cases e1
  subst ey
  rw [kD_inj r]
  obtain ⟨w, ew, rw'⟩ := (r1.get k).1 u hv
  exact .inr ⟨a, w, rfl, by rw [← ew]; exact dget_K (ds := []) (.inl h1), q w G1 H1 Γ1 u s1 S1 rw' p⟩
theorem ev_ixT {kv0 : List (List Key × Dt)} (hi : Γ[i]? = some (some (.oT a kv0))) (h : Ev K W te Γ (fun y Γ1 => OwnT Γ1 i fun _ kvs => dIx (.dT kvs) y fun z => P z Γ1) X) : Ev K W (tOp (rIxP K) (tVar i) te) Γ P X := fun O G H σ Q S q x => by
  obtain ⟨x0, e0, _⟩ := look_T S hi
  refine ⟨_, e0, h O G H σ _ S (fun v G1 H1 Γ1 d s1 S1 r ⟨a', kvs, hg, k, u, ey, hv, p⟩ => ?_) x⟩
  obtain ⟨xs, e1, h1, r1⟩ := look_T S1 hg
  rw [e0] at e1
  cases e1
  subst ey
  obtain ⟨w, ew, rw'⟩ := (r1.get k).1 u hv
  cases r with
  | @tup b ys _ hb rb =>
    rw [reps_kD rb] at hb
    exact .inr ⟨a, w, rfl, by rw [← ew]; exact dget_T (.inl h1) (S1.g _ _ hb), q w G1 H1 Γ1 u s1 S1 rw' p⟩
theorem ev_inK {neg : Bool} {kv0 : List (Key × Dt)} (hi : Γ[i]? = some (some (.oK a kv0))) (h : Ev K W te Γ (fun y Γ1 => OwnK Γ1 i fun _ kvs => dIn neg y (.dK kvs) fun z => P z Γ1) X) : Ev K W (tOp (if neg then rNotInP K else rInP K) te (tVar i)) Γ P X := fun O G H σ Q S q x => by
  refine h O G H σ _ S (fun v G1 H1 Γ1 d s1 S1 r ⟨a', kvs, hg, k, ey, p⟩ => ?_) x
  obtain ⟨xs, e1, h1, r1⟩ := look_K S1 hg
  subst ey
  rw [kD_inj r]
  obtain ⟨g1, g2⟩ := r1.get k
  have z : rDI neg (kV k) (.ref a') H1 Q := ⟨a', _, rfl, dget_K (ds := []) (.inl h1), by rw [isSome_val g1 g2]; exact q _ G1 H1 Γ1 _ s1 S1 (.bl _) p⟩
  refine ⟨_, e1, ?_⟩
  cases neg with
  | true => exact .inr (.inr z)
  | false => exact .inr (.inr z)
theorem ev_inT {neg : Bool} {kv0 : List (List Key × Dt)} (hi : Γ[i]? = some (some (.oT a kv0))) (h : Ev K W te Γ (fun y Γ1 => OwnT Γ1 i fun _ kvs => dIn neg y (.dT kvs) fun z => P z Γ1) X) : Ev K W (tOp (if neg then rNotInP K else rInP K) te (tVar i)) Γ P X := fun O G H σ Q S q x => by
  refine h O G H σ _ S (fun v G1 H1 Γ1 d s1 S1 r ⟨a', kvs, hg, k, ey, p⟩ => ?_) x
  obtain ⟨xs, e1, h1, r1⟩ := look_T S1 hg
  subst ey
  obtain ⟨g1, g2⟩ := r1.get k
  refine ⟨_, e1, ?_⟩
  cases r with
  | @tup b ys _ hb rb =>
    rw [reps_kD rb] at hb
    have z : rDI neg (.ref b) (.ref a') H1 Q := ⟨a', _, rfl, dget_T (.inl h1) (S1.g _ _ hb), by rw [isSome_val g1 g2]; exact q _ G1 H1 Γ1 _ s1 S1 (.bl _) p⟩
    cases neg with
    | true => exact .inr (.inr z)
    | false => exact .inr (.inr z)
instance {kvs : List (Key × Dt)} [q : At Γ i (.oK a kvs)] : Wk (Ev K W (tOp (rIxP K) (tVar i) te) Γ P X) (Ev K W te Γ (fun y Γ1 => OwnK Γ1 i fun _ kvs => dIx (.dK kvs) y fun z => P z Γ1) X) := ⟨fun h => ev_ixK q.h h⟩
instance {kvs : List (List Key × Dt)} [q : At Γ i (.oT a kvs)] : Wk (Ev K W (tOp (rIxP K) (tVar i) te) Γ P X) (Ev K W te Γ (fun y Γ1 => OwnT Γ1 i fun _ kvs => dIx (.dT kvs) y fun z => P z Γ1) X) := ⟨fun h => ev_ixT q.h h⟩
instance {kvs : List (Key × Dt)} [q : At Γ i (.oK a kvs)] : Wk (Ev K W (tOp (rInP K) te (tVar i)) Γ P X) (Ev K W te Γ (fun y Γ1 => OwnK Γ1 i fun _ kvs => dIn false y (.dK kvs) fun z => P z Γ1) X) := ⟨fun h => ev_inK (neg := false) q.h h⟩
instance {kvs : List (Key × Dt)} [q : At Γ i (.oK a kvs)] : Wk (Ev K W (tOp (rNotInP K) te (tVar i)) Γ P X) (Ev K W te Γ (fun y Γ1 => OwnK Γ1 i fun _ kvs => dIn true y (.dK kvs) fun z => P z Γ1) X) := ⟨fun h => ev_inK (neg := true) q.h h⟩
instance {kvs : List (List Key × Dt)} [q : At Γ i (.oT a kvs)] : Wk (Ev K W (tOp (rInP K) te (tVar i)) Γ P X) (Ev K W te Γ (fun y Γ1 => OwnT Γ1 i fun _ kvs => dIn false y (.dT kvs) fun z => P z Γ1) X) := ⟨fun h => ev_inT (neg := false) q.h h⟩
instance {kvs : List (List Key × Dt)} [q : At Γ i (.oT a kvs)] : Wk (Ev K W (tOp (rNotInP K) te (tVar i)) Γ P X) (Ev K W te Γ (fun y Γ1 => OwnT Γ1 i fun _ kvs => dIn true y (.dT kvs) fun z => P z Γ1) X) := ⟨fun h => ev_inT (neg := true) q.h h⟩
theorem ev_lenK {kvs : List (Key × Dt)} (hi : Γ[i]? = some (some (.oK a kvs))) (p : P (.int kvs.length) Γ) : Ev K W (tCB (rLenP K) (tCons (tVar i) tNil)) Γ P X := fun O G H σ Q S q x => by
  obtain ⟨xs, e1, h1, r1⟩ := look_K S hi
  exact ⟨_, e1, .inr ⟨a, rfl, .inl ⟨xs, .inl h1, q _ G H Γ _ (Same.refl _) S (.int _) (by rw [r1.length]; exact p)⟩⟩⟩
theorem ev_lenT {kvs : List (List Key × Dt)} (hi : Γ[i]? = some (some (.oT a kvs))) (p : P (.int kvs.length) Γ) : Ev K W (tCB (rLenP K) (tCons (tVar i) tNil)) Γ P X := fun O G H σ Q S q x => by
  obtain ⟨xs, e1, h1, r1⟩ := look_T S hi
  exact ⟨_, e1, .inr ⟨a, rfl, .inr ⟨xs, .inl h1, q _ G H Γ _ (Same.refl _) S (.int _) (by rw [r1.length]; exact p)⟩⟩⟩
instance {kvs : List (Key × Dt)} [q : At Γ i (.oK a kvs)] : Wk (Ev K W (tCB (rLenP K) (tCons (tVar i) tNil)) Γ P X) (P (.int kvs.length) Γ) := ⟨fun h => ev_lenK q.h h⟩
instance {kvs : List (List Key × Dt)} [q : At Γ i (.oT a kvs)] : Wk (Ev K W (tCB (rLenP K) (tCons (tVar i) tNil)) Γ P X) (P (.int kvs.length) Γ) := ⟨fun h => ev_lenT q.h h⟩
def KeyQ (y : Dt) (Q : Key → Prop) : Prop := ∃ k, y = kD k ∧ Q k
def KeysQ (y : Dt) (Q : List Key → Prop) : Prop := ∃ k, y = kDs k ∧ Q k
instance {y : Dt} {k : Key} {Q : Key → Prop} [h : KeyOf y k] : Wk (KeyQ y Q) (Q k) := ⟨fun q => ⟨k, h.h, q⟩⟩
instance {ys : List Dt} {k : List Key} {Q : List Key → Prop} [h : KeysOf ys k] : Wk (KeysQ (.tup ys) Q) (Q k) := ⟨fun q => ⟨k, by rw [h.h], q⟩⟩
theorem evo_newK (h : ∀ a, PO (.oK a []) Γ) : EvO K W tDNewK Γ PO X := fun O G H σ Q S q x => fun p np => q (.ref p) G _ Γ (.oK p []) (Same.refl _) (S.own1 np rfl (.oK upd_same .nil)) (h p)
theorem evo_newT (h : ∀ a, PO (.oT a []) Γ) : EvO K W tDNewT Γ PO X := fun O G H σ Q S q x => fun p np => q (.ref p) G _ Γ (.oT p []) (Same.refl _) (S.own1 np rfl (.oT upd_same .nil)) (h p)
instance : Wk (EvO K W tDNewK Γ PO X) (∀ a, PO (.oK a []) Γ) := ⟨evo_newK⟩
instance : Wk (EvO K W tDNewT Γ PO X) (∀ a, PO (.oT a []) Γ) := ⟨evo_newT⟩
mutual
inductive Frz2 : Sl → Dt → Prop
  | fr (d : Dt) : Frz2 (.fr d) d
  | ol (a : Addr) (ds : List Dt) : Frz2 (.ol a ds) (.lst ds)
  | oK (a : Addr) (ds : List (Key × Dt)) : Frz2 (.oK a ds) (.dK ds)
  | oT (a : Addr) (ds : List (List Key × Dt)) : Frz2 (.oT a ds) (.dT ds)
  | oN (a : Addr) (P : Program) (w : World) (kvs : List (NX.NK × V)) : Frz2 (.oN a P w kvs) (.dN P w kvs)
  | odK (a : Addr) (kvs : List (Key × Addr × List Dt)) : Frz2 (.odK a kvs) (.dK (kvs.map fun e => (e.1, .lst e.2.2)))
  | odT (a : Addr) (kvs : List (List Key × Addr × List Dt)) : Frz2 (.odT a kvs) (.dT (kvs.map fun e => (e.1, .lst e.2.2)))
  | oo (a C : Addr) {fs : List (Str × Sl)} {ds : List (Str × Dt)} : FrzF fs ds → Frz2 (.oo a C fs) (.obj C ds)
inductive FrzF : List (Str × Sl) → List (Str × Dt) → Prop
  | nil : FrzF [] []
  | cons {f : Str} {s : Sl} {d : Dt} {fs : List (Str × Sl)} {ds : List (Str × Dt)} : Frz2 s d → FrzF fs ds → FrzF ((f, s) :: fs) ((f, d) :: ds)
end
theorem Sta.pin1 {O G H : Hp} {σ : St} {v : V} {s : Sl} {ob : HO} (S : Sta K O G H (some v :: σ) (some s :: Γ)) (hf : s.fp = [a]) (ob' : HO) : Same G (upd G a ob') ∧ Sta K O (upd G a ob') (upd H a ob') σ Γ := by
  have na : G a = none := S.ng a (by simp [fps, fpO, hf])
  have oa : O a = none := S.no a (by simp [fps, fpO, hf])
  have T := S.tail
  have nd := S.nd
  simp only [fps, fpO, hf] at nd
  have nf : a ∉ fps Γ := fun z => (List.nodup_append.mp nd).2.2 a (by simp) a z rfl
  have s1 : Same G (upd G a ob') := fun b o q => by rw [upd_ne (ne_of_none q na)]; exact q
  refine ⟨s1, fun b o q => ?_, fun b o q => ?_, fun b hb => ?_, T.sl.mono s1 fun b hb o q => ?_, T.nd, fun b hb => ?_, T.no, T.om⟩
  · by_cases e : b = a
    · subst e; rw [upd_same] at q ⊢; exact q
    · rw [upd_ne e] at q ⊢; exact T.g b o q
  · rw [upd_ne (ne_of_none q oa)]; exact T.o b o q
  · by_cases e : b = a
    · subst e; exact absurd oa hb
    · rw [upd_ne e]; exact T.d b hb
  · rw [upd_ne (fun z : b = a => nf (by rw [← z]; exact hb))]; exact q
  · by_cases e : b = a
    · subst e; exact absurd hb nf
    · rw [upd_ne e]; exact T.ng b hb
theorem Sta.known {O G H : Hp} {σ : St} {v : V} {s : Sl} (S : Sta K O G H (some v :: σ) (some s :: Γ)) (l : List Addr) (hl : ∀ b ∈ l, b ∈ s.fp) : ∃ G2, (∀ b ∈ l, G2 b = H b) ∧ (∀ b, b ∉ l → G2 b = G b) ∧ Same G G2 ∧ Same G2 H ∧ Sta K O G2 H σ Γ := by
  classical
  have na : ∀ b ∈ l, G b = none := fun b hb => S.ng b (by simp only [fps, fpO, List.mem_append]; exact .inl (hl b hb))
  have oa : ∀ b ∈ l, O b = none := fun b hb => S.no b (by simp only [fps, fpO, List.mem_append]; exact .inl (hl b hb))
  have nd := S.nd
  simp only [fps, fpO] at nd
  have nf : ∀ b ∈ l, b ∉ fps Γ := fun b hb z => (List.nodup_append.mp nd).2.2 b (hl b hb) b z rfl
  have T := S.tail
  have s1 : Same G (fun b => if b ∈ l then H b else G b) := fun b o q => by
    show (if b ∈ l then H b else G b) = _
    by_cases e : b ∈ l
    · rw [na b e] at q; cases q
    · rw [if_neg e]; exact q
  have s2 : Same (fun b => if b ∈ l then H b else G b) H := fun b o q => by
    have q : (if b ∈ l then H b else G b) = some o := q
    by_cases e : b ∈ l
    · rw [if_pos e] at q; exact q
    · rw [if_neg e] at q; exact S.g b o q
  refine ⟨fun b => if b ∈ l then H b else G b, fun b hb => if_pos hb, fun b hb => if_neg hb, s1, s2, s2, T.o, fun b hb => ?_, T.sl.mono s1 fun _ _ _ q => q, T.nd, fun b hb => ?_, T.no, T.om⟩
  · show (if b ∈ l then H b else G b) = none
    by_cases e : b ∈ l
    · exact absurd (oa b e) hb
    · rw [if_neg e]; exact T.d b hb
  · show (if b ∈ l then H b else G b) = none
    by_cases e : b ∈ l
    · exact absurd hb (nf b e)
    · rw [if_neg e]; exact T.ng b hb
theorem Pins.bind {H : Hp} {Q : Hp → Prop} (h : Pins H fun H' => Pins H' Q) : Pins H Q := by
  generalize e : (fun H' => Pins H' Q) = Q1 at h
  induction h with
  | done q => rw [← e] at q; exact q
  | pin d u hd mu _ ih => exact .pin d u hd mu fun od => ih od e
mutual
theorem pin_all : ∀ {s : Sl} {d : Dt}, Frz2 s d → ∀ {O G H : Hp} {σ : St} {Γ : Gm} {v : V} {Q : Hp → Prop}, Sta K O G H (some v :: σ) (some s :: Γ) → (∀ G2 H2, Same G G2 → (∀ b, b ∉ s.fp → H2 b = H b) → Sta K O G2 H2 σ Γ → Rep K G2 v d → Q H2) → Pins H Q
  | _, _, .fr d, O, G, H, σ, Γ, v, Q, S, q => by
    have h := S.head
    cases h with | fr r => exact .done (q G H (Same.refl _) (fun _ _ => rfl) S.tail r)
  | _, _, .ol a ds, O, G, H, σ, Γ, v, Q, S, q => by
    obtain ⟨G2, s2, S2, r⟩ := S.freeze1 (.ol a ds)
    exact .done (q G2 H s2 (fun _ _ => rfl) S2 r)
  | _, _, .oK a ds, O, G, H, σ, Γ, v, Q, S, q => by
    have h := S.head
    cases h with
    | oK ha r =>
      refine .pin a _ ha trivial fun od => .done ?_
      obtain ⟨s1, S1⟩ := S.pin1 (ob := .dK []) rfl (.frz od (.dK _))
      exact q _ _ s1 (fun b hb => upd_ne (by simpa [Sl.fp] using hb)) S1 (.dK upd_same (r.mono s1))
  | _, _, .oT a ds, O, G, H, σ, Γ, v, Q, S, q => by
    have h := S.head
    cases h with
    | oT ha r =>
      refine .pin a _ ha trivial fun od => .done ?_
      obtain ⟨s1, S1⟩ := S.pin1 (ob := .dT []) rfl (.frz od (.dT _))
      exact q _ _ s1 (fun b hb => upd_ne (by simpa [Sl.fp] using hb)) S1 (.dT upd_same (r.mono s1))
  | _, _, .oN a P w kvs, O, G, H, σ, Γ, v, Q, S, q => by
    obtain ⟨G2, s2, S2, r⟩ := S.freeze1 (.oN a P w kvs)
    exact .done (q G2 H s2 (fun _ _ => rfl) S2 r)
  | _, _, .odK a kvs, O, G, H, σ, Γ, v, Q, S, q => by
    have h := S.head
    have nd := S.nd
    simp only [fps, fpO, Sl.fp] at nd
    have an : a ∉ kvs.map (·.2.1) := (List.nodup_cons.mp (List.nodup_append.mp nd).1).1
    cases h with
    | odK ha r =>
      refine .pin a _ ha trivial fun od => .done ?_
      obtain ⟨G2, g1, g2, s1, s2, S2⟩ := S.known (kvs.map (·.2.1)) (fun b hb => by simp only [Sl.fp, List.mem_cons]; exact .inr hb)
      have ga : G2 a = none := by rw [g2 a an]; exact S.ng a (by simp [fps, fpO, Sl.fp])
      have oa : O a = none := S.no a (by simp [fps, fpO, Sl.fp])
      have fa : a ∉ fps Γ := fun z => (List.nodup_append.mp nd).2.2 a (by simp) a z rfl
      have hl : ∀ e ∈ kvs, ∃ xs, G2 e.2.1 = some (.lst xs) ∧ Reps K G xs e.2.2 := fun e he => by
        obtain ⟨xs, e1, e2⟩ := r e he
        exact ⟨xs, by rw [g1 _ (List.mem_map.mpr ⟨e, he, rfl⟩)]; exact e1, e2⟩
      have s3 : Same G2 (upd G2 a (.frz od (.dK (kvs.map fun e => (e.1, V.ref e.2.1))))) := fun b o z => by rw [upd_ne (ne_of_none z ga)]; exact z
      have rows : ∀ l : List (Key × Addr × List Dt), (∀ e ∈ l, ∃ xs, G2 e.2.1 = some (.lst xs) ∧ Reps K G xs e.2.2) → RepK K (upd G2 a (.frz od (.dK (kvs.map fun e => (e.1, V.ref e.2.1))))) (l.map fun e => (e.1, V.ref e.2.1)) (l.map fun e => (e.1, .lst e.2.2)) := by
        intro l
        induction l with
        | nil => intro _; exact .nil
        | cons e l ih =>
          intro hh
          obtain ⟨xs, e1, e2⟩ := hh e (by simp)
          exact .cons (.lst (s3 _ _ e1) (e2.mono (s1.trans s3))) (ih fun e he => hh e (List.mem_cons_of_mem _ he))
      refine q _ _ (s1.trans s3) (fun b hb => upd_ne (fun e => hb (by simp [Sl.fp, e]))) ⟨fun b o z => ?_, fun b o z => ?_, fun b hb => ?_, S2.sl.mono s3 fun b hb o z => ?_, S2.nd, fun b hb => ?_, S2.no, S2.om⟩ (.dK upd_same (rows kvs hl))
      · by_cases e : b = a
        · subst e; rw [upd_same] at z ⊢; exact z
        · rw [upd_ne e] at z ⊢; exact s2 b o z
      · rw [upd_ne (ne_of_none z oa)]; exact S2.o b o z
      · by_cases e : b = a
        · subst e; exact absurd oa hb
        · rw [upd_ne e]; exact S2.d b hb
      · rw [upd_ne (fun e : b = a => fa (by rw [← e]; exact hb))]; exact z
      · by_cases e : b = a
        · subst e; exact absurd hb fa
        · rw [upd_ne e]; exact S2.ng b hb
  | _, _, .odT a kvs, O, G, H, σ, Γ, v, Q, S, q => by
    have h := S.head
    have nd := S.nd
    simp only [fps, fpO, Sl.fp] at nd
    have an : a ∉ kvs.map (·.2.1) := (List.nodup_cons.mp (List.nodup_append.mp nd).1).1
    cases h with
    | odT ha r =>
      refine .pin a _ ha trivial fun od => .done ?_
      obtain ⟨G2, g1, g2, s1, s2, S2⟩ := S.known (kvs.map (·.2.1)) (fun b hb => by simp only [Sl.fp, List.mem_cons]; exact .inr hb)
      have ga : G2 a = none := by rw [g2 a an]; exact S.ng a (by simp [fps, fpO, Sl.fp])
      have oa : O a = none := S.no a (by simp [fps, fpO, Sl.fp])
      have fa : a ∉ fps Γ := fun z => (List.nodup_append.mp nd).2.2 a (by simp) a z rfl
      have hl : ∀ e ∈ kvs, ∃ xs, G2 e.2.1 = some (.lst xs) ∧ Reps K G xs e.2.2 := fun e he => by
        obtain ⟨xs, e1, e2⟩ := r e he
        exact ⟨xs, by rw [g1 _ (List.mem_map.mpr ⟨e, he, rfl⟩)]; exact e1, e2⟩
      have s3 : Same G2 (upd G2 a (.frz od (.dT (kvs.map fun e => (e.1, V.ref e.2.1))))) := fun b o z => by rw [upd_ne (ne_of_none z ga)]; exact z
      have rows : ∀ l : List (List Key × Addr × List Dt), (∀ e ∈ l, ∃ xs, G2 e.2.1 = some (.lst xs) ∧ Reps K G xs e.2.2) → RepT K (upd G2 a (.frz od (.dT (kvs.map fun e => (e.1, V.ref e.2.1))))) (l.map fun e => (e.1, V.ref e.2.1)) (l.map fun e => (e.1, .lst e.2.2)) := by
        intro l
        induction l with
        | nil => intro _; exact .nil
        | cons e l ih =>
          intro hh
          obtain ⟨xs, e1, e2⟩ := hh e (by simp)
          exact .cons (.lst (s3 _ _ e1) (e2.mono (s1.trans s3))) (ih fun e he => hh e (List.mem_cons_of_mem _ he))
      refine q _ _ (s1.trans s3) (fun b hb => upd_ne (fun e => hb (by simp [Sl.fp, e]))) ⟨fun b o z => ?_, fun b o z => ?_, fun b hb => ?_, S2.sl.mono s3 fun b hb o z => ?_, S2.nd, fun b hb => ?_, S2.no, S2.om⟩ (.dT upd_same (rows kvs hl))
      · by_cases e : b = a
        · subst e; rw [upd_same] at z ⊢; exact z
        · rw [upd_ne e] at z ⊢; exact s2 b o z
      · rw [upd_ne (ne_of_none z oa)]; exact S2.o b o z
      · by_cases e : b = a
        · subst e; exact absurd oa hb
        · rw [upd_ne e]; exact S2.d b hb
      · rw [upd_ne (fun e : b = a => fa (by rw [← e]; exact hb))]; exact z
      · by_cases e : b = a
        · subst e; exact absurd hb fa
        · rw [upd_ne e]; exact S2.ng b hb
  | _, _, @Frz2.oo a C fs ds hf, O, G, H, σ, Γ, v, Q, S, q => by
    have h := S.head
    cases h with
    | @oo _ _ dx vs _ ha of =>
      have T := S.tail
      have nd := S.nd
      simp only [fps, fpO, Sl.fp] at nd
      obtain ⟨n1, n2, n3⟩ := List.nodup_append.mp nd
      rw [List.nodup_cons] at n1
      have mem : ∀ b ∈ a :: fpF fs, b ∈ fps (some (.oo a C fs) :: Γ) := fun b hb => by simp only [fps, fpO, Sl.fp, List.mem_append]; exact .inl hb
      have ga := S.ng a (mem a (by simp))
      have oa := S.no a (mem a (by simp))
      have fa : a ∉ fps Γ := fun z => n3 a (by simp) a z rfl
      have To := T.toO ha oa ga fa trivial
      refine pin_fields hf To of n1.2 (fun b hb => S.ng b (mem b (by simp [hb]))) (fun b hb => ?_) (fun b hb z => n3 b (by simp [hb]) b z rfl) fun G2 H2 s2 hH S2 rf => ?_
      · rw [upd_ne (fun e : b = a => n1.1 (by rw [← e]; exact hb))]; exact S.no b (mem b (by simp [hb]))
      · have ha2 : H2 a = some (.ins C dx vs) := by rw [hH a n1.1]; exact ha
        have g2 : G2 a = none := S2.d a (by rw [upd_same]; simp)
        have Tq : Sta K O G2 H2 (some (.ref a) :: σ) (some (.oo a C (frF [])) :: Γ) → True := fun _ => trivial
        have T3 := S2.offO oa
        obtain ⟨sa, sb⟩ := same_frz S2.g ha2 g2
        refine q (upd G2 a (.ins C dx vs)) H2 (s2.trans sa) (fun b hb => hH b (fun z => hb (by simp [Sl.fp, z]))) ⟨sb, T3.o, fun b hb => ?_, T3.sl.mono sa fun _ _ _ z => z, T3.nd, fun b hb => ?_, T3.no, T3.om⟩ (.obj upd_same (rf.mono sa))
        · by_cases e : b = a
          · subst e; exact absurd oa hb
          · rw [upd_ne e]; exact T3.d b hb
        · rw [upd_ne (fun e : b = a => fa (by rw [← e]; exact hb))]; exact T3.ng b hb
theorem pin_fields : ∀ {fs : List (Str × Sl)} {ds : List (Str × Dt)}, FrzF fs ds → ∀ {O G H : Hp} {σ : St} {Γ : Gm} {vs : List (Str × V)} {Q : Hp → Prop}, Sta K O G H σ Γ → OwnF K G H vs fs → (fpF fs).Nodup → (∀ b ∈ fpF fs, G b = none) → (∀ b ∈ fpF fs, O b = none) → (∀ b ∈ fpF fs, b ∉ fps Γ) →
    (∀ G2 H2, Same G G2 → (∀ b, b ∉ fpF fs → H2 b = H b) → Sta K O G2 H2 σ Γ → RepF K G2 vs ds → Q H2) → Pins H Q
  | _, _, .nil, O, G, H, σ, Γ, vs, Q, S, of, nd, hg, ho, hn, q => by
    cases of
    exact .done (q G H (Same.refl _) (fun _ _ => rfl) S .nil)
  | _, _, @FrzF.cons f s d fs ds h t, O, G, H, σ, Γ, vs, Q, S, of, nd, hg, ho, hn, q => by
    cases of with
    | @cons _ v vs _ _ o1 o2 =>
      simp only [fpF] at nd hg ho hn
      obtain ⟨n1, n2, n3⟩ := List.nodup_append.mp nd
      -- the rest first
      have P := S.push o1 n1 (fun b hb => hg b (by simp [hb])) (fun b hb => ho b (by simp [hb])) (fun b hb => hn b (by simp [hb]))
      refine Pins.bind (pin_fields (Q := fun H2 => Pins H2 Q) t P o2 n2 (fun b hb => hg b (by simp [hb])) (fun b hb => ho b (by simp [hb])) (fun b hb z => ?_) fun G2 H2 s2 hH S2 rf => ?_)
      · simp only [fps, fpO, List.mem_append] at z
        rcases z with z | z
        · exact n3 b z b hb rfl
        · exact hn b (by simp [hb]) z
      · refine pin_all h S2 fun G3 H3 s3 hH3 S3 r3 => q G3 H3 (s2.trans s3) (fun b hb => ?_) S3 (.cons r3 (rf.mono s3))
        simp only [fpF, List.mem_append, not_or] at hb
        rw [hH3 b hb.1, hH b hb.2]
end
end
section
variable {K : PySem.W.Frag} {W : WX} {Γ Γ' : Gm} {X : XP} {P : Dt → Gm → Prop} {te : TE} {i : Nat}
end
end DL
namespace IX
open PySem PySem.Spec PyProof.Rows L2
variable {Z : Cx}
end IX
namespace DL
open PySem PySem.Spec L2 IX
section
variable {κ β : Type} [DecidableEq κ]
end
section
variable {K : PySem.W.Frag} {W : WX} {Γ Γ' : Gm} {X : XP} {te tk tv td ty tx : TE} {tt : TT} {g : TG} {wi : TI} {vs : List Nat} {P : Dt → Gm → Prop} {PO : Sl → Gm → Prop} {xs : List Dt} {i : Nat} {a : Addr}
def dGetD : Dt → Dt → Dt → (Dt → Prop) → Prop
  | .dK kvs, y, z, R => KeyQ y fun k => R ((vA kvs k).getD z)
  | .dT kvs, y, z, R => KeysQ y fun k => R ((vA kvs k).getD z)
  | _, _, _, _ => False
theorem dgd_K {G1 H1 : Hp} {a : Addr} {xs : List (Key × V)} {kvs : List (Key × Dt)} {y z : V} {dy dz : Dt} {R : Dt → Prop} {Q : VK} (h : Rd H1 a (.dK xs)) (r : RepK K G1 xs kvs) (ry : Rep K G1 y dy) (rz : Rep K G1 z dz) (p : KeyQ dy fun k => R ((vA kvs k).getD dz)) (q : ∀ v d, Rep K G1 v d → R d → Q v H1) :
    ∃ o, DGet H1 a y o ∧ Q (o.getD z) H1 := by
  obtain ⟨k, e, p⟩ := p
  subst e
  rw [kD_inj ry]
  refine ⟨_, dget_K (ds := []) h, q _ _ ?_ p⟩
  obtain ⟨g1, g2⟩ := r.get k
  cases e : vA kvs k with
  | none => rw [g2 e]; exact rz
  | some d => obtain ⟨v, ev, rv⟩ := g1 d e; rw [ev]; exact rv
theorem dgd_T {G1 H1 : Hp} {a : Addr} {xs : List (List Key × V)} {kvs : List (List Key × Dt)} {y z : V} {dy dz : Dt} {R : Dt → Prop} {Q : VK} (s : Same G1 H1) (h : Rd H1 a (.dT xs)) (r : RepT K G1 xs kvs) (ry : Rep K G1 y dy) (rz : Rep K G1 z dz) (p : KeysQ dy fun k => R ((vA kvs k).getD dz)) (q : ∀ v d, Rep K G1 v d → R d → Q v H1) :
    ∃ o, DGet H1 a y o ∧ Q (o.getD z) H1 := by
  obtain ⟨k, e, p⟩ := p
  subst e
  cases ry with
  | @tup b ys _ hb rb =>
  rw [reps_kD rb] at hb
  refine ⟨_, dget_T h (s _ _ hb), q _ _ ?_ p⟩
  obtain ⟨g1, g2⟩ := r.get k
  cases e : vA kvs k with
  | none => rw [g2 e]; exact rz
  | some d => obtain ⟨v, ev, rv⟩ := g1 d e; rw [ev]; exact rv
def DicQ (d : Dt) (Q : Prop) : Prop := ((∃ kvs, d = .dK kvs) ∨ ∃ kvs, d = .dT kvs) ∧ Q
instance {kvs : List (Key × Dt)} {Q : Prop} : Wk (DicQ (.dK kvs) Q) Q := ⟨fun q => ⟨.inl ⟨kvs, rfl⟩, q⟩⟩
instance {kvs : List (List Key × Dt)} {Q : Prop} : Wk (DicQ (.dT kvs) Q) Q := ⟨fun q => ⟨.inr ⟨kvs, rfl⟩, q⟩⟩
theorem ev_dget2 (h : Ev K W td Γ (fun d Γ1 => DicQ d (Ev K W ty Γ1 (fun y Γ2 => Ev K W tx Γ2 (fun z Γ3 => dGetD d y z fun u => P u Γ3) X) X)) X) : Ev K W (tDGet2 td ty tx) Γ P X := fun O G H σ Q S q x =>
  h O G H σ _ S (fun v G1 H1 Γ1 d s1 S1 r ⟨hd, h1⟩ => by
    rcases hd with ⟨kvs, e⟩ | ⟨kvs, e⟩
    · subst e
      cases r with
      | @dK a ob xs _ ha ra =>
        refine ⟨a, rfl, .inl ⟨xs, .inr ⟨ob, S1.g _ _ ha⟩⟩, h1 O G1 H1 σ _ S1 (fun y G2 H2 Γ2 dy s2 S2 r2 h2 => h2 O G2 H2 σ _ S2 (fun z G3 H3 Γ3 dz s3 S3 r3 h3 => ?_) (x.mono (s1.trans s2))) (x.mono s1)⟩
        exact dgd_K (R := fun u => P u Γ3) (.inr ⟨ob, S3.g _ _ (s3 _ _ (s2 _ _ ha))⟩) ((ra.mono s2).mono s3) (r2.mono s3) r3 h3 fun u du ru pu => q u G3 H3 Γ3 du (s1.trans (s2.trans s3)) S3 ru pu
    · subst e
      cases r with
      | @dT a ob xs _ ha ra =>
        refine ⟨a, rfl, .inr ⟨xs, .inr ⟨ob, S1.g _ _ ha⟩⟩, h1 O G1 H1 σ _ S1 (fun y G2 H2 Γ2 dy s2 S2 r2 h2 => h2 O G2 H2 σ _ S2 (fun z G3 H3 Γ3 dz s3 S3 r3 h3 => ?_) (x.mono (s1.trans s2))) (x.mono s1)⟩
        exact dgd_T (R := fun u => P u Γ3) S3.g (.inr ⟨ob, S3.g _ _ (s3 _ _ (s2 _ _ ha))⟩) ((ra.mono s2).mono s3) (r2.mono s3) r3 h3 fun u du ru pu => q u G3 H3 Γ3 du (s1.trans (s2.trans s3)) S3 ru pu) x
theorem ev_dget2K {kv0 : List (Key × Dt)} (hi : Γ[i]? = some (some (.oK a kv0))) (h : Ev K W ty Γ (fun y Γ2 => Ev K W tx Γ2 (fun z Γ3 => OwnK Γ3 i fun _ kvs => KeyQ y fun k => P ((vA kvs k).getD z) Γ3) X) X) : Ev K W (tDGet2 (tVar i) ty tx) Γ P X := fun O G H σ Q S q x => by
  obtain ⟨x0, e0, h0, _⟩ := look_K S hi
  refine ⟨_, e0, a, rfl, .inl ⟨x0, .inl h0⟩, h O G H σ _ S (fun y G2 H2 Γ2 dy s2 S2 r2 h2 => h2 O G2 H2 σ _ S2 (fun z G3 H3 Γ3 dz s3 S3 r3 ⟨a', kvs, hg, h3⟩ => ?_) (x.mono s2)) x⟩
  obtain ⟨xs, e1, h1, r1⟩ := look_K S3 hg
  rw [e0] at e1
  cases e1
  exact dgd_K (R := fun d => P d Γ3) (.inl h1) r1 (r2.mono s3) r3 h3 fun u du ru pu => q u G3 H3 Γ3 du (s2.trans s3) S3 ru pu
instance (priority := low) : Wk (Ev K W (tDGet2 td ty tx) Γ P X) (Ev K W td Γ (fun d Γ1 => DicQ d (Ev K W ty Γ1 (fun y Γ2 => Ev K W tx Γ2 (fun z Γ3 => dGetD d y z fun u => P u Γ3) X) X)) X) := ⟨ev_dget2⟩
instance {kvs : List (Key × Dt)} [t : At Γ i (.oK a kvs)] : Wk (Ev K W (tDGet2 (tVar i) ty tx) Γ P X) (Ev K W ty Γ (fun y Γ2 => Ev K W tx Γ2 (fun z Γ3 => OwnK Γ3 i fun _ kvs => KeyQ y fun k => P ((vA kvs k).getD z) Γ3) X) X) := ⟨fun h => ev_dget2K t.h h⟩
instance {kvs : List (Key × Dt)} {y z : Dt} {R : Dt → Prop} : Wk (dGetD (.dK kvs) y z R) (KeyQ y fun k => R ((vA kvs k).getD z)) := ⟨fun h => h⟩
instance {kvs : List (List Key × Dt)} {y z : Dt} {R : Dt → Prop} : Wk (dGetD (.dT kvs) y z R) (KeysQ y fun k => R ((vA kvs k).getD z)) := ⟨fun h => h⟩
end
end DL
namespace L2
open PySem PySem.Spec PyProof.Rows
section
variable {X : Cx}
end
end L2
namespace DL
open PySem PySem.Spec L2
mutual
def noX (c : Option Addr) : Dt → Prop
  | .lst xs => noXs c xs
  | .tup xs => noXs c xs
  | .obj C fs => some C ≠ c ∧ noXf c fs
  | .dK _ => False
  | .dT _ => False
  | .exc _ fs => noXf c fs
  | .at_ _ d => noX c d
  | .fn _ _ _ _ _ => False
  | .dN _ _ _ => False
  | .scr _ => True
  | .non => True
  | .bl _ => True
  | .int _ => True
  | .str _ => True
  | .ty _ => True
  | .ref _ => True
def noXs (c : Option Addr) : List Dt → Prop
  | [] => True
  | d :: r => noX c d ∧ noXs c r
def noXf (c : Option Addr) : List (Str × Dt) → Prop
  | [] => True
  | (_, d) :: r => noX c d ∧ noXf c r
end
def delS (G : Hp) (l : List Addr) : Hp := fun b => if b ∈ l then none else G b
theorem delS_out {G : Hp} {l : List Addr} {b : Addr} (h : b ∉ l) : delS G l b = G b := if_neg h
def Bad (c : Option Addr) (o : HO) : Prop := (∃ ob kvs, o = .frz ob (.dK kvs)) ∨ (∃ ob kvs, o = .frz ob (.dT kvs)) ∨ ∃ C dx fs, o = .ins C dx fs ∧ c = some C
section
variable {K : PySem.W.Frag} {G : Hp} {l : List Addr} {c : Option Addr}
theorem del_obS {b : Addr} {o : HO} (h : ∀ b ∈ l, ∀ o, G b = some o → Bad c o) (q : G b = some o) (n : ¬ Bad c o) : delS G l b = some o := by
  rw [delS_out fun e => n (h b e o q)]
  exact q
theorem bad_lst {xs : List V} : ¬ Bad c (.lst xs) := by rintro (⟨_, _, e⟩ | ⟨_, _, e⟩ | ⟨_, _, _, e, _⟩) <;> cases e
theorem bad_tup {xs : List V} : ¬ Bad c (.tup xs) := by rintro (⟨_, _, e⟩ | ⟨_, _, e⟩ | ⟨_, _, _, e, _⟩) <;> cases e
theorem bad_xd {xs : List (Str × V)} : ¬ Bad c (.xd xs) := by rintro (⟨_, _, e⟩ | ⟨_, _, e⟩ | ⟨_, _, _, e, _⟩) <;> cases e
theorem bad_frl {o : Obj} {xs : List V} : ¬ Bad c (.frz o (.lst xs)) := by rintro (⟨_, _, e⟩ | ⟨_, _, e⟩ | ⟨_, _, _, e, _⟩) <;> cases e
theorem bad_exk {C a : Addr} {d : Option Addr} : ¬ Bad c (ExK C d a) := by unfold ExK; rintro (⟨_, _, e⟩ | ⟨_, _, e⟩ | ⟨_, _, _, e, _⟩) <;> cases e
theorem bad_ins {C dx : Addr} {fs : List (Str × V)} (n : some C ≠ c) : ¬ Bad c (.ins C dx fs) := by
  rintro (⟨_, _, e⟩ | ⟨_, _, e⟩ | ⟨C', _, _, e, e2⟩)
  · cases e
  · cases e
  · cases e; exact n e2.symm
mutual
theorem Rep.delS (h : ∀ b ∈ l, ∀ o, G b = some o → Bad c o) : ∀ {v : V} {d : Dt}, Rep K G v d → noX c d → Rep K (DL.delS G l) v d
  | _, _, .non, _ => .non
  | _, _, .bl b, _ => .bl b
  | _, _, .int i, _ => .int i
  | _, _, .str x, _ => .str x
  | _, _, .ty n, _ => .ty n
  | _, _, .ref a, _ => .ref a
  | _, _, .lst q r, n => .lst (del_obS h q bad_lst) (Reps.delS h r (by simpa only [noX] using n))
  | _, _, .scr q, _ => .scr (by
    rcases q with (q | ⟨o, q⟩) | q
    · exact .inl (.inl (del_obS h q bad_lst))
    · exact .inl (.inr ⟨o, del_obS h q bad_frl⟩)
    · exact .inr q)
  | _, _, .tup q r, n => .tup (del_obS h q bad_tup) (Reps.delS h r (by simpa only [noX] using n))
  | _, _, .obj q r, n => .obj (del_obS h q (bad_ins (by simp only [noX] at n; exact n.1))) (RepF.delS h r (by simp only [noX] at n; exact n.2))
  | _, _, .dK q r, n => by simp [noX] at n
  | _, _, .dT q r, n => by simp [noX] at n
  | _, _, .exc q r, n => .exc (del_obS h q bad_exk) (RepX.delS h r (by simpa only [noX] using n))
  | _, _, .at_ r, n => .at_ (Rep.delS h r (by simpa only [noX] using n))
  | _, _, .fn _ _, n => by simp [noX] at n
  | _, _, .dN _ _, n => by simp [noX] at n
theorem Reps.delS (h : ∀ b ∈ l, ∀ o, G b = some o → Bad c o) : ∀ {v : List V} {d : List Dt}, Reps K G v d → noXs c d → Reps K (DL.delS G l) v d
  | _, _, .nil, _ => .nil
  | _, _, .cons q r, n => .cons (Rep.delS h q (by simp only [noXs] at n; exact n.1)) (Reps.delS h r (by simp only [noXs] at n; exact n.2))
theorem RepF.delS (h : ∀ b ∈ l, ∀ o, G b = some o → Bad c o) : ∀ {v : List (Str × V)} {d : List (Str × Dt)}, RepF K G v d → noXf c d → RepF K (DL.delS G l) v d
  | _, _, .nil, _ => .nil
  | _, _, .cons q r, n => .cons (Rep.delS h q (by simp only [noXf] at n; exact n.1)) (RepF.delS h r (by simp only [noXf] at n; exact n.2))
theorem RepX.delS (h : ∀ b ∈ l, ∀ o, G b = some o → Bad c o) : ∀ {v : Option Addr} {d : List (Str × Dt)}, RepX K G v d → noXf c d → RepX K (DL.delS G l) v d
  | _, _, .none, _ => .none
  | _, _, .some q r, n => .some (del_obS h q bad_xd) (RepF.delS h r n)
end
def noXv {κ : Type} (c : Option Addr) (kvs : List (κ × Dt)) : Prop := ∀ p ∈ kvs, noX c p.2
theorem RepK.delS (h : ∀ b ∈ l, ∀ o, G b = some o → Bad c o) : ∀ {v : List (Key × V)} {d : List (Key × Dt)}, RepK K G v d → noXv c d → RepK K (DL.delS G l) v d
  | _, _, .nil, _ => .nil
  | _, _, .cons q r, n => .cons (q.delS h (n _ (List.mem_cons_self ..))) (RepK.delS h r fun p hp => n p (List.mem_cons_of_mem _ hp))
theorem RepT.delS (h : ∀ b ∈ l, ∀ o, G b = some o → Bad c o) : ∀ {v : List (List Key × V)} {d : List (List Key × Dt)}, RepT K G v d → noXv c d → RepT K (DL.delS G l) v d
  | _, _, .nil, _ => .nil
  | _, _, .cons q r, n => .cons (q.delS h (n _ (List.mem_cons_self ..))) (RepT.delS h r fun p hp => n p (List.mem_cons_of_mem _ hp))
end
mutual
def noXS (c : Option Addr) : Sl → Prop
  | .fr d => noX c d
  | .ol _ ds => noXs c ds
  | .os _ φ => ∀ ds, φ ds → noXs c ds
  | .oK _ kvs => noXv c kvs
  | .oT _ kvs => noXv c kvs
  | .oo _ _ fs => noXSf c fs
  | .ex _ _ _ fs => noXf c fs
  | .tb s _ _ => noXS c s
  | .oN _ _ _ _ => False
  | .odK _ kvs => ∀ e ∈ kvs, noXs c e.2.2
  | .odT _ kvs => ∀ e ∈ kvs, noXs c e.2.2
def noXSf (c : Option Addr) : List (Str × Sl) → Prop
  | [] => True
  | (_, s) :: r => noXS c s ∧ noXSf c r
end
section
variable {K : PySem.W.Frag} {G H : Hp} {l : List Addr} {c : Option Addr}
mutual
theorem Own.delS (h : ∀ b ∈ l, ∀ o, G b = some o → Bad c o) : ∀ {v : V} {s : Sl}, Own K G H v s → noXS c s → Own K (DL.delS G l) H v s
  | _, _, .fr r, n => .fr (r.delS h (by simpa only [noXS] using n))
  | _, _, .ol q r, n => .ol q (r.delS h (by simpa only [noXS] using n))
  | _, _, .os q r p, n => .os q (r.delS h ((by simpa only [noXS] using n : ∀ ds, _ → noXs c ds) _ p)) p
  | _, _, .oK q r, n => .oK q (r.delS h (by simpa only [noXS] using n))
  | _, _, .oT q r, n => .oT q (r.delS h (by simpa only [noXS] using n))
  | _, _, .oo q r, n => .oo q (OwnF.delS h r (by simpa only [noXS] using n))
  | _, _, .ex r, n => .ex (r.delS h (by simpa only [noXS] using n))
  | _, _, .tb q e r, n => .tb q ⟨e.1, fun p u y => by
      obtain ⟨z, e1, e2⟩ := e.2 p u y
      exact ⟨z, e1, del_obS h e2 (by unfold LamX.CodeO; rintro (⟨_, _, k⟩ | ⟨_, _, k⟩ | ⟨_, _, _, k, _⟩) <;> cases k)⟩⟩ (Own.delS h r (by simpa only [noXS] using n))
  | _, _, .oN _ _, n => by simp only [noXS] at n
  | _, _, .odK q r, n => .odK q fun e he => by
    obtain ⟨xs, e1, e2⟩ := r e he
    exact ⟨xs, e1, e2.delS h ((by simpa only [noXS] using n : ∀ e ∈ _, noXs c e.2.2) e he)⟩
  | _, _, .odT q r, n => .odT q fun e he => by
    obtain ⟨xs, e1, e2⟩ := r e he
    exact ⟨xs, e1, e2.delS h ((by simpa only [noXS] using n : ∀ e ∈ _, noXs c e.2.2) e he)⟩
theorem OwnF.delS (h : ∀ b ∈ l, ∀ o, G b = some o → Bad c o) : ∀ {v : List (Str × V)} {s : List (Str × Sl)}, OwnF K G H v s → noXSf c s → OwnF K (DL.delS G l) H v s
  | _, _, .nil, _ => .nil
  | _, _, .cons q r, n => .cons (Own.delS h q (by simp only [noXSf] at n; exact n.1)) (OwnF.delS h r (by simp only [noXSf] at n; exact n.2))
end
end
section
variable {K : PySem.W.Frag} {G H : Hp}
end
section
variable {K : PySem.W.Frag} {W : WX} {Γ Γ2 : Gm} {X : XP} {P : Dt → Gm → Prop} {PO : Sl → Gm → Prop} {i : Nat} {s : Sl} {d : Dt}
end
end DL
namespace L2
open PySem PySem.Spec PyProof.Rows PySem.W
section
variable {X : Cx} {k : Nat} {f C : Addr} {sp : Sp} {pos : Pos} {a b : Expr} {ta tb : TE}
end
end L2
namespace DL
open PySem PySem.Spec L2 PyProof.Rows
section
variable {K : PySem.W.Frag} {W : WX} {Γ Γ' Γ2 Γ3 : Gm} {X : XP} {P : Dt → Gm → Prop} {PO : Sl → Gm → Prop} {te ta tb ti tv : TE} {i j : Nat} {nx : Gm → Prop} {rt : Sl → Gm → Prop} {xc : XP} {bk ct : Gm → Prop} {a C : Addr} {f : Str} {t : TA}
theorem OwnF.length {G H : Hp} : ∀ {vs : List (Str × V)} {fs : List (Str × Sl)}, OwnF K G H vs fs → vs.length = fs.length
  | _, _, .nil => rfl
  | _, _, .cons _ t => by simp [OwnF.length t]
theorem OwnF.look {G H : Hp} {s : Sl} : ∀ {vs : List (Str × V)} {fs : List (Str × Sl)}, OwnF K G H vs fs → fs.lookup f = some s → ∃ v, vs.lookup f = some v ∧ Own K G H v s
  | _, _, .nil, h => by cases h
  | _, _, .cons (f := g) q t, h => by
    rw [List.lookup_cons] at h ⊢
    cases e : (f == g) with
    | true => rw [e] at h; cases h; exact ⟨_, rfl, q⟩
    | false => rw [e] at h; exact OwnF.look t h
end
end DL
namespace DL
open PySem PySem.Spec L2 PyProof.Rows
section
variable {c : Option Addr} {d : Dt} {ds : List Dt} {C C' : Addr} {fs : List (Str × Dt)} {f : Str} {p q r : Prop}
variable {κ : Type} [DecidableEq κ]
end
section
variable {c : Option Addr} {d : Dt} {ds : List Dt} {a C : Addr} {fs : List (Str × Dt)} {ss : List (Str × Sl)} {s : Sl} {f : Str} {p q r : Prop}
end
section
variable {c : Option Addr} {Γ Γ2 : Gm} {x y : Option Sl} {s : Sl} {d : Dt} {i : Nat} {p q r : Prop}
end
section
variable {fs : List (Str × Sl)} {ds : List (Str × Dt)} {f : Str} {d : Dt} {b a C : Addr}
end
section
variable {K : PySem.W.Frag} {W : WX} {Γ Γ' Γ2 Γ3 : Gm} {X : XP} {P : Dt → Gm → Prop} {PO : Sl → Gm → Prop} {te ta tb ti tv : TE} {i j : Nat} {nx : Gm → Prop} {rt : Sl → Gm → Prop} {xc : XP} {bk ct : Gm → Prop} {a b C : Addr} {f g : Str} {t : TA} {s s0 : Sl} {d : Dt} {c : Option Addr} {tw : WX → TE} {fs fs' r r' : List (Str × Sl)}
end
end DL
namespace L2
open PySem PySem.Spec PyProof.Rows
end L2
namespace DL
open PySem PySem.Spec L2 PyProof.Rows
section
variable {K : PySem.W.Frag} {O G G2 H H2 : Hp}
end
section
variable {P : Program} {w : World} {K : PySem.W.Frag} {mg : Str → Option Value} {base : Heap}
end
end DL
namespace DL
open PySem PySem.Spec L2 PyProof.Rows
section
variable {X : Cx} {x : Str} {k j : Nat} {S : DSp} {W : WX} {p pos : Pos} {C f : Addr}
end
section
variable {K : PySem.W.Frag} {W : WX} {Γ : Gm} {X : XP} {PO : Sl → Gm → Prop} {C : Addr} {t : TA} {S : DSp}
end
section
variable {R : Dt → Prop}
instance {x : List (List Key × Dt)} : Wk (dIs (.dT x) .non R) (R (.bl false)) := ⟨fun h => ⟨rfl, h⟩⟩
instance {x : List (List Key × Dt)} : Wk (dIsnt (.dT x) .non R) (R (.bl true)) := ⟨fun h => ⟨rfl, h⟩⟩
instance {x : List (Key × Dt)} : Wk (dIs (.dK x) .non R) (R (.bl false)) := ⟨fun h => ⟨rfl, h⟩⟩
instance {x : List (Key × Dt)} : Wk (dIsnt (.dK x) .non R) (R (.bl true)) := ⟨fun h => ⟨rfl, h⟩⟩
end
section
variable {α β : Type} [DecidableEq α] {κ : Type} [DecidableEq κ]
end
end DL
namespace L2
open PySem PySem.Spec PyProof.Rows
end L2
namespace DL
open PySem PySem.Spec L2
section
variable {K : PySem.W.Frag} {W : WX} {Γ Γ' Γ2 Γ3 : Gm} {X : XP} {P : Dt → Gm → Prop} {i : Nat} {s : Sl} {d : Dt} {b : Addr} {nx : Gm → Prop} {rt : Sl → Gm → Prop} {xc : XP} {bk ct : Gm → Prop} {t : TS} {c : Option Addr}
instance (priority := high) [tt : At Γ i (.fr (.at_ b d))] : Wk (Ev K W (tVar i) Γ P X) (P d Γ) := ⟨fun p O G H σ Q S q x => by
  obtain ⟨v, e, r⟩ := S.getF tt.h
  cases r with
  | at_ r => exact ⟨_, e, q _ G H Γ d (Same.refl _) S r p⟩⟩
end
end DL
namespace L2
open PySem PySem.Spec PyProof.Rows
section
variable {X : Cx}
end
end L2
namespace DL
open PySem PySem.Spec L2
theorem idxOf_le_at {w : Str} : ∀ {ss : List Str} {m : Nat}, ss[m]? = some w → ss.idxOf w ≤ m
  | [], m, h => by simp at h
  | x :: ss, 0, h => by
    obtain rfl : x = w := by simpa using h
    simp
  | x :: ss, m + 1, h => by
    have := idxOf_le_at (ss := ss) (m := m) (by simpa using h)
    rw [List.idxOf_cons]
    cases x == w <;> simp <;> omega
def StrsQ (ds : List Dt) (Q : List Str → Prop) : Prop := ∃ ss, ds = ss.map .str ∧ Q ss
instance {ss : List Str} {Q : List Str → Prop} : Wk (StrsQ (ss.map .str) Q) (Q ss) := ⟨fun q => ⟨ss, rfl, q⟩⟩
instance {Q : List Str → Prop} : Wk (StrsQ [] Q) (Q []) := ⟨fun q => ⟨[], rfl, q⟩⟩
theorem reps_strs {K : PySem.W.Frag} {G : Hp} : ∀ {ss : List Str} {vs : List V}, Reps K G vs (ss.map .str) → vs = ss.map V.str
  | [], _, .nil => rfl
  | s :: ss, _, .cons r t => by
    cases r
    rw [reps_strs (ss := ss) t]; rfl
section
variable {K : PySem.W.Frag} {W : WX} {Γ Γ' Γ2 : Gm} {X : XP} {P : Dt → Gm → Prop} {PO : Sl → Gm → Prop} {te ta tb : TE} {i : Nat} {nx : Gm → Prop} {rt : Sl → Gm → Prop} {xc : XP} {bk ct : Gm → Prop} {a : Addr} {t : TA}
theorem ev_indexS (h : Ev K W ta Γ (fun d Γ1 => IsL d fun ds => StrsQ ds fun ss => Ev K W te Γ1 (fun y Γ2 => IsS y fun k => Side (k ∈ ss) (P (.int ((ss.idxOf k : Nat) : Int)) Γ2)) X) X) : Ev K W (tBM K "list" (rIndex K) ta (tCons te tNil)) Γ P X := fun O G H σ Q S q x =>
  h O G H σ _ S (fun v G1 H1 Γ1 d1 s1 S1 r1 ⟨ds, e1, ss, e2, h2⟩ => by
    subst e1 e2
    cases r1 with
    | @lst ad vs _ ha rs =>
    refine ⟨.inl ⟨rfl, _, SqL.of (S1.g _ _ ha)⟩, h2 O G1 H1 σ _ S1 (fun y G2 H2 Γ2 dy s2 S2 r2 ⟨k, ek, hk, p⟩ => ?_) (x.mono s1)⟩
    subst ek
    cases r2
    have ha2 := S2.g _ _ (s2 _ _ ha)
    rw [reps_strs rs] at ha2
    have lt : ss.idxOf k < ss.length := List.idxOf_lt_length_iff.mpr hk
    have at1 : ss[ss.idxOf k]? = some k := by rw [List.getElem?_eq_getElem lt]; simp
    have eqs : ∀ z : Str, eqV (.str z) (.str k) = decide (z = k) := fun z => by first | rfl | simp [eqV]
    refine ⟨ad, ss.map V.str, .str k, ss.idxOf k, .str k, rfl, rfl, SqL.of ha2, rfl, ?_, by rw [List.getElem?_map, at1]; rfl, by rw [eqs]; simp, fun m z hm hz => ?_, ?_⟩
    · rw [List.all_eq_true]
      intro z hz
      obtain ⟨w, _, rfl⟩ := List.mem_map.mp hz
      rfl
    · rw [List.getElem?_map] at hz
      cases hq : ss[m]? with
      | none => rw [hq] at hz; cases hz
      | some w =>
        rw [hq] at hz
        cases hz
        rw [eqs, decide_eq_false]
        intro e
        subst e
        have := idxOf_le_at hq
        omega
    · exact q _ G2 H2 Γ2 _ (s1.trans s2) S2 (.int _) p) x
end
end DL
namespace L2
open PySem PySem.Spec PyProof.Rows
section
variable {X : Cx} {C : Addr} {bmB : List Value} {B newId initId : String} {x : Str} {p pos pos2 : Pos}
end
end L2
namespace DL
open PySem PySem.Spec L2
section
variable {X : Cx} {x : Str} {C : Addr} {W : WX} {p pos pos2 : Pos}
end
section
variable {K : PySem.W.Frag} {W : WX} {Γ : Gm} {nx : Gm → Prop} {rt : Sl → Gm → Prop} {xc : XP} {bk ct : Gm → Prop} {C : Addr}
end
end DL
namespace L2
open PySem PySem.Spec PyProof.Rows
section
variable {X : Cx}
end
end L2
namespace DL
open PySem PySem.Spec L2
section
variable {K : PySem.W.Frag} {W : WX} {Γ : Gm} {X : XP} {P : Dt → Gm → Prop} {te ta : TE}
instance : Wk (Ev K W (tBM K "list" (rIndex K) ta (tCons te tNil)) Γ P X) (Ev K W ta Γ (fun d Γ1 => IsL d fun ds => StrsQ ds fun ss => Ev K W te Γ1 (fun y Γ2 => IsS y fun k => Side (k ∈ ss) (P (.int ((ss.idxOf k : Nat) : Int)) Γ2)) X) X) := ⟨ev_indexS⟩
end
end DL
namespace L2
open PySem PySem.Spec PyProof.Rows
theorem it_gen {J : It} {n : Nat} {G : Hp → Prop} {Y : Nat → Hp → V → Hp → Prop} (w : Walk J n G Y) {H0 : Hp} {Fin : Hp → Prop} {Body : (Hp → Prop) → V → Hp → Prop} (Pv : Nat → Hp → Prop) (h0 : Pv 0 H0) (hG : ∀ i H, i ≤ n → Pv i H → G H)
    (hs : ∀ i x H H', i < n → Pv i H → Y i H x H' → Body (Pv (i + 1)) x H') (hd : ∀ H, Pv n H → Fin H) :
    ∃ W : Nat → Nat → Hp → Prop, (∃ m, W 0 m H0) ∧ ∀ i m H, W i m H → (J.stop i H ∧ Fin H) ∨ (J.go i H ∧ ∃ Nx : Hp → Prop, (∀ H', Nx H' → ∃ m', m' < m ∧ W (i + 1) m' H') ∧ ∀ x H', J.yld i H x H' → Body Nx x H') := by
  refine ⟨fun i m H => m = n - i ∧ i ≤ n ∧ Pv i H, ⟨n, by simp, Nat.zero_le _, h0⟩, ?_⟩
  rintro i m H ⟨rfl, hi, p⟩
  have q := hG i H hi p
  by_cases hlt : i < n
  · exact .inr ⟨w.goes i H hlt q, Pv (i + 1), fun H' p' => ⟨n - (i + 1), by omega, rfl, hlt, p'⟩, fun x H' y => hs i x H H' hlt p (w.yields i H x H' hlt q y)⟩
  · have e : i = n := by omega
    subst e
    exact .inl ⟨w.stops H q, hd H p⟩
end L2
namespace DL
open PySem PySem.Spec L2
section
variable {K : PySem.W.Frag} {W : WX} {Γ Γ2 : Gm} {X : XP} {PO : Sl → Gm → Prop} {te : TE} {i : Nat} {a : Addr} {xs : List Dt} {O G H : Hp} {σ : St}
theorem Sta.skip (S : Sta K O G H σ Γ) (x : Option V) : Sta K O G H (x :: σ) (none :: Γ) := ⟨S.g, S.o, S.d, .no S.sl, S.nd, S.ng, S.no, S.om⟩
end
section
variable {K : PySem.W.Frag} {W : WX} {Γ : Gm} {X : XP} {te : TE} {tt tt1 : TT} {g g1 : TG} {wi wi1 : TI} {vs vs1 : List Nat}
def LC1 (K : PySem.W.Frag) (g1 : TG) (tt1 : TT) (te : TE) (vs1 : List Nat) (E : List Dt → Gm → Prop) (acc : List Dt) (ys : List Dt) (Γ : Gm) : Prop :=
  ∃ I1 : Nat → List Dt → Gm → Prop, I1 0 acc Γ ∧
    (∀ j y acc1 Γ6, ys[j]? = some y → I1 j acc1 Γ6 → GoG K WF g1 y Γ6 (fun Γ7 => EvT K WF tt1 Γ7 (fun b1 Γ8 => (b1 = true → Ev K WF te Γ8 (fun z Γ9 => acc1.length < 1000000 ∧ I1 (j + 1) (acc1 ++ [z]) (wipeG Γ9 vs1)) XF) ∧ (b1 = false → I1 (j + 1) acc1 (wipeG Γ8 vs1))) XF) XF) ∧
    (∀ acc1 Γ6, I1 ys.length acc1 Γ6 → E acc1 Γ6)
def LC2 (K : PySem.W.Frag) (g : TG) (tt : TT) (wi1 : TI) (g1 : TG) (tt1 : TT) (te : TE) (vs vs1 : List Nat) (P : Sl → Gm → Prop) (xs : List Dt) (Γ : Gm) : Prop :=
  ∃ I : Nat → List Dt → Gm → Prop, I 0 [] Γ ∧
    (∀ k x acc Γ2, xs[k]? = some x → I k acc Γ2 → GoG K WF g x Γ2 (fun Γ3 => EvT K WF tt Γ3 (fun b Γ4 => (b = true → EvI K WF wi1 Γ4 (fun ys Γ5 => LC1 K g1 tt1 te vs1 (fun acc1 Γ6 => I (k + 1) acc1 (wipeG Γ6 vs)) acc ys (wipeG Γ5 vs1)) XF) ∧ (b = false → I (k + 1) acc (wipeG Γ4 vs))) XF) XF) ∧
    (∀ a acc Γ2, I xs.length acc Γ2 → P (.ol a acc) Γ2)
theorem evo_lc2 {P : Sl → Gm → Prop} (hw : Wr g vs) (hm : MoG g) (hw1 : Wr g1 vs1) (hm1 : MoG g1) (h : EvI K W wi Γ (fun xs Γ1 => LC2 K g tt wi1 g1 tt1 te vs vs1 P xs (wipeG Γ1 vs)) X) : EvO K W (tLc2 wi g tt wi1 g1 tt1 te vs vs1) Γ P X := fun O G H σ Q S q x =>
  h O G H σ _ S (fun J G1 H1 Γ1 xs n GG Y s1 S1 w hn hG hY ⟨I, h0, hs, hd⟩ => by
    intro D nD
    have oD : O D = none := S1.o.free nD
    have gD : G1 D = none := S1.g.free nD
    have fD : D ∉ fps Γ1 := fun z => S1.there D z nD
    have xf : ∀ {O' G' : Hp} {σ' : St}, XOk K WF O' G' σ' XF := fun {O' G' σ'} C d fs G2 H2 Γ2 _ _ _ z => z
    refine it_gen w (Body := fun Nx x H' => g x (wipe σ vs) H' fun σ2 H2 => wipe σ2 vs = wipe σ vs ∧ tt σ2 H2 fun b H3 =>
        if b = true then wi1 σ2 H3 fun J1 H4 => ∃ W1 : Nat → Nat → Hp → Prop, (∃ m, W1 0 m H4) ∧ ∀ j k H, W1 j k H →
          (J1.stop j H ∧ Nx H) ∨ (J1.go j H ∧ ∃ Nx1 : Hp → Prop, (∀ H', Nx1 H' → ∃ k', k' < k ∧ W1 (j + 1) k' H') ∧ ∀ x H', J1.yld j H x H' → g1 x (wipe σ2 vs1) H' fun σ3 H5 => wipe σ3 vs1 = wipe σ2 vs1 ∧ tt1 σ3 H5 fun b H6 =>
            if b = true then te σ3 H6 fun y H7 => ∃ acc, H7 D = some (.lst acc) ∧ acc.length < sizeLine ∧ Nx1 (upd H7 D (.lst (acc ++ [y]))) else Nx1 H6)
        else Nx H3) (fun k H' => ∃ (G2 : Hp) (Γ2 : Gm) (acc : List Dt) (av : List V), Same G1 G2 ∧ Sta K (upd O D (.lst av)) G2 H' (wipe σ vs) Γ2 ∧ Reps K G2 av acc ∧ I k acc Γ2) ?_ (fun k H' _ ⟨G2, Γ2, acc, av, s2, S2, _⟩ => hG H' (s2.trans S2.g)) ?_ ?_
    · have T := (S1.ext (Ext.raw (ob := .lst []) S1.g nD)).toO upd_same oD gD fD trivial
      exact ⟨G1, _, [], [], Same.refl _, sta_wipe T vs, .nil, h0⟩
    · rintro k v H2 H3 hk ⟨G2, Γ2, acc, av, s2, S2, ra, p⟩ y
      have hx : xs[k]? = some (xs[k]'(by omega)) := by simp
      obtain ⟨G3, ex, r⟩ := hY k _ v G2 H2 H3 hx s2 S2.g y
      refine hm _ _ _ _ _ (fun σ2 H2 z => (fun (e : wipe σ2 vs = wipe σ vs) => ⟨e, z.2 e⟩) (z.1.trans (wipe_in fun v hv => hv))) (hw v (wipe σ vs) H3 (fun σ2 H2 => wipe σ2 vs = wipe σ vs → tt σ2 H2 fun b H3 =>
        if b = true then wi1 σ2 H3 fun J1 H4 => ∃ W1 : Nat → Nat → Hp → Prop, (∃ m, W1 0 m H4) ∧ ∀ j k2 H, W1 j k2 H →
          (J1.stop j H ∧ ∃ (G2 : Hp) (Γ2 : Gm) (acc : List Dt) (av : List V), Same G1 G2 ∧ Sta K (upd O D (.lst av)) G2 H (wipe σ vs) Γ2 ∧ Reps K G2 av acc ∧ I (k + 1) acc Γ2) ∨ (J1.go j H ∧ ∃ Nx1 : Hp → Prop, (∀ H', Nx1 H' → ∃ k', k' < k2 ∧ W1 (j + 1) k' H') ∧ ∀ x H', J1.yld j H x H' → g1 x (wipe σ2 vs1) H' fun σ3 H5 => wipe σ3 vs1 = wipe σ2 vs1 ∧ tt1 σ3 H5 fun b H6 =>
            if b = true then te σ3 H6 fun y H7 => ∃ acc, H7 D = some (.lst acc) ∧ acc.length < sizeLine ∧ Nx1 (upd H7 D (.lst (acc ++ [y]))) else Nx1 H6)
        else ∃ (G2 : Hp) (Γ2 : Gm) (acc : List Dt) (av : List V), Same G1 G2 ∧ Sta K (upd O D (.lst av)) G2 H3 (wipe σ vs) Γ2 ∧ Reps K G2 av acc ∧ I (k + 1) acc Γ2) ?_)
      refine hs k _ acc Γ2 hx p _ G3 H3 _ v _ (S2.ext ex) r (fun G4 H4 σ4 Γ4 s4 S4 p4 e4 => ?_) fun σ5 => xf
      have r4 : Reps K G4 av acc := (ra.mono ex.g).mono s4
      have s14 : Same G1 G4 := s2.trans (ex.g.trans s4)
      refine p4 _ G4 H4 σ4 _ S4 (fun b G5 H5 Γ5 s5 S5 p5 => ?_) xf
      cases b with
      | false =>
        refine iteF ⟨G5, _, acc, av, s14.trans s5, ?_, r4.mono s5, p5.2 rfl⟩
        have T := sta_wipe S5 vs
        rw [e4] at T
        exact T
      | true =>
        refine iteT (p5.1 rfl _ G5 H5 σ4 _ S5 (fun J1 G6 H6 Γ6 ys n1 GG1 Y1 s6 S6 w1 hn1 hG1 hY1 ⟨I1, i0, is, id⟩ => ?_) xf)
        have r6 : Reps K G6 av acc := (r4.mono s5).mono s6
        have s16 : Same G1 G6 := (s14.trans s5).trans s6
        refine it_gen w1 (Body := fun Nx1 x H' => g1 x (wipe σ4 vs1) H' fun σ3 H5 => wipe σ3 vs1 = wipe σ4 vs1 ∧ tt1 σ3 H5 fun b H6 =>
            if b = true then te σ3 H6 fun y H7 => ∃ acc, H7 D = some (.lst acc) ∧ acc.length < sizeLine ∧ Nx1 (upd H7 D (.lst (acc ++ [y]))) else Nx1 H6) (fun j H' => ∃ (G2 : Hp) (Γ2 : Gm) (acc : List Dt) (av : List V), Same G6 G2 ∧ Sta K (upd O D (.lst av)) G2 H' (wipe σ4 vs1) Γ2 ∧ Reps K G2 av acc ∧ I1 j acc Γ2) ?_ (fun k H' _ ⟨G2, Γ2, acc, av, s2, S2, _⟩ => hG1 H' (s2.trans S2.g)) ?_ ?_
        · exact ⟨G6, _, acc, av, Same.refl _, sta_wipe S6 vs1, r6, i0⟩
        · rintro j u H7 H8 hj ⟨G7, Γ7, acc1, av1, s7, S7, ra1, p7⟩ y1
          have hy : ys[j]? = some (ys[j]'(by omega)) := by simp
          obtain ⟨G8, ex8, r8⟩ := hY1 j _ u G7 H7 H8 hy s7 S7.g y1
          refine hm1 _ _ _ _ _ (fun σ2 H2 z => (fun (e : wipe σ2 vs1 = wipe σ4 vs1) => ⟨e, z.2 e⟩) (z.1.trans (wipe_in fun v hv => hv))) (hw1 u (wipe σ4 vs1) H8 (fun σ2 H2 => wipe σ2 vs1 = wipe σ4 vs1 → tt1 σ2 H2 fun b H3 => if b = true then te σ2 H3 fun y H4 => ∃ acc, H4 D = some (HO.lst acc) ∧ acc.length < sizeLine ∧
            ∃ (G2 : Hp) (Γ2 : Gm) (acc_1 : List Dt) (av : List V), Same G6 G2 ∧ Sta K (upd O D (HO.lst av)) G2 (upd H4 D (HO.lst (acc ++ [y]))) (wipe σ4 vs1) Γ2 ∧ Reps K G2 av acc_1 ∧ I1 (j + 1) acc_1 Γ2
            else ∃ (G2 : Hp) (Γ2 : Gm) (acc : List Dt) (av : List V), Same G6 G2 ∧ Sta K (upd O D (HO.lst av)) G2 H3 (wipe σ4 vs1) Γ2 ∧ Reps K G2 av acc ∧ I1 (j + 1) acc Γ2) ?_)
          refine is j _ acc1 Γ7 hy p7 _ G8 H8 _ u _ (S7.ext ex8) r8 (fun G9 H9 σ9 Γ9 s9 S9 p9 e9 => ?_) fun σ5 => xf
          have r9 : Reps K G9 av1 acc1 := (ra1.mono ex8.g).mono s9
          have s69 : Same G6 G9 := s7.trans (ex8.g.trans s9)
          refine p9 _ G9 H9 σ9 _ S9 (fun b1 GA HA ΓA sA SA pA => ?_) xf
          cases b1 with
          | false =>
            refine iteF ⟨GA, _, acc1, av1, s69.trans sA, ?_, r9.mono sA, pA.2 rfl⟩
            have T := sta_wipe SA vs1
            rw [e9] at T
            exact T
          | true =>
            refine iteT (pA.1 rfl _ GA HA σ9 _ SA (fun y GB HB ΓB dy sB SB rB pB => ?_) xf)
            refine ⟨av1, SB.o D _ upd_same, by rw [((r9.mono sA).mono sB).length]; exact Nat.lt_of_lt_of_le pB.1 (by decide), GB, _, acc1 ++ [dy], av1 ++ [y], s69.trans (sA.trans sB), ?_, ((r9.mono sA).mono sB).append (.cons rB .nil), pB.2⟩
            have T := sta_wipe (SB.updO (o' := .lst (av1 ++ [y])) trivial) vs1
            rw [e9] at T
            exact T
        · rintro H7 ⟨G7, Γ7, acc1, av1, s7, S7, ra1, p7⟩
          refine ⟨G7, wipeG Γ7 vs, acc1, av1, s16.trans s7, ?_, ra1, id _ _ (by rw [← hn1]; exact p7)⟩
          have T := sta_wipe (sta_unwipe S7) vs
          rw [e4] at T
          exact T
    · rintro H2 ⟨G2, Γ2, acc, av, s2, S2, ra, p⟩
      have T := sta_unwipe S2
      have hD : H2 D = some (.lst av) := T.o D _ upd_same
      have gD2 : G2 D = none := T.d D (by rw [upd_same]; simp)
      have fD2 : D ∉ fps Γ2 := fun z => by have n := T.no D z; rw [upd_same] at n; cases n
      refine q (.ref D) G2 H2 Γ2 (.ol D acc) (s1.trans s2) ((T.offO oD).push (.ol hD ra) (by simp [Sl.fp]) ?_ ?_ ?_) (hd D acc Γ2 (by rw [← hn]; exact p))
      · intro b hb; simp [Sl.fp] at hb; subst hb; exact gD2
      · intro b hb; simp [Sl.fp] at hb; subst hb; exact oD
      · intro b hb; simp [Sl.fp] at hb; subst hb; exact fD2) x
variable {Γ' : Gm} {P : Sl → Gm → Prop} {xs ys : List Dt}
instance [h : WrC g vs] [h1 : WrC g1 vs1] : Wk (EvO K W (tLc2 wi g tt wi1 g1 tt1 te vs vs1) Γ P X) (EvI K W wi Γ (fun xs Γ1 => LC2 K g tt wi1 g1 tt1 te vs vs1 P xs (wipeG Γ1 vs)) X) := ⟨fun q => evo_lc2 h.h h.m h1.h h1.m q⟩
instance {P : Dt → Gm → Prop} : Wk (Ev K W (tLc2 wi g tt wi1 g1 tt1 te vs vs1) Γ P X) (EvO K W (tLc2 wi g tt wi1 g1 tt1 te vs vs1) Γ (fun s Γ2 => Fz s fun d => P d Γ2) X) := ⟨ev_frz⟩
instance {nx : Gm → Prop} {rt : Sl → Gm → Prop} {xc : XP} {bk ct : Gm → Prop} {i : Nat} : Wk (Go K W (tAsg (tLc2 wi g tt wi1 g1 tt1 te vs vs1) (gName i)) Γ ⟨nx, rt, xc, bk, ct⟩) (EvO K W (tLc2 wi g tt wi1 g1 tt1 te vs vs1) Γ (fun s Γ1 => nx (Γ1.set i (some s))) xc) := ⟨g_setO⟩
instance (priority := 2000) {l : List Nat} [h : WipeC Γ l Γ'] : Wk (LC2 K g tt wi1 g1 tt1 te vs vs1 P xs (wipeG Γ l)) (LC2 K g tt wi1 g1 tt1 te vs vs1 P xs Γ') := ⟨fun q => by rw [h.h]; exact q⟩
instance (priority := 2000) {l : List Nat} {E : List Dt → Gm → Prop} {acc : List Dt} [h : WipeC Γ l Γ'] : Wk (LC1 K g1 tt1 te vs1 E acc ys (wipeG Γ l)) (LC1 K g1 tt1 te vs1 E acc ys Γ') := ⟨fun q => by rw [h.h]; exact q⟩
end
end DL
namespace DL
open PySem PySem.Spec L2
open HandSHeadRun PySem.W in
theorem run_parts {r : OpenRow} {q : Program} {H : Hook} {ob : SharedT → H.α} {M : Nat} {loose : List PySem.Str} {w : World}
    (hA : ∀ os : OsState, (HandSHeadRun.endF (HandSHeadRun.stepQ (HandSHeadRun.denQ HandSHeadRun.tabQ) r.prog w) M r.prog w os).map (fun s => HandSHeadRun.looksF r.prog (boot_heap w.params) s.abs) = some true)
    (hB : ∀ os : OsState, (HandSHeadRun.endF (HandSHeadRun.stepQ (HandSHeadRun.denQ HandSHeadRun.tabQ) r.prog w) M r.prog w os).map (fun s => HandSHeadRun.seenQ q loose (importedModules r.prog.main.body) (fun s => xlAt q [] s && recOk r.toRowW.records s) s.abs) = some (openGood q loose))
    (hC : ∀ os : OsState, (HandSHeadRun.endF (HandSHeadRun.stepQ (HandSHeadRun.denQ HandSHeadRun.tabQ) r.prog w) M r.prog w os).map ob = some (H.val w)) : HandSHeadRun.RunEq r q H ob M loose w := fun os => by
  have a := hA os
  have b := hB os
  have c := hC os
  cases e : HandSHeadRun.endF (HandSHeadRun.stepQ (HandSHeadRun.denQ HandSHeadRun.tabQ) r.prog w) M r.prog w os with
  | none => rw [e] at a; cases a
  | some s =>
    rw [e, Option.map_some, Option.some.injEq] at a b c
    rw [Option.map_some, a, b, c]
end DL
namespace DL
open PySem PySem.Spec L2
section
variable {K : PySem.W.Frag} {W : WX} {Γ Γ' : Gm} {X : XP} {te : TE} {tt tt1 : TT} {g g1 : TG} {wi wi1 : TI} {vs vs1 : List Nat} {P : Sl → Gm → Prop}
theorem EvI.imp {P P' : List Dt → Gm → Prop} (h : EvI K W wi Γ P X) (k : ∀ xs Γ2, P xs Γ2 → P' xs Γ2) : EvI K W wi Γ P' X := fun O G H σ R S q x =>
  h O G H σ R S (fun J G2 H2 Γ2 xs n GG Y s S2 w e gg y p => q J G2 H2 Γ2 xs n GG Y s S2 w e gg y (k xs Γ2 p)) x
theorem GoG.imp {d : Dt} {P P' : Gm → Prop} (h : GoG K W g d Γ P X) (k : ∀ Γ2, P Γ2 → P' Γ2) : GoG K W g d Γ P' X := fun O G H σ v Q S r q e =>
  h O G H σ v Q S r (fun G2 H2 σ2 Γ2 s S2 p => q G2 H2 σ2 Γ2 s S2 (k Γ2 p)) e
end
end DL
namespace L2
open PySem PySem.Spec PySem.W PyProof.Rows
def scI : V → V → Bool
  | .int _, .int _ => true
  | .non, .non => true
  | .non, .int _ => true
  | .int _, .non => true
  | .bl _, .bl _ => true
  | .str _, .str _ => true
  | _, _ => false
def eqKV (kvs lvs : List (Key × V)) : Bool := kvs.length == lvs.length && kvs.all fun p => decide (valV lvs p.1 = some p.2)
def rEqK : R2 := fun x y H Q => ∃ (a b : Addr) (kvs lvs : List (Key × V)), x = .ref a ∧ y = .ref b ∧ Rd H a (.dK kvs) ∧ Rd H b (.dK lvs) ∧ (∀ p ∈ kvs, ∀ y, valV lvs p.1 = some y → scI p.2 y = true) ∧ Q (.bl (eqKV kvs lvs)) H
def rNeK : R2 := fun x y H Q => ∃ (a b : Addr) (kvs lvs : List (Key × V)), x = .ref a ∧ y = .ref b ∧ Rd H a (.dK kvs) ∧ Rd H b (.dK lvs) ∧ (∀ p ∈ kvs, ∀ y, valV lvs p.1 = some y → scI p.2 y = true) ∧ Q (.bl (!eqKV kvs lvs)) H
section
variable {X : Cx}
end
end L2
namespace DL
open PySem PySem.Spec L2
def scD : Dt → Dt → Bool
  | .int _, .int _ => true
  | .non, .non => true
  | .non, .int _ => true
  | .int _, .non => true
  | .bl _, .bl _ => true
  | .str _, .str _ => true
  | _, _ => false
def eqE (lvs : List (Key × Dt)) (p : Key × Dt) : Bool := match vA lvs p.1 with
  | some y => eqS p.2 y == some true
  | none => false
def eqKD (kvs lvs : List (Key × Dt)) : Bool := kvs.length == lvs.length && kvs.all (eqE lvs)
def okKD (kvs lvs : List (Key × Dt)) : Prop := ∀ p ∈ kvs, ∀ y, vA lvs p.1 = some y → scD p.2 y = true
def dEqK (x y : Dt) (R : Dt → Prop) : Prop := ∃ kvs lvs, x = .dK kvs ∧ y = .dK lvs ∧ okKD kvs lvs ∧ R (.bl (eqKD kvs lvs))
def dNeK (x y : Dt) (R : Dt → Prop) : Prop := ∃ kvs lvs, x = .dK kvs ∧ y = .dK lvs ∧ okKD kvs lvs ∧ R (.bl (!eqKD kvs lvs))
section
variable {K : PySem.W.Frag} {G : Hp}
theorem repK_val : ∀ {lv : List (Key × V)} {lvs : List (Key × Dt)}, RepK K G lv lvs → ∀ (k : Key), (valV lv k = none ∧ vA lvs k = none) ∨ ∃ y d, valV lv k = some y ∧ vA lvs k = some d ∧ Rep K G y d
  | _, _, .nil, k => .inl ⟨rfl, rfl⟩
  | (f, v) :: vs, (_, d) :: ds, .cons r t, k => by
    by_cases e : f = k
    · exact .inr ⟨v, d, by simp [valV, e], by simp [vA, e], r⟩
    · have e1 : valV ((f, v) :: vs) k = valV vs k := by simp [valV, e]
      have e2 : vA ((f, d) :: ds) k = vA ds k := by simp [vA, e]
      rw [e1, e2]
      exact repK_val t k
theorem sc_ok {x y : V} {dx dy : Dt} (rx : Rep K G x dx) (ry : Rep K G y dy) (h : scD dx dy = true) : scI x y = true ∧ decide (x = y) = (eqS dx dy == some true) := by
  cases rx <;> cases ry <;> simp [scD] at h <;> simp [scI, eqS]
theorem repK_eq {lv : List (Key × V)} {lvs : List (Key × Dt)} (hl : RepK K G lv lvs) : ∀ {kv : List (Key × V)} {kvs : List (Key × Dt)}, RepK K G kv kvs → okKD kvs lvs →
    (∀ p ∈ kv, ∀ y, valV lv p.1 = some y → scI p.2 y = true) ∧ (kv.all fun p => decide (valV lv p.1 = some p.2)) = kvs.all (eqE lvs)
  | _, _, .nil, _ => ⟨fun p h => (nomatch h), rfl⟩
  | (f, v) :: vs, (_, d) :: ds, .cons r t, h => by
    obtain ⟨h1, h2⟩ := repK_eq hl t fun p hp => h p (List.mem_cons_of_mem _ hp)
    rcases repK_val hl f with ⟨e1, e2⟩ | ⟨y, dy, e1, e2, ry⟩
    · refine ⟨fun p hp y hy => ?_, ?_⟩
      · rcases List.mem_cons.mp hp with rfl | hp
        · rw [e1] at hy; cases hy
        · exact h1 p hp y hy
      · rw [List.all_cons, List.all_cons, h2]
        congr 1
        simp [eqE, e1, e2]
    · obtain ⟨s1, s2⟩ := sc_ok r ry (h (f, d) (by simp) dy e2)
      refine ⟨fun p hp z hz => ?_, ?_⟩
      · rcases List.mem_cons.mp hp with rfl | hp
        · rw [e1] at hz; cases hz; exact s1
        · exact h1 p hp z hz
      · rw [List.all_cons, List.all_cons, h2]
        congr 1
        simp only [eqE, e2, ← s2, e1]
        by_cases g : v = y
        · subst g; simp
        · rw [decide_eq_false g, decide_eq_false (fun z => g (Option.some.inj z).symm)]
theorem repK_len : ∀ {kv : List (Key × V)} {kvs : List (Key × Dt)}, RepK K G kv kvs → kv.length = kvs.length
  | _, _, .nil => rfl
  | _ :: _, _ :: _, .cons _ t => by simp [repK_len t]
theorem rd_eqK : RD K rEqK dEqK := fun G H x y dx dy R Q s rx ry ⟨kvs, lvs, e1, e2, ok, p⟩ q => by
  subst e1 e2
  cases rx with
  | @dK a oa av _ ga ra =>
    cases ry with
    | @dK b ob bv _ gb rb =>
      obtain ⟨h1, h2⟩ := repK_eq rb ra ok
      refine ⟨_, _, av, bv, rfl, rfl, .inr ⟨_, s _ _ ga⟩, .inr ⟨_, s _ _ gb⟩, h1, ?_⟩
      unfold eqKV
      rw [h2, repK_len ra, repK_len rb]
      exact q _ G H _ (Ext.refl s) (.bl _) p
theorem rd_neK : RD K rNeK dNeK := fun G H x y dx dy R Q s rx ry ⟨kvs, lvs, e1, e2, ok, p⟩ q => by
  subst e1 e2
  cases rx with
  | @dK a oa av _ ga ra =>
    cases ry with
    | @dK b ob bv _ gb rb =>
      obtain ⟨h1, h2⟩ := repK_eq rb ra ok
      refine ⟨_, _, av, bv, rfl, rfl, .inr ⟨_, s _ _ ga⟩, .inr ⟨_, s _ _ gb⟩, h1, ?_⟩
      unfold eqKV
      rw [h2, repK_len ra, repK_len rb]
      exact q _ G H _ (Ext.refl s) (.bl _) p
instance : OpC K rEqK dEqK := ⟨rd_eqK⟩
instance : OpC K rNeK dNeK := ⟨rd_neK⟩
end
instance {x y : List (Key × Dt)} {R : Dt → Prop} : Wk (dEqK (.dK x) (.dK y) R) (Side (okKD x y) (R (.bl (eqKD x y)))) := ⟨fun h => ⟨_, _, rfl, rfl, h.1, h.2⟩⟩
instance {x y : List (Key × Dt)} {R : Dt → Prop} : Wk (dNeK (.dK x) (.dK y) R) (Side (okKD x y) (R (.bl (!eqKD x y)))) := ⟨fun h => ⟨_, _, rfl, rfl, h.1, h.2⟩⟩
end DL
namespace L2
open PySem PySem.Spec PyProof.Rows
section
variable {X : Cx}
end
end L2
namespace DL
open PySem PySem.Spec L2
section
variable {K : PySem.W.Frag} {W : WX} {Γ Γ' : Gm} {X : XP} {P : Bool → Gm → Prop} {i : Nat} {s : Sl} {d : Dt} {c : Option Addr} {tw : WX → TT}
end
end DL
namespace L2
open PySem PySem.Spec RT
end L2
namespace DL
open PySem PySem.Spec RT L2
section
variable {K : PySem.W.Frag} {W : WX} {Γ : Gm} {X : XP} {PI : List Dt → Gm → Prop}
theorem ei_revA {te : TE} (h : Ev K W te Γ (fun d Γ1 => ∃ ds, d = .lst ds ∧ PI ds.reverse Γ1) X) : EvI K W (iRevA K te) Γ PI X := fun O G H σ R S q x =>
  h O G H σ _ S (fun v G1 H1 Γ1 dd s1 S1 r ⟨ds, e, p⟩ => by
    subst e
    cases r with
    | @lst ad vs _ ha rs =>
      have hl := rs.length
      refine ⟨ad, vs, rfl, .inl ⟨SqL.of (S1.g _ _ ha), q _ G1 H1 Γ1 _ _ _ _ s1 S1 (walk_rev (K := K) (a := ad) (xs := vs)) (by rw [List.length_reverse, hl]) (fun H' s' => SqL.of (s' _ _ ha)) (fun k x v G2 H2 H3 hx s2 g2 y => ?_) p⟩⟩
      obtain ⟨rfl, hv⟩ := y
      have hk : k < ds.reverse.length := (List.getElem?_eq_some_iff.mp hx).1
      rw [List.length_reverse] at hk
      rw [List.getElem?_reverse hk] at hx
      rw [hl] at hv
      obtain ⟨d', hd', rr⟩ := rs.get' hv
      rw [hx] at hd'; cases hd'
      exact ⟨G2, Ext.refl g2, rr.mono s2⟩) x
def LstQ (d : Dt) (Q : List Dt → Prop) : Prop := ∃ ds, d = .lst ds ∧ Q ds
instance {ds : List Dt} {Q : List Dt → Prop} : Wk (LstQ (.lst ds) Q) (Q ds) := ⟨fun q => ⟨ds, rfl, q⟩⟩
instance {te : TE} : Wk (EvI K W (iRevA K te) Γ PI X) (Ev K W te Γ (fun d Γ1 => LstQ d fun ds => PI ds.reverse Γ1) X) := ⟨ei_revA⟩
end
end DL
namespace DL
open PySem PySem.Spec L2
section
variable {K : PySem.W.Frag} {W : WX} {Γ : Gm} {X : XP} {P : Dt → Gm → Prop} {ta tb tc : TE}
theorem ev_chain {r r' : R2} {ρ ρ' : Dt → Dt → (Dt → Prop) → Prop} (hr : RD K r ρ) (hr' : RD K r' ρ') (h : Ev K W ta Γ (fun x Γ1 => Ev K W tb Γ1 (fun y Γ2 => ρ x y fun z => IsB z fun b => Br b (Ev K W tc Γ2 (fun w Γ3 => ρ' y w fun v => P v Γ3) X) (P (.bl false) Γ2)) X) X) : Ev K W (tChain r r' ta tb tc) Γ P X := fun O G H σ Q S q x =>
  h O G H σ _ S (fun v1 G1 H1 Γ1 d1 s1 S1 r1 h1 => h1 O G1 H1 σ _ S1 (fun v2 G2 H2 Γ2 d2 s2 S2 r2 h2 =>
    hr G2 H2 v1 v2 d1 d2 _ _ S2.g (r1.mono s2) r2 h2 fun v G3 H3 d e r3 p => by
      obtain ⟨b, rfl, p⟩ := p
      cases r3
      refine ⟨b, rfl, ?_⟩
      cases b with
      | false =>
        rw [if_neg (by simp)]
        exact q (.bl false) G3 H3 Γ2 (.bl false) (s1.trans (s2.trans e.g)) (S2.ext e) (.bl _) (p.2 rfl)
      | true =>
        rw [if_pos rfl]
        exact (p.1 rfl) O G3 H3 σ _ (S2.ext e) (fun v3 G4 H4 Γ3 d3 s3 S3 r4 h3 => hr' G4 H4 v2 v3 d2 d3 _ Q S3.g ((r2.mono e.g).mono s3) r4 h3 fun v G5 H5 d' e' r5 p' => q v G5 H5 Γ3 d' (s1.trans (s2.trans (e.g.trans (s3.trans e'.g)))) (S3.ext e') r5 p') ((x.mono (s1.trans s2)).mono e.g)) (x.mono s1)) x
instance {r r' : R2} {ρ ρ' : Dt → Dt → (Dt → Prop) → Prop} [o : OpC K r ρ] [o' : OpC K r' ρ'] : Wk (Ev K W (tChain r r' ta tb tc) Γ P X) (Ev K W ta Γ (fun x Γ1 => Ev K W tb Γ1 (fun y Γ2 => ρ x y fun z => IsB z fun b => Br b (Ev K W tc Γ2 (fun w Γ3 => ρ' y w fun v => P v Γ3) X) (P (.bl false) Γ2)) X) X) := ⟨ev_chain o.rd o'.rd⟩
end
end DL
namespace DL
open PySem PySem.Spec L2
section
variable {X : Cx} {x m : Str} {C : Addr} {W : WX} {j : Nat} {p p2 pos pos2 : Pos}
end
end DL
namespace L2
open PySem PySem.Spec PyProof.Rows
section
variable {X : Cx} {pos : Pos} {k v : Expr} {tk tv : TE}
end
end L2
namespace DL
open PySem PySem.Spec L2
section
variable {K : PySem.W.Frag} {W : WX} {Γ : Gm} {X : XP} {P : Sl → Gm → Prop} {tk tv : TE}
end
end DL
namespace L2
open PySem PySem.Spec PyProof.Rows
section
variable {X : Cx} {a b c d : Expr} {ta tb tc td : TE} {pos : Pos}
end
end L2
namespace DL
open PySem PySem.Spec L2
section
variable {K : PySem.W.Frag} {W : WX} {Γ : Gm} {X : XP} {P : Dt → Gm → Prop} {ta tb tc td : TE}
end
end DL
namespace IX
open PySem PySem.Spec PyProof.Rows L2
variable {Z : Cx}
end IX
namespace DL
open PySem PySem.Spec L2
end DL
namespace DL
open PySem PySem.Spec L2
section
variable {K : PySem.W.Frag} {W : WX} {Γ Γ' : Gm} {X : XP} {P : Dt → Gm → Prop} {i : Nat}
end
end DL
namespace L2
open PySem PySem.Spec PyProof.Rows
section
variable {X : Cx}
def rInT (K : PySem.W.Frag) (neg : Bool) : R2 := fun x y H Q => ∃ d ds, Dp K H x d ∧ (Dp K H y (.list ds) ∨ Dp K H y (.tuple ds)) ∧ d.canLay0 = true ∧ d.depth ≤ 8 ∧ PyData.canLayAll0 ds = true ∧ Q (.bl (neg ^^ (ds.any fun z => PyData.eqv z d))) H
end
end L2
namespace DL
open PySem PySem.Spec L2
theorem any_ok {x : Dt} {p : PyData} (hx : x.py = some p) : ∀ {ds : List Dt} {ps : List PyData}, pyL ds = some ps → (ps.any fun z => PyData.eqv z p) = ds.any fun z => eqD z x
  | [], ps, h => by simp [pyL] at h; subst h; rfl
  | d :: ds, ps, h => by
    simp only [pyL] at h
    cases e1 : d.py with
    | none => rw [e1] at h; cases h
    | some p1 =>
      cases e2 : pyL ds with
      | none => rw [e1, e2] at h; cases h
      | some p2 =>
        rw [e1, e2] at h
        cases h
        rw [List.any_cons, List.any_cons, eqD_ok e1 hx, any_ok hx e2]
def dInT (neg : Bool) (x y : Dt) (R : Dt → Prop) : Prop := ∃ n ds, Pl n x ∧ n ≤ 8 ∧ ((y = .lst ds ∧ ∃ m, Pl m (.lst ds)) ∨ (y = .tup ds ∧ ∃ m, Pl m (.tup ds))) ∧ R (.bl (neg ^^ (ds.any fun z => eqD z x)))
section
variable {K : PySem.W.Frag}
theorem rd_inT (neg : Bool) : RD K (rInT K neg) (dInT neg) := fun G H x y dx dy R Q s rx ry ⟨n, ds, hx, hn, hy, p⟩ q => by
  obtain ⟨px, e1, c1, d1⟩ := hx.py
  rcases hy with ⟨rfl, m, hy⟩ | ⟨rfl, m, hy⟩
  all_goals
    obtain ⟨py, e2, c2, _⟩ := hy.py
    have e3 := e2
    simp only [Dt.py, Option.map_eq_some_iff] at e3
    obtain ⟨ps, e4, rfl⟩ := e3
  · exact ⟨px, ps, rep_dp s rx e1, .inl (rep_dp s ry e2), c1, by omega, c2, by rw [any_ok e1 e4]; exact q _ G H _ (Ext.refl s) (.bl _) p⟩
  · exact ⟨px, ps, rep_dp s rx e1, .inr (rep_dp s ry e2), c1, by omega, c2, by rw [any_ok e1 e4]; exact q _ G H _ (Ext.refl s) (.bl _) p⟩
instance {neg : Bool} : OpC K (rInT K neg) (dInT neg) := ⟨rd_inT neg⟩
end
end DL
namespace DL
open PySem PySem.Spec L2
section
variable {K : PySem.W.Frag} {W : WX} {Γ : Gm} {X : XP} {PO : Sl → Gm → Prop} {ta tb : TE}
theorem reps_mapI {G : Hp} (f : Nat → Int) : ∀ l : List Nat, Reps K G (l.map fun i => V.int (f i)) (l.map fun i => Dt.int (f i))
  | [] => .nil
  | i :: l => .cons (.int _) (reps_mapI f l)
theorem evo_lstRg (h : Ev K W ta Γ (fun x Γ1 => Ev K W tb Γ1 (fun y Γ2 => IsI x fun i => IsI y fun j => Side (RgOk i j) (∀ q, PO (.ol q (rngD i j)) Γ2)) X) X) : EvO K W (tLstRg (tRg2 ta tb)) Γ PO X := fun O G H σ Q S q x =>
  h O G H σ _ S (fun v1 G1 H1 Γ1 d1 s1 S1 r1 h1 => h1 O G1 H1 σ _ S1 (fun v2 G2 H2 Γ2 d2 s2 S2 r2 ⟨i, e1, j, e2, ok, p⟩ => by
    subst e1 e2
    cases r1
    cases r2
    exact ⟨i, j, rfl, rfl, ok, fun qd np => q (.ref qd) G2 _ Γ2 (.ol qd (rngD i j)) (s1.trans s2) (S2.own1 np rfl (.ol upd_same (reps_mapI (fun k => i + (k : Nat)) _))) (p qd)⟩) (x.mono s1)) x
instance : Wk (EvO K W (tLstRg (tRg2 ta tb)) Γ PO X) (Ev K W ta Γ (fun x Γ1 => Ev K W tb Γ1 (fun y Γ2 => IsI x fun i => IsI y fun j => Side (RgOk i j) (∀ q, PO (.ol q (rngD i j)) Γ2)) X) X) := ⟨evo_lstRg⟩
instance {P : Dt → Gm → Prop} : Wk (Ev K W (tLstRg (tRg2 ta tb)) Γ P X) (EvO K W (tLstRg (tRg2 ta tb)) Γ (fun s Γ2 => Fz s fun d => P d Γ2) X) := ⟨ev_frz⟩
end
end DL
namespace DL
open PySem PySem.Spec L2
end DL
namespace SQ
open PySem PySem.Spec PySem.W L2
section
variable {prog : Program} {w : World} {A : Around} {E : Value → Shared → Prop}
end
end SQ
namespace SQ
open PySem PySem.Spec PySem.W L2
section
variable {prog : Program} {w : World} {A : Around} {E : Value → Shared → Prop}
end
end SQ
namespace L2
open PySem PySem.Spec PyProof.Rows DL
section
variable {X : Cx} {k : Nat} {f C : Addr} {sp : Sp} {E : St → XK} {pos : Pos} {a b : Expr} {ta tb : TE}
end
end L2
namespace DL
open PySem PySem.Spec L2
mutual
def uq : Dt → Bool
  | .non => true
  | .bl _ => true
  | .int _ => true
  | .str _ => true
  | .tup ds => uqs ds
  | .obj _ fs => uqF fs
  | _ => false
def uqs : List Dt → Bool
  | [] => true
  | d :: ds => uq d && uqs ds
def uqF : List (Str × Dt) → Bool
  | [] => true
  | (_, d) :: ds => uq d && uqF ds
end
section
variable {K : PySem.W.Frag} {G : Hp}
mutual
theorem rep_uq : ∀ {v : V} {d e : Dt}, Rep K G v d → Rep K G v e → uq d = true → uq e = true → d = e
  | _, _, e, .non, h, _, he => by cases h <;> first | rfl | (simp [uq] at he)
  | _, _, e, .bl b, h, _, he => by cases h; rfl
  | _, _, e, .int i, h, _, he => by cases h; rfl
  | _, _, e, .str x, h, _, he => by cases h; rfl
  | _, _, e, .tup h1 r1, h, hd, he => by
    cases h with
    | tup h2 r2 =>
      rw [h1] at h2
      cases h2
      simp only [uq] at hd he
      rw [reps_uq r1 r2 hd he]
    | obj h2 r2 => rw [h1] at h2; cases h2
    | _ => simp [uq] at he
  | _, _, e, .obj h1 r1, h, hd, he => by
    cases h with
    | tup h2 r2 => rw [h1] at h2; cases h2
    | obj h2 r2 =>
      rw [h1] at h2
      cases h2
      simp only [uq] at hd he
      rw [repF_uq r1 r2 hd he]
    | _ => simp [uq] at he
  | _, _, e, .ty _, _, hd, _ => by simp [uq] at hd
  | _, _, e, .ref _, _, hd, _ => by simp [uq] at hd
  | _, _, e, .lst _ _, _, hd, _ => by simp [uq] at hd
  | _, _, e, .scr _, _, hd, _ => by simp [uq] at hd
  | _, _, e, .dK _ _, _, hd, _ => by simp [uq] at hd
  | _, _, e, .dT _ _, _, hd, _ => by simp [uq] at hd
  | _, _, e, .exc _ _, _, hd, _ => by simp [uq] at hd
  | _, _, e, .at_ _, _, hd, _ => by simp [uq] at hd
  | _, _, e, .fn _ _, _, hd, _ => by simp [uq] at hd
  | _, _, e, .dN _ _, _, hd, _ => by simp [uq] at hd
theorem reps_uq : ∀ {vs : List V} {ds es : List Dt}, Reps K G vs ds → Reps K G vs es → uqs ds = true → uqs es = true → ds = es
  | _, _, _, .nil, .nil, _, _ => rfl
  | _, _, _, .cons h t, .cons h2 t2, hd, he => by
    simp only [uqs, Bool.and_eq_true] at hd he
    rw [rep_uq h h2 hd.1 he.1, reps_uq t t2 hd.2 he.2]
theorem repF_uq : ∀ {vs : List (Str × V)} {ds es : List (Str × Dt)}, RepF K G vs ds → RepF K G vs es → uqF ds = true → uqF es = true → ds = es
  | _, _, _, .nil, .nil, _, _ => rfl
  | _, _, _, .cons h t, .cons h2 t2, hd, he => by
    simp only [uqF, Bool.and_eq_true] at hd he
    rw [rep_uq h h2 hd.1 he.1, repF_uq t t2 hd.2 he.2]
end
end
section
variable {K : PySem.W.Frag} {W : WX} {Γ : Gm} {X : XP} {P : Dt → Gm → Prop} {ta tb : TE}
end
section
variable {X : Cx} {ps : List Str} {k j : Nat} {S : DSp} {W : WX} {a b : Expr} {ta tb : TE} {pos : Pos} {C f : Addr}
end
end DL
namespace SQ
open PySem PySem.Spec PySem.W L2
section
variable {prog : Program} {w : World} {A : Around} {E : Value → Shared → Prop}
end
end SQ
namespace SQ
open PySem PySem.Spec PySem.W L2
section
variable {prog : Program} {w : World} {A : Around} {E : Value → Shared → Prop}
end
end SQ
namespace L2
open PySem PySem.Spec PyProof.Rows DL
section
variable {X : Cx} {k : Nat} {f C : Addr} {sp : Sp} {E : St → XK} {pos : Pos} {a b : Expr} {ta tb : TE}
end
end L2
namespace DL
open PySem PySem.Spec L2
section
variable {K : PySem.W.Frag} {G : Hp}
end
section
variable {K : PySem.W.Frag} {W : WX} {Γ : Gm} {X : XP} {P : Dt → Gm → Prop} {ta tb : TE}
end
section
variable {X : Cx} {ps : List Str} {k j : Nat} {S : DSp} {W : WX} {a b : Expr} {ta tb : TE} {pos : Pos} {C f : Addr}
end
end DL
namespace L2
open PySem PySem.Spec PyProof.Rows
section
variable {X : Cx} {k : Nat} {f C : Addr} {sp : Sp} {E : St → XK} {pos : Pos} {a b : Expr} {ta tb : TE}
end
end L2
namespace DL
open PySem PySem.Spec L2 PyProof.Rows
section
variable {X : Cx} {ps : List Str} {k j : Nat} {S : DSp} {W : WX} {a b : Expr} {ta tb : TE} {pos : Pos} {C f : Addr}
end
end DL
namespace L2
open PySem PySem.Spec PyProof.Rows
end L2
namespace DL
open PySem PySem.Spec L2
section
variable {K : PySem.W.Frag} {W : WX} {Γ : Gm} {X : XP} {PI : List Dt → Gm → Prop}
end
end DL
namespace SQ
open PySem PySem.SeqAt
open AutoSeq1 (wpAny_loadPart')
open MeetsSeq MeetsSeq2 MeetsSeq3 SeqRoads2
section
variable {prog : Program} {w : World} {A : Around} {R : Result → Shared → Prop}
end
section
variable {prog : Program} {w : World} {A : Around} {E : Value → Shared → Prop}
end
end SQ
namespace L2
open PySem PySem.Spec PyProof.Rows
section
variable {X : Cx} {k : Nat} {f C : Addr} {sp : Sp} {E : St → XK} {pos : Pos} {a b : Expr} {ta tb : TE}
end
end L2
namespace DL
open PySem PySem.Spec L2
section
variable {K : PySem.W.Frag} {W : WX} {Γ : Gm} {X : XP} {P : Dt → Gm → Prop} {ta tb : TE}
end
end DL
namespace DL
open PySem PySem.Spec L2 PyProof.Rows
section
variable {X : Cx} {ps : List Str} {k j : Nat} {S : DSp} {W : WX} {a b : Expr} {ta tb : TE} {pos : Pos} {C f : Addr}
end
end DL
namespace SQ
open PySem PySem.SeqAt
open AutoSeq1 (wpAny_loadPart')
open MeetsSeq MeetsSeq2 MeetsSeq3 SeqRoads2
section
variable {prog : Program} {w : World}
end
end SQ
namespace L2
open PySem PySem.Spec PySem.W PyProof.Rows
def rInLD (K : PySem.W.Frag) : R2 := fun x y H Q => ∃ (a b : Addr) (kvs : List (Key × V)) (xs : List V) (rows : List (List (Key × V))), x = .ref a ∧ y = .ref b ∧ Rd H a (.dK kvs) ∧ SqL K H b xs ∧ rows.length = xs.length ∧
  (∀ (i : Nat) v, xs[i]? = some v → ∃ c lvs, v = .ref c ∧ rows[i]? = some lvs ∧ Rd H c (.dK lvs) ∧ (∀ p ∈ lvs, ∀ y, valV kvs p.1 = some y → scI p.2 y = true) ∧ (c = a → eqKV lvs kvs = true)) ∧ Q (.bl (rows.any fun lvs => eqKV lvs kvs)) H
section
variable {X : Cx}
end
end L2
namespace DL
open PySem PySem.Spec L2
def intsK (kvs : List (Key × Dt)) : Prop := ∀ p ∈ kvs, ∃ i : Int, p.2 = .int i
def dInLD (x y : Dt) (R : Dt → Prop) : Prop := ∃ (kvs : List (Key × Dt)) (rows : List (List (Key × Dt))), x = .dK kvs ∧ y = .lst (rows.map Dt.dK) ∧ intsK kvs ∧ (∀ r ∈ rows, intsK r) ∧ eqKD kvs kvs = true ∧ R (.bl (rows.any fun r => eqKD r kvs))
section
variable {K : PySem.W.Frag} {G : Hp}
theorem repK_ints : ∀ {vs : List (Key × V)} {ds es : List (Key × Dt)}, RepK K G vs ds → RepK K G vs es → intsK ds → intsK es → ds = es
  | _, _, _, .nil, .nil, _, _ => rfl
  | (k, v) :: vs, _, _, .cons r1 t1, .cons r2 t2, h1, h2 => by
    obtain ⟨i, e1⟩ := h1 _ (List.mem_cons_self ..)
    obtain ⟨j, e2⟩ := h2 _ (List.mem_cons_self ..)
    dsimp only at e1 e2
    subst e1 e2
    cases r1
    cases r2
    rw [repK_ints t1 t2 (fun p hp => h1 p (List.mem_cons_of_mem _ hp)) fun p hp => h2 p (List.mem_cons_of_mem _ hp)]
theorem ints_ok {kvs lvs : List (Key × Dt)} (h1 : intsK kvs) (h2 : intsK lvs) : okKD kvs lvs := fun p hp y hy => by
  obtain ⟨i, e1⟩ := h1 p hp
  obtain ⟨j, e2⟩ := h2 _ (vA_mem hy)
  dsimp only at e2
  rw [e1, e2]
  rfl
theorem rep_dK {v : V} {kds : List (Key × Dt)} (h : Rep K G v (.dK kds)) : ∃ a ob kvs, v = .ref a ∧ G a = some (.frz ob (.dK kvs)) ∧ RepK K G kvs kds := by
  cases h with
  | dK g r => exact ⟨_, _, _, rfl, g, r⟩
theorem rep_lst {v : V} {ds : List Dt} (h : Rep K G v (.lst ds)) : ∃ a xs, v = .ref a ∧ (∀ H, Same G H → SqL K H a xs) ∧ Reps K G xs ds := by
  cases h with
  | lst g r => exact ⟨_, _, rfl, fun H s => SqL.of (s _ _ g), r⟩
theorem rows_inLD {H : Hp} (s : Same G H) {a : Addr} {oa : Obj} {av : List (Key × V)} {kvs : List (Key × Dt)} (ga : G a = some (.frz oa (.dK av))) (ra : RepK K G av kvs) (i1 : intsK kvs) (ek : eqKD kvs kvs = true) :
    ∀ {bv : List V} {rows : List (List (Key × Dt))}, Reps K G bv (rows.map Dt.dK) → (∀ r ∈ rows, intsK r) → ∃ lv : List (List (Key × V)), lv.length = bv.length ∧ (lv.any fun l => eqKV l av) = (rows.any fun r => eqKD r kvs) ∧
      ∀ (i : Nat) v, bv[i]? = some v → ∃ c lvs, v = .ref c ∧ lv[i]? = some lvs ∧ Rd H c (.dK lvs) ∧ (∀ p ∈ lvs, ∀ y, valV av p.1 = some y → scI p.2 y = true) ∧ (c = a → eqKV lvs av = true)
  | _, [], .nil, _ => ⟨[], rfl, rfl, fun i v h => by simp at h⟩
  | _, r :: rows, .cons r1 t, hi => by
    obtain ⟨lv, l1, l2, l3⟩ := rows_inLD s ga ra i1 ek t fun z hz => hi z (List.mem_cons_of_mem _ hz)
    have hr := hi r (by simp)
    obtain ⟨c, oc, cv, rfl, gc, rc⟩ := rep_dK r1
    obtain ⟨h1, h2⟩ := repK_eq ra rc (ints_ok hr i1)
    have e3 : eqKV cv av = eqKD r kvs := by
      unfold eqKV eqKD
      rw [h2, repK_len ra, repK_len rc]
    refine ⟨cv :: lv, by simp [l1], by rw [List.any_cons, List.any_cons, l2, e3], fun i v hv => ?_⟩
    cases i with
    | zero =>
      have hv : V.ref c = v := by simpa using hv
      refine ⟨c, cv, hv.symm, rfl, .inr ⟨_, s _ _ gc⟩, h1, fun eca => ?_⟩
      subst eca
      rw [e3]
      have : r = kvs := by
        rw [ga] at gc
        cases gc
        exact repK_ints rc ra hr i1
      rw [this]
      exact ek
    | succ i => exact l3 i v (by simpa using hv)
theorem rd_inLD : RD K (rInLD K) dInLD := fun G H x y dx dy R Q s rx ry ⟨kvs, rows, e1, e2, i1, i2, ek, p⟩ q => by
  subst e1 e2
  obtain ⟨a, oa, av, rfl, ga, ra⟩ := rep_dK rx
  obtain ⟨b, bv, rfl, gb, rb⟩ := rep_lst ry
  obtain ⟨lv, l1, l2, l3⟩ := rows_inLD s ga ra i1 ek rb i2
  refine ⟨a, b, av, bv, lv, rfl, rfl, .inr ⟨_, s _ _ ga⟩, gb H s, l1, l3, ?_⟩
  rw [l2]
  exact q _ G H _ (Ext.refl s) (.bl _) p
instance : OpC K (rInLD K) dInLD := ⟨rd_inLD⟩
end
end DL
namespace L2
open PySem PySem.Spec PySem.W PyProof.Rows
section
variable {prog : Program} {w : World} {d : Addr} {es : Array DictEntry} {ep : Nat}
end
section
variable {X : Cx}
end
end L2
namespace DL
open PySem PySem.Spec L2
section
variable {K : PySem.W.Frag} {G H : Hp}
end
section
variable {K : PySem.W.Frag} {W : WX} {Γ : Gm} {X : XP} {P : Dt → Gm → Prop} {PO : Sl → Gm → Prop} {te : TE} {i : Nat} {a : Addr} {ds : List Dt}
end
end DL
namespace OX
open PySem PySem.Spec PySem.W PySem.Calls PyProof.Rows
section
variable {M : Model} {A : Around} {E : Value → Shared → Prop} {s : Shared}
end
end OX
namespace L2
open PySem PySem.Spec PyProof.Rows
end L2
namespace DL
open PySem PySem.Spec L2 PyProof.Rows
section
variable {X : Cx} {x : Str} {k j : Nat} {S : DSp} {W : WX} {e : Expr} {kws : List Keyword} {tk' : TA} {te : TE} {p p2 pos : Pos} {C f : Addr} {ks : List Str}
end
section
variable {K : PySem.W.Frag} {W : WX} {Γ : Gm} {X : XP} {te : TE} {t : TA} {PA : List Dt → Gm → Prop}
end
end DL
namespace LamD
open PySem PySem.Spec PyProof.Rows L2 LamX
section
variable {X : Cx} {pins : List (Addr × Obj)} {σ : L2.St} {H HZ : Hp} {s s1 : Shared}
end
end LamD
namespace DL
open PySem PySem.Spec PyProof.Rows L2 LamX LamD
section
variable {K : PySem.W.Frag} {W : WX} {Γ : Gm} {X : XP} {i : Nat} {P : Dt → Gm → Prop} {PO : Sl → Gm → Prop}
theorem ev_varT {d : Dt} {p : Addr} {q : Str} (h : Γ[i]? = some (some (.tb (.fr d) p q))) (k : P d Γ) : Ev K W (tVar i) Γ P X := fun O G H σ Q S c _ => by
  obtain ⟨v, e, r⟩ := S.get h
  cases r with
  | tb _ _ r =>
    cases r with
    | fr r => exact ⟨v, e, c v G H Γ d (Same.refl _) S r k⟩
instance {d : Dt} {p : Addr} {q : Str} [h : At Γ i (.tb (.fr d) p q)] : Wk (Ev K W (tVar i) Γ P X) (P d Γ) := ⟨fun k => ev_varT h.h k⟩
end
end DL
namespace DL
open PySem PySem.Spec PyProof.Rows L2 LamX LamD
end DL
namespace DL
open PySem PySem.Spec PyProof.Rows L2 LamX LamD
section
variable {K : PySem.W.Frag} {W : WX} {Γ : Gm} {X : XP} {i : Nat} {P : Dt → Gm → Prop} {PO : Sl → Gm → Prop} {p : Addr} {q : Str} {N : List Str} {t : XK → TE} {TD : Addr → List (Str × Dt) → (List Dt → Prop) → Prop}
end
end DL
namespace L2
open PySem PySem.Spec
def rAddB (K : PySem.W.Frag) : R2 := fun x y H Q => rAddP K x y H Q ∨ ∃ (b : Bool) (j : Int), x = .bl b ∧ y = .int j ∧ Q (.int ((if b = true then (1 : Int) else 0) + j)) H
section
variable {X : Cx}
end
end L2
namespace DL
open PySem PySem.Spec L2
def dAddB : Dt → Dt → (Dt → Prop) → Prop
  | .bl b, .int j, R => R (.int ((if b = true then (1 : Int) else 0) + j))
  | x, y, R => dAdd x y R
section
variable {K : PySem.W.Frag}
theorem rd_addB : RD K (rAddB K) dAddB := fun G H x y dx dy R Q s rx ry h q => by
  unfold dAddB at h
  split at h
  · cases rx; cases ry
    exact .inr ⟨_, _, rfl, rfl, q _ G H _ (Ext.refl s) (.int _) h⟩
  · exact .inl (rd_add G H x y _ _ R Q s rx ry h q)
instance : OpC K (rAddB K) dAddB := ⟨rd_addB⟩
instance {b : Bool} {j : Int} {R : Dt → Prop} : Wk (dAddB (.bl b) (.int j) R) (R (.int ((if b = true then (1 : Int) else 0) + j))) := ⟨id⟩
instance {i j : Int} {R : Dt → Prop} : Wk (dAddB (.int i) (.int j) R) (R (.int (i + j))) := ⟨id⟩
end
end DL
namespace L2
open PySem PySem.Spec PySem.W PyProof.Rows
def isBV : V → Bool → Bool
  | .bl a, b => decide (a = b)
  | _, _ => false
def rIsBl : R2 := fun x y H Q => ∃ b, y = .bl b ∧ ((∃ a, x = .bl a) ∨ (∃ i, x = .int i) ∨ x = .non) ∧ Q (.bl (isBV x b)) H
def rIsntBl : R2 := fun x y H Q => ∃ a b, x = .bl a ∧ y = .bl b ∧ Q (.bl (!decide (a = b))) H
end L2
namespace DL
open PySem PySem.Spec L2
section
variable {K : PySem.W.Frag} {G : Hp}
theorem reps_intsV : ∀ {ys : List V} {ns : List Int}, Reps K G ys (ns.map Dt.int) → ys = ns.map V.int
  | [], [], _ => rfl
  | [], _ :: _, h => by cases h
  | _ :: _, [], h => by cases h
  | _ :: _, _ :: _, h => by
    cases h with
    | cons a b => cases a; rw [reps_intsV b]; rfl
theorem reps_intsD : ∀ (ns : List Int), Reps K G (ns.map V.int) (ns.map Dt.int)
  | [] => .nil
  | n :: ns => .cons (.int n) (reps_intsD ns)
def isBD : Dt → Bool → Bool
  | .bl a, b => decide (a = b)
  | _, _ => false
def dIsBl (x y : Dt) (R : Dt → Prop) : Prop := ∃ b, y = .bl b ∧ ((∃ a, x = .bl a) ∨ (∃ i, x = .int i) ∨ x = .non) ∧ R (.bl (isBD x b))
def dIsntBl (x y : Dt) (R : Dt → Prop) : Prop := ∃ a b, x = .bl a ∧ y = .bl b ∧ R (.bl (!decide (a = b)))
theorem rd_isBl : RD K rIsBl dIsBl := fun G H x y dx dy R Q s rx ry ⟨b, e2, h, p⟩ q => by
  subst e2; cases ry
  rcases h with ⟨a, rfl⟩ | ⟨i, rfl⟩ | rfl
  · cases rx
    exact ⟨b, rfl, .inl ⟨a, rfl⟩, q _ G H _ (Ext.refl s) (.bl _) p⟩
  · cases rx
    exact ⟨b, rfl, .inr (.inl ⟨i, rfl⟩), q _ G H _ (Ext.refl s) (.bl _) p⟩
  · cases rx
    exact ⟨b, rfl, .inr (.inr rfl), q _ G H _ (Ext.refl s) (.bl _) p⟩
theorem rd_isntBl : RD K rIsntBl dIsntBl := fun G H x y dx dy R Q s rx ry ⟨a, b, e1, e2, p⟩ q => by
  subst e1 e2; cases rx; cases ry
  exact ⟨a, b, rfl, rfl, q _ G H _ (Ext.refl s) (.bl _) p⟩
instance : OpC K rIsBl dIsBl := ⟨rd_isBl⟩
instance : OpC K rIsntBl dIsntBl := ⟨rd_isntBl⟩
instance {R : Dt → Prop} {a b : Bool} : Wk (dIsBl (.bl a) (.bl b) R) (R (.bl (decide (a = b)))) := ⟨fun h => ⟨b, rfl, .inl ⟨a, rfl⟩, h⟩⟩
instance {R : Dt → Prop} {i : Int} {b : Bool} : Wk (dIsBl (.int i) (.bl b) R) (R (.bl false)) := ⟨fun h => ⟨b, rfl, .inr (.inl ⟨i, rfl⟩), h⟩⟩
instance {R : Dt → Prop} {b : Bool} : Wk (dIsBl .non (.bl b) R) (R (.bl false)) := ⟨fun h => ⟨b, rfl, .inr (.inr rfl), h⟩⟩
instance {R : Dt → Prop} {a b : Bool} : Wk (dIsntBl (.bl a) (.bl b) R) (R (.bl (!decide (a = b)))) := ⟨fun h => ⟨a, b, rfl, rfl, h⟩⟩
def IntL (d : Dt) (Q : List Int → Prop) : Prop := ∃ ns : List Int, d = .lst (ns.map .int) ∧ Q ns
instance {ns : List Int} {Q : List Int → Prop} : Wk (IntL (.lst (ns.map .int)) Q) (Q ns) := ⟨fun h => ⟨ns, rfl, h⟩⟩
end
section
variable {K : PySem.W.Frag} {W : WX} {Γ : Gm} {X : XP} {P : Dt → Gm → Prop} {PO : Sl → Gm → Prop} {te : TE}
theorem evo_sorted (h : Ev K W te Γ (fun d Γ1 => IntL d fun ns => Side (ns.length < 64) (∀ ms : List Int, ms.Perm ns → ms.Pairwise (· ≤ ·) → ∀ a, PO (.ol a (ms.map .int)) Γ1)) X) : EvO K W (tCB (rSorted K) (tCons te tNil)) Γ PO X := fun O G H σ Q S0 q x =>
  h O G H σ _ S0 (fun v G1 H1 Γ1 d s1 S1 r1 hh => by
    obtain ⟨ns, rfl, h64, hP⟩ := hh
    cases r1 with
    | @lst p ys _ ha rr =>
      obtain rfl := reps_intsV rr
      exact ⟨p, ns, rfl, SqL.of (S1.g _ _ ha), h64, fun ms l hp hs nl => q (.ref l) G1 _ Γ1 (.ol l _) s1 (S1.own1 nl rfl (.ol upd_same (reps_intsD ms))) (hP ms hp hs l)⟩) x
instance : Wk (EvO K W (tCB (rSorted K) (tCons te tNil)) Γ PO X) (Ev K W te Γ (fun d Γ1 => IntL d fun ns => Side (ns.length < 64) (∀ ms : List Int, ms.Perm ns → ms.Pairwise (· ≤ ·) → ∀ a, PO (.ol a (ms.map .int)) Γ1)) X) := ⟨evo_sorted⟩
instance (priority := low) : Wk (Ev K W (tCB (rSorted K) (tCons te tNil)) Γ P X) (Ev K W te Γ (fun d Γ1 => IntL d fun ns => Side (ns.length < 64) (∀ ms : List Int, ms.Perm ns → ms.Pairwise (· ≤ ·) → P (.lst (ms.map .int)) Γ1)) X) := ⟨fun h => ev_frz (evo_sorted (h.imp fun d Γ2 ⟨ns, e, c, p⟩ => ⟨ns, e, c, fun ms h1 h2 b => ⟨_, .ol b _, p ms h1 h2⟩⟩))⟩
end
end DL
namespace L2
open PySem PySem.Spec PySem.W PyProof.Rows
section
variable {X : Cx} {pins : List (Addr × Obj)} {s : Shared} {σ : St} {H : Hp} {Q : VK} {d : Addr}
end
section
variable {X : Cx} {o : Expr} {to : TE} {p ap mp pos : Pos}
end
end L2
namespace DL
open PySem PySem.Spec L2
section
variable {K : PySem.W.Frag} {G : Hp}
end
section
variable {K : PySem.W.Frag} {W : WX} {Γ : Gm} {X : XP} {P : Dt → Gm → Prop} {PO : Sl → Gm → Prop} {te : TE} {i : Nat} {a : Addr}
end
end DL
namespace DL
open PySem PySem.Spec L2
end DL
namespace DL
open PySem PySem.Spec L2
section
variable {K : PySem.W.Frag} {W : WX} {Γ : Gm} {X : XP} {PO : Sl → Gm → Prop} {ta : TE}
theorem evo_lstRg1 (h : Ev K W ta Γ (fun x Γ1 => IsI x fun j => Side (RgOk 0 j) (∀ q, PO (.ol q (rngD 0 j)) Γ1)) X) : EvO K W (tLstRg (tRg1 ta)) Γ PO X := fun O G H σ Q S q x =>
  h O G H σ _ S (fun v1 G1 H1 Γ1 d1 s1 S1 r1 ⟨j, e1, ok, p⟩ => by
    subst e1
    cases r1
    exact ⟨j, rfl, ok, fun qd np => q (.ref qd) G1 _ Γ1 (.ol qd (rngD 0 j)) s1 (S1.own1 np rfl (.ol upd_same (reps_mapI (fun k => 0 + (k : Nat)) _))) (p qd)⟩) x
instance : Wk (EvO K W (tLstRg (tRg1 ta)) Γ PO X) (Ev K W ta Γ (fun x Γ1 => IsI x fun j => Side (RgOk 0 j) (∀ q, PO (.ol q (rngD 0 j)) Γ1)) X) := ⟨evo_lstRg1⟩
instance {P : Dt → Gm → Prop} : Wk (Ev K W (tLstRg (tRg1 ta)) Γ P X) (EvO K W (tLstRg (tRg1 ta)) Γ (fun s Γ2 => Fz s fun d => P d Γ2) X) := ⟨ev_frz⟩
end
end DL
namespace L2
open PySem PySem.Spec PyProof.Rows
end L2
namespace DL
open PySem PySem.Spec L2
section
variable {K : PySem.W.Frag} {W : WX} {Γ : Gm} {X : XP} {P : Sl → Gm → Prop} {tk tv : TE}
end
section
variable {Γ : Gm} {as as' : List Sl} {c : Prop}
instance {a : Addr} {ds es : List (List Key × Dt)} [b : BackC as Γ as' c] : BackC (.oT a ds :: as) (some (.oT a es) :: Γ) (.oT a es :: as') c := ⟨fun h => .own rfl rfl (b.h h)⟩
instance {a : Addr} {ds es : List (Key × Dt)} [b : BackC as Γ as' c] : BackC (.oK a ds :: as) (some (.oK a es) :: Γ) (.oK a es :: as') c := ⟨fun h => .own rfl rfl (b.h h)⟩
end
end DL
namespace L2
open PySem PySem.Spec PyProof.Rows
end L2
namespace DL
open PySem PySem.Spec L2
section
variable {K : PySem.W.Frag} {W : WX} {Γ : Gm} {X : XP} {te : TE} {P : Dt → Gm → Prop} {PI : List Dt → Gm → Prop}
def MinL (d : Dt) (R : Dt → Prop) : Prop := ∃ ns : List Int, d = .lst (ns.map .int) ∧ 0 < ns.length ∧ ∀ m ∈ ns, (∀ y ∈ ns, m ≤ y) → R (.int m)
def MaxL (d : Dt) (R : Dt → Prop) : Prop := ∃ ns : List Int, d = .lst (ns.map .int) ∧ 0 < ns.length ∧ ∀ m ∈ ns, (∀ y ∈ ns, y ≤ m) → R (.int m)
instance {ns : List Int} {R : Dt → Prop} : Wk (MinL (.lst (ns.map .int)) R) (Side (0 < ns.length) (∀ m, m ∈ ns → (∀ y, y ∈ ns → m ≤ y) → R (.int m))) := ⟨fun h => ⟨ns, rfl, h.1, h.2⟩⟩
instance {ns : List Int} {R : Dt → Prop} : Wk (MaxL (.lst (ns.map .int)) R) (Side (0 < ns.length) (∀ m, m ∈ ns → (∀ y, y ∈ ns → y ≤ m) → R (.int m))) := ⟨fun h => ⟨ns, rfl, h.1, h.2⟩⟩
theorem ev_minL (h : Ev K W te Γ (fun d Γ1 => MinL d fun z => P z Γ1) X) : Ev K W (tCB (rMin K) (tCons te tNil)) Γ P X := fun O G H σ Q S0 q x =>
  h O G H σ _ S0 (fun v G1 H1 Γ1 d s1 S1 r1 ⟨ns, e, hl, hP⟩ => by
    subst e
    cases r1 with
    | @lst p ys _ ha rr =>
      obtain rfl := reps_intsV rr
      exact ⟨p, ns, rfl, SqL.of (S1.g _ _ ha), hl, fun m h1 h2 => q (.int m) G1 H1 Γ1 (.int m) s1 S1 (.int m) (hP m h1 h2)⟩) x
theorem ev_maxL (h : Ev K W te Γ (fun d Γ1 => MaxL d fun z => P z Γ1) X) : Ev K W (tCB (rMax K) (tCons te tNil)) Γ P X := fun O G H σ Q S0 q x =>
  h O G H σ _ S0 (fun v G1 H1 Γ1 d s1 S1 r1 ⟨ns, e, hl, hP⟩ => by
    subst e
    cases r1 with
    | @lst p ys _ ha rr =>
      obtain rfl := reps_intsV rr
      exact ⟨p, ns, rfl, SqL.of (S1.g _ _ ha), hl, fun m h1 h2 => q (.int m) G1 H1 Γ1 (.int m) s1 S1 (.int m) (hP m h1 h2)⟩) x
instance : Wk (Ev K W (tCB (rMin K) (tCons te tNil)) Γ P X) (Ev K W te Γ (fun d Γ1 => MinL d fun z => P z Γ1) X) := ⟨ev_minL⟩
instance : Wk (Ev K W (tCB (rMax K) (tCons te tNil)) Γ P X) (Ev K W te Γ (fun d Γ1 => MaxL d fun z => P z Γ1) X) := ⟨ev_maxL⟩
end
end DL
namespace DL
open PySem PySem.Spec L2
section
variable {K : PySem.W.Frag} {W : WX} {Γ : Gm} {nx : Gm → Prop} {rt : Sl → Gm → Prop} {xc : XP} {bk ct : Gm → Prop} {i j l : Nat} {ta : TA}
def Par2Q (ds : List Dt) (R : Dt → Dt → Prop) : Prop := ∃ x y, ds = [x, y] ∧ R x y
def Par3Q (ds : List Dt) (R : Dt → Dt → Dt → Prop) : Prop := ∃ x y z, ds = [x, y, z] ∧ R x y z
instance {x y : Dt} {R : Dt → Dt → Prop} : Wk (Par2Q [x, y] R) (R x y) := ⟨fun h => ⟨x, y, rfl, h⟩⟩
instance {x y z : Dt} {R : Dt → Dt → Dt → Prop} : Wk (Par3Q [x, y, z] R) (R x y z) := ⟨fun h => ⟨x, y, z, rfl, h⟩⟩
theorem go_par2 (h : EvA K W ta Γ (fun ds Γ1 => Par2Q ds fun x y => nx ((Γ1.set i (some (.fr x))).set j (some (.fr y)))) xc) : Go K W (tPar i j ta) Γ ⟨nx, rt, xc, bk, ct⟩ := fun O G H σ D S a b c d e =>
  h O G H σ _ S (fun vs G2 H2 Γ2 ds s1 S2 r ⟨x, y, ed, p⟩ => by
    subst ed
    cases r with
    | cons r1 r => cases r with
      | cons r2 r =>
        cases r
        exact ⟨_, _, rfl, a G2 H2 _ _ s1 ((S2.putF r1 i).putF r2 j) p⟩) (e σ)
theorem go_par3 (h : EvA K W ta Γ (fun ds Γ1 => Par3Q ds fun x y z => nx (((Γ1.set i (some (.fr x))).set j (some (.fr y))).set l (some (.fr z)))) xc) : Go K W (tPar3 i j l ta) Γ ⟨nx, rt, xc, bk, ct⟩ := fun O G H σ D S a b c d e =>
  h O G H σ _ S (fun vs G2 H2 Γ2 ds s1 S2 r ⟨x, y, z, ed, p⟩ => by
    subst ed
    cases r with
    | cons r1 r => cases r with
      | cons r2 r => cases r with
        | cons r3 r =>
          cases r
          exact ⟨_, _, _, rfl, a G2 H2 _ _ s1 (((S2.putF r1 i).putF r2 j).putF r3 l) p⟩) (e σ)
instance : Wk (Go K W (tPar i j ta) Γ ⟨nx, rt, xc, bk, ct⟩) (EvA K W ta Γ (fun ds Γ1 => Par2Q ds fun x y => nx ((Γ1.set i (some (.fr x))).set j (some (.fr y)))) xc) := ⟨go_par2⟩
instance : Wk (Go K W (tPar3 i j l ta) Γ ⟨nx, rt, xc, bk, ct⟩) (EvA K W ta Γ (fun ds Γ1 => Par3Q ds fun x y z => nx (((Γ1.set i (some (.fr x))).set j (some (.fr y))).set l (some (.fr z)))) xc) := ⟨go_par3⟩
end
end DL
namespace L2
open PySem PySem.Spec
end L2
namespace DL
open PySem PySem.Spec L2
section
variable {K : PySem.W.Frag} {W : WX} {Γ : Gm} {X : XP} {te : TE} {t : TA}
end
end DL
namespace DL
open PySem PySem.Spec L2
section
variable {K : PySem.W.Frag} {W : WX} {Γ Γ' : Gm} {i : Nat} {d : Dt} {b C : Addr} {fs : List (Str × Sl)} {nx : Gm → Prop} {rt : Sl → Gm → Prop} {xc : XP} {bk ct : Gm → Prop} {t : TS} {c : Option Addr}
end
end DL
namespace L2
open PySem PySem.Spec PyProof.Rows
section
variable {X : Cx}
def rInN : R2 := fun x y H Q => x = .non ∧ ∃ (a : Addr) (kvs : List (Key × V)), y = .ref a ∧ Rd H a (.dK kvs) ∧ Q (.bl false) H
def rInNP (K : PySem.W.Frag) : R2 := fun x y H Q => rInN x y H Q ∨ rInP K x y H Q
end
end L2
namespace DL
open PySem PySem.Spec L2
def dInN (x y : Dt) (R : Dt → Prop) : Prop := (x = .non ∧ ∃ kvs, y = .dK kvs ∧ R (.bl false)) ∨ dIn false x y R
theorem rd_inN {K : PySem.W.Frag} : RD K (rInNP K) dInN := fun G H x y dx dy R Q s rx ry h q => by
  rcases h with ⟨rfl, kvs, rfl, p⟩ | h
  · cases rx
    cases ry with
    | @dK a ob xs _ ha r => exact .inl ⟨rfl, a, _, rfl, .inr ⟨_, s _ _ ha⟩, q _ G H _ (Ext.refl s) (.bl _) p⟩
  · exact .inr (rd_in G H x y dx dy R Q s rx ry h q)
instance {K : PySem.W.Frag} : OpC K (rInNP K) dInN := ⟨rd_inN⟩
instance {kvs : List (Key × Dt)} {R : Dt → Prop} : Wk (dInN .non (.dK kvs) R) (R (.bl false)) := ⟨fun h => .inl ⟨rfl, kvs, rfl, h⟩⟩
instance {kvs : List (Key × Dt)} {z : Str} {R : Dt → Prop} : Wk (dInN (.str z) (.dK kvs) R) (R (.bl (vA kvs (.inr z)).isSome)) := ⟨fun h => .inr ⟨.inr z, rfl, by simpa using h⟩⟩
end DL
namespace NX
open PySem PySem.Spec PyProof.Rows L2
section
variable {X : Cx} (P : Program) (w : World)
def rNIn (neg : Bool) : R2 := fun y x H Q => ∃ a f k, x = .ref a ∧ NRd P w H a f ∧ KeyAt H k y ∧ Q (.bl ((f k).isSome ^^ neg)) H
def rNIx : R2 := fun x y H Q => ∃ a f k v, x = .ref a ∧ NRd P w H a f ∧ KeyAt H k y ∧ f k = some v ∧ Q v H
variable {P w}
end
end NX
namespace DL
open PySem PySem.Spec L2 NX
def kND : NK → Dt
  | .inl k => kD k
  | .inr ks => kDs ks
def vD : V → Dt
  | .int i => .int i
  | .bl b => .bl b
  | .str x => .str x
  | _ => .non
theorem rep_vD {K : PySem.W.Frag} {G : Hp} {v : V} (p : PlainV v) : Rep K G v (vD v) := by
  cases v with
  | int i => exact .int i
  | bl b => exact .bl b
  | str x => exact .str x
  | non => exact .non
  | _ => exact p.elim
def gN (kvs : List (NK × V)) (k : NK) : Option Dt := (vA kvs k).map vD
def gK (kvs : List (Key × Dt)) (k : NK) : Option Dt := match k with
  | .inl k => vA kvs k
  | .inr _ => none
def gT (kvs : List (List Key × Dt)) (k : NK) : Option Dt := match k with
  | .inl _ => none
  | .inr k => vA kvs k
inductive DicG (P : Program) (w : World) : Dt → (NK → Option Dt) → Prop
  | n (kvs : List (NK × V)) : DicG P w (.dN P w kvs) (gN kvs)
  | k (kvs : List (Key × Dt)) : DicG P w (.dK kvs) (gK kvs)
  | t (kvs : List (List Key × Dt)) : DicG P w (.dT kvs) (gT kvs)
section
variable {K : PySem.W.Frag} {P : Program} {w : World} {G H : Hp}
theorem rowsN_at {rs : List GRow} {kvs : List (NK × V)} (r : RowsN G rs kvs) (k : NK) : valG rs k = vA kvs k ∧ ∀ v, vA kvs k = some v → PlainV v := by
  induction r with
  | nil => exact ⟨rfl, fun v e => nomatch e⟩
  | @cons p q ps qs h t ih =>
    obtain ⟨h1, h2, h3, _⟩ := h
    rw [valG_cons, vA_cons, ← h1, ← h2]
    by_cases e : p.1 = k
    · rw [if_pos e, if_pos e]
      exact ⟨rfl, fun v z => by cases z; rw [h2]; exact h3⟩
    · rw [if_neg e, if_neg e]
      exact ih
theorem rowsN_nd {a : Addr} {rs : List GRow} {kvs : List (NK × V)} (g : Same G H) (ha : H a = some (NDo P w a rs)) (r : RowsN G rs kvs) : ND P w H a rs := by
  refine ⟨ha, fun z hz => ?_⟩
  clear ha
  induction r with
  | nil => cases hz
  | cons h t ih =>
    rcases List.mem_cons.mp hz with rfl | hz
    · exact h.2.2.2.mono g
    · exact ih hz
theorem dicG_rd {v : V} {d : Dt} {g : NK → Option Dt} (r : Rep K G v d) (h : DicG P w d g) (s : Same G H) : ∃ a f, v = .ref a ∧ NRd P w H a f ∧ ∀ k, (∀ e, g k = some e → ∃ u, f k = some u ∧ Rep K G u e) ∧ (g k = none → f k = none) := by
  cases h with
  | n kvs =>
    cases r with
    | @dN _ _ a rs _ ha rr =>
      refine ⟨a, _, rfl, .n (rowsN_nd s (s _ _ ha) rr), fun k => ?_⟩
      obtain ⟨e1, e2⟩ := rowsN_at rr k
      unfold gN
      rw [e1]
      cases e : vA kvs k with
      | none => exact ⟨fun z hz => (nomatch hz), fun _ => rfl⟩
      | some u => exact ⟨fun z hz => by cases hz; exact ⟨u, rfl, rep_vD (e2 u e)⟩, fun hz => (nomatch hz)⟩
  | k kvs =>
    cases r with
    | @dK a ob xs _ ha rr =>
      refine ⟨a, _, rfl, .k (.inr ⟨ob, s _ _ ha⟩), fun k => ?_⟩
      cases k with
      | inl k => exact rr.get k
      | inr k => exact ⟨fun z hz => (nomatch hz), fun _ => rfl⟩
  | t kvs =>
    cases r with
    | @dT a ob xs _ ha rr =>
      refine ⟨a, _, rfl, .t (.inr ⟨ob, s _ _ ha⟩), fun k => ?_⟩
      cases k with
      | inl k => exact ⟨fun z hz => (nomatch hz), fun _ => rfl⟩
      | inr k => exact rr.get k
theorem key_rd {v : V} {k : NK} (r : Rep K G v (kND k)) (s : Same G H) : KeyAt H k v := by
  cases k with
  | inl k => exact kD_inj r
  | inr ks =>
    have r : Rep K G v (.tup (ks.map kD)) := r
    cases r with
    | @tup b xs _ hb rb =>
      rw [reps_kD rb] at hb
      exact ⟨b, rfl, s _ _ hb⟩
end
def dNIn (P : Program) (w : World) (neg : Bool) (x y : Dt) (R : Dt → Prop) : Prop := ∃ g k, DicG P w y g ∧ x = kND k ∧ R (.bl ((g k).isSome ^^ neg))
def dNIx (P : Program) (w : World) (x y : Dt) (R : Dt → Prop) : Prop := ∃ g k v, DicG P w x g ∧ y = kND k ∧ g k = some v ∧ R v
theorem isSome_dn {K : PySem.W.Frag} {G : Hp} {o : Option Dt} {f : Option V} (h : (∀ e, o = some e → ∃ u, f = some u ∧ Rep K G u e) ∧ (o = none → f = none)) : f.isSome = o.isSome := by
  cases o with
  | none => rw [h.2 rfl]; rfl
  | some e => obtain ⟨u, e1, _⟩ := h.1 e rfl; rw [e1]; rfl
theorem rd_nIn {K : PySem.W.Frag} {P : Program} {w : World} {neg : Bool} : RD K (rNIn P w neg) (dNIn P w neg) := fun G H x y dx dy R Q s rx ry h q => by
  obtain ⟨g, k, hg, rfl, p⟩ := h
  obtain ⟨a, f, rfl, rd, hv⟩ := dicG_rd ry hg s
  refine ⟨a, f, k, rfl, rd, key_rd rx s, ?_⟩
  rw [isSome_dn (hv k)]
  exact q _ G H _ (Ext.refl s) (.bl _) p
theorem rd_nIx {K : PySem.W.Frag} {P : Program} {w : World} : RD K (rNIx P w) (dNIx P w) := fun G H x y dx dy R Q s rx ry h q => by
  obtain ⟨g, k, v, hg, rfl, e, p⟩ := h
  obtain ⟨a, f, rfl, rd, hv⟩ := dicG_rd rx hg s
  obtain ⟨u, e1, ru⟩ := (hv k).1 v e
  exact ⟨a, f, k, u, rfl, rd, key_rd ry s, e1, q u G H _ (Ext.refl s) ru p⟩
instance {K : PySem.W.Frag} {P : Program} {w : World} {neg : Bool} : OpC K (rNIn P w neg) (dNIn P w neg) := ⟨rd_nIn⟩
instance {K : PySem.W.Frag} {P : Program} {w : World} : OpC K (rNIx P w) (dNIx P w) := ⟨rd_nIx⟩
def NkQ (x : Dt) (Q : NK → Prop) : Prop := ∃ k, x = kND k ∧ Q k
instance {z : Str} {Q : NK → Prop} : Wk (NkQ (.str z) Q) (Q (.inl (.inr z))) := ⟨fun q => ⟨_, rfl, q⟩⟩
instance {k : NK} {Q : NK → Prop} : Wk (NkQ (kND k) Q) (Q k) := ⟨fun q => ⟨_, rfl, q⟩⟩
instance {ys : List Dt} {k : List Key} {Q : NK → Prop} [h : KeysOf ys k] : Wk (NkQ (.tup ys) Q) (Q (.inr k)) := ⟨fun q => ⟨.inr k, by rw [h.h]; rfl, q⟩⟩
section
variable {P : Program} {w : World} {x : Dt} {R : Dt → Prop}
instance {kvs : List (NK × V)} : Wk (dNIn P w false x (.dN P w kvs) R) (NkQ x fun k => R (.bl (gN kvs k).isSome)) := ⟨fun ⟨k, e, q⟩ => ⟨_, k, .n kvs, e, by simpa using q⟩⟩
instance {kvs : List (Key × Dt)} : Wk (dNIn P w false x (.dK kvs) R) (NkQ x fun k => R (.bl (gK kvs k).isSome)) := ⟨fun ⟨k, e, q⟩ => ⟨_, k, .k kvs, e, by simpa using q⟩⟩
instance {kvs : List (List Key × Dt)} : Wk (dNIn P w false x (.dT kvs) R) (NkQ x fun k => R (.bl (gT kvs k).isSome)) := ⟨fun ⟨k, e, q⟩ => ⟨_, k, .t kvs, e, by simpa using q⟩⟩
instance {kvs : List (NK × V)} : Wk (dNIn P w true x (.dN P w kvs) R) (NkQ x fun k => R (.bl (!(gN kvs k).isSome))) := ⟨fun ⟨k, e, q⟩ => ⟨_, k, .n kvs, e, by simpa using q⟩⟩
instance {kvs : List (Key × Dt)} : Wk (dNIn P w true x (.dK kvs) R) (NkQ x fun k => R (.bl (!(gK kvs k).isSome))) := ⟨fun ⟨k, e, q⟩ => ⟨_, k, .k kvs, e, by simpa using q⟩⟩
instance {kvs : List (List Key × Dt)} : Wk (dNIn P w true x (.dT kvs) R) (NkQ x fun k => R (.bl (!(gT kvs k).isSome))) := ⟨fun ⟨k, e, q⟩ => ⟨_, k, .t kvs, e, by simpa using q⟩⟩
instance {kvs : List (NK × V)} : Wk (dNIx P w (.dN P w kvs) x R) (NkQ x fun k => VA (gN kvs k) R) := ⟨fun ⟨k, e, v, q1, q2⟩ => ⟨_, k, v, .n kvs, e, q1, q2⟩⟩
instance {kvs : List (Key × Dt)} : Wk (dNIx P w (.dK kvs) x R) (NkQ x fun k => VA (gK kvs k) R) := ⟨fun ⟨k, e, v, q1, q2⟩ => ⟨_, k, v, .k kvs, e, q1, q2⟩⟩
instance {kvs : List (List Key × Dt)} : Wk (dNIx P w (.dT kvs) x R) (NkQ x fun k => VA (gT kvs k) R) := ⟨fun ⟨k, e, v, q1, q2⟩ => ⟨_, k, v, .t kvs, e, q1, q2⟩⟩
end
section
variable {K : PySem.W.Frag} {W : WX} {Γ Γ' : Gm} {X : XP} {Pn : Dt → Gm → Prop} {PO : Sl → Gm → Prop} {te ti td ty tx : TE} {i : Nat} {a : Addr} {P : Program} {w : World} {nx : Gm → Prop} {rt : Sl → Gm → Prop} {xc : XP} {bk ct : Gm → Prop}
def OwnN (Γ : Gm) (i : Nat) (P : Program) (w : World) (Q : Addr → List (NK × V) → Prop) : Prop := ∃ a kvs, Γ[i]? = some (some (.oN a P w kvs)) ∧ Q a kvs
instance {kvs : List (NK × V)} {Q : Addr → List (NK × V) → Prop} [h : At Γ i (.oN a P w kvs)] : Wk (OwnN Γ i P w Q) (Q a kvs) := ⟨fun q => ⟨a, kvs, h.h, q⟩⟩
instance (priority := high) {v : Option Sl} {j : Nat} {Q : Addr → List (NK × V) → Prop} [h : SetG Γ j v Γ'] : Wk (OwnN (Γ.set j v) i P w Q) (OwnN Γ' i P w Q) := ⟨fun q => by rw [h.h]; exact q⟩
theorem look_N {O G H : Hp} {σ : St} {kvs : List (NK × V)} (S : Sta K O G H σ Γ) (hi : Γ[i]? = some (some (.oN a P w kvs))) : ∃ rs, σ[i]? = some (some (.ref a)) ∧ H a = some (NDo P w a rs) ∧ RowsN G rs kvs := by
  obtain ⟨v, e, o⟩ := S.get hi
  cases o with
  | oN h r => exact ⟨_, e, h, r⟩
theorem ev_inN {neg : Bool} {kv0 : List (NK × V)} (hi : Γ[i]? = some (some (.oN a P w kv0))) (h : Ev K W te Γ (fun y Γ1 => OwnN Γ1 i P w fun _ kvs => NkQ y fun k => Pn (.bl ((gN kvs k).isSome ^^ neg)) Γ1) X) : Ev K W (tOp (rNIn P w neg) te (tVar i)) Γ Pn X := fun O G H σ Q S q x => by
  refine h O G H σ _ S (fun v G1 H1 Γ1 d s1 S1 r ⟨a', kvs, hg, k, ey, p⟩ => ?_) x
  obtain ⟨rs, e1, h1, r1⟩ := look_N S1 hg
  subst ey
  refine ⟨_, e1, a', _, k, rfl, .n (rowsN_nd S1.g h1 r1), key_rd r S1.g, ?_⟩
  have e2 : (valG rs k).isSome = (gN kvs k).isSome := by
    rw [(rowsN_at r1 k).1]
    unfold gN
    rw [Option.isSome_map]
  rw [e2]
  exact q _ G1 H1 Γ1 _ s1 S1 (.bl _) p
theorem ev_ixN {kv0 : List (NK × V)} (hi : Γ[i]? = some (some (.oN a P w kv0))) (h : Ev K W te Γ (fun y Γ1 => OwnN Γ1 i P w fun _ kvs => NkQ y fun k => ∃ v, gN kvs k = some v ∧ Pn v Γ1) X) : Ev K W (tOp (rNIx P w) (tVar i) te) Γ Pn X := fun O G H σ Q S q x => by
  obtain ⟨x0, e0, _⟩ := look_N S hi
  refine ⟨_, e0, h O G H σ _ S (fun v G1 H1 Γ1 d s1 S1 r ⟨a', kvs, hg, k, ey, u, eu, p⟩ => ?_) x⟩
  obtain ⟨rs, e1, h1, r1⟩ := look_N S1 hg
  rw [e0] at e1
  cases e1
  subst ey
  unfold gN at eu
  obtain ⟨z, ez, rfl⟩ := Option.map_eq_some_iff.mp eu
  exact ⟨a, _, k, z, rfl, .n (rowsN_nd S1.g h1 r1), key_rd r S1.g, by rw [(rowsN_at r1 k).1]; exact ez, q z G1 H1 Γ1 _ s1 S1 (rep_vD ((rowsN_at r1 k).2 z ez)) p⟩
instance {kvs : List (NK × V)} [q : At Γ i (.oN a P w kvs)] : Wk (Ev K W (tOp (rNIn P w false) te (tVar i)) Γ Pn X) (Ev K W te Γ (fun y Γ1 => OwnN Γ1 i P w fun _ kvs => NkQ y fun k => Pn (.bl (gN kvs k).isSome) Γ1) X) := ⟨fun h => ev_inN (neg := false) q.h (by simpa only [Bool.xor_false] using h)⟩
instance {kvs : List (NK × V)} [q : At Γ i (.oN a P w kvs)] : Wk (Ev K W (tOp (rNIn P w true) te (tVar i)) Γ Pn X) (Ev K W te Γ (fun y Γ1 => OwnN Γ1 i P w fun _ kvs => NkQ y fun k => Pn (.bl (!(gN kvs k).isSome)) Γ1) X) := ⟨fun h => ev_inN (neg := true) q.h (by simpa only [Bool.xor_true] using h)⟩
instance {kvs : List (NK × V)} [q : At Γ i (.oN a P w kvs)] : Wk (Ev K W (tOp (rNIx P w) (tVar i) te) Γ Pn X) (Ev K W te Γ (fun y Γ1 => OwnN Γ1 i P w fun _ kvs => NkQ y fun k => VA (gN kvs k) fun v => Pn v Γ1) X) := ⟨fun h => ev_ixN q.h h⟩
end
end DL
namespace DL
open PySem PySem.Spec L2
def odS {κ : Type} [DecidableEq κ] (kvs : List (κ × Addr × List Dt)) (k : κ) (ds : List Dt) : List (κ × Addr × List Dt) := kvs.map fun e => if e.1 = k then (e.1, e.2.1, ds) else e
section
variable {κ : Type} [DecidableEq κ]
theorem odS_fp (kvs : List (κ × Addr × List Dt)) (k : κ) (ds : List Dt) : (odS kvs k ds).map (·.2.1) = kvs.map (·.2.1) := by
  unfold odS
  rw [List.map_map]
  refine List.map_congr_left fun e _ => ?_
  show (if e.1 = k then (e.1, e.2.1, ds) else e).2.1 = _
  split <;> rfl
theorem odS_refs (kvs : List (κ × Addr × List Dt)) (k : κ) (ds : List Dt) : (odS kvs k ds).map (fun e => (e.1, V.ref e.2.1)) = kvs.map fun e => (e.1, V.ref e.2.1) := by
  unfold odS
  rw [List.map_map]
  refine List.map_congr_left fun e _ => ?_
  show ((if e.1 = k then (e.1, e.2.1, ds) else e).1, V.ref (if e.1 = k then (e.1, e.2.1, ds) else e).2.1) = _
  split <;> rfl
theorem val_refs (kvs : List (κ × Addr × List Dt)) (k : κ) : valV (kvs.map fun e => (e.1, V.ref e.2.1)) k = (vA kvs k).map fun p => V.ref p.1 := by
  induction kvs with
  | nil => rfl
  | cons e l ih =>
    rw [List.map_cons, vA_cons]
    by_cases c : e.1 = k
    · rw [if_pos c, valV_pos (p := (e.1, V.ref e.2.1)) c]; rfl
    · rw [if_neg c, valV_neg (p := (e.1, V.ref e.2.1)) c, ih]
theorem rows_set {K : PySem.W.Frag} {G H : Hp} {kvs : List (κ × Addr × List Dt)} (r : ∀ e ∈ kvs, ∃ xs, H e.2.1 = some (.lst xs) ∧ Reps K G xs e.2.2) (kd : (kvs.map (·.1)).Nodup) (nd : (kvs.map (·.2.1)).Nodup) {k : κ} {l : Addr} {ds ds2 : List Dt} (e : vA kvs k = some (l, ds)) {ys : List V} (ry : Reps K G ys ds2) :
    ∀ e ∈ odS kvs k ds2, ∃ xs, upd H l (.lst ys) e.2.1 = some (.lst xs) ∧ Reps K G xs e.2.2 := by
  intro e2 he2
  obtain ⟨e3, he3, rfl⟩ := List.mem_map.mp he2
  have hm := vA_mem e
  by_cases c : e3.1 = k
  · rw [if_pos c]
    have h1 : vA kvs e3.1 = some e3.2 := vA_of kd he3
    rw [c, e] at h1
    have h2 : e3.2 = (l, ds) := (Option.some.inj h1).symm
    refine ⟨ys, ?_, ry⟩
    show upd H l (.lst ys) e3.2.1 = _
    rw [h2]
    exact upd_same
  · rw [if_neg c]
    obtain ⟨xs, h1, h2⟩ := r e3 he3
    refine ⟨xs, ?_, h2⟩
    rw [upd_ne (fun z => ?_)]
    · exact h1
    · have : e3 = (k, l, ds) := by
        obtain ⟨i, hi⟩ := List.mem_iff_getElem?.mp he3
        obtain ⟨j, hj⟩ := List.mem_iff_getElem?.mp hm
        have hi2 : (kvs.map (·.2.1))[i]? = some l := by rw [List.getElem?_map, hi, Option.map_some, z]
        have hj2 : (kvs.map (·.2.1))[j]? = some l := by rw [List.getElem?_map, hj]; rfl
        have hij : i = j := (List.getElem?_inj (List.getElem?_eq_some_iff.mp hi2).1 nd).mp (hi2.trans hj2.symm)
        subst hij
        exact Option.some.inj (hi.symm.trans hj)
      exact c (by rw [this])
end
section
variable {K : PySem.W.Frag} {W : WX} {Γ : Gm} {X : XP} {PO : Sl → Gm → Prop} {ta te : TE}
theorem evo_rep (h : Ev K W ta Γ (fun d Γ1 => Ev K W te Γ1 (fun y Γ2 => ∃ xs n, d = .lst xs ∧ y = .int n ∧ (-(2 ^ 63) ≤ n ∧ n < 2 ^ 63 ∧ xs.length * n.toNat ≤ 1000000) ∧ ∀ l, PO (.ol l (List.replicate n.toNat xs).flatten) Γ2) X) X) : EvO K W (tOp rRep ta te) Γ PO X := fun O G H σ Q S q x => by
  refine h O G H σ _ S (fun v G1 H1 Γ1 d s1 S1 r h2 => h2 O G1 H1 σ _ S1 (fun u G2 H2 Γ2 y s2 S2 ru h3 => ?_) (x.mono s1)) x
  obtain ⟨xs, n, ed, ey, ⟨l1, l2, l3⟩, p⟩ := h3
  subst ed ey
  cases ru
  cases r.mono s2 with
  | lst h1 r1 =>
    refine ⟨_, _, _, rfl, rfl, S2.g _ _ h1, l1, l2, by rw [r1.length]; exact big_ok l3, fun a na => ?_⟩
    exact q (.ref a) G2 _ Γ2 (.ol a _) (s1.trans s2) (S2.own1 na rfl (.ol upd_same (reps_flat r1 _))) (p a)
def RepQ (d y : Dt) (Q : List Dt → Prop) : Prop := ∃ xs n, d = .lst xs ∧ y = .int n ∧ (-(2 ^ 63) ≤ n ∧ n < 2 ^ 63 ∧ xs.length * n.toNat ≤ 1000000) ∧ Q (List.replicate n.toNat xs).flatten
instance {xs : List Dt} {n : Int} {Q : List Dt → Prop} : Wk (RepQ (.lst xs) (.int n) Q) (Side (-(2 ^ 63) ≤ n ∧ n < 2 ^ 63 ∧ xs.length * n.toNat ≤ 1000000) (Q (List.replicate n.toNat xs).flatten)) := ⟨fun h => ⟨xs, n, rfl, rfl, h.1, h.2⟩⟩
instance : Wk (EvO K W (tOp rRep ta te) Γ PO X) (Ev K W ta Γ (fun d Γ1 => Ev K W te Γ1 (fun y Γ2 => RepQ d y fun ds => ∀ l, PO (.ol l ds) Γ2) X) X) := ⟨fun h => evo_rep h⟩
end
section
variable {K : PySem.W.Frag} {W : WX} {Γ Γ' : Gm} {X : XP} {P : Dt → Gm → Prop} {PO : Sl → Gm → Prop} {te ti tk tj : TE} {i : Nat} {a : Addr} {nx : Gm → Prop} {rt : Sl → Gm → Prop} {xc : XP} {bk ct : Gm → Prop}
def OwnDK (Γ : Gm) (i : Nat) (Q : Addr → List (Key × Addr × List Dt) → Prop) : Prop := ∃ a kvs, Γ[i]? = some (some (.odK a kvs)) ∧ Q a kvs
instance {kvs : List (Key × Addr × List Dt)} {Q : Addr → List (Key × Addr × List Dt) → Prop} [h : At Γ i (.odK a kvs)] : Wk (OwnDK Γ i Q) (Q a kvs) := ⟨fun q => ⟨a, kvs, h.h, q⟩⟩
instance (priority := high) {v : Option Sl} {j : Nat} {Q : Addr → List (Key × Addr × List Dt) → Prop} [h : SetG Γ j v Γ'] : Wk (OwnDK (Γ.set j v) i Q) (OwnDK Γ' i Q) := ⟨fun q => by rw [h.h]; exact q⟩
theorem look_DK {O G H : Hp} {σ : St} {kvs : List (Key × Addr × List Dt)} (S : Sta K O G H σ Γ) (hi : Γ[i]? = some (some (.odK a kvs))) : σ[i]? = some (some (.ref a)) ∧ H a = some (.dK (kvs.map fun e => (e.1, V.ref e.2.1))) ∧ (∀ e ∈ kvs, ∃ xs, H e.2.1 = some (.lst xs) ∧ Reps K G xs e.2.2) ∧ (a :: kvs.map (·.2.1)).Nodup := by
  obtain ⟨v, e, o⟩ := S.get hi
  have nd := (fps_part hi S.nd).1
  simp only [Sl.fp] at nd
  cases o with
  | odK h r => exact ⟨e, h, r, nd⟩
theorem ev_ixixK {kv0 : List (Key × Addr × List Dt)} (hi : Γ[i]? = some (some (.odK a kv0))) (h : Ev K W tk Γ (fun y Γ1 => OwnDK Γ1 i fun a kvs => KeyQ y fun k => VA (vA kvs k) fun p0 => Ev K W tj Γ1 (fun z Γ2 => OwnDK Γ2 i fun _ kvs => VA (vA kvs k) fun p => p.1 = p0.1 ∧ dIx (.lst p.2) z fun u => P u Γ2) X) X) : Ev K W (tOp (rIxP K) (tOp (rIxP K) (tVar i) tk) tj) Γ P X := fun O G H σ Q S q x => by
  obtain ⟨e0, _⟩ := look_DK S hi
  refine ⟨_, e0, h O G H σ _ S (fun v G1 H1 Γ1 d s1 S1 r ⟨a1, kvs, hg, k, ey, ⟨l, ds0⟩, ek, h2⟩ => ?_) x⟩
  subst ey
  obtain ⟨e1, hx, rx, _⟩ := look_DK S1 hg
  rw [e0] at e1
  cases e1
  rw [kD_inj r]
  refine .inr ⟨_, V.ref l, rfl, by rw [show some (V.ref l) = valV (kvs.map fun e => (e.1, V.ref e.2.1)) k by rw [val_refs, ek]; rfl]; exact dget_K (ds := []) (.inl hx), ?_⟩
  refine h2 O G1 H1 σ _ S1 (fun w G2 H2 Γ2 dw s2 S2 r2 ⟨a2, kvs2, hg2, ⟨l2, ds⟩, ek2, el, h3⟩ => ?_) (x.mono s1)
  obtain ⟨e2, hx2, rx2, _⟩ := look_DK S2 hg2
  cases el
  obtain ⟨xs, hl, rl⟩ := rx2 _ (vA_mem ek2)
  unfold dIx at h3
  obtain ⟨j, u, ew, hj, p⟩ := h3
  subst ew
  cases r2
  obtain ⟨uv, hu, ru⟩ := atI_rep rl hj
  exact .inl (.inl ⟨_, _, _, uv, rfl, rfl, SqL.of hl, hu, q uv G2 H2 Γ2 u (s1.trans s2) S2 ru p⟩)
theorem g_appDK {kv0 : List (Key × Addr × List Dt)} (hi : Γ[i]? = some (some (.odK a kv0))) (h : Ev K W tk Γ (fun y Γ1 => OwnDK Γ1 i fun a kvs => KeyQ y fun k => VA (vA kvs k) fun p0 => Ev K W te Γ1 (fun v Γ2 => OwnDK Γ2 i fun a kvs => VA (vA kvs k) fun p => p.1 = p0.1 ∧ (kvs.map (·.1)).Nodup ∧ Side (p.2.length < 1000000) (nx (Γ2.set i (some (.odK a (odS kvs k (p.2 ++ [v]))))))) xc) xc) :
    Go K W (tDrop (tBM K "list" rAppend (tOp (rIxP K) (tVar i) tk) (tCons te tNil))) Γ ⟨nx, rt, xc, bk, ct⟩ := fun O G H σ D S a b c d e => by
  obtain ⟨e0, _⟩ := look_DK S hi
  refine ⟨_, e0, h O G H σ _ S (fun v G1 H1 Γ1 dv s1 S1 r ⟨a1, kvs, hg, k, ey, ⟨l, ds0⟩, ek, h2⟩ => ?_) (e σ)⟩
  subst ey
  obtain ⟨e1, hx, rx, _⟩ := look_DK S1 hg
  rw [e0] at e1
  cases e1
  obtain ⟨xs0, hl0, _⟩ := rx _ (vA_mem ek)
  rw [kD_inj r]
  refine .inr ⟨_, V.ref l, rfl, by rw [show some (V.ref l) = valV (kvs.map fun e => (e.1, V.ref e.2.1)) k by rw [val_refs, ek]; rfl]; exact dget_K (ds := []) (.inl hx), ?_⟩
  refine .inl ⟨rfl, _, SqL.of hl0⟩ |> fun z => ⟨z, ?_⟩
  refine h2 O G1 H1 σ _ S1 (fun w G2 H2 Γ2 dw s2 S2 r2 ⟨a2, kvs2, hg2, ⟨l2, ds⟩, ek2, el, kd, lt, p⟩ => ?_) ((e σ).mono s1)
  obtain ⟨e2, hx2, rx2, nd2⟩ := look_DK S2 hg2
  cases el
  obtain ⟨xs, hl, rl⟩ := rx2 _ (vA_mem ek2)
  have ndl := (List.nodup_cons.mp nd2)
  have ml : l ∈ kvs2.map (·.2.1) := List.mem_map.mpr ⟨_, vA_mem ek2, rfl⟩
  have al : a2 ≠ l := fun z => ndl.1 (by rw [z]; exact ml)
  have lt' : ds.length < 1000000 := lt
  refine ⟨_, _, _, rfl, rfl, hl, by rw [rl.length]; exact Nat.lt_of_lt_of_le lt' (by decide), ?_⟩
  refine a G2 _ σ _ (s1.trans s2) (S2.mutS hg2 e2 (by simp only [Sl.fp, List.mem_cons]; exact .inr ml) (fun b hb => ?_) ?_ (.odK ?_ (rows_set rx2 kd ndl.2 ek2 (rl.append (.cons r2 .nil))))) p
  · simp only [Sl.fp, odS_fp] at hb ⊢; exact hb
  · simp only [Sl.fp, odS_fp]; exact nd2
  · rw [upd_ne al, odS_refs]; exact hx2
instance (priority := high) {kvs : List (Key × Addr × List Dt)} [q : At Γ i (.odK a kvs)] : Wk (Ev K W (tOp (rIxP K) (tOp (rIxP K) (tVar i) tk) tj) Γ P X) (Ev K W tk Γ (fun y Γ1 => OwnDK Γ1 i fun a kvs => KeyQ y fun k => VA (vA kvs k) fun p0 => Ev K W tj Γ1 (fun z Γ2 => OwnDK Γ2 i fun _ kvs => VA (vA kvs k) fun p => p.1 = p0.1 ∧ dIx (.lst p.2) z fun u => P u Γ2) X) X) := ⟨fun h => ev_ixixK q.h h⟩
instance {kvs : List (Key × Addr × List Dt)} [q : At Γ i (.odK a kvs)] : Wk (Go K W (tDrop (tBM K "list" rAppend (tOp (rIxP K) (tVar i) tk) (tCons te tNil))) Γ ⟨nx, rt, xc, bk, ct⟩) (Ev K W tk Γ (fun y Γ1 => OwnDK Γ1 i fun a kvs => KeyQ y fun k => VA (vA kvs k) fun p0 => Ev K W te Γ1 (fun v Γ2 => OwnDK Γ2 i fun a kvs => VA (vA kvs k) fun p => p.1 = p0.1 ∧ (kvs.map (·.1)).Nodup ∧ Side (p.2.length < 1000000) (nx (Γ2.set i (some (.odK a (odS kvs k (p.2 ++ [v]))))))) xc) xc) := ⟨fun h => g_appDK q.h h⟩
end
section
variable {K : PySem.W.Frag} {W : WX} {Γ Γ' : Gm} {X : XP} {P : Dt → Gm → Prop} {PO : Sl → Gm → Prop} {te ti tk tj : TE} {i : Nat} {a : Addr} {nx : Gm → Prop} {rt : Sl → Gm → Prop} {xc : XP} {bk ct : Gm → Prop}
def OwnDT (Γ : Gm) (i : Nat) (Q : Addr → List (List Key × Addr × List Dt) → Prop) : Prop := ∃ a kvs, Γ[i]? = some (some (.odT a kvs)) ∧ Q a kvs
instance {kvs : List (List Key × Addr × List Dt)} {Q : Addr → List (List Key × Addr × List Dt) → Prop} [h : At Γ i (.odT a kvs)] : Wk (OwnDT Γ i Q) (Q a kvs) := ⟨fun q => ⟨a, kvs, h.h, q⟩⟩
instance (priority := high) {v : Option Sl} {j : Nat} {Q : Addr → List (List Key × Addr × List Dt) → Prop} [h : SetG Γ j v Γ'] : Wk (OwnDT (Γ.set j v) i Q) (OwnDT Γ' i Q) := ⟨fun q => by rw [h.h]; exact q⟩
theorem look_DT {O G H : Hp} {σ : St} {kvs : List (List Key × Addr × List Dt)} (S : Sta K O G H σ Γ) (hi : Γ[i]? = some (some (.odT a kvs))) : σ[i]? = some (some (.ref a)) ∧ H a = some (.dT (kvs.map fun e => (e.1, V.ref e.2.1))) ∧ (∀ e ∈ kvs, ∃ xs, H e.2.1 = some (.lst xs) ∧ Reps K G xs e.2.2) ∧ (a :: kvs.map (·.2.1)).Nodup := by
  obtain ⟨v, e, o⟩ := S.get hi
  have nd := (fps_part hi S.nd).1
  simp only [Sl.fp] at nd
  cases o with
  | odT h r => exact ⟨e, h, r, nd⟩
theorem ev_ixixT {kv0 : List (List Key × Addr × List Dt)} (hi : Γ[i]? = some (some (.odT a kv0))) (h : Ev K W tk Γ (fun y Γ1 => OwnDT Γ1 i fun a kvs => KeysQ y fun k => VA (vA kvs k) fun p0 => Ev K W tj Γ1 (fun z Γ2 => OwnDT Γ2 i fun _ kvs => VA (vA kvs k) fun p => p.1 = p0.1 ∧ dIx (.lst p.2) z fun u => P u Γ2) X) X) : Ev K W (tOp (rIxP K) (tOp (rIxP K) (tVar i) tk) tj) Γ P X := fun O G H σ Q S q x => by
  obtain ⟨e0, _⟩ := look_DT S hi
  refine ⟨_, e0, h O G H σ _ S (fun v G1 H1 Γ1 d s1 S1 r ⟨a1, kvs, hg, k, ey, ⟨l, ds0⟩, ek, h2⟩ => ?_) x⟩
  subst ey
  obtain ⟨e1, hx, rx, _⟩ := look_DT S1 hg
  rw [e0] at e1
  cases e1
  cases r with
  | @tup bt ys _ hb rb =>
  rw [reps_kD rb] at hb
  refine .inr ⟨_, V.ref l, rfl, by rw [show some (V.ref l) = valV (kvs.map fun e => (e.1, V.ref e.2.1)) k by rw [val_refs, ek]; rfl]; exact dget_T (.inl hx) (S1.g _ _ hb), ?_⟩
  refine h2 O G1 H1 σ _ S1 (fun w G2 H2 Γ2 dw s2 S2 r2 ⟨a2, kvs2, hg2, ⟨l2, ds⟩, ek2, el, h3⟩ => ?_) (x.mono s1)
  obtain ⟨e2, hx2, rx2, _⟩ := look_DT S2 hg2
  cases el
  obtain ⟨xs, hl, rl⟩ := rx2 _ (vA_mem ek2)
  unfold dIx at h3
  obtain ⟨j, u, ew, hj, p⟩ := h3
  subst ew
  cases r2
  obtain ⟨uv, hu, ru⟩ := atI_rep rl hj
  exact .inl (.inl ⟨_, _, _, uv, rfl, rfl, SqL.of hl, hu, q uv G2 H2 Γ2 u (s1.trans s2) S2 ru p⟩)
theorem g_appDT {kv0 : List (List Key × Addr × List Dt)} (hi : Γ[i]? = some (some (.odT a kv0))) (h : Ev K W tk Γ (fun y Γ1 => OwnDT Γ1 i fun a kvs => KeysQ y fun k => VA (vA kvs k) fun p0 => Ev K W te Γ1 (fun v Γ2 => OwnDT Γ2 i fun a kvs => VA (vA kvs k) fun p => p.1 = p0.1 ∧ (kvs.map (·.1)).Nodup ∧ Side (p.2.length < 1000000) (nx (Γ2.set i (some (.odT a (odS kvs k (p.2 ++ [v]))))))) xc) xc) :
    Go K W (tDrop (tBM K "list" rAppend (tOp (rIxP K) (tVar i) tk) (tCons te tNil))) Γ ⟨nx, rt, xc, bk, ct⟩ := fun O G H σ D S a b c d e => by
  obtain ⟨e0, _⟩ := look_DT S hi
  refine ⟨_, e0, h O G H σ _ S (fun v G1 H1 Γ1 dv s1 S1 r ⟨a1, kvs, hg, k, ey, ⟨l, ds0⟩, ek, h2⟩ => ?_) (e σ)⟩
  subst ey
  obtain ⟨e1, hx, rx, _⟩ := look_DT S1 hg
  rw [e0] at e1
  cases e1
  obtain ⟨xs0, hl0, _⟩ := rx _ (vA_mem ek)
  cases r with
  | @tup bt ys _ hb rb =>
  rw [reps_kD rb] at hb
  refine .inr ⟨_, V.ref l, rfl, by rw [show some (V.ref l) = valV (kvs.map fun e => (e.1, V.ref e.2.1)) k by rw [val_refs, ek]; rfl]; exact dget_T (.inl hx) (S1.g _ _ hb), ?_⟩
  refine .inl ⟨rfl, _, SqL.of hl0⟩ |> fun z => ⟨z, ?_⟩
  refine h2 O G1 H1 σ _ S1 (fun w G2 H2 Γ2 dw s2 S2 r2 ⟨a2, kvs2, hg2, ⟨l2, ds⟩, ek2, el, kd, lt, p⟩ => ?_) ((e σ).mono s1)
  obtain ⟨e2, hx2, rx2, nd2⟩ := look_DT S2 hg2
  cases el
  obtain ⟨xs, hl, rl⟩ := rx2 _ (vA_mem ek2)
  have ndl := (List.nodup_cons.mp nd2)
  have ml : l ∈ kvs2.map (·.2.1) := List.mem_map.mpr ⟨_, vA_mem ek2, rfl⟩
  have al : a2 ≠ l := fun z => ndl.1 (by rw [z]; exact ml)
  have lt' : ds.length < 1000000 := lt
  refine ⟨_, _, _, rfl, rfl, hl, by rw [rl.length]; exact Nat.lt_of_lt_of_le lt' (by decide), ?_⟩
  refine a G2 _ σ _ (s1.trans s2) (S2.mutS hg2 e2 (by simp only [Sl.fp, List.mem_cons]; exact .inr ml) (fun b hb => ?_) ?_ (.odT ?_ (rows_set rx2 kd ndl.2 ek2 (rl.append (.cons r2 .nil))))) p
  · simp only [Sl.fp, odS_fp] at hb ⊢; exact hb
  · simp only [Sl.fp, odS_fp]; exact nd2
  · rw [upd_ne al, odS_refs]; exact hx2
instance (priority := high) {kvs : List (List Key × Addr × List Dt)} [q : At Γ i (.odT a kvs)] : Wk (Ev K W (tOp (rIxP K) (tOp (rIxP K) (tVar i) tk) tj) Γ P X) (Ev K W tk Γ (fun y Γ1 => OwnDT Γ1 i fun a kvs => KeysQ y fun k => VA (vA kvs k) fun p0 => Ev K W tj Γ1 (fun z Γ2 => OwnDT Γ2 i fun _ kvs => VA (vA kvs k) fun p => p.1 = p0.1 ∧ dIx (.lst p.2) z fun u => P u Γ2) X) X) := ⟨fun h => ev_ixixT q.h h⟩
instance {kvs : List (List Key × Addr × List Dt)} [q : At Γ i (.odT a kvs)] : Wk (Go K W (tDrop (tBM K "list" rAppend (tOp (rIxP K) (tVar i) tk) (tCons te tNil))) Γ ⟨nx, rt, xc, bk, ct⟩) (Ev K W tk Γ (fun y Γ1 => OwnDT Γ1 i fun a kvs => KeysQ y fun k => VA (vA kvs k) fun p0 => Ev K W te Γ1 (fun v Γ2 => OwnDT Γ2 i fun a kvs => VA (vA kvs k) fun p => p.1 = p0.1 ∧ (kvs.map (·.1)).Nodup ∧ Side (p.2.length < 1000000) (nx (Γ2.set i (some (.odT a (odS kvs k (p.2 ++ [v]))))))) xc) xc) := ⟨fun h => g_appDT q.h h⟩
end
end DL
namespace DL
open PySem PySem.Spec L2
section
variable {K : PySem.W.Frag} {W : WX} {Γ Γ' : Gm} {X : XP} {P : Dt → Gm → Prop} {te tk tj : TE} {i r : Nat} {a l : Addr} {nx : Gm → Prop} {rt : Sl → Gm → Prop} {xc : XP} {bk ct : Gm → Prop}
theorem ev_alK {kv0 : List (Key × Addr × List Dt)} (hi : Γ[i]? = some (some (.odK a kv0))) (h : Ev K W tk Γ (fun y Γ1 => OwnDK Γ1 i fun a kvs => KeyQ y fun k => VA (vA kvs k) fun p => P (.ref p.1) Γ1) X) : Ev K W (tOp (rIxP K) (tVar i) tk) Γ P X := fun O G H σ Q S q x => by
  obtain ⟨e0, _⟩ := look_DK S hi
  refine ⟨_, e0, h O G H σ _ S (fun v G1 H1 Γ1 d s1 S1 r ⟨a1, kvs, hg, k, ey, ⟨l, ds0⟩, ek, h2⟩ => ?_) x⟩
  subst ey
  obtain ⟨e1, hx, rx, _⟩ := look_DK S1 hg
  rw [e0] at e1
  cases e1
  rw [kD_inj r]
  exact .inr ⟨_, V.ref l, rfl, by rw [show some (V.ref l) = valV (kvs.map fun e => (e.1, V.ref e.2.1)) k by rw [val_refs, ek]; rfl]; exact dget_K (ds := []) (.inl hx), q (.ref l) G1 H1 Γ1 (.ref l) s1 S1 (.ref l) h2⟩
def AlQ (Γ : Gm) (l : Addr) (Q : Nat → Addr → List (Key × Addr × List Dt) → Key → List Dt → Prop) : Prop := ∃ i a kvs k ds, Γ[i]? = some (some (.odK a kvs)) ∧ vA kvs k = some (l, ds) ∧ Q i a kvs k ds
instance (priority := high) {v : Option Sl} {j : Nat} {Q : Nat → Addr → List (Key × Addr × List Dt) → Key → List Dt → Prop} [h : SetG Γ j v Γ'] : Wk (AlQ (Γ.set j v) l Q) (AlQ Γ' l Q) := ⟨fun q => by rw [h.h]; exact q⟩
theorem look_ref {O G H : Hp} {σ : St} (S : Sta K O G H σ Γ) (hr : Γ[r]? = some (some (.fr (.ref l)))) : σ[r]? = some (some (.ref l)) := by
  obtain ⟨v, e, o⟩ := S.get hr
  cases o with
  | fr rp => cases rp; exact e
theorem ev_alix (hr : Γ[r]? = some (some (.fr (.ref l)))) (h : Ev K W tj Γ (fun z Γ2 => AlQ Γ2 l fun _ _ _ _ ds => dIx (.lst ds) z fun u => P u Γ2) X) : Ev K W (tOp (rIxP K) (tVar r) tj) Γ P X := fun O G H σ Q S q x => by
  refine ⟨_, look_ref S hr, h O G H σ _ S (fun w G2 H2 Γ2 dw s2 S2 r2 ⟨i, a, kvs, k, ds, hg, ek, h3⟩ => ?_) x⟩
  obtain ⟨_, _, rx2, _⟩ := look_DK S2 hg
  obtain ⟨xs, hl, rl⟩ := rx2 _ (vA_mem ek)
  unfold dIx at h3
  obtain ⟨j, u, ew, hj, p⟩ := h3
  subst ew
  cases r2
  obtain ⟨uv, hu, ru⟩ := atI_rep rl hj
  exact .inl (.inl ⟨_, _, _, uv, rfl, rfl, SqL.of hl, hu, q uv G2 H2 Γ2 u s2 S2 ru p⟩)
instance {kvs : List (Key × Addr × List Dt)} [q : At Γ i (.odK a kvs)] : Wk (Ev K W (tOp (rIxP K) (tVar i) tk) Γ P X) (Ev K W tk Γ (fun y Γ1 => OwnDK Γ1 i fun a kvs => KeyQ y fun k => VA (vA kvs k) fun p => P (.ref p.1) Γ1) X) := ⟨fun h => ev_alK q.h h⟩
instance (priority := high) [q : At Γ r (.fr (.ref l))] : Wk (Ev K W (tOp (rIxP K) (tVar r) tj) Γ P X) (Ev K W tj Γ (fun z Γ2 => AlQ Γ2 l fun _ _ _ _ ds => dIx (.lst ds) z fun u => P u Γ2) X) := ⟨fun h => ev_alix q.h h⟩
end
end DL
namespace L2
open PySem PySem.Spec PyProof.Rows
section
variable {X : Cx}
def rNotInN : R2 := fun x y H Q => x = .non ∧ ∃ (a : Addr) (kvs : List (Key × V)), y = .ref a ∧ Rd H a (.dK kvs) ∧ Q (.bl true) H
def rNotInNP (K : PySem.W.Frag) : R2 := fun x y H Q => rNotInN x y H Q ∨ rNotInP K x y H Q
end
end L2
namespace DL
open PySem PySem.Spec L2
def dNotInN (x y : Dt) (R : Dt → Prop) : Prop := (x = .non ∧ ∃ kvs, y = .dK kvs ∧ R (.bl true)) ∨ dIn true x y R
theorem rd_notInN {K : PySem.W.Frag} : RD K (rNotInNP K) dNotInN := fun G H x y dx dy R Q s rx ry h q => by
  rcases h with ⟨rfl, kvs, rfl, p⟩ | h
  · cases rx
    cases ry with
    | @dK a ob xs _ ha r => exact .inl ⟨rfl, a, _, rfl, .inr ⟨_, s _ _ ha⟩, q _ G H _ (Ext.refl s) (.bl _) p⟩
  · exact .inr (rd_notIn G H x y dx dy R Q s rx ry h q)
instance {K : PySem.W.Frag} : OpC K (rNotInNP K) dNotInN := ⟨rd_notInN⟩
instance {kvs : List (Key × Dt)} {R : Dt → Prop} : Wk (dNotInN .non (.dK kvs) R) (R (.bl true)) := ⟨fun h => .inl ⟨rfl, kvs, rfl, h⟩⟩
instance {kvs : List (Key × Dt)} {z : Str} {R : Dt → Prop} : Wk (dNotInN (.str z) (.dK kvs) R) (R (.bl (!(vA kvs (.inr z)).isSome))) := ⟨fun h => .inr ⟨.inr z, rfl, by simpa using h⟩⟩
end DL
namespace L2
open PySem PySem.Spec PySem.W PyProof.Rows
def PairD (K : PySem.W.Frag) (H : Hp) (lvs : List (Key × V)) (p : Key × V) (b : Bool) : Prop := (valV lvs p.1 = none ∧ b = false) ∨ ∃ y d e, valV lvs p.1 = some y ∧ Dp K H p.2 d ∧ Dp K H y e ∧ d.canLay0 = true ∧ e.canLay0 = true ∧ d.depth ≤ 32 ∧ b = PyData.eqv d e
def rEqKD (K : PySem.W.Frag) (neg : Bool) : R2 := fun x y H Q => ∃ (a b : Addr) (kvs lvs : List (Key × V)) (bs : List Bool), x = .ref a ∧ y = .ref b ∧ Rd H a (.dK kvs) ∧ Rd H b (.dK lvs) ∧ Paired (PairD K H lvs) kvs bs ∧ Q (.bl ((kvs.length == lvs.length && bs.all id) ^^ neg)) H
section
variable {X : Cx}
end
end L2
namespace DL
open PySem PySem.Spec L2
def eqEN (lvs : List (Key × Dt)) (p : Key × Dt) : Bool := match vA lvs p.1 with
  | some y => eqD p.2 y
  | none => false
def eqKN (kvs lvs : List (Key × Dt)) : Bool := kvs.length == lvs.length && kvs.all (eqEN lvs)
def okKN (kvs lvs : List (Key × Dt)) : Prop := (∀ p ∈ kvs, Pl 8 p.2) ∧ ∀ p ∈ lvs, Pl 8 p.2
def dEqKD (neg : Bool) (x y : Dt) (R : Dt → Prop) : Prop := ∃ kvs lvs, x = .dK kvs ∧ y = .dK lvs ∧ okKN kvs lvs ∧ R (.bl (eqKN kvs lvs ^^ neg))
section
variable {K : PySem.W.Frag} {G H : Hp}
theorem pairs_of (s : Same G H) {lv : List (Key × V)} {lvs : List (Key × Dt)} (hl : RepK K G lv lvs) (ol : ∀ p ∈ lvs, Pl 8 p.2) : ∀ {kv : List (Key × V)} {kvs : List (Key × Dt)}, RepK K G kv kvs → (∀ p ∈ kvs, Pl 8 p.2) → Paired (PairD K H lv) kv (kvs.map (eqEN lvs))
  | _, _, .nil, _ => .nil
  | (f, v) :: vs, (_, d) :: ds, .cons r t, h => by
    refine .cons ?_ (pairs_of s hl ol t fun p hp => h p (List.mem_cons_of_mem _ hp))
    rcases repK_val hl f with ⟨e1, e2⟩ | ⟨y, dy, e1, e2, ry⟩
    · exact .inl ⟨e1, by show eqEN lvs (f, d) = false; simp [eqEN, e2]⟩
    · obtain ⟨p, e3, c3, d3⟩ := (h (f, d) (by simp)).py
      obtain ⟨q, e4, c4, d4⟩ := (ol _ (vA_mem e2)).py
      refine .inr ⟨y, p, q, e1, rep_dp s r e3, rep_dp s ry e4, c3, c4, by omega, ?_⟩
      show eqEN lvs (f, d) = _
      rw [eqD_ok e3 e4]
      simp [eqEN, e2]
theorem rd_eqKD {neg : Bool} : RD K (rEqKD K neg) (dEqKD neg) := fun G H x y dx dy R Q s rx ry ⟨kvs, lvs, e1, e2, ok, p⟩ q => by
  subst e1 e2
  cases rx with
  | @dK a oa av _ ga ra =>
    cases ry with
    | @dK b ob bv _ gb rb =>
      refine ⟨_, _, av, bv, kvs.map (eqEN lvs), rfl, rfl, .inr ⟨_, s _ _ ga⟩, .inr ⟨_, s _ _ gb⟩, pairs_of s rb ok.2 ra ok.1, ?_⟩
      rw [repK_len ra, repK_len rb]
      have e : (List.map (eqEN lvs) kvs).all id = kvs.all (eqEN lvs) := by rw [List.all_map]; rfl
      rw [e]
      exact q _ G H _ (Ext.refl s) (.bl _) p
instance {neg : Bool} : OpC K (rEqKD K neg) (dEqKD neg) := ⟨rd_eqKD⟩
end
instance {x y : List (Key × Dt)} {R : Dt → Prop} : Wk (dEqKD false (.dK x) (.dK y) R) (Side (okKN x y) (R (.bl (eqKN x y)))) := ⟨fun h => ⟨_, _, rfl, rfl, h.1, by rw [Bool.xor_false]; exact h.2⟩⟩
instance {x y : List (Key × Dt)} {R : Dt → Prop} : Wk (dEqKD true (.dK x) (.dK y) R) (Side (okKN x y) (R (.bl (!eqKN x y)))) := ⟨fun h => ⟨_, _, rfl, rfl, h.1, by rw [Bool.xor_true]; exact h.2⟩⟩
end DL
namespace DL
open PySem PySem.Spec L2
section
variable {K : PySem.W.Frag} {W : WX} {Γ : Gm} {X : XP} {P : Dt → Gm → Prop} {te : TE} {i : Nat}
instance {neg : Bool} {a : Addr} {ds : List Dt} [q : At Γ i (.ol a ds)] : Wk (Ev K W (tOp (rInT K neg) te (tVar i)) Γ P X) (Ev K W te Γ (fun y Γ1 => OwnL Γ1 i fun _ ds => dInT neg y (.lst ds) fun z => IsB z fun b => P (.bl b) Γ1) X) := ⟨fun h => ev_opR (a := a) (rd_inT neg) h⟩
end
end DL
namespace DL
open PySem PySem.Spec L2
section
variable {K : PySem.W.Frag} {W : WX} {Γ Γ' : Gm} {i : Nat} {a : Addr} {nx : Gm → Prop} {rt : Sl → Gm → Prop} {xc : XP} {bk ct : Gm → Prop}
theorem g_rvs {a0 : Addr} {ds0 : List Dt} (hi : Γ[i]? = some (some (.ol a0 ds0))) (p : nx (Γ.set i (some (.ol a0 ds0.reverse)))) :
    Go K W (tDrop (tBM0 K "list" rReverse (tVar i))) Γ ⟨nx, rt, xc, bk, ct⟩ := fun O G H σ D S a b c d e => by
  obtain ⟨v0, e0, o0⟩ := S.get hi
  have z0 := o0.adr rfl
  subst z0
  cases o0 with
  | ol hh0 rr0 =>
    refine ⟨_, e0, .inl ⟨rfl, _, SqL.of hh0⟩, ?_⟩
    exact ⟨_, _, rfl, rfl, hh0, a G _ σ _ (Same.refl _) (S.mutL hi rr0.reverse) p⟩
instance {ds : List Dt} [q : At Γ i (.ol a ds)] [z : SetG Γ i (some (.ol a ds.reverse)) Γ'] : Wk (Go K W (tDrop (tBM0 K "list" rReverse (tVar i))) Γ ⟨nx, rt, xc, bk, ct⟩) (nx Γ') := ⟨fun h => g_rvs q.h (by rw [z.h]; exact h)⟩
end
end DL
namespace DL
open PySem PySem.Spec L2
section
variable {K : PySem.W.Frag} {W : WX} {Γ G : Gm} {nx : Gm → Prop} {rt : Sl → Gm → Prop} {xc : XP} {bk ct : Gm → Prop} {t1 t2 : TS}
end
end DL
namespace PySem
namespace HandSPX
section
variable {M : Model} {A : Around} {E : Value → Shared → Prop} {s : Shared} {Z : Obj → Prop} {base : Heap} {env : Env} {outer l : List Env} {L e : Addr}
end
end HandSPX
end PySem
namespace L2
open PySem PySem.Spec PyProof.Rows
section
variable {X : Cx} {W : WX} {pins : List (Addr × Obj)} {σ : St} {H3 : Hp} {s3 : Shared} {scope : Scope} {ce : Env} {fp : List Addr}
end
section
variable {X : Cx} {W : WX} {elt tg iter : Expr} {ifs : List Expr} {scope : Scope} {own : List (Str × Nat)} {wi : TI} {g : TG} {tt : TT} {te : WX → TE} {pins : List (Addr × Obj)} {s : Shared} {σ : St} {H : Hp} {Q : VK}
end
end L2
namespace DL
open PySem PySem.Spec L2
section
variable {K : PySem.W.Frag} {W : WX} {Γ Γ' : Gm} {X : XP} {te : WX → TE} {tt : TT} {g : TG} {wi : TI} {vs : List Nat} {P : Sl → Gm → Prop} {xs : List Dt}
end
end DL
namespace L2
open PySem PySem.Spec PyProof.Rows
section
variable {X : Cx} {pos : Pos} {k v k2 v2 : Expr} {tk tv tk2 tv2 : TE}
end
end L2
namespace DL
open PySem PySem.Spec L2
section
variable {K : PySem.W.Frag} {W : WX} {Γ : Gm} {X : XP} {P : Sl → Gm → Prop} {tk tv tk2 tv2 : TE}
end
end DL
namespace L2
open PySem PySem.Spec PyProof.Rows
section
variable {X : Cx} {k : Nat} {f C : Addr} {sp : Sp} {pos p : Pos} {e : Expr} {es : List Expr} {t : TA} {pins : List (Addr × Obj)} {σ : St} {H : Hp} {s : Shared} {Q : VK} {us : List Value} {vs : List V}
end
end L2
namespace DL
open PySem PySem.Spec L2 PyProof.Rows
section
variable {X : Cx} {k j : Nat} {S : DSp} {W : WX} {e : Expr} {es : List Expr} {t : TA} {te : TE} {pos p : Pos} {C f : Addr} {x : Str}
end
section
variable {K : PySem.W.Frag} {W : WX} {Γ : Gm} {X : XP} {P : Dt → Gm → Prop} {PO : Sl → Gm → Prop} {ta te : TE} {t : TA} {ts : List TE} {S : DSp} {C : Addr} {n : Nat} {acc : Str}
theorem log_ok {i : Int} (h0 : 0 ≤ i) (h1 : i < 10 ^ 12) : i.natAbs.log2 < 1920 := by
  by_cases z : i.natAbs = 0
  · rw [z]; decide
  · rw [Nat.log2_lt z]
    refine Nat.lt_of_lt_of_le (show i.natAbs < 2 ^ 40 by
      have : i < (2 : Int) ^ 40 := Int.lt_of_lt_of_le h1 (by decide)
      have e : ((i.natAbs : Nat) : Int) = i := Int.natAbs_of_nonneg h0
      have : ((i.natAbs : Nat) : Int) < ((2 ^ 40 : Nat) : Int) := by rw [e]; exact this
      exact Int.ofNat_lt.mp this) (Nat.pow_le_pow_right (by decide) (by decide))
def FmtQ (d : Dt) (Q : Str → Prop) : Prop := (∃ y : Str, d = .str y ∧ y.length ≤ 1000000 ∧ Q y) ∨ ∃ i : Int, d = .int i ∧ (0 ≤ i ∧ i < 10 ^ 12) ∧ Q (toString i)
instance {y : Str} {Q : Str → Prop} : Wk (FmtQ (.str y) Q) (Side (y.length ≤ 1000000) (Q y)) := ⟨fun h => .inl ⟨y, rfl, h.1, h.2⟩⟩
instance {i : Int} {Q : Str → Prop} : Wk (FmtQ (.int i) Q) (Side (0 ≤ i ∧ i < 1000000000000) (Q (toString i))) := ⟨fun h => .inr ⟨i, rfl, h.1, h.2⟩⟩
theorem ev_fmt (h : Ev K W te Γ (fun d Γ1 => FmtQ d fun y => P (.str y) Γ1) X) : Ev K W (tFmt te) Γ P X := fun O G H σ Q S q x =>
  h O G H σ _ S (fun v G1 H1 Γ1 d s1 S1 r hh => by
    rcases hh with ⟨y, e, l, p⟩ | ⟨i, e, l, p⟩
    · subst e; cases r
      exact .inl ⟨y, rfl, Nat.le_trans l (by decide), q _ G1 H1 Γ1 _ s1 S1 (.str y) p⟩
    · subst e; cases r
      exact .inr ⟨i, rfl, log_ok l.1 l.2, q _ G1 H1 Γ1 _ s1 S1 (.str _) p⟩) x
instance : Wk (Ev K W (tFmt te) Γ P X) (Ev K W te Γ (fun d Γ1 => FmtQ d fun y => P (.str y) Γ1) X) := ⟨ev_fmt⟩
end
end DL
namespace L2
open PySem PySem.Spec PyProof.Rows
section
variable {X : Cx}
end
end L2
namespace DL
open PySem PySem.Spec L2 PyProof.Rows
section
variable {K : PySem.W.Frag} {W : WX} {Γ : Gm} {X : XP} {P : Dt → Gm → Prop} {PO : Sl → Gm → Prop} {te : TE}
end
end DL
namespace L2
open PySem PySem.Spec PyProof.Rows
def TiO (t it : Addr) : HO := .ext fun h => h.IsTupleIter it t 0
def rIterT (K : PySem.W.Frag) (n : Nat) : List V → Hp → VK → Prop := fun xs H Q => ∃ (t : Addr) (zs : List V), xs = [.ref t] ∧ SqT K H t zs ∧ ∀ it, H it = none → n ≤ it → Q (.ref it) (upd H it (TiO t it))
theorem tiO_ok {P : Program} {w : World} {H : Hp} {h : Heap} {t it : Addr} (e : h.IsTupleIter it t 0) : ObjOk P w H h it (TiO t it) := by
  refine ⟨e, ?_, fun h1 h2 q k => ?_⟩
  · obtain ⟨o, e, _⟩ := e; exact ⟨o, e⟩
  · obtain ⟨o, e, r⟩ := q; exact ⟨o, k _ e, r⟩
section
variable {X : Cx}
theorem call_iterTup : CallR X (.builtin "iter") (rIterT X.K X.s_0.heap.objs.size) := by
  intro pins s σ H xs us Q I r h
  obtain ⟨t, zs, rfl, hq, q⟩ := h
  obtain rfl := Vals.ref1 r
  obtain ⟨its, rv, pl, hz⟩ := I.tuple hq
  refine Calls.call_function_entry (by decide +kernel) (by decide +kernel) PySem.W.kdk_entry_iter (PySem.W.kdk_args_iter _) ?_
  unfold Builtin.«iter»
  refine wpAny_bind (m := someArgs "iter" 1 2 _) (wpAny_of_eq (a := [Value.ref t]) (by first | rfl | kernel_rfl!) ?_)
  show wpAny _ _ (pyIter (.ref t) >>= _) _ _ _
  refine wpAny_bind (wpAny_pyIter_tuple (show s.heap.IsTuple t its.toArray from pl) ?_)
  refine wpAny_pure ⟨_, rfl, ?_⟩
  exact ⟨.ref s.heap.objs.size, _, I.laid (t' := s.toks) (fun b u e => Heap.get?_push_of_some _ e) (Nat.le_refl _) (tiO_ok ⟨_, Heap.get?_push_size _ rfl, rfl, rfl⟩), rfl, q _ (I.hok.fresh (Nat.le_refl _)) I.sz⟩
end
def FnIt (P : Program) (w : World) (K : PySem.W.Frag) (mg : Str → Option Value) (base : Heap) (k : Nat) (f C : Addr) (fld : Str) : Prop :=
  ∀ (A : Around) (outer : List Env) (s : Shared) (H : Hp) (p dx : Addr) (fs : List (Str × V)) (t : Addr) (zs : List V) (Q : VK), Room k A → Env0 P w K mg base A outer s H → H p = some (.ins C dx fs) → Cls K C → NoAttr K C fld → fs.lookup fld = some (.ref t) → SqT K H t zs →
    (∀ it, H it = none → s.heap.objs.size ≤ it → Q (.ref it) (upd H it (TiO t it))) → codeAny (model P w) A (.call (.ref f) ⟨[.ref p], []⟩) (CR (L2.CX P w) outer P w H s Q (fun _ _ _ => False)) s
theorem it_body {K : PySem.W.Frag} {C p dx t : Addr} {f : Str} {fs : List (Str × V)} {zs : List V} {H : Hp} {Q : VK} {n : Nat} {nx bk ct : St → Hp → Prop} (hp : H p = some (.ins C dx fs)) (hC : Cls K C) (hN : NoAttr K C f) (hl : fs.lookup f = some (.ref t)) (hz : SqT K H t zs)
    (q : ∀ it, H it = none → n ≤ it → Q (.ref it) (upd H it (TiO t it))) : tRet (tCB (rIterT K n) (tCons (tFldP K (tVar 0) f) tNil)) { nx := nx, rt := Q, bk := bk, ct := ct } (start ["self"] [.ref p]) H :=
  ⟨.ref p, rfl, .inl ⟨p, C, dx, fs, .ref t, rfl, hp, hC, hN, hl, t, zs, rfl, hz, q⟩⟩
theorem fn_iter {P : Program} {w : World} {K : PySem.W.Frag} {mg : Str → Option Value} {base : Heap} {x qual : Str} {st : Stmt} {f C : Addr} {fd : FuncData} {k : Nat} {fld : Str} (F : Fun K x qual st f fd) (S : FnScope ["self"] ["self"] (defScope st)) (hb : Binds K fd ["self"] [])
    (hbody : ∀ (cdv : Value) (A : Around) (outer : List Env) (s : Shared) (H : Hp), PSs (cxOf (L2.CX P w) P w K mg base ["self"] qual (defScope st) f cdv A outer s H (fun _ _ _ => False)) (defBody st) (tRet (tCB (rIterT K s.heap.objs.size) (tCons (tFldP K (tVar 0) fld) tNil)))) :
    FnIt P w K mg base (k + 1) f C fld := by
  obtain ⟨oc, od, kV, doc, pm, an, cdv, ct, osl, rfl, lk, hcd⟩ := F.ex
  intro A outer s H p dx fs t zs Q hr e0 hp hC hN hl hz hq
  have KX : K.In s.heap := e0.mod.kin.keeps fun b o e => (e0.bs b o e).1
  have lim : s.heap.NoLimit := e0.mod.nolimit.keeps fun b o e => (e0.bs b o e).1
  have hkind : ∀ y ∈ (["self"] : List Str).zip [Value.ref p], (defScope st).names.lookup y.1 = some .local ∨ ((defScope st).names.lookup y.1 = some .cell ∧ ((cellsFrom (s.heap.objs.size + 1) (defScope st).names []).lookup y.1).isSome = true) := fun ⟨n, v⟩ hy => by
    rcases S.par n (List.of_mem_zip hy).1 with q | q
    · exact .inl q
    · exact .inr ⟨q, PySem.W.cellsFrom_some _ _ _ (.inl q)⟩
  have bi := hb _ [Value.ref p] KX rfl
  rw [List.append_nil] at bi
  refine codeAny_call_function hr.depth (KX _ _ lk) rfl S.co S.gen rfl (PySem.W.codeRec_of KX hcd) (bi _ _ _ _ ?_)
  refine wpAny_newFunctionEnv_cells S.kind hkind fun env he s1 x => ?_
  subst he
  refine ⟨lim.keeps x.toInCall.keep, codeAny_func ?_⟩
  have I : Inv (cxOf (L2.CX P w) P w K mg base ["self"] qual (defScope st) f cdv A outer s H (fun _ _ _ => False)) [] (start ["self"] [.ref p]) H s1 := inv_start S hr.hd e0 rfl (.cons rfl .nil) x
  refine wpAny_mono ((hbody cdv A outer s H).run [] s1 _ H { nx := fun _ _ => False, rt := Q, bk := fun _ _ => False, ct := fun _ _ => False } I (it_body hp hC hN hl hz hq)) (fun fl s' hs => ?_) fun e s' hs => hs
  cases fl with
  | ret u =>
    obtain ⟨v, σ', H', J, rv, q⟩ := hs
    exact ⟨v, H', J.os, J.bare, J.base, J.hok, rv, q⟩
  | next =>
    obtain ⟨σ', H', J, q⟩ := hs
    exact False.elim q
  | brk =>
    obtain ⟨_, _, _, q⟩ := hs
    exact False.elim q
  | cont =>
    obtain ⟨_, _, _, q⟩ := hs
    exact False.elim q
def iOwn (K : PySem.W.Frag) (C : Addr) (f : Str) (te : TE) : TI := fun σ H R => te σ H fun v H1 => ∃ (p dx : Addr) (fs : List (Str × V)) (t : Addr) (zs : List V), v = .ref p ∧ H1 p = some (.ins C dx fs) ∧ Cls K C ∧ NoAttr K C f ∧ fs.lookup f = some (.ref t) ∧ SqT K H1 t zs ∧ R (Itt K t) H1
section
variable {X : Cx} {tg e : Expr} {C g : Addr} {f : Str} {te : TE} {k j : Nat}
theorem pi_own (c : OpO X.K C g "__iter__") (F : FnIt X.prog X.w X.K X.mg X.base k g C f) (hr : Room k X.A) (he : PE X e te) : PI X tg e (iOwn X.K C f te) := by
  refine ⟨fun pins s σ H R I h => ?_⟩
  refine thn (he.run pins s σ H _ I h) fun v s1 ⟨x, H1, I1, r1, q1⟩ => ?_
  obtain ⟨p, dx, fs, t, zs, rfl, hp, hC, hN, hl, hz, q⟩ := q1
  obtain rfl : v = Value.ref p := r1
  obtain ⟨mA, J, _⟩ := ins_get I1.hok hp
  obtain ⟨od, J, _⟩ := J.look
  obtain ⟨m, hF⟩ := I1.fr
  refine PySem.W.owit_iter hF I1.ok.mod.kin J c.me c.fn ?_
  refine wpAny_call (codeAny_mono (F X.A X.stack s1 H1 p dx fs t zs (fun v H2 => ∃ it, v = .ref it ∧ H1 it = none ∧ s1.heap.objs.size ≤ it ∧ H2 = upd H1 it (TiO t it)) hr I1.env0 hp hC hN hl hz fun it n l => ⟨it, rfl, n, l, rfl⟩) fun r s' hq => ?_)
  cases r with
  | error e =>
    obtain ⟨_, _, _, _, _, _, _, _, _, _, _, _, z⟩ := hq
    exact z.elim
  | ok fl =>
    cases fl with
    | ret u =>
      have hq' := hq
      obtain ⟨v, H2, ho, hb, un, hk, rv, it, rfl, hn, big, rfl⟩ := hq'
      obtain ⟨v', H3, I3, rv', it', ev, hn', big', e3⟩ := I1.after hq
      obtain rfl : u = Value.ref it := rv
      subst ev
      have z : Value.ref it = Value.ref it' := rv'
      cases z
      subst e3
      have st : s'.heap.IsTupleIter it t 0 := (hk it _ upd_same).1
      have gd := ItX.inv_drop (a := it) (φ := fun h => h.IsTupleIter it t 0) I3 upd_same
      rw [ItX.dropH_upd hn] at gd
      show PySem.W.OwitIt _ _ _ _ _ _
      unfold PySem.W.OwitIt
      refine wpAny_specialOf (name := Str.ofString "__next__") st.typeIs slot_tupleiter_next.lookup ?_
      exact ⟨it, [it], _, _, H1, rfl, gd, turn_tuple t it, st, fun b hb => by
        have e : b = it := by simpa using hb
        subst e
        have ip := ItX.inv_fp I3 (a := b) upd_same (Nat.le_trans I1.sz big)
        rw [ItX.dropH_upd hn] at ip
        exact ip, q⟩
    | next => exact False.elim hq
    | brk => exact False.elim hq
    | cont => exact False.elim hq
theorem pi_ownK (K : PySem.W.Frag) (h : X.K = K) (c : OpO K C g "__iter__") (F : FnIt X.prog X.w K X.mg X.base k g C f) (hr : Room j X.A) (hj : k ≤ j) (he : PE X e te) : PI X tg e (iOwn K C f te) := by
  subst h
  exact pi_own c F (hr.mono hj) he
end
end L2
namespace DL
open PySem PySem.Spec L2
section
variable {K : PySem.W.Frag} {W : WX} {Γ : Gm} {X : XP} {te : TE} {PI : List Dt → Gm → Prop} {C : Addr} {f : Str}
theorem ei_own (h : Ev K W te Γ (fun d Γ1 => ∃ fs ds, d = .obj C fs ∧ Cls K C ∧ NoAttr K C f ∧ fs.lookup f = some (.tup ds) ∧ PI ds Γ1) X) : EvI K W (iOwn K C f te) Γ PI X := fun O G H σ R S q x =>
  h O G H σ _ S (fun v G1 H1 Γ1 dd s1 S1 r ⟨fs, ds, e, hC, hN, hl, p⟩ => by
    subst e
    cases r with
    | @obj a _ dx vs _ ha rs =>
      obtain ⟨u, hu, ru⟩ := rs.look hl
      cases ru with
      | @tup ad xs _ hd rt =>
        refine ⟨a, dx, vs, ad, xs, rfl, S1.g _ _ ha, hC, hN, hu, SqT.of (S1.g _ _ hd), q _ G1 H1 Γ1 _ _ _ _ s1 S1 (walk_tup (K := K) (a := ad) (xs := xs)) rt.length (fun H' s' => SqT.of (s' _ _ hd)) (fun k x v G2 H2 H3 hx s2 g2 y => ?_) p⟩
        obtain ⟨rfl, hv⟩ := y
        obtain ⟨d', hd', rr⟩ := rt.get' hv
        rw [hx] at hd'; cases hd'
        exact ⟨G2, Ext.refl g2, rr.mono s2⟩) x
def OwnIt (K : PySem.W.Frag) (C : Addr) (f : Str) (d : Dt) (P : List Dt → Prop) : Prop := ∃ fs ds, d = .obj C fs ∧ Cls K C ∧ NoAttr K C f ∧ fs.lookup f = some (.tup ds) ∧ P ds
instance : Wk (EvI K W (iOwn K C f te) Γ PI X) (Ev K W te Γ (fun d Γ1 => OwnIt K C f d fun ds => PI ds Γ1) X) := ⟨fun h => ei_own (h.imp fun d Γ1 ⟨fs, ds, e, a, b, c, p⟩ => ⟨fs, ds, e, a, b, c, p⟩)⟩
instance {fs : List (Str × Dt)} {P : List Dt → Prop} : Wk (OwnIt K C f (.obj C fs) P) (Side (Cls K C ∧ NoAttr K C f) (∃ ds, fs.lookup f = some (.tup ds) ∧ P ds)) := ⟨fun ⟨⟨a, b⟩, ds, e, p⟩ => ⟨fs, ds, rfl, a, b, e, p⟩⟩
end
end DL
namespace RM
abbrev Rw := Int × Int × Bool
def at1 (r : Rw) (t : Int) : Int := r.2.1 + (if r.2.2 then t - r.1 else 0)
def val (r : Rw) : List Rw → Int → Int
  | [], t => at1 r t
  | q :: rs, t => if q.1 > t then at1 r t else val q rs t
def valueAt : List Rw → Int → Int
  | [], _ => 0
  | r :: rs, t => val r rs t
structure Fol (r q : Rw) : Prop where
  s : r.1 < q.1
  v : q.1 ≤ q.2.1
  u : at1 r (q.1 - 1) ≤ q.2.1
  l : r.2.2 = false → q.1 - 1 ≤ r.2.1
def Good : Rw → List Rw → Prop
  | r, [] => r.2.2 = true
  | r, q :: rs => Fol r q ∧ Good q rs
def Right : List Rw → Prop
  | [] => False
  | r :: rs => r.1 = 0 ∧ 0 ≤ r.2.1 ∧ Good r rs
structure Ris (f : Int → Int) : Prop where
  ge : ∀ t, 0 ≤ t → t ≤ f t
  mo : ∀ t, 0 ≤ t → f t ≤ f (t + 1)
theorem Good.first {r : Rw} : ∀ {rs : List Rw}, Good r rs → ∀ q ∈ rs, r.1 < q.1
  | [], _, q, h => by cases h
  | p :: rs, h, q, hq => by
    rcases List.mem_cons.mp hq with rfl | hq
    · exact h.1.s
    · have := h.2.first q hq; have := h.1.s; omega
theorem val_start {r : Rw} {rs : List Rw} (h : Good r rs) : val r rs r.1 = r.2.1 := by
  cases rs with
  | nil => simp [val, at1]
  | cons q rs => have := h.1.s; unfold val; rw [if_pos (by omega)]; simp [at1]
theorem at1_succ (r : Rw) (t : Int) : at1 r (t + 1) = at1 r t + (if r.2.2 then 1 else 0) := by unfold at1; cases r.2.2 <;> simp <;> omega
theorem ris_val : ∀ {r : Rw} {rs : List Rw}, Good r rs → r.1 ≤ r.2.1 → ∀ t, r.1 ≤ t → t ≤ val r rs t ∧ val r rs t ≤ val r rs (t + 1)
  | r, [], h, hv, t, ht => by
    have hg : r.2.2 = true := h
    unfold val at1
    simp only [hg, if_true]; omega
  | r, q :: rs, h, hv, t, ht => by
    have f := h.1
    by_cases h1 : q.1 ≤ t
    · have ih := ris_val h.2 f.v t h1
      have e1 : val r (q :: rs) t = val q rs t := by unfold val; rw [if_neg (by omega)]; cases rs <;> rfl
      have e2 : val r (q :: rs) (t + 1) = val q rs (t + 1) := by unfold val; rw [if_neg (by omega)]; cases rs <;> rfl
      rw [e1, e2]; exact ih
    · have e1 : val r (q :: rs) t = at1 r t := by unfold val; rw [if_pos (by omega)]
      rw [e1]
      by_cases h2 : q.1 = t + 1
      · have e2 : val r (q :: rs) (t + 1) = q.2.1 := by
          unfold val; rw [if_neg (by omega)]
          have := val_start h.2
          rw [h2] at this
          exact this
        rw [e2]
        have hu := f.u
        rw [h2, show t + 1 - 1 = t by omega] at hu
        refine ⟨?_, hu⟩
        unfold at1
        cases hg : r.2.2 with
        | true => simp; omega
        | false => have := f.l hg; simp; omega
      · have e2 : val r (q :: rs) (t + 1) = at1 r (t + 1) := by unfold val; rw [if_pos (by omega)]
        rw [e2, at1_succ]
        refine ⟨?_, by split <;> omega⟩
        unfold at1
        cases hg : r.2.2 with
        | true => simp; omega
        | false => have := f.l hg; simp; omega
theorem ris_of {rs : List Rw} (h : Right rs) : Ris (valueAt rs) := by
  cases rs with
  | nil => exact h.elim
  | cons r rs =>
    obtain ⟨h0, h1, h2⟩ := h
    exact ⟨fun t ht => (ris_val h2 (by omega) t (by omega)).1, fun t ht => (ris_val h2 (by omega) t (by omega)).2⟩
theorem Ris.le {f : Int → Int} (h : Ris f) {s t : Int} (h0 : 0 ≤ s) (hst : s ≤ t) : f s ≤ f t := by
  obtain ⟨n, rfl⟩ : ∃ n : Nat, t = s + n := ⟨(t - s).toNat, by omega⟩
  clear hst
  induction n with
  | zero => simp
  | succ n ih => have := h.mo (s + n) (by omega); have e : s + ((n + 1 : Nat) : Int) = s + n + 1 := by omega
                 rw [e]; omega
def Runs (d : Int → Int) : List (Int × Int) → Prop
  | [] => False
  | [x] => x.2 = 1 ∧ ∀ t, x.1 ≤ t → d t = x.2
  | x :: y :: r => x.1 < y.1 ∧ (∀ t, x.1 ≤ t → t < y.1 → d t = x.2) ∧ Runs d (y :: r)
def Dist : List (Int × Int) → Prop
  | x :: y :: r => x.2 ≠ y.2 ∧ Dist (y :: r)
  | _ => True
theorem runs_uniq {d : Int → Int} : ∀ {l l' : List (Int × Int)}, Runs d l → Runs d l' → Dist l → Dist l' → (l.head?.map (·.1) = l'.head?.map (·.1)) → l = l'
  | [], _, h, _, _, _, _ => h.elim
  | _ :: _, [], _, h, _, _, _ => h.elim
  | [x], [y], h, h', _, _, e => by
    simp at e
    have a := h.2 x.1 (by omega)
    have b := h'.2 y.1 (by omega)
    rw [e] at a
    have : x.2 = y.2 := by rw [← a, ← b]
    exact congrArg (· :: []) (Prod.ext e this)
  | [x], y :: z :: r, h, h', _, D', e => by
    simp at e
    have b := h'.2.1 y.1 (by omega) h'.1
    have a := h.2 y.1 (by omega)
    have c : d z.1 = z.2 := by
      cases r with
      | nil => exact h'.2.2.2 z.1 (by omega)
      | cons w r => exact h'.2.2.2.1 z.1 (by omega) h'.2.2.1
    have := h.2 z.1 (by have := h'.1; omega)
    exact absurd (by rw [← b, a, ← this, c]) D'.1
  | y :: z :: r, [x], h', h, D', _, e => by
    simp at e
    have b := h'.2.1 y.1 (by omega) h'.1
    have a := h.2 y.1 (by omega)
    have c : d z.1 = z.2 := by
      cases r with
      | nil => exact h'.2.2.2 z.1 (by omega)
      | cons w r => exact h'.2.2.2.1 z.1 (by omega) h'.2.2.1
    have := h.2 z.1 (by have := h'.1; omega)
    exact absurd (by rw [← b, a, ← this, c]) D'.1
  | x :: y :: r, x' :: y' :: r', h, h', D, D', e => by
    simp at e
    have a := h.2.1 x.1 (by omega) h.1
    have a' := h'.2.1 x'.1 (by omega) h'.1
    have ex : x = x' := Prod.ext e (by rw [← a, ← a', e])
    subst ex
    have c : d y.1 = y.2 := by
      cases r with
      | nil => exact h.2.2.2 y.1 (by omega)
      | cons w r => exact h.2.2.2.1 y.1 (by omega) h.2.2.1
    have c' : d y'.1 = y'.2 := by
      cases r' with
      | nil => exact h'.2.2.2 y'.1 (by omega)
      | cons w r => exact h'.2.2.2.1 y'.1 (by omega) h'.2.2.1
    have ey : y.1 = y'.1 := by
      rcases Int.lt_trichotomy y.1 y'.1 with q | q | q
      · have := h'.2.1 y.1 (by have := h.1; omega) q
        exact absurd (by rw [← this, c]) D.1
      · exact q
      · have := h.2.1 y'.1 (by have := h'.1; omega) q
        exact absurd (by rw [← this, c']) D'.1
    have ih := runs_uniq h.2.2 h'.2.2 D.2 D'.2 (by simp [ey])
    rw [ih]
def dd : Option Int → List (Int × Int) → List (Int × Int)
  | _, [] => []
  | o, x :: r => if o = some x.2 then dd o r else x :: dd (some x.2) r
theorem dd_dist : ∀ {l : List (Int × Int)} {v : Int}, (∀ y, (dd (some v) l).head? = some y → v ≠ y.2) ∧ Dist (dd (some v) l)
  | [], v => ⟨by simp [dd], trivial⟩
  | x :: r, v => by
    unfold dd
    by_cases h : v = x.2
    · rw [if_pos (by rw [h])]
      exact dd_dist
    · rw [if_neg (by simpa using h)]
      refine ⟨by simpa using h, ?_⟩
      obtain ⟨h1, h2⟩ := dd_dist (l := r) (v := x.2)
      cases q : dd (some x.2) r with
      | nil => trivial
      | cons y s => rw [q] at h1 h2; exact ⟨h1 y rfl, h2⟩
theorem dist_dd {l : List (Int × Int)} : Dist (dd none l) := by
  cases l with
  | nil => trivial
  | cons x r =>
    unfold dd
    rw [if_neg (by simp)]
    obtain ⟨h1, h2⟩ := dd_dist (l := r) (v := x.2)
    cases q : dd (some x.2) r with
    | nil => trivial
    | cons y s => rw [q] at h1 h2; exact ⟨h1 y rfl, h2⟩
theorem runs_dd {d : Int → Int} : ∀ {l : List (Int × Int)} {x : Int × Int} {m : Int}, Runs d (x :: l) → m ≤ x.1 → (∀ t, m ≤ t → t < x.1 → d t = x.2) → Runs d ((m, x.2) :: dd (some x.2) l)
  | [], x, m, h, hm, hl => ⟨h.1, fun t ht => by
    by_cases q : x.1 ≤ t
    · exact h.2 t q
    · exact hl t ht (by omega)⟩
  | y :: r, x, m, h, hm, hl => by
    unfold dd
    have hx : ∀ t, m ≤ t → t < y.1 → d t = x.2 := fun t h1 h2 => by
      by_cases q : x.1 ≤ t
      · exact h.2.1 t q h2
      · exact hl t h1 (by omega)
    by_cases e : x.2 = y.2
    · rw [if_pos (by rw [e]), e]
      have := h.1
      have ih := runs_dd (x := y) (m := m) h.2.2 (by omega) (fun t h1 h2 => by rw [hx t h1 h2, e])
      exact ih
    · rw [if_neg (by simpa using e)]
      have ih := runs_dd (x := y) (m := y.1) h.2.2 (by omega) (fun t h1 h2 => by omega)
      have := h.1
      exact ⟨by show m < y.1; omega, hx, ih⟩
def runs1 (r q : Rw) : List (Int × Int) :=
  if q.1 - 1 > r.1 then [(r.1, if r.2.2 then 1 else 0), (q.1 - 1, q.2.1 - at1 r (q.1 - 1))] else [(q.1 - 1, q.2.1 - at1 r (q.1 - 1))]
def raw (r : Rw) : List Rw → List (Int × Int)
  | [] => [(r.1, 1)]
  | q :: rs => runs1 r q ++ raw q rs
def steps : List Rw → List (Int × Int)
  | [] => []
  | r :: rs => dd none (raw r rs)
theorem raw_head {r : Rw} {rs : List Rw} (h : Good r rs) : (raw r rs).head?.map (·.1) = some r.1 := by
  cases rs with
  | nil => rfl
  | cons q rs =>
    have := h.1.s
    unfold raw runs1
    by_cases c : q.1 - 1 > r.1
    · rw [if_pos c]; rfl
    · rw [if_neg c]; simp; omega
theorem runs_raw {d : Int → Int} : ∀ {r : Rw} {rs : List Rw}, Good r rs → (∀ t, r.1 ≤ t → d t = val r rs (t + 1) - val r rs t) → Runs d (raw r rs)
  | r, [], h, hd => ⟨rfl, fun t ht => by
    have ht' : r.1 ≤ t := ht
    have hg : r.2.2 = true := h
    rw [hd t ht']
    simp only [val, at1, hg, if_true]
    omega⟩
  | r, q :: rs, h, hd => by
    have f := h.1
    have fs := f.s
    have hq : ∀ t, q.1 ≤ t → val r (q :: rs) t = val q rs t := fun t ht => by
      show (if q.1 > t then at1 r t else val q rs t) = _
      rw [if_neg (by omega)]
    have hr : ∀ t, t < q.1 → val r (q :: rs) t = at1 r t := fun t ht => by
      show (if q.1 > t then at1 r t else val q rs t) = _
      rw [if_pos (by omega)]
    have ih := runs_raw (d := d) h.2 (fun t ht => by rw [hd t (by omega), hq t ht, hq (t + 1) (by omega)])
    have leap : d (q.1 - 1) = q.2.1 - at1 r (q.1 - 1) := by
      rw [hd (q.1 - 1) (by omega), hr (q.1 - 1) (by omega), show q.1 - 1 + 1 = q.1 by omega, hq q.1 (by omega), val_start h.2]
    have flat : ∀ t, r.1 ≤ t → t < q.1 - 1 → d t = if r.2.2 then 1 else 0 := fun t h1 h2 => by
      rw [hd t h1, hr t (by omega), hr (t + 1) (by omega), at1_succ]; omega
    have hd1 := raw_head h.2
    have tail : Runs d ((q.1 - 1, q.2.1 - at1 r (q.1 - 1)) :: raw q rs) := by
      cases e : raw q rs with
      | nil => rw [e] at ih; exact ih.elim
      | cons y s =>
        rw [e] at ih hd1
        have ey : y.1 = q.1 := by simpa using hd1
        refine ⟨by show q.1 - 1 < y.1; omega, fun t h1 h2 => ?_, ih⟩
        have h1' : q.1 - 1 ≤ t := h1
        have : t = q.1 - 1 := by omega
        rw [this, leap]
    show Runs d (runs1 r q ++ raw q rs)
    unfold runs1
    by_cases c : q.1 - 1 > r.1
    · rw [if_pos c]
      exact ⟨c, fun t h1 h2 => flat t h1 h2, tail⟩
    · rw [if_neg c]
      exact tail
def der (f : Int → Int) (t : Int) : Int := f (t + 1) - f t
structure Steps (f : Int → Int) (l : List (Int × Int)) : Prop where
  runs : Runs (der f) l
  dist : Dist l
  zero : l.head?.map (·.1) = some 0
theorem steps_of {rs : List Rw} (h : Right rs) : Steps (valueAt rs) (steps rs) := by
  cases rs with
  | nil => exact h.elim
  | cons r rs =>
    obtain ⟨h0, h1, h2⟩ := h
    have hr : Runs (der (valueAt (r :: rs))) (raw r rs) := runs_raw h2 fun t ht => rfl
    have hh := raw_head h2
    show Steps _ (dd none (raw r rs))
    cases e : raw r rs with
    | nil => rw [e] at hr; exact hr.elim
    | cons x l =>
      rw [e] at hr hh
      have ex : x.1 = 0 := by have : x.1 = r.1 := by simpa using hh
                              omega
      refine ⟨?_, dist_dd, ?_⟩
      · have : dd none (x :: l) = x :: dd (some x.2) l := if_neg (by simp)
        rw [this]
        exact runs_dd (m := x.1) hr (by omega) (fun t a b => by omega)
      · unfold dd; rw [if_neg (by simp)]; simp [ex]
theorem steps_uniq {f g : Int → Int} {l l' : List (Int × Int)} (h : Steps f l) (h' : Steps g l') (e : ∀ t, 0 ≤ t → f t = g t) : l = l' := by
  have conv : ∀ {l : List (Int × Int)}, (∃ m, l.head?.map (·.1) = some m ∧ 0 ≤ m) → Runs (der g) l → Runs (der f) l := by
    intro l
    induction l with
    | nil => intro _ h; exact h
    | cons x r ih =>
      intro ⟨m, hm, h0⟩ h
      have ex : x.1 = m := by simpa using hm
      cases r with
      | nil => exact ⟨h.1, fun t ht => by rw [← h.2 t ht]; unfold der; rw [e t (by omega), e (t + 1) (by omega)]⟩
      | cons y r =>
        refine ⟨h.1, fun t h1 h2 => ?_, ih ⟨y.1, rfl, by have := h.1; omega⟩ h.2.2⟩
        rw [← h.2.1 t h1 h2]; unfold der; rw [e t (by omega), e (t + 1) (by omega)]
  exact runs_uniq h.runs (conv ⟨0, h'.zero, by omega⟩ h'.runs) h.dist h'.dist (by rw [h.zero, h'.zero])
def skip (s : Int) : List (Int × Int) → List (Int × Int)
  | x :: y :: r => if y.1 ≤ s then skip s (y :: r) else x :: y :: r
  | l => l
def ende (s : Int) (x y : Int × Int) : Int := if x.2 < 2 then y.1 else s
inductive Gre (f : Int → Int) : Int → List (Int × Int) → List Rw → Prop
  | last (s : Int) (x : Int × Int) : Gre f s [x] [(s, f s, true)]
  | more {s : Int} {x y : Int × Int} {r : List (Int × Int)} {G : List Rw} : Gre f (ende s x y + 1) (skip (ende s x y + 1) (x :: y :: r)) G → Gre f s (x :: y :: r) ((s, f s, decide (x.2 = 1)) :: G)
theorem gre_uniq {f g : Int → Int} {s : Int} {l : List (Int × Int)} {G G' : List Rw} (h : Gre f s l G) (h' : Gre g s l G') (e : ∀ t, 0 ≤ t → f t = g t) (hs : 0 ≤ s) (hl : ∀ x ∈ l, 0 ≤ x.1) : G = G' := by
  induction h generalizing G' with
  | last s x => cases h'; rw [e s hs]
  | @more s x y r G h ih =>
    cases h' with
    | more h' =>
      have sk : ∀ {l : List (Int × Int)} {s : Int}, (∀ x ∈ l, 0 ≤ x.1) → ∀ x ∈ skip s l, 0 ≤ x.1 := by
        intro l s
        induction l with
        | nil => intro hl x hx; exact hl x hx
        | cons a l ih =>
          intro hl x hx
          cases l with
          | nil => exact hl x hx
          | cons b l =>
            unfold skip at hx
            split at hx
            · exact ih (fun z hz => hl z (List.mem_cons_of_mem _ hz)) x hx
            · exact hl x hx
      have := hl y (by simp)
      rw [ih h' (by unfold ende; split <;> omega) (sk hl), e s hs]
def Hit (s : Int) : List (Int × Int) → Prop
  | [] => False
  | [x] => x.1 ≤ s
  | x :: y :: _ => x.1 ≤ s ∧ s < y.1
theorem skip_at {d : Int → Int} {s : Int} : ∀ {l : List (Int × Int)}, Runs d l → (∀ x, l.head? = some x → x.1 ≤ s) → Hit s (skip s l) ∧ Runs d (skip s l)
  | [], h, _ => h.elim
  | [x], h, hx => ⟨hx x rfl, h⟩
  | x :: y :: r, h, hx => by
    unfold skip
    by_cases c : y.1 ≤ s
    · rw [if_pos c]
      exact skip_at h.2.2 (fun z hz => by simp at hz; subst hz; exact c)
    · rw [if_neg c]
      exact ⟨⟨hx x rfl, by omega⟩, h⟩
theorem der_sum {f : Int → Int} {v s t : Int} (h : ∀ u, s ≤ u → u < t → der f u = v) (hst : s ≤ t) : f t = f s + v * (t - s) := by
  obtain ⟨n, rfl⟩ : ∃ n : Nat, t = s + n := ⟨(t - s).toNat, by omega⟩
  clear hst
  induction n with
  | zero => simp
  | succ n ih =>
    have e1 := ih (fun u a b => h u a (by omega))
    have e2 := h (s + n) (by omega) (by omega)
    unfold der at e2
    have e3 : s + ((n + 1 : Nat) : Int) = s + n + 1 := by omega
    rw [e3]
    have e4 : v * (s + n + 1 - s) = v * (s + n - s) + v := by
      have : s + (n : Int) + 1 - s = (s + n - s) + 1 := by omega
      rw [this, Int.mul_add, Int.mul_one]
    omega
theorem gre_val {f : Int → Int} (R : Ris f) {s : Int} {l : List (Int × Int)} {G : List Rw} (h : Gre f s l G) : Runs (der f) l → Hit s l → 0 ≤ s → ∃ r rs, G = r :: rs ∧ r.1 = s ∧ r.2.1 = f s ∧ Good r rs ∧ ∀ t, s ≤ t → val r rs t = f t := by
  induction h with
  | last s x =>
    intro hr ha h0
    refine ⟨_, _, rfl, rfl, rfl, rfl, fun t ht => ?_⟩
    have ha' : x.1 ≤ s := ha
    have := der_sum (f := f) (v := 1) (s := s) (t := t) (fun u a b => by rw [hr.2 u (by omega), hr.1]) ht
    show f s + (if true = true then t - s else 0) = f t
    simp; omega
  | @more s x y r G h ih =>
    intro hr ha h0
    obtain ⟨ha1, ha2⟩ := ha
    have hes : s ≤ ende s x y := by unfold ende; split <;> omega
    have hey : ende s x y ≤ y.1 := by unfold ende; split <;> omega
    obtain ⟨sa, sr⟩ := skip_at (s := ende s x y + 1) hr (fun z hz => by simp at hz; subst hz; omega)
    obtain ⟨q, rs, rfl, e1, e2, hg, hv⟩ := ih sr sa (by omega)
    have dx : 0 ≤ x.2 := by
      have := hr.2.1 s ha1 ha2
      have := R.mo s h0
      unfold der at *
      omega
    have inner : ∀ t, s ≤ t → t ≤ ende s x y → at1 (s, f s, decide (x.2 = 1)) t = f t := fun t h1 h2 => by
      show f s + (if decide (x.2 = 1) = true then t - s else 0) = f t
      by_cases c : x.2 < 2
      · have he : ende s x y = y.1 := if_pos c
        have := der_sum (f := f) (v := x.2) (s := s) (t := t) (fun u a b => hr.2.1 u (by omega) (by omega)) h1
        have hx : x.2 = 0 ∨ x.2 = 1 := by omega
        rcases hx with hx | hx
        · simp [hx] at this ⊢; omega
        · simp [hx] at this ⊢; omega
      · have he : ende s x y = s := if_neg c
        have : t = s := by omega
        subst this
        simp
    refine ⟨_, _, rfl, rfl, rfl, ⟨⟨?_, ?_, ?_, fun hf => ?_⟩, hg⟩, fun t ht => ?_⟩
    · show s < q.1; omega
    · rw [e2, e1]; exact R.ge _ (by omega)
    · rw [e1, show ende s x y + 1 - 1 = ende s x y by omega, inner _ hes (Int.le_refl _), e2]; exact R.mo _ (by omega)
    · show q.1 - 1 ≤ f s
      have i := inner _ hes (Int.le_refl _)
      have hf' : decide (x.2 = 1) = false := hf
      unfold at1 at i
      simp only [hf'] at i
      have := R.ge (ende s x y) (by omega)
      simp at i
      omega
    · show (if q.1 > t then at1 _ t else val q rs t) = f t
      by_cases c : q.1 > t
      · rw [if_pos c]; exact inner t ht (by omega)
      · rw [if_neg c]; exact hv t (by omega)
def Canon (f : Int → Int) (G : List Rw) : Prop := ∃ l, Steps f l ∧ Gre f 0 l G
theorem Steps.at0 {f : Int → Int} {l : List (Int × Int)} (h : Steps f l) : Hit 0 l := by
  have r := h.runs
  have z := h.zero
  match l with
  | [] => exact r.elim
  | [x] => have : x.1 = 0 := by simpa using z
           show x.1 ≤ 0; omega
  | x :: y :: s => have : x.1 = 0 := by simpa using z
                   have := r.1
                   exact ⟨by omega, by omega⟩
theorem Canon.right {f : Int → Int} {G : List Rw} (R : Ris f) (h : Canon f G) : Right G ∧ ∀ t, 0 ≤ t → valueAt G t = f t := by
  obtain ⟨l, hs, hg⟩ := h
  obtain ⟨r, rs, rfl, e1, e2, g, v⟩ := gre_val R hg hs.runs hs.at0 (Int.le_refl _)
  exact ⟨⟨e1, by rw [e2]; exact R.ge 0 (Int.le_refl _), g⟩, v⟩
theorem runs_pos {d : Int → Int} : ∀ {l : List (Int × Int)}, Runs d l → ∀ m, l.head?.map (·.1) = some m → ∀ x ∈ l, m ≤ x.1
  | [], h, _, _ => h.elim
  | [x], h, m, hm => fun z hz => by simp at hz hm; subst hz; omega
  | x :: y :: r, h, m, hm => fun z hz => by
    have hx : x.1 = m := by simpa using hm
    rcases List.mem_cons.mp hz with rfl | hz
    · omega
    · have := runs_pos h.2.2 y.1 rfl z hz
      have := h.1
      omega
theorem Canon.uniq {f g : Int → Int} {G G' : List Rw} (h : Canon f G) (h' : Canon g G') (e : ∀ t, 0 ≤ t → f t = g t) : G = G' := by
  obtain ⟨l, hs, hg⟩ := h
  obtain ⟨l', hs', hg'⟩ := h'
  obtain rfl := steps_uniq hs hs' e
  exact gre_uniq hg hg' e (Int.le_refl _) (runs_pos hs.runs 0 hs.zero)
end RM
namespace RM
structure VOk (vs : List Int) : Prop where
  ne : vs ≠ []
  ge : ∀ (i : Nat) (v : Int), vs[i]? = some v → (i : Int) ≤ v
  mo : ∀ (i : Nat) (v w : Int), vs[i]? = some v → vs[i + 1]? = some w → v ≤ w
def valF (vs : List Int) (t : Int) : Int := if t < vs.length then vs.getD t.toNat 0 else vs.getLastD 0 + t - vs.length + 1
theorem valF_in {vs : List Int} {i : Nat} {v : Int} (h : vs[i]? = some v) : valF vs i = v := by
  obtain ⟨hi, e⟩ := List.getElem?_eq_some_iff.mp h
  unfold valF
  rw [if_pos (by omega)]
  simp [List.getD, hi, e]
theorem valF_out {vs : List Int} (h : vs ≠ []) {t : Int} (ht : (vs.length : Int) ≤ t + 1) : valF vs t = vs.getLastD 0 + t - vs.length + 1 := by
  unfold valF
  have hp := List.length_pos_iff.mpr h
  by_cases c : t < vs.length
  · rw [if_pos c]
    have e : t.toNat = vs.length - 1 := by omega
    have e2 : vs.getD t.toNat 0 = vs.getLastD 0 := by
      rw [e, List.getLastD_eq_getLast?, List.getLast?_eq_getElem?]
      simp [List.getD]
    rw [e2]; omega
  · rw [if_neg c]
theorem VOk.ris {vs : List Int} (h : VOk vs) : Ris (valF vs) := by
  have hp := List.length_pos_iff.mpr h.ne
  have last : vs[vs.length - 1]? = some (vs.getLastD 0) := by
    rw [List.getLastD_eq_getLast?, List.getLast?_eq_getElem?]
    simp [List.getElem?_eq_getElem (show vs.length - 1 < vs.length by omega)]
  have hl := h.ge _ _ last
  refine ⟨fun t ht => ?_, fun t ht => ?_⟩
  · by_cases c : t < vs.length
    · have e : vs[t.toNat]? = some (vs[t.toNat]'(by omega)) := by simp
      have := valF_in e
      rw [show ((t.toNat : Nat) : Int) = t by omega] at this
      rw [this]
      have := h.ge _ _ e
      omega
    · rw [valF_out h.ne (by omega)]; omega
  · by_cases c : t + 1 < vs.length
    · have e : vs[t.toNat]? = some (vs[t.toNat]'(by omega)) := by simp
      have e2 : vs[t.toNat + 1]? = some (vs[t.toNat + 1]'(by omega)) := by simp
      have a := valF_in e
      have b := valF_in e2
      rw [show ((t.toNat : Nat) : Int) = t by omega] at a
      rw [show ((t.toNat + 1 : Nat) : Int) = t + 1 by omega] at b
      rw [a, b]
      exact h.mo _ _ _ e e2
    · rw [valF_out h.ne (show (vs.length : Int) ≤ t + 1 by omega), valF_out h.ne (show (vs.length : Int) ≤ t + 1 + 1 by omega)]; omega
structure VPre (vs : List Int) : Prop where
  ge : ∀ (i : Nat) (v : Int), vs[i]? = some v → (i : Int) ≤ v
  mo : ∀ (i : Nat) (v w : Int), vs[i]? = some v → vs[i + 1]? = some w → v ≤ w
theorem vpre_nil : VPre [] := ⟨fun i v h => by simp at h, fun i v w h => by simp at h⟩
theorem vpre_snoc {vs : List Int} {w : Int} (h : VPre vs) (hl : ∀ v, vs.getLast? = some v → v ≤ w) (hk : (vs.length : Int) ≤ w) : VPre (vs ++ [w]) := by
  refine ⟨fun i v e => ?_, fun i v u e1 e2 => ?_⟩
  · rw [List.getElem?_append] at e
    split at e
    · exact h.ge i v e
    · rename_i c
      have hi : i - vs.length = 0 := by
        rcases Nat.eq_zero_or_pos (i - vs.length) with z | z
        · exact z
        · rw [List.getElem?_eq_none (by simp; omega)] at e; cases e
      rw [hi] at e
      simp at e
      omega
  · rw [List.getElem?_append] at e1 e2
    split at e2
    · rename_i c
      rw [if_pos (by omega)] at e1
      exact h.mo i v u e1 e2
    · rename_i c
      have hi : i + 1 - vs.length = 0 := by
        rcases Nat.eq_zero_or_pos (i + 1 - vs.length) with z | z
        · exact z
        · rw [List.getElem?_eq_none (by simp; omega)] at e2; cases e2
      rw [hi] at e2
      simp at e2
      subst e2
      split at e1
      · apply hl
        rw [List.getLast?_eq_getElem?, show vs.length - 1 = i by omega]
        exact e1
      · omega
theorem vpre_ok {vs : List Int} (h : VPre vs) (n : vs ≠ []) : VOk vs := ⟨n, h.ge, h.mo⟩
def Ch : Rw → List Rw → Prop
  | _, [] => True
  | r, q :: rs => Fol r q ∧ Ch q rs
def lastR : Rw → List Rw → Rw
  | r, [] => r
  | _, q :: rs => lastR q rs
theorem last_split : ∀ (r : Rw) (rs : List Rw), ∃ i, r :: rs = i ++ [lastR r rs]
  | r, [] => ⟨[], rfl⟩
  | r, q :: rs => by
    obtain ⟨i, e⟩ := last_split q rs
    exact ⟨r :: i, congrArg (List.cons r) e⟩
theorem ch_snoc : ∀ {r : Rw} {rs : List Rw} {q : Rw}, Ch r rs → Fol (lastR r rs) q → Ch r (rs ++ [q])
  | r, [], q, _, h => ⟨h, trivial⟩
  | r, p :: rs, q, h, h' => ⟨h.1, ch_snoc h.2 h'⟩
theorem last_snoc : ∀ {r : Rw} {rs : List Rw} {q : Rw}, lastR r (rs ++ [q]) = q
  | r, [], q => rfl
  | r, p :: rs, q => last_snoc (r := p) (rs := rs)
theorem good_snoc : ∀ {r : Rw} {rs : List Rw} {q : Rw}, Ch r rs → Fol (lastR r rs) q → q.2.2 = true → Good r (rs ++ [q])
  | r, [], q, _, h, g => ⟨h, g⟩
  | r, p :: rs, q, h, h', g => ⟨h.1, good_snoc h.2 h' g⟩
theorem ch_le : ∀ {r : Rw} {rs : List Rw}, Ch r rs → r.1 ≤ (lastR r rs).1
  | r, [], _ => Int.le_refl _
  | r, q :: rs, h => by have := ch_le h.2; have := h.1.s; show r.1 ≤ (lastR q rs).1; omega
theorem val_last : ∀ {r : Rw} {rs : List Rw} {t : Int}, Ch r rs → (lastR r rs).1 ≤ t → val r rs t = at1 (lastR r rs) t
  | r, [], t, _, _ => rfl
  | r, q :: rs, t, h, ht => by
    have ht' : (lastR q rs).1 ≤ t := ht
    have := ch_le h.2
    show (if q.1 > t then at1 r t else val q rs t) = at1 (lastR q rs) t
    rw [if_neg (by omega)]
    exact val_last h.2 ht'
theorem val_snoc : ∀ {r : Rw} {rs : List Rw} {q : Rw} {t : Int}, Ch r rs → Fol (lastR r rs) q → t < q.1 → val r (rs ++ [q]) t = val r rs t
  | r, [], q, t, _, _, ht => by show (if q.1 > t then at1 r t else at1 q t) = at1 r t; rw [if_pos ht]
  | r, p :: rs, q, t, h, h', ht => by
    show (if p.1 > t then at1 r t else val p (rs ++ [q]) t) = (if p.1 > t then at1 r t else val p rs t)
    rw [val_snoc h.2 h' ht]
structure Part (vs : List Int) (k : Nat) (r : Rw) (rs : List Rw) : Prop where
  z : r.1 = 0
  p : 0 ≤ r.2.1
  ch : Ch r rs
  v : ∀ t : Nat, t < k → val r rs t = valF vs t
  l : (lastR r rs).1 < k
theorem Part.last {vs : List Int} {k : Nat} {r : Rw} {rs : List Rw} (h : Part vs k r rs) (hk : 0 < k) : at1 (lastR r rs) ((k : Int) - 1) = valF vs ((k : Int) - 1) := by
  have l := h.l
  rw [← val_last h.ch (by omega)]
  have := h.v (k - 1) (by omega)
  rw [show (((k - 1 : Nat)) : Int) = (k : Int) - 1 by omega] at this
  exact this
theorem Part.fol {vs : List Int} (V : VOk vs) {k : Nat} {r : Rw} {rs : List Rw} (h : Part vs k r rs) (hk : 0 < k) (g : Bool) : Fol (lastR r rs) ((k : Int), valF vs k, g) := by
  have R := V.ris
  have e := h.last hk
  have l := h.l
  refine ⟨l, R.ge _ (by omega), ?_, fun hf => ?_⟩
  · show at1 (lastR r rs) ((k : Int) - 1) ≤ valF vs k
    rw [e]
    have := R.mo ((k : Int) - 1) (by omega)
    rw [show (k : Int) - 1 + 1 = k by omega] at this
    exact this
  · show (k : Int) - 1 ≤ (lastR r rs).2.1
    unfold at1 at e
    rw [hf] at e
    have := R.ge ((k : Int) - 1) (by omega)
    simp at e
    omega
theorem Part.add {vs : List Int} (V : VOk vs) {k : Nat} {r : Rw} {rs : List Rw} (h : Part vs k r rs) (hk : 0 < k) (g : Bool) : Part vs (k + 1) r (rs ++ [((k : Int), valF vs k, g)]) := by
  have f := h.fol V hk g
  have c := ch_snoc h.ch f
  refine ⟨h.z, h.p, c, fun t ht => ?_, by rw [last_snoc]; show (k : Int) < ((k + 1 : Nat) : Int); omega⟩
  by_cases q : t < k
  · rw [val_snoc h.ch f (by show (t : Int) < k; omega)]
    exact h.v t q
  · have e : t = k := by omega
    subst e
    rw [val_last c (by rw [last_snoc]; exact Int.le_refl _), last_snoc]
    simp [at1]
theorem Part.on {vs : List Int} {k : Nat} {r : Rw} {rs : List Rw} (h : Part vs k r rs) (e : at1 (lastR r rs) k = valF vs k) : Part vs (k + 1) r rs := by
  have l := h.l
  refine ⟨h.z, h.p, h.ch, fun t ht => ?_, by omega⟩
  by_cases q : t < k
  · exact h.v t q
  · have e' : t = k := by omega
    subst e'
    rw [val_last h.ch (by omega), e]
theorem Part.one {vs : List Int} (V : VOk vs) (g : Bool) : Part vs 1 (0, valF vs 0, g) [] := by
  refine ⟨rfl, V.ris.ge 0 (by omega), trivial, fun t ht => ?_, by show (0 : Int) < ((1 : Nat) : Int); omega⟩
  have : t = 0 := by omega
  subst this
  simp [val, at1]
structure RowsOf (vs : List Int) (rs : List Rw) : Prop where
  right : Right rs
  val : ∀ t, 0 ≤ t → valueAt rs t = valF vs t
  bd : ∀ r ∈ rs, r.1 < vs.length
theorem last_lt {vs : List Int} {B : Int} : ∀ {r : Rw} {rs : List Rw}, Ch r rs → (lastR r rs).1 < B → ∀ q ∈ r :: rs, q.1 < B
  | r, [], _, h, q, hq => by have : q = r := by simpa using hq
                             subst this; exact h
  | r, p :: rs, h, hl, q, hq => by
    have ih := last_lt (vs := vs) h.2 hl
    rcases List.mem_cons.mp hq with rfl | hq
    · have := ih p (by simp); have := h.1.s; omega
    · exact ih q hq
theorem rows_one {vs : List Int} (V : VOk vs) (hl : vs.length = 1) : RowsOf vs [(0, valF vs 0, true)] := by
  refine ⟨⟨rfl, V.ris.ge 0 (by omega), rfl⟩, fun t ht => ?_, fun r hr => by have : r = (0, valF vs 0, true) := by simpa using hr
                                                                            subst this; show (0 : Int) < vs.length; omega⟩
  show at1 (0, valF vs 0, true) t = valF vs t
  rw [valF_out V.ne (show (vs.length : Int) ≤ 0 + 1 by omega), valF_out V.ne (show (vs.length : Int) ≤ t + 1 by omega)]
  simp [at1]; omega
theorem rows_end {vs : List Int} (V : VOk vs) {k : Nat} {r : Rw} {rs : List Rw} (h : Part vs k r rs) (hk : 0 < k) (hl : vs.length = k + 1) : RowsOf vs (r :: rs ++ [((k : Int), valF vs k, true)]) := by
  have f := h.fol V hk true
  have c := ch_snoc h.ch f
  refine ⟨⟨h.z, h.p, good_snoc h.ch f rfl⟩, fun t ht => ?_, ?_⟩
  · show val r (rs ++ [((k : Int), valF vs k, true)]) t = valF vs t
    by_cases q : t < k
    · rw [val_snoc h.ch f q]
      have := h.v t.toNat (by omega)
      rw [show ((t.toNat : Nat) : Int) = t by omega] at this
      exact this
    · rw [val_last c (by rw [last_snoc]; show (k : Int) ≤ t; omega), last_snoc, valF_out V.ne (show (vs.length : Int) ≤ t + 1 by omega)]
      show valF vs k + (if true = true then t - (k : Int) else 0) = _
      rw [valF_out V.ne (show (vs.length : Int) ≤ (k : Int) + 1 by omega)]
      simp; omega
  · have hh := last_lt (vs := vs) (B := vs.length) c (by rw [last_snoc]; show (k : Int) < vs.length; omega)
    exact hh
def lastM : List (Int × Int) → Int
  | [] => 0
  | [x] => x.1
  | _ :: y :: r => lastM (y :: r)
theorem last_run {f : Int → Int} {B : Int} (hB : ∀ t, B ≤ t → f (t + 1) = f t + 1) (h0 : 0 ≤ B) : ∀ {l : List (Int × Int)}, Runs (der f) l → Dist l → (∀ x, l.head? = some x → x.1 ≤ B) → lastM l ≤ B
  | [], h, _, _ => h.elim
  | [x], _, _, hx => hx x rfl
  | x :: y :: r, h, d, hx => by
    have : lastM (x :: y :: r) = lastM (y :: r) := rfl
    rw [this]
    refine last_run hB h0 (l := y :: r) h.2.2 d.2 fun z hz => ?_
    have ez : y = z := by simpa using hz
    subst ez
    rcases Int.lt_or_le B y.1 with c | c
    · exfalso
      have dy : der f y.1 = y.2 := by
        cases r with
        | nil => exact h.2.2.2 y.1 (by omega)
        | cons w r => exact h.2.2.2.1 y.1 (by omega) h.2.2.1
      have dx := h.2.1 (y.1 - 1) (by have := h.1; omega) (by omega)
      unfold der at dx dy
      have b1 := hB y.1 (by omega)
      have b2 := hB (y.1 - 1) (by omega)
      exact d.1 (by omega)
    · exact c
theorem hit_last {d : Int → Int} : ∀ {l : List (Int × Int)} {x : Int × Int}, Runs d (x :: l) → x.1 ≤ lastM (x :: l)
  | [], x, _ => Int.le_refl _
  | y :: l, x, h => by have := hit_last h.2.2; have := h.1; show x.1 ≤ lastM (y :: l); omega
theorem lastM_skip {s : Int} : ∀ {l : List (Int × Int)}, lastM (skip s l) = lastM l
  | [] => rfl
  | [x] => rfl
  | x :: y :: r => by
    unfold skip
    split
    · exact lastM_skip (l := y :: r)
    · rfl
theorem gre_bd {f d : Int → Int} {s : Int} {l : List (Int × Int)} {G : List Rw} (h : Gre f s l G) : Runs d l → Hit s l → s ≤ lastM l + 1 → ∀ r ∈ G, r.1 ≤ lastM l + 1 := by
  induction h with
  | last s x => intro _ _ hs r hr; have : r = (s, f s, true) := by simpa using hr
                subst this; exact hs
  | @more s x y r G h ih =>
    intro hr ha hs q hq
    rcases List.mem_cons.mp hq with rfl | hq
    · exact hs
    · have hey : ende s x y ≤ y.1 := by unfold ende; split <;> have := ha.2 <;> omega
      have hes : s ≤ ende s x y := by unfold ende; split <;> have := ha.2 <;> omega
      obtain ⟨sa, sr⟩ := skip_at (s := ende s x y + 1) hr (fun z hz => by simp at hz; subst hz; have := ha.1; omega)
      have hy : y.1 ≤ lastM (x :: y :: r) := hit_last hr.2.2
      have := ih sr sa (by rw [lastM_skip]; omega) q hq
      rw [lastM_skip] at this
      exact this
theorem canon_bd {f : Int → Int} {G : List Rw} (h : Canon f G) {B : Int} (hB : ∀ t, B ≤ t → f (t + 1) = f t + 1) (h0 : 0 ≤ B) : ∀ r ∈ G, r.1 ≤ B + 1 := by
  obtain ⟨l, hs, hg⟩ := h
  have hl : lastM l ≤ B := last_run hB h0 hs.runs hs.dist (fun x hx => by
    have z := hs.zero
    rw [hx] at z
    have : x.1 = 0 := by simpa using z
    omega)
  have h0l : 0 ≤ lastM l := by
    have z := hs.zero
    have r := hs.runs
    cases l with
    | nil => exact r.elim
    | cons x l => have := hit_last r; have : x.1 = 0 := by simpa using z
                  omega
  intro r hr
  have := gre_bd hg hs.runs hs.at0 (by omega) r hr
  omega
theorem valF_up {vs : List Int} (h : vs ≠ []) (t : Int) (ht : (vs.length : Int) - 1 ≤ t) : valF vs (t + 1) = valF vs t + 1 := by
  rw [valF_out h (by omega), valF_out h (by omega)]; omega
end RM
namespace RM
end RM
namespace RM
inductive Grd (f : Int → Int) : Int → List Rw → Prop
  | last {s : Int} (h : ∀ t, s ≤ t → der f t = 1) : Grd f s [(s, f s, true)]
  | more {s e : Int} {G : List Rw} (l : s ≤ e) (h : ∀ t, s ≤ t → t < e → der f t = der f s) (hn : der f s < 2 → s < e ∧ der f e ≠ der f s) (h2 : 2 ≤ der f s → e = s) (c : Grd f (e + 1) G) : Grd f s ((s, f s, decide (der f s = 1)) :: G)
theorem Grd.uniq {f g : Int → Int} (e : ∀ t, 0 ≤ t → f t = g t) {s : Int} {G G' : List Rw} (h : Grd f s G) (h' : Grd g s G') : 0 ≤ s → G = G' := by
  have de : ∀ t, 0 ≤ t → der f t = der g t := fun t ht => by unfold der; rw [e t ht, e (t + 1) (by omega)]
  induction h generalizing G' with
  | @last s h =>
    intro h0
    cases h' with
    | last h' => rw [e s h0]
    | @more _ e' _ l' k' hn' h2' c' =>
      exfalso
      have d1 : der g s = 1 := by rw [← de s h0]; exact h s (Int.le_refl _)
      have := hn' (by omega)
      exact this.2 (by rw [d1, ← de e' (by omega)]; exact h e' l')
  | @more s e0 G l k hn h2 c ih =>
    intro h0
    cases h' with
    | last h' =>
      exfalso
      have d1 : der f s = 1 := by rw [de s h0]; exact h' s (Int.le_refl _)
      have := hn (by omega)
      exact this.2 (by rw [d1, de e0 (by omega)]; exact h' e0 l)
    | @more _ e' G' l' k' hn' h2' c' =>
      have ds := de s h0
      have ee : e0 = e' := by
        by_cases c2 : der f s < 2
        · have a := hn c2
          have a' := hn' (by omega)
          rcases Int.lt_trichotomy e0 e' with z | z | z
          · exact absurd (show der f e0 = der f s by rw [de e0 (by omega), k' e0 l z, ds]) a.2
          · exact z
          · exact absurd (show der g e' = der g s by rw [← de e' (by omega), k e' l' z, ds]) a'.2
        · rw [h2 (by omega), h2' (by omega)]
      subst ee
      rw [ih c' (by omega), e s h0, ds]
theorem gre_grd {f : Int → Int} (R : Ris f) {s : Int} {l : List (Int × Int)} {G : List Rw} (h : Gre f s l G) : Runs (der f) l → Dist l → Hit s l → 0 ≤ s → Grd f s G := by
  induction h with
  | last s x =>
    intro hr hd ha h0
    have ha : x.1 ≤ s := ha
    exact Grd.last fun t ht => by rw [hr.2 t (by omega), hr.1]
  | @more s x y r G h ih =>
    intro hr hd ha h0
    obtain ⟨ha1, ha2⟩ := ha
    have ds : der f s = x.2 := hr.2.1 s ha1 ha2
    have hes : s ≤ ende s x y := by unfold ende; split <;> omega
    have hey : ende s x y ≤ y.1 := by unfold ende; split <;> omega
    obtain ⟨sa, sr⟩ := skip_at (s := ende s x y + 1) hr (fun z hz => by simp at hz; subst hz; omega)
    have sd : ∀ {l : List (Int × Int)} {u : Int}, Dist l → Dist (skip u l) := by
      intro l u
      induction l with
      | nil => intro h; exact h
      | cons a l ih2 =>
        intro h
        cases l with
        | nil => exact h
        | cons b l =>
          unfold skip
          split
          · exact ih2 h.2
          · exact h
    have g := ih sr (sd hd) sa (by omega)
    rw [← ds]
    refine Grd.more hes (fun t h1 h2 => by rw [ds]; exact hr.2.1 t (by omega) (by omega)) (fun c => ?_) (fun c => ?_) g
    · have he : ende s x y = y.1 := if_pos (by omega)
      rw [he]
      refine ⟨ha2, ?_⟩
      have dy : der f y.1 = y.2 := by
        cases r with
        | nil => exact hr.2.2.2 y.1 (Int.le_refl _)
        | cons z r => exact hr.2.2.2.1 y.1 (Int.le_refl _) hr.2.2.1
      rw [dy, ds]
      exact Ne.symm hd.1
    · exact if_neg (by omega)
theorem Canon.grd {f : Int → Int} (R : Ris f) {G : List Rw} (h : Canon f G) : Grd f 0 G := by
  obtain ⟨l, hs, hg⟩ := h
  exact gre_grd R hg hs.runs hs.dist hs.at0 (Int.le_refl _)
theorem runs_congr {d d' : Int → Int} (e : ∀ t, 0 ≤ t → d t = d' t) : ∀ {l : List (Int × Int)}, (∀ x, l.head? = some x → 0 ≤ x.1) → Runs d l → Runs d' l
  | [], _, h => h.elim
  | [x], h0, h => ⟨h.1, fun t ht => by rw [← e t (by have := h0 x rfl; omega)]; exact h.2 t ht⟩
  | x :: y :: r, h0, h => by
    have h0x := h0 x rfl
    exact ⟨h.1, fun t h1 h2 => by rw [← e t (by omega)]; exact h.2.1 t h1 h2, runs_congr e (fun z hz => by simp at hz; subst hz; have := h.1; omega) h.2.2⟩
theorem gre_congr {f g : Int → Int} (e : ∀ t, 0 ≤ t → f t = g t) {s : Int} {l : List (Int × Int)} {G : List Rw} (h : Gre f s l G) : (∀ x ∈ l, 0 ≤ x.1) → 0 ≤ s → Gre g s l G := by
  induction h with
  | last s x => intro _ h0; rw [e s h0]; exact Gre.last s x
  | @more s x y r G h ih =>
    intro hl h0
    have sk : ∀ {l : List (Int × Int)} {s : Int}, (∀ x ∈ l, 0 ≤ x.1) → ∀ x ∈ skip s l, 0 ≤ x.1 := by
      intro l s
      induction l with
      | nil => intro hl x hx; exact hl x hx
      | cons a l ih =>
        intro hl x hx
        cases l with
        | nil => exact hl x hx
        | cons b l =>
          unfold skip at hx
          split at hx
          · exact ih (fun z hz => hl z (List.mem_cons_of_mem _ hz)) x hx
          · exact hl x hx
    have := hl y (by simp)
    rw [e s h0]
    exact Gre.more (ih (sk hl) (by unfold ende; split <;> omega))
theorem Canon.congr {f g : Int → Int} {G : List Rw} (h : Canon f G) (e : ∀ t, 0 ≤ t → f t = g t) : Canon g G := by
  obtain ⟨l, hs, hg⟩ := h
  have hd : ∀ t, 0 ≤ t → der f t = der g t := fun t ht => by unfold der; rw [e t ht, e (t + 1) (by omega)]
  refine ⟨l, ⟨runs_congr hd (fun x hx => by have z := hs.zero; rw [hx] at z; have : x.1 = 0 := by simpa using z
                                            omega) hs.runs, hs.dist, hs.zero⟩, gre_congr e hg (runs_pos hs.runs 0 hs.zero) (Int.le_refl _)⟩
theorem Ris.congr {f g : Int → Int} (R : Ris f) (e : ∀ t, 0 ≤ t → f t = g t) : Ris g := ⟨fun t ht => by rw [← e t ht]; exact R.ge t ht, fun t ht => by rw [← e t ht, ← e (t + 1) (by omega)]; exact R.mo t ht⟩
def Up (f : Int → Int) : Prop := ∀ t, 4000 ≤ t → f (t + 1) = f t + 1
structure Rz (F : List Rw) : Prop where
  r : Right F
  c : Canon (valueAt F) F
  u : Up (valueAt F)
theorem Rz.ris {F : List Rw} (h : Rz F) : Ris (valueAt F) := ris_of h.r
theorem Rz.bd {F : List Rw} (h : Rz F) : ∀ r ∈ F, r.1 ≤ 4001 := fun r hr => canon_bd h.c (B := 4000) h.u (by decide) r hr
theorem good_len' : ∀ {r : Rw} {rs : List Rw} {B : Int}, Good r rs → (∀ q ∈ r :: rs, q.1 ≤ B) → r.1 + rs.length ≤ B
  | r, [], B, _, h => by have := h r (by simp); simpa using this
  | r, q :: rs, B, hg, h => by
    have := good_len' hg.2 (fun p hp => h p (List.mem_cons_of_mem _ hp))
    have := hg.1.s
    simp; omega
theorem right_len' {F : List Rw} (h : Right F) {B : Int} (b : ∀ q ∈ F, q.1 ≤ B) : (F.length : Int) ≤ B + 1 := by
  cases F with
  | nil => exact h.elim
  | cons r rs => have := good_len' h.2.2 b; have := h.1; simp; omega
theorem Rz.len {F : List Rw} (h : Rz F) : F.length ≤ 4002 := by
  have := right_len' h.r h.bd
  omega
theorem rz_of {f : Int → Int} (R : Ris f) (u : Up f) {G : List Rw} (c : Canon f G) : Rz G ∧ ∀ t, 0 ≤ t → valueAt G t = f t := by
  obtain ⟨r, v⟩ := c.right R
  refine ⟨⟨r, c.congr fun t ht => (v t ht).symm, fun t ht => ?_⟩, v⟩
  rw [v t (by omega), v (t + 1) (by omega)]
  exact u t ht
theorem Rz.eq {F G : List Rw} (h : Rz F) (k : Rz G) (e : ∀ t, 0 ≤ t → valueAt F t = valueAt G t) : F = G := h.c.uniq k.c e
theorem Rz.grd {F : List Rw} (h : Rz F) {f : Int → Int} (e : ∀ t, 0 ≤ t → valueAt F t = f t) : Grd f 0 F := (h.c.congr e).grd (h.ris.congr e)
theorem rz_rows {vs : List Int} (V : VOk vs) (hl : vs.length ≤ 4000) {rs G : List Rw} (h : RowsOf vs rs) (c : Canon (valueAt rs) G) : Rz G ∧ ∀ t, 0 ≤ t → valueAt G t = valF vs t := by
  obtain ⟨z, v⟩ := rz_of (ris_of h.right) (fun t ht => by rw [h.val t (by omega), h.val (t + 1) (by omega), valF_up V.ne t (by omega)]) c
  exact ⟨z, fun t ht => by rw [v t ht, h.val t ht]⟩
end RM
namespace LW
open PySem PySem.Spec L2 DL PySem.NumText
def top (i : Nat) : Stmt := PySem.Challenge.pw_laterways_k03_rows_of_maps.main.body.getD i (.Pass ⟨0, 0, 0, 0⟩)
abbrev s_law_start : Stmt := top 23
abbrev s_law_draw : Stmt := top 24
abbrev s_is_integer : Stmt := top 6
abbrev s_check_integer : Stmt := top 7
abbrev s_check_number : Stmt := top 8
abbrev s_row_fault : Stmt := top 10
abbrev s_check_rows : Stmt := top 11
abbrev s_value_at : Stmt := top 12
abbrev s_runs_of : Stmt := top 14
abbrev s_steps_of : Stmt := top 13
abbrev s_greedy_rows : Stmt := top 15
abbrev s_RisingZZ_initZZ : Stmt := inClass (top 21) 0
abbrev s_RisingZZ_callZZ : Stmt := inClass (top 21) 1
abbrev s_RisingZZ_iterZZ : Stmt := inClass (top 21) 2
abbrev s_RisingZZ_lenZZ : Stmt := inClass (top 21) 3
abbrev s_RisingZZ_eqZZ : Stmt := inClass (top 21) 5
abbrev s_law_values : Stmt := top 25
abbrev s_law_at : Stmt := top 26
abbrev s_law_rows : Stmt := top 27
abbrev s_law_greedy : Stmt := top 28
abbrev s_law_value : Stmt := top 29
abbrev s_law : Stmt := top 30
theorem sc_law_start : FnScope ["_law_script", "_law_first"] ["_law_script"] (defScope s_law_start) := ⟨rfl, rfl, rfl, by decide +kernel, rfl, by decide +kernel, by decide +kernel⟩
theorem sc_law_draw : FnScope ["_law_script", "_law_state", "_law_limit", "_law_number", "_law_cell", "_law_mixed"] ["_law_script", "_law_state", "_law_limit"] (defScope s_law_draw) := ⟨rfl, rfl, rfl, by decide +kernel, rfl, by decide +kernel, by decide +kernel⟩
theorem sc_is_integer : FnScope ["value"] ["value"] (defScope s_is_integer) := ⟨rfl, rfl, rfl, by decide +kernel, rfl, by decide +kernel, by decide +kernel⟩
theorem sc_check_integer : FnScope ["what", "value"] ["what", "value"] (defScope s_check_integer) := ⟨rfl, rfl, rfl, by decide +kernel, rfl, by decide +kernel, by decide +kernel⟩
theorem sc_check_number : FnScope ["what", "value", "low", "high"] ["what", "value", "low", "high"] (defScope s_check_number) := ⟨rfl, rfl, rfl, by decide +kernel, rfl, by decide +kernel, by decide +kernel⟩
theorem sc_row_fault : FnScope ["row", "before", "start", "value", "grows", "first", "least", "grew"] ["row", "before"] (defScope s_row_fault) := ⟨rfl, rfl, rfl, by decide +kernel, rfl, by decide +kernel, by decide +kernel⟩
theorem sc_check_rows : FnScope ["rows", "before", "at", "row"] ["rows"] (defScope s_check_rows) := ⟨rfl, rfl, rfl, by decide +kernel, rfl, by decide +kernel, by decide +kernel⟩
theorem sc_value_at : FnScope ["rows", "minute", "found", "row", "start", "value", "grows"] ["rows", "minute"] (defScope s_value_at) := ⟨rfl, rfl, rfl, by decide +kernel, rfl, by decide +kernel, by decide +kernel⟩
theorem sc_runs_of : FnScope ["rows", "at", "start", "value", "grows", "last", "reached", "leap"] ["rows", "at", "start", "value", "grows"] (defScope s_runs_of) := ⟨rfl, rfl, rfl, by decide +kernel, rfl, by decide +kernel, by decide +kernel⟩
theorem sc_steps_of : FnScope ["rows", "found", "at", "start", "value", "grows", "run"] ["rows"] (defScope s_steps_of) := ⟨rfl, rfl, rfl, by decide +kernel, rfl, by decide +kernel, by decide +kernel⟩
theorem sc_greedy_rows : FnScope ["rows", "steps", "found", "start", "at", "step", "end"] ["rows"] (defScope s_greedy_rows) := ⟨rfl, rfl, rfl, by decide +kernel, rfl, by decide +kernel, by decide +kernel⟩
theorem sc_RisingZZ_initZZ : FnScope ["self", "rows"] ["self", "rows"] (defScope s_RisingZZ_initZZ) := ⟨rfl, rfl, rfl, by decide +kernel, rfl, by decide +kernel, by decide +kernel⟩
theorem sc_RisingZZ_callZZ : FnScope ["self", "minute"] ["self", "minute"] (defScope s_RisingZZ_callZZ) := ⟨rfl, rfl, rfl, by decide +kernel, rfl, by decide +kernel, by decide +kernel⟩
theorem sc_RisingZZ_iterZZ : FnScope ["self"] ["self"] (defScope s_RisingZZ_iterZZ) := ⟨rfl, rfl, rfl, by decide +kernel, rfl, by decide +kernel, by decide +kernel⟩
theorem sc_RisingZZ_lenZZ : FnScope ["self"] ["self"] (defScope s_RisingZZ_lenZZ) := ⟨rfl, rfl, rfl, by decide +kernel, rfl, by decide +kernel, by decide +kernel⟩
theorem sc_RisingZZ_eqZZ : FnScope ["self", "other"] ["self", "other"] (defScope s_RisingZZ_eqZZ) := ⟨rfl, rfl, rfl, by decide +kernel, rfl, by decide +kernel, by decide +kernel⟩
theorem sc_law_values : FnScope ["_law_script", "_law_state", "_law_most", "_law_value_here", "_law_found", "_law_minute"] ["_law_script", "_law_state", "_law_most"] (defScope s_law_values) := ⟨rfl, rfl, rfl, by decide +kernel, rfl, by decide +kernel, by decide +kernel⟩
theorem sc_law_at : FnScope ["_law_values_here", "_law_minute"] ["_law_values_here", "_law_minute"] (defScope s_law_at) := ⟨rfl, rfl, rfl, by decide +kernel, rfl, by decide +kernel, by decide +kernel⟩
theorem sc_law_rows : FnScope ["_law_script", "_law_state", "_law_values_here", "_law_rows_here", "_law_last", "_law_minute", "_law_goes_on", "_law_start_here", "_law_value_here", "_law_grows"] ["_law_script", "_law_state", "_law_values_here"] (defScope s_law_rows) := ⟨rfl, rfl, rfl, by decide +kernel, rfl, by decide +kernel, by decide +kernel⟩
theorem sc_law_greedy : FnScope ["_law_values_here", "_law_rows_here", "_law_start_here", "_law_k", "_law_value_here", "_law_step", "_law_end", "_law_minute", "_law_rise"] ["_law_values_here"] (defScope s_law_greedy) := ⟨rfl, rfl, rfl, by decide +kernel, rfl, by decide +kernel, by decide +kernel⟩
theorem sc_law_value : FnScope ["_law_f", "_law_minute", "e"] ["_law_f", "_law_minute"] (defScope s_law_value) := ⟨rfl, rfl, rfl, by decide +kernel, rfl, by decide +kernel, by decide +kernel⟩
theorem sc_law : FnScope ["_law_script", "_law_state", "_law_values_here", "_law_rows_here", "_law_kept", "_law_f", "_law_due", "_law_minute", "_law_twin", "_law_at_here", "_law_other", "_law_more", "_law_k", "_law_value_here", "_law_row"] ["_law_script"] (defScope s_law) := ⟨rfl, rfl, rfl, by decide +kernel, rfl, by decide +kernel, by decide +kernel⟩
structure Tx (P : Program) (K : PySem.W.Frag) (mg : Str → Option Value) : Prop where
  b_abs : mg "abs" = none
  b_bool : mg "bool" = none
  b_enumerate : mg "enumerate" = none
  b_int : mg "int" = none
  b_isinstance : mg "isinstance" = none
  b_iter : mg "iter" = none
  b_len : mg "len" = none
  b_list : mg "list" = none
  b_max : mg "max" = none
  b_range : mg "range" = none
  b_tuple : mg "tuple" = none
  g_BadNumber : mg "BadNumber" = some (.ref (He.ga K "BadNumber"))
  g_BadRows : mg "BadRows" = some (.ref (He.ga K "BadRows"))
  g_Rising : mg "Rising" = some (.ref (He.ga K "Rising"))
  E_BadNumber : ErrK P K mg "BadNumber" (He.ga K "BadNumber") ["what", "value"]
  E_BadRows : ErrK P K mg "BadRows" (He.ga K "BadRows") ["place"]
  f_law_start : ∃ fd, FunD K "_law_start" "_law_start" (defArgs s_law_start) (defBody s_law_start) (defScope s_law_start) [] [] (He.fAd K ("_law_start", none)) fd
  g_law_start : mg "_law_start" = some (.ref (He.ga K "_law_start"))
  f_law_draw : ∃ fd, FunD K "_law_draw" "_law_draw" (defArgs s_law_draw) (defBody s_law_draw) (defScope s_law_draw) [] [] (He.fAd K ("_law_draw", none)) fd
  g_law_draw : mg "_law_draw" = some (.ref (He.ga K "_law_draw"))
  f_is_integer : ∃ fd, FunD K "is_integer" "is_integer" (defArgs s_is_integer) (defBody s_is_integer) (defScope s_is_integer) [] [] (He.fAd K ("is_integer", none)) fd
  g_is_integer : mg "is_integer" = some (.ref (He.ga K "is_integer"))
  f_check_integer : ∃ fd, FunD K "check_integer" "check_integer" (defArgs s_check_integer) (defBody s_check_integer) (defScope s_check_integer) [] [] (He.fAd K ("check_integer", none)) fd
  g_check_integer : mg "check_integer" = some (.ref (He.ga K "check_integer"))
  f_check_number : ∃ fd, FunD K "check_number" "check_number" (defArgs s_check_number) (defBody s_check_number) (defScope s_check_number) [] [] (He.fAd K ("check_number", none)) fd
  g_check_number : mg "check_number" = some (.ref (He.ga K "check_number"))
  f_row_fault : ∃ fd, FunD K "row_fault" "row_fault" (defArgs s_row_fault) (defBody s_row_fault) (defScope s_row_fault) [] [] (He.fAd K ("row_fault", none)) fd
  g_row_fault : mg "row_fault" = some (.ref (He.ga K "row_fault"))
  f_check_rows : ∃ fd, FunD K "check_rows" "check_rows" (defArgs s_check_rows) (defBody s_check_rows) (defScope s_check_rows) [] [] (He.fAd K ("check_rows", none)) fd
  g_check_rows : mg "check_rows" = some (.ref (He.ga K "check_rows"))
  f_value_at : ∃ fd, FunD K "value_at" "value_at" (defArgs s_value_at) (defBody s_value_at) (defScope s_value_at) [] [] (He.fAd K ("value_at", none)) fd
  g_value_at : mg "value_at" = some (.ref (He.ga K "value_at"))
  f_runs_of : ∃ fd, FunD K "runs_of" "runs_of" (defArgs s_runs_of) (defBody s_runs_of) (defScope s_runs_of) [] [] (He.fAd K ("runs_of", none)) fd
  g_runs_of : mg "runs_of" = some (.ref (He.ga K "runs_of"))
  f_steps_of : ∃ fd, FunD K "steps_of" "steps_of" (defArgs s_steps_of) (defBody s_steps_of) (defScope s_steps_of) [] [] (He.fAd K ("steps_of", none)) fd
  g_steps_of : mg "steps_of" = some (.ref (He.ga K "steps_of"))
  f_greedy_rows : ∃ fd, FunD K "greedy_rows" "greedy_rows" (defArgs s_greedy_rows) (defBody s_greedy_rows) (defScope s_greedy_rows) [] [] (He.fAd K ("greedy_rows", none)) fd
  g_greedy_rows : mg "greedy_rows" = some (.ref (He.ga K "greedy_rows"))
  f_RisingZZ_initZZ : ∃ fd, FunD K "__init__" "Rising.__init__" (defArgs s_RisingZZ_initZZ) (defBody s_RisingZZ_initZZ) (defScope s_RisingZZ_initZZ) [] [] (He.fAd K ("Rising", some "__init__")) fd
  f_RisingZZ_callZZ : ∃ fd, FunD K "__call__" "Rising.__call__" (defArgs s_RisingZZ_callZZ) (defBody s_RisingZZ_callZZ) (defScope s_RisingZZ_callZZ) [] [] (He.fAd K ("Rising", some "__call__")) fd
  f_RisingZZ_iterZZ : ∃ fd, FunD K "__iter__" "Rising.__iter__" (defArgs s_RisingZZ_iterZZ) (defBody s_RisingZZ_iterZZ) (defScope s_RisingZZ_iterZZ) [] [] (He.fAd K ("Rising", some "__iter__")) fd
  f_RisingZZ_lenZZ : ∃ fd, FunD K "__len__" "Rising.__len__" (defArgs s_RisingZZ_lenZZ) (defBody s_RisingZZ_lenZZ) (defScope s_RisingZZ_lenZZ) [] [] (He.fAd K ("Rising", some "__len__")) fd
  f_RisingZZ_eqZZ : ∃ fd, FunD K "__eq__" "Rising.__eq__" (defArgs s_RisingZZ_eqZZ) (defBody s_RisingZZ_eqZZ) (defScope s_RisingZZ_eqZZ) [] [] (He.fAd K ("Rising", some "__eq__")) fd
  f_law_values : ∃ fd, FunD K "_law_values" "_law_values" (defArgs s_law_values) (defBody s_law_values) (defScope s_law_values) [] [] (He.fAd K ("_law_values", none)) fd
  g_law_values : mg "_law_values" = some (.ref (He.ga K "_law_values"))
  f_law_at : ∃ fd, FunD K "_law_at" "_law_at" (defArgs s_law_at) (defBody s_law_at) (defScope s_law_at) [] [] (He.fAd K ("_law_at", none)) fd
  g_law_at : mg "_law_at" = some (.ref (He.ga K "_law_at"))
  f_law_rows : ∃ fd, FunD K "_law_rows" "_law_rows" (defArgs s_law_rows) (defBody s_law_rows) (defScope s_law_rows) [] [] (He.fAd K ("_law_rows", none)) fd
  g_law_rows : mg "_law_rows" = some (.ref (He.ga K "_law_rows"))
  f_law_greedy : ∃ fd, FunD K "_law_greedy" "_law_greedy" (defArgs s_law_greedy) (defBody s_law_greedy) (defScope s_law_greedy) [] [] (He.fAd K ("_law_greedy", none)) fd
  g_law_greedy : mg "_law_greedy" = some (.ref (He.ga K "_law_greedy"))
  f_law_value : ∃ fd, FunD K "_law_value" "_law_value" (defArgs s_law_value) (defBody s_law_value) (defScope s_law_value) [] [] (He.fAd K ("_law_value", none)) fd
  g_law_value : mg "_law_value" = some (.ref (He.ga K "_law_value"))
  f_law : ∃ fd, FunD K "law" "law" (defArgs s_law) (defBody s_law) (defScope s_law) [] [] (He.fAd K ("law", none)) fd
  g_law : mg "law" = some (.ref (He.ga K "law"))
  x_NN : PySem.W.exmOne K (.ref (He.ga K "BadNumber")) (.ref (He.ga K "BadNumber")) = some true
  m_Rising : Mk K (He.ga K "Rising") (He.fAd K ("Rising", some "__init__"))
  cl_Rising : Cls K (He.ga K "Rising")
  eq_Rising : EqC K (He.ga K "Rising") (He.fAd K ("Rising", some "__eq__"))
  if_Rising : InsF K (He.ga K "Rising")
  na_Rising_rows : NoAttr K (He.ga K "Rising") "rows"
  op_Rising_call : OpO K (He.ga K "Rising") (He.fAd K ("Rising", some "__call__")) "__call__"
  op_Rising_iter : OpO K (He.ga K "Rising") (He.fAd K ("Rising", some "__iter__")) "__iter__"
  op_Rising_len : OpO K (He.ga K "Rising") (He.fAd K ("Rising", some "__len__")) "__len__"
def e_BadNumber : EDef := ⟨"BadNumber", "BadNumber.__init__", defArgs (inClass (top 3) 0), defBody (inClass (top 3) 0), defScope (inClass (top 3) 0), ["what", "value"]⟩
theorem ct_BadNumber : ER.CallT "bad number" ⟨10, 8, 10, 13⟩ ⟨10, 8, 10, 15⟩ ⟨10, 8, 10, 24⟩ ⟨10, 25, 10, 37⟩ ⟨10, 8, 10, 38⟩ ⟨10, 8, 10, 38⟩ := ⟨fun _ => rfl, fun _ => ⟨_, rfl⟩⟩
theorem mk_BadNumber {K : PySem.W.Frag} {h : Heap} {mg : Str → Option Value} (X : K.In h) (G : h.Ns mainGlobals mg) (z : fnE K "BadNumber" = e_BadNumber.val ∧ errB PySem.Challenge.pw_laterways_k03_rows_of_maps K "BadNumber" "BadNumber.__init__" ["what", "value"] = true) : ErrK PySem.Challenge.pw_laterways_k03_rows_of_maps K mg "BadNumber" (He.ga K "BadNumber") ["what", "value"] := by
  obtain ⟨ET, IB⟩ := err_ok X G z.2
  have IT : ER.InitT PySem.Challenge.pw_laterways_k03_rows_of_maps K "BadNumber.__init__" ⟨9, 17, 9, 21⟩ [("what", ⟨9, 23, 9, 27⟩), ("value", ⟨9, 29, 9, 34⟩)] [.Expr (ER.eCall "bad number" ⟨10, 8, 10, 13⟩ ⟨10, 8, 10, 15⟩ ⟨10, 8, 10, 24⟩ ⟨10, 25, 10, 37⟩ ⟨10, 8, 10, 38⟩) ⟨10, 8, 10, 38⟩, ER.eSet "what" ⟨11, 8, 11, 12⟩ ⟨11, 8, 11, 17⟩ ⟨11, 20, 11, 24⟩ ⟨11, 8, 11, 24⟩, ER.eSet "value" ⟨12, 8, 12, 12⟩ ⟨12, 8, 12, 18⟩ ⟨12, 21, 12, 26⟩ ⟨12, 8, 12, 26⟩] (He.ga K "BadNumber") _ := init_ok (prog := PySem.Challenge.pw_laterways_k03_rows_of_maps) (by rw [z.1]; rfl) IB
  exact errK_of ET (ER.maker2 ET ct_BadNumber IT (fun _ _ _ _ _ _ _ _ _ => by first | rfl | with_unfolding_all rfl | kernel_rfl) (by decide +kernel) (by decide +kernel) (by decide +kernel) (by decide +kernel) (by decide +kernel) (by decide +kernel) (by decide +kernel) (by decide +kernel) (by decide +kernel))
def e_BadRows : EDef := ⟨"BadRows", "BadRows.__init__", defArgs (inClass (top 4) 0), defBody (inClass (top 4) 0), defScope (inClass (top 4) 0), ["place"]⟩
theorem ct_BadRows : ER.CallT "bad rows" ⟨16, 8, 16, 13⟩ ⟨16, 8, 16, 15⟩ ⟨16, 8, 16, 24⟩ ⟨16, 25, 16, 35⟩ ⟨16, 8, 16, 36⟩ ⟨16, 8, 16, 36⟩ := ⟨fun _ => rfl, fun _ => ⟨_, rfl⟩⟩
theorem mk_BadRows {K : PySem.W.Frag} {h : Heap} {mg : Str → Option Value} (X : K.In h) (G : h.Ns mainGlobals mg) (z : fnE K "BadRows" = e_BadRows.val ∧ errB PySem.Challenge.pw_laterways_k03_rows_of_maps K "BadRows" "BadRows.__init__" ["place"] = true) : ErrK PySem.Challenge.pw_laterways_k03_rows_of_maps K mg "BadRows" (He.ga K "BadRows") ["place"] := by
  obtain ⟨ET, IB⟩ := err_ok X G z.2
  have IT : ER.InitT PySem.Challenge.pw_laterways_k03_rows_of_maps K "BadRows.__init__" ⟨15, 17, 15, 21⟩ [("place", ⟨15, 23, 15, 28⟩)] [.Expr (ER.eCall "bad rows" ⟨16, 8, 16, 13⟩ ⟨16, 8, 16, 15⟩ ⟨16, 8, 16, 24⟩ ⟨16, 25, 16, 35⟩ ⟨16, 8, 16, 36⟩) ⟨16, 8, 16, 36⟩, ER.eSet "place" ⟨17, 8, 17, 12⟩ ⟨17, 8, 17, 18⟩ ⟨17, 21, 17, 26⟩ ⟨17, 8, 17, 26⟩] (He.ga K "BadRows") _ := init_ok (prog := PySem.Challenge.pw_laterways_k03_rows_of_maps) (by rw [z.1]; rfl) IB
  exact errK_of ET (ER.maker1 ET ct_BadRows IT (fun _ _ _ _ _ _ _ _ => by first | rfl | with_unfolding_all rfl | kernel_rfl) (by decide +kernel) (by decide +kernel) (by decide +kernel) (by decide +kernel))
def fxl (K : PySem.W.Frag) : List Bool := [eqCB K (He.ga K "Rising") (He.fAd K ("Rising", some "__eq__")), insFB K (He.ga K "Rising"), opOB K (He.ga K "Rising") (He.fAd K ("Rising", some "__call__")) "__call__", opOB K (He.ga K "Rising") (He.fAd K ("Rising", some "__iter__")) "__iter__", opOB K (He.ga K "Rising") (He.fAd K ("Rising", some "__len__")) "__len__"]
def fx (K : PySem.W.Frag) : Bool := (fxl K).all id
def fa : List He.Fa := [.free "abs", .free "bool", .free "enumerate", .free "int", .free "isinstance", .free "iter", .free "len", .free "list", .free "max", .free "range", .free "tuple", .glo "BadNumber", .glo "BadRows", .glo "Rising", .glo "_law_start", .glo "_law_draw", .glo "is_integer", .glo "check_integer", .glo "check_number", .glo "row_fault", .glo "check_rows", .glo "value_at", .glo "runs_of", .glo "steps_of", .glo "greedy_rows", .glo "_law_values", .glo "_law_at", .glo "_law_rows", .glo "_law_greedy", .glo "_law_value", .glo "law", .exm "BadNumber" "BadNumber" true, .mkr "Rising", .cls "Rising", .noat "Rising" "rows"]
def fn : List He.DefD := [⟨("_law_start", none), "_law_start", "_law_start", defArgs s_law_start, defBody s_law_start, defScope s_law_start, [], []⟩, ⟨("_law_draw", none), "_law_draw", "_law_draw", defArgs s_law_draw, defBody s_law_draw, defScope s_law_draw, [], []⟩, ⟨("is_integer", none), "is_integer", "is_integer", defArgs s_is_integer, defBody s_is_integer, defScope s_is_integer, [], []⟩, ⟨("check_integer", none), "check_integer", "check_integer", defArgs s_check_integer, defBody s_check_integer, defScope s_check_integer, [], []⟩, ⟨("check_number", none), "check_number", "check_number", defArgs s_check_number, defBody s_check_number, defScope s_check_number, [], []⟩, ⟨("row_fault", none), "row_fault", "row_fault", defArgs s_row_fault, defBody s_row_fault, defScope s_row_fault, [], []⟩, ⟨("check_rows", none), "check_rows", "check_rows", defArgs s_check_rows, defBody s_check_rows, defScope s_check_rows, [], []⟩, ⟨("value_at", none), "value_at", "value_at", defArgs s_value_at, defBody s_value_at, defScope s_value_at, [], []⟩, ⟨("runs_of", none), "runs_of", "runs_of", defArgs s_runs_of, defBody s_runs_of, defScope s_runs_of, [], []⟩, ⟨("steps_of", none), "steps_of", "steps_of", defArgs s_steps_of, defBody s_steps_of, defScope s_steps_of, [], []⟩, ⟨("greedy_rows", none), "greedy_rows", "greedy_rows", defArgs s_greedy_rows, defBody s_greedy_rows, defScope s_greedy_rows, [], []⟩, ⟨("Rising", some "__init__"), "__init__", "Rising.__init__", defArgs s_RisingZZ_initZZ, defBody s_RisingZZ_initZZ, defScope s_RisingZZ_initZZ, [], []⟩, ⟨("Rising", some "__call__"), "__call__", "Rising.__call__", defArgs s_RisingZZ_callZZ, defBody s_RisingZZ_callZZ, defScope s_RisingZZ_callZZ, [], []⟩, ⟨("Rising", some "__iter__"), "__iter__", "Rising.__iter__", defArgs s_RisingZZ_iterZZ, defBody s_RisingZZ_iterZZ, defScope s_RisingZZ_iterZZ, [], []⟩, ⟨("Rising", some "__len__"), "__len__", "Rising.__len__", defArgs s_RisingZZ_lenZZ, defBody s_RisingZZ_lenZZ, defScope s_RisingZZ_lenZZ, [], []⟩, ⟨("Rising", some "__eq__"), "__eq__", "Rising.__eq__", defArgs s_RisingZZ_eqZZ, defBody s_RisingZZ_eqZZ, defScope s_RisingZZ_eqZZ, [], []⟩, ⟨("_law_values", none), "_law_values", "_law_values", defArgs s_law_values, defBody s_law_values, defScope s_law_values, [], []⟩, ⟨("_law_at", none), "_law_at", "_law_at", defArgs s_law_at, defBody s_law_at, defScope s_law_at, [], []⟩, ⟨("_law_rows", none), "_law_rows", "_law_rows", defArgs s_law_rows, defBody s_law_rows, defScope s_law_rows, [], []⟩, ⟨("_law_greedy", none), "_law_greedy", "_law_greedy", defArgs s_law_greedy, defBody s_law_greedy, defScope s_law_greedy, [], []⟩, ⟨("_law_value", none), "_law_value", "_law_value", defArgs s_law_value, defBody s_law_value, defScope s_law_value, [], []⟩, ⟨("law", none), "law", "law", defArgs s_law, defBody s_law, defScope s_law, [], []⟩]
def ss : List He.DefD := []
def en : List EDef := [e_BadNumber, e_BadRows]
abbrev R0 : PySem.W.OpenRow := PySem.W.OpenLaw.row PySem.Challenge.rw_laterways_k03_rows_of_maps
abbrev hk : PySem.W.Hook := hookY 7 PySem.Challenge.pw_laterways_k03_rows_of_maps fx fa fn en ss
def ob (s : PySem.W.SharedT) : AlY := obsYG 7 PySem.Challenge.pw_laterways_k03_rows_of_maps fx fa fn en ss (HandSHeadRun.getT s)
theorem ob_eq (s : PySem.W.SharedT) : ob s = hk.obs s.abs := obsYG_eq (HandSHeadRun.getT_eq s)
def loose : List PySem.Str := (["_wall", "__name__", "CalendarError", "BadNumber", "BadRows", "is_integer", "check_integer", "check_number", "row_fault", "check_rows", "value_at", "steps_of", "runs_of", "greedy_rows", "covered", "parted", "merged", "climbed", "together", "Rising", "_law_start", "_law_draw", "_law_values", "_law_at", "_law_rows", "_law_greedy", "_law_value"] : List PySem.Str)
theorem run (w : World) : HandSHeadRun.RunEq R0 (PySem.W.view R0.prog [30]) hk ob 100000 loose w := by
  intro os
  kernel_rfl
theorem tx_of {K : PySem.W.Frag} {h : Heap} {mg : Str → Option Value} (X : K.In h) (G : h.Ns mainGlobals mg) (c : SaysY PySem.Challenge.pw_laterways_k03_rows_of_maps fx fa fn en ss K) : Tx PySem.Challenge.pw_laterways_k03_rows_of_maps K mg := by
  exact ⟨He.free_ok X G (c.fact 0),
    He.free_ok X G (c.fact 1),
    He.free_ok X G (c.fact 2),
    He.free_ok X G (c.fact 3),
    He.free_ok X G (c.fact 4),
    He.free_ok X G (c.fact 5),
    He.free_ok X G (c.fact 6),
    He.free_ok X G (c.fact 7),
    He.free_ok X G (c.fact 8),
    He.free_ok X G (c.fact 9),
    He.free_ok X G (c.fact 10),
    He.glo_ok X G (c.fact 11),
    He.glo_ok X G (c.fact 12),
    He.glo_ok X G (c.fact 13),
    mk_BadNumber X G (c.err 0),
    mk_BadRows X G (c.err 1),
    c.def_ 0,
    He.glo_ok X G (c.fact 14),
    c.def_ 1,
    He.glo_ok X G (c.fact 15),
    c.def_ 2,
    He.glo_ok X G (c.fact 16),
    c.def_ 3,
    He.glo_ok X G (c.fact 17),
    c.def_ 4,
    He.glo_ok X G (c.fact 18),
    c.def_ 5,
    He.glo_ok X G (c.fact 19),
    c.def_ 6,
    He.glo_ok X G (c.fact 20),
    c.def_ 7,
    He.glo_ok X G (c.fact 21),
    c.def_ 8,
    He.glo_ok X G (c.fact 22),
    c.def_ 9,
    He.glo_ok X G (c.fact 23),
    c.def_ 10,
    He.glo_ok X G (c.fact 24),
    c.def_ 11,
    c.def_ 12,
    c.def_ 13,
    c.def_ 14,
    c.def_ 15,
    c.def_ 16,
    He.glo_ok X G (c.fact 25),
    c.def_ 17,
    He.glo_ok X G (c.fact 26),
    c.def_ 18,
    He.glo_ok X G (c.fact 27),
    c.def_ 19,
    He.glo_ok X G (c.fact 28),
    c.def_ 20,
    He.glo_ok X G (c.fact 29),
    c.def_ 21,
    He.glo_ok X G (c.fact 30),
    He.exm_ok (c.fact 31),
    He.mkr_ok (c.fact 32),
    He.cls_ok (c.fact 33),
    eqCB_ok (own_at (l := fxl K) c.own 0),
    insFB_ok (own_at (l := fxl K) c.own 1),
    He.noat_ok (c.fact 34),
    opOB_ok (own_at (l := fxl K) c.own 2),
    opOB_ok (own_at (l := fxl K) c.own 3),
    opOB_ok (own_at (l := fxl K) c.own 4)⟩
abbrev lawA (K : PySem.W.Frag) : Addr := He.fAd K ("law", none)
open PySem PySem.W PySem.Calls PyProof.Rows in
set_option maxRecDepth 100000 in
set_option maxHeartbeats 0 in
theorem fin_early (F0 : ∀ (w : PySem.World) (mg : PySem.Str → Option PySem.Value) (fa : PySem.Addr) (h : PySem.Heap), LW.hk.says w h → h.Ns mainGlobals mg → mg (HandSHeadRun.topDef (OpenLaw.row PySem.Challenge.rw_laterways_k03_rows_of_maps).prog 30).name = some (.ref fa) → ∃ (K : PySem.W.Frag) (fd : PySem.FuncData), K.In h ∧ (∀ (s : PySem.Shared) (u : PySem.Value), BindsTo s fd ⟨[u], []⟩ [("_law_script", u)]) ∧ ∀ base : PySem.Heap, L2.FnOk PySem.Challenge.rw_laterways_k03_rows_of_maps.prog w K mg base (L2.CX PySem.Challenge.rw_laterways_k03_rows_of_maps.prog w) 7 fa fd ["_law_script"] (DL.spD K (DL.SLaw))) : PySem.Challenge.rw_laterways_k03_rows_of_maps.Holds := by
  w_on; o_law
  refine HandSHeadRun.head_any (r := OpenLaw.row PySem.Challenge.rw_laterways_k03_rows_of_maps) (q := view (OpenLaw.row PySem.Challenge.rw_laterways_k03_rows_of_maps).prog [30]) (H := LW.hk) (ob := LW.ob) (M := 100000) (loose := LW.loose) (d := HandSHeadRun.topDef (OpenLaw.row PySem.Challenge.rw_laterways_k03_rows_of_maps).prog 30) (kwd := []) LW.ob_eq
    (by kernel_rfl) (fun s => by kernel_rfl) LW.run (by kernel_rfl) (by kernel_rfl) (by kernel_rfl) (by rfl) (by first | assumption | decide +kernel) (by decide +kernel) ⟨rfl, rfl, rfl, rfl, rfl, by decide +kernel⟩ ?hw ?hc
  case hw => w_witness2
  case hc =>
    refine DL.end_of (l := PySem.Challenge.rw_laterways_k03_rows_of_maps) (n := 63) (k := 7) rfl (by decide) (by kernel_rfl) ⟨rfl, by decide, by decide⟩ ?F
    exact F0
set_option hygiene false
local macro_rules
  | `(tactic| w_dflts wM) => `(tactic| first | exact hR _ h | exact hR _ _ h | exact hY _ _ h | exact hY _ _ _ h | exact h | (refine ⟨h.1, ?_⟩; replace h := h.2; w_dflts wM) | (intro x; replace h := h x; w_dflts wM) | (refine ⟨fun z => ?_, fun z => ?_⟩; (· replace h := h.1 z; w_dflts wM); (· replace h := h.2 z; w_dflts wM)) | (obtain ⟨x, h⟩ := h; refine ⟨x, ?_⟩; w_dflts wM))
set_option hygiene true
def upB (i : Int) : Dt → Bool
  | .int h => decide (i ≤ h)
  | _ => true
def numB (lo : Int) (h : Dt) : Dt → Bool
  | .int i => decide (lo ≤ i) && upB i h
  | _ => false
inductive Hi : Dt → Prop
  | non : Hi .non
  | int (i : Int) : Hi (.int i)
theorem numB_yes {lo i h : Int} (a : lo ≤ i) (b : i ≤ h) : numB lo (.int h) (.int i) = true := by
  unfold numB upB; simp only [Bool.and_eq_true, decide_eq_true_eq]; exact ⟨a, b⟩
theorem numB_yesN {lo i : Int} (a : lo ≤ i) : numB lo .non (.int i) = true := by
  unfold numB upB; simp only [Bool.and_eq_true, decide_eq_true_eq]; exact ⟨a, trivial⟩
theorem numB_lo {lo i : Int} {h : Dt} (a : i < lo) : numB lo h (.int i) = false := by
  show (decide (lo ≤ i) && upB i h) = false
  rw [decide_eq_false (by omega)]; rfl
theorem numB_hi {lo i h : Int} (a : h < i) : numB lo (.int h) (.int i) = false := by
  show (decide (lo ≤ i) && decide (i ≤ h)) = false
  rw [decide_eq_false (show ¬ i ≤ h by omega), Bool.and_false]
theorem numB_odd {lo : Int} {h d : Dt} (a : isInt d = false) : numB lo h d = false := by
  cases d <;> first | rfl | cases a
theorem numB_int {lo : Int} {h d : Dt} (a : numB lo h d = true) : ∃ i, d = .int i ∧ lo ≤ i := by
  cases d with
  | int i =>
    unfold numB at a
    simp only [Bool.and_eq_true, decide_eq_true_eq] at a
    exact ⟨i, rfl, a.1⟩
  | _ => cases a
open RM
abbrev rowD (r : Rw) : Dt := .tup [.int r.1, .int r.2.1, .bl r.2.2]
def rowsD (rs : List Rw) : List Dt := rs.map rowD
abbrev stD (x : Int × Int) : Dt := .tup [.int x.1, .int x.2]
def stepsD (l : List (Int × Int)) : List Dt := l.map stD
class SeqC (d : Dt) (xs : outParam (List Dt)) : Prop where
  h : d = .lst xs ∨ d = .tup xs
instance {xs : List Dt} : SeqC (.lst xs) xs := ⟨.inl rfl⟩
instance {xs : List Dt} : SeqC (.tup xs) xs := ⟨.inr rfl⟩
theorem snoc_or {α : Type} (l : List α) : l = [] ∨ ∃ l' x, l = l' ++ [x] := by
  cases l with
  | nil => exact .inl rfl
  | cons a l => exact .inr ⟨_, _, (List.dropLast_concat_getLast (l := a :: l) (by simp)).symm⟩
def lstL (t : Int) : Rw → List Rw → Rw
  | f, [] => f
  | f, q :: rs => if q.1 > t then f else lstL t q rs
theorem lst_val (t : Int) : ∀ (r : Rw) (rs : List Rw), at1 (lstL t r rs) t = val r rs t
  | r, [] => rfl
  | r, q :: rs => by
    unfold lstL val
    split
    · rfl
    · exact lst_val t q rs
def Cov : List Rw → Int → Prop
  | [], _ => False
  | r :: _, t => r.1 ≤ t
theorem isInt_eq {d : Dt} (h : isInt d = true) : ∃ i, d = .int i := by
  cases d <;> first | exact ⟨_, rfl⟩ | cases h
abbrev ORow := Dt × Dt × Bool
abbrev orD (o : ORow) : Dt := .tup [o.1, o.2.1, .bl o.2.2]
def intOf : Dt → Int
  | .int i => i
  | _ => 0
def toRow (o : ORow) : Rw := (intOf o.1, intOf o.2.1, o.2.2)
def toO (r : Rw) : ORow := (.int r.1, .int r.2.1, r.2.2)
def befD : Option Rw → Dt
  | none => .non
  | some r => rowD r
class BefC (d : Dt) (b : outParam (Option Rw)) : Prop where
  h : d = befD b
instance {b : Option Rw} : BefC (befD b) b := ⟨rfl⟩
instance : BefC .non none := ⟨rfl⟩
def faultI (i j : Int) : Option Rw → Bool
  | none => decide (i ≠ 0) || decide (j < 0)
  | some r => decide (i ≤ r.1) || decide (j < i) || (if r.2.2 then decide (j < r.2.1 + i - 1 - r.1) else decide (j < r.2.1) || decide (r.2.1 < i - 1))
def rowFault (s v : Dt) (b : Option Rw) : Bool := match s, v with
  | .int i, .int j => faultI i j b
  | _, _ => true
theorem fault_s {s v : Dt} {b : Option Rw} (h : isInt s = false) : rowFault s v b = true := by
  cases s <;> first | rfl | cases h
theorem fault_v {s v : Dt} {b : Option Rw} (h : isInt v = false) : rowFault s v b = true := by
  cases s <;> first | rfl | (cases v <;> first | rfl | cases h)
theorem fault_no {s v : Dt} {b : Option Rw} (h : rowFault s v b = false) : ∃ i j, s = .int i ∧ v = .int j ∧ faultI i j b = false := by
  cases hs : isInt s with
  | false => rw [fault_s hs] at h; cases h
  | true =>
    cases hv : isInt v with
    | false => rw [fault_v hv] at h; cases h
    | true =>
      obtain ⟨i, rfl⟩ := isInt_eq hs
      obtain ⟨j, rfl⟩ := isInt_eq hv
      exact ⟨i, j, rfl, rfl, h⟩
def badAt : Option Rw → Nat → List ORow → Option Nat
  | none, _, [] => some 0
  | some _, _, [] => none
  | b, k, o :: r => if (rowFault o.1 o.2.1 b || (r.isEmpty && !o.2.2)) = true then some k else badAt (some (toRow o)) (k + 1) r
class OdC (xs : List Dt) (os : outParam (List ORow)) : Prop where
  h : xs = os.map orD
instance {os : List ORow} : OdC (os.map orD) os := ⟨rfl⟩
instance {rs : List Rw} : OdC (rowsD rs) (rs.map toO) := ⟨by simp [rowsD, toO]⟩
def OFl (os : List ORow) : Prop := ∀ o ∈ os, Fl o.1 ∧ Fl o.2.1
theorem ofl_rows (rs : List Rw) : OFl (rs.map toO) := fun o ho => by
  obtain ⟨r, _, rfl⟩ := List.mem_map.mp ho
  exact ⟨.int _, .int _⟩
theorem toRow_toO (rs : List Rw) : (rs.map toO).map toRow = rs := by
  rw [List.map_map]
  exact List.map_id'' (fun r => rfl) rs
theorem bad_good : ∀ {os : List ORow} {b : Rw} {k : Nat}, badAt (some b) k os = none → (∀ o ∈ os, isInt o.1 = true ∧ isInt o.2.1 = true) ∧ (os ≠ [] → Good b (os.map toRow))
  | [], b, k, _ => ⟨by simp, fun h => absurd rfl h⟩
  | (s, v, g) :: r, b, k, h => by
    unfold badAt at h
    split at h
    · cases h
    · rename_i hc
      rw [Bool.not_eq_true, Bool.or_eq_false_iff] at hc
      obtain ⟨hf, hl⟩ := hc
      obtain ⟨i, j, rfl, rfl, hf2⟩ := fault_no hf
      clear hf
      obtain ⟨ih1, ih2⟩ := bad_good h
      unfold faultI at hf2
      simp only [Bool.or_eq_false_iff, decide_eq_false_iff_not] at hf2
      obtain ⟨⟨h1, h2⟩, h3⟩ := hf2
      have fol : Fol b (i, j, g) := by
        refine ⟨by show b.1 < i; omega, by show i ≤ j; omega, ?_, fun hg => ?_⟩
        · show at1 b (i - 1) ≤ j
          unfold at1
          cases hg : b.2.2 with
          | true => rw [hg] at h3; simp only [if_true, decide_eq_false_iff_not] at h3 ⊢; omega
          | false => rw [hg] at h3; simp only [Bool.false_eq_true, if_false, Bool.or_eq_false_iff, decide_eq_false_iff_not] at h3 ⊢; omega
        · show i - 1 ≤ b.2.1
          rw [hg] at h3; simp only [Bool.false_eq_true, if_false, Bool.or_eq_false_iff, decide_eq_false_iff_not] at h3; omega
      refine ⟨fun x hx => ?_, fun _ => ⟨fol, ?_⟩⟩
      · rcases List.mem_cons.mp hx with rfl | hx
        · exact ⟨rfl, rfl⟩
        · exact ih1 x hx
      · cases r with
        | nil => show g = true; simpa using hl
        | cons p r => exact ih2 (by simp)
theorem bad_right {os : List ORow} (h : badAt none 0 os = none) : (∀ o ∈ os, isInt o.1 = true ∧ isInt o.2.1 = true) ∧ Right (os.map toRow) := by
  cases os with
  | nil => cases h
  | cons o r =>
    obtain ⟨s, v, g⟩ := o
    unfold badAt at h
    split at h
    · cases h
    · rename_i hc
      rw [Bool.not_eq_true, Bool.or_eq_false_iff] at hc
      obtain ⟨hf, hl⟩ := hc
      obtain ⟨i, j, rfl, rfl, hf2⟩ := fault_no hf
      clear hf
      obtain ⟨ih1, ih2⟩ := bad_good h
      unfold faultI at hf2
      simp only [Bool.or_eq_false_iff, decide_eq_false_iff_not, ne_eq, Classical.not_not, Int.not_lt] at hf2
      refine ⟨fun x hx => ?_, hf2.1, hf2.2, ?_⟩
      · rcases List.mem_cons.mp hx with rfl | hx
        · exact ⟨rfl, rfl⟩
        · exact ih1 x hx
      · cases r with
        | nil => show g = true; simpa using hl
        | cons p r => exact ih2 (by simp)
theorem rows_int {os : List ORow} (h : ∀ o ∈ os, isInt o.1 = true ∧ isInt o.2.1 = true) : os.map orD = rowsD (os.map toRow) := by
  unfold rowsD
  rw [List.map_map]
  refine List.map_congr_left fun o ho => ?_
  obtain ⟨a, b, c⟩ := o
  obtain ⟨h1, h2⟩ := h _ ho
  obtain ⟨i, rfl⟩ := isInt_eq h1
  obtain ⟨j, rfl⟩ := isInt_eq h2
  rfl
theorem good_bad : ∀ {rs : List Rw} {b : Rw} {k : Nat}, rs ≠ [] → Good b rs → badAt (some b) k (rs.map toO) = none
  | [], _, _, h, _ => absurd rfl h
  | q :: rs, b, k, _, h => by
    have f := h.1
    have hg : rowFault (.int q.1) (.int q.2.1) (some b) = false := by
      show faultI q.1 q.2.1 (some b) = false
      have fs := f.s; have fv := f.v; have fu := f.u; have fl := f.l
      unfold at1 at fu
      unfold faultI
      simp only [Bool.or_eq_false_iff, decide_eq_false_iff_not]
      cases hb : b.2.2 with
      | true => rw [hb] at fu; simp only [if_true, decide_eq_false_iff_not] at fu ⊢; omega
      | false =>
        have := fl hb
        rw [hb] at fu; simp only [Bool.false_eq_true, if_false, Bool.or_eq_false_iff, decide_eq_false_iff_not] at fu ⊢; omega
    show (if (rowFault (.int q.1) (.int q.2.1) (some b) || ((rs.map toO).isEmpty && !q.2.2)) = true then some k else badAt (some (toRow (toO q))) (k + 1) (rs.map toO)) = none
    rw [hg]
    cases rs with
    | nil =>
      have : q.2.2 = true := h.2
      simp [this, badAt]
    | cons p rs =>
      simp only [List.map_cons, List.isEmpty_cons, Bool.false_and, Bool.or_self, Bool.false_eq_true, if_false]
      exact good_bad (by simp) h.2
theorem right_bad {rs : List Rw} (h : Right rs) : badAt none 0 (rs.map toO) = none := by
  cases rs with
  | nil => exact h.elim
  | cons q rs =>
    obtain ⟨h0, h1, h2⟩ := h
    have hg : rowFault (.int q.1) (.int q.2.1) none = false := by
      show faultI q.1 q.2.1 none = false
      unfold faultI
      simp only [Bool.or_eq_false_iff, decide_eq_false_iff_not]; omega
    show (if (rowFault (.int q.1) (.int q.2.1) none || ((rs.map toO).isEmpty && !q.2.2)) = true then some 0 else badAt (some (toRow (toO q))) (0 + 1) (rs.map toO)) = none
    rw [hg]
    cases rs with
    | nil =>
      have : q.2.2 = true := h2
      simp [this, badAt]
    | cons p rs =>
      simp only [List.map_cons, List.isEmpty_cons, Bool.false_and, Bool.or_self, Bool.false_eq_true, if_false]
      exact good_bad (by simp) h2
def Bd (rs : List Rw) : Prop := ∀ r ∈ rs, r.1 ≤ 200000
def runsN (r : Rw) : Option Rw → List (Int × Int)
  | none => [(r.1, 1)]
  | some q => runs1 r q
def rawK : List Rw → List (Int × Int)
  | [] => []
  | r :: rs => raw r rs
theorem rawK_cons (r : Rw) (rs : List Rw) : rawK (r :: rs) = runsN r rs.head? ++ rawK rs := by
  cases rs <;> rfl
theorem raw_len : ∀ (r : Rw) (rs : List Rw), (raw r rs).length ≤ 2 * (rs.length + 1)
  | r, [] => by simp [raw]
  | r, q :: rs => by
    have := raw_len q rs
    unfold raw runs1
    split <;> simp <;> omega
theorem dd_len : ∀ (o : Option Int) (l : List (Int × Int)), (dd o l).length ≤ l.length
  | _, [] => by simp [dd]
  | o, x :: r => by
    unfold dd
    split
    · have := dd_len o r; simp; omega
    · have := dd_len (some x.2) r; simp; omega
theorem steps_len (rs : List Rw) : (steps rs).length ≤ 2 * rs.length := by
  cases rs with
  | nil => simp [steps]
  | cons r rs => have h1 := dd_len none (raw r rs); have h2 := raw_len r rs; unfold steps; simp; omega
theorem steps_eq (rs : List Rw) : steps rs = dd none (rawK rs) := by
  cases rs <;> rfl
def lastO (l : List (Int × Int)) : Option Int := l.getLast?.map (·.2)
theorem dd_push {acc : List (Int × Int)} {x : Int × Int} {l s : List (Int × Int)} (h : acc ++ dd (lastO acc) (x :: l) = s) :
    (lastO acc = some x.2 → acc ++ dd (lastO acc) l = s) ∧ (lastO acc ≠ some x.2 → (acc ++ [x]) ++ dd (lastO (acc ++ [x])) l = s ∧ acc.length < s.length) := by
  unfold dd at h
  refine ⟨fun e => by rw [if_pos e] at h; exact h, fun e => ?_⟩
  rw [if_neg e] at h
  have e2 : lastO (acc ++ [x]) = some x.2 := by simp [lastO]
  rw [e2]
  refine ⟨by rw [← h]; simp, by rw [← h]; simp⟩
theorem raw_bd : ∀ {r : Rw} {rs : List Rw} {B : Int}, Good r rs → (∀ q ∈ r :: rs, q.1 ≤ B) → ∀ x ∈ raw r rs, x.1 ≤ B
  | r, [], B, _, h, x, hx => by
    have : x = (r.1, 1) := by simpa [raw] using hx
    subst this
    exact h r (by simp)
  | r, q :: rs, B, hg, h, x, hx => by
    have hr := h r (by simp)
    have hq := h q (by simp)
    unfold raw at hx
    rcases List.mem_append.mp hx with hx | hx
    · unfold runs1 at hx
      split at hx
      · simp at hx
        rcases hx with rfl | rfl
        · exact hr
        · show q.1 - 1 ≤ B; omega
      · simp at hx; subst hx; show q.1 - 1 ≤ B; omega
    · exact raw_bd hg.2 (fun p hp => h p (List.mem_cons_of_mem _ hp)) x hx
theorem dd_sub : ∀ {o : Option Int} {l : List (Int × Int)}, ∀ x ∈ dd o l, x ∈ l
  | _, [], x, h => by simp [dd] at h
  | o, y :: r, x, h => by
    unfold dd at h
    split at h
    · exact List.mem_cons_of_mem _ (dd_sub x h)
    · rcases List.mem_cons.mp h with rfl | h
      · simp
      · exact List.mem_cons_of_mem _ (dd_sub x h)
theorem steps_bd {rs : List Rw} (h : Right rs) (b : Bd rs) : ∀ x ∈ steps rs, x.1 ≤ 200000 := by
  cases rs with
  | nil => exact h.elim
  | cons r rs => exact fun x hx => raw_bd h.2.2 b x (dd_sub x hx)
theorem good_len : ∀ {r : Rw} {rs : List Rw} {B : Int}, Good r rs → (∀ q ∈ r :: rs, q.1 ≤ B) → r.1 + rs.length ≤ B
  | r, [], B, _, h => by have := h r (by simp); simpa using this
  | r, q :: rs, B, hg, h => by
    have := good_len hg.2 (fun p hp => h p (List.mem_cons_of_mem _ hp))
    have := hg.1.s
    simp; omega
theorem right_len {rs : List Rw} (h : Right rs) (b : Bd rs) : rs.length ≤ 200001 := by
  cases rs with
  | nil => simp
  | cons r rs => have := good_len h.2.2 b; have := h.1; simp; omega
theorem right_cov {rs : List Rw} (h : Right rs) {t : Int} (ht : 0 ≤ t) : Cov rs t := by
  cases rs with
  | nil => exact h.elim
  | cons r rs => show r.1 ≤ t; have := h.1; omega
theorem skip_stop {s : Int} {x : Int × Int} {r : List (Int × Int)} (h : ∀ y, r.head? = some y → ¬ y.1 ≤ s) : skip s (x :: r) = x :: r := by
  cases r with
  | nil => rfl
  | cons y r => unfold skip; rw [if_neg (h y rfl)]
theorem skip_go {s : Int} {x y : Int × Int} {r : List (Int × Int)} (h : y.1 ≤ s) : skip s (x :: y :: r) = skip s (y :: r) := by
  show (if y.1 ≤ s then skip s (y :: r) else x :: y :: r) = _
  rw [if_pos h]
theorem drop_two {α : Type} {l : List α} {k : Nat} (h : k + 1 < l.length) : ∃ x y, l[k]? = some x ∧ l[k + 1]? = some y ∧ l.drop k = x :: y :: l.drop (k + 2) := by
  refine ⟨l[k], l[k + 1], by simp, by simp, ?_⟩
  rw [List.drop_eq_getElem_cons (by omega), List.drop_eq_getElem_cons (by omega)]
theorem drop_one {α : Type} {l : List α} {k : Nat} (h : k + 1 = l.length) : ∃ x, l.drop k = [x] := by
  refine ⟨l[k], ?_⟩
  rw [List.drop_eq_getElem_cons (by omega), List.drop_eq_nil_of_le (by omega)]
def gJ (f : Int → Int) (l : List (Int × Int)) (m : Nat) (s : List Rw × Int × Nat) : Prop :=
  (∀ G, Gre f s.2.1 (l.drop s.2.2) G → Gre f 0 l (s.1 ++ G)) ∧ Hit s.2.1 (l.drop s.2.2) ∧ Runs (der f) (l.drop s.2.2) ∧ 0 ≤ s.2.1 ∧ (s.1.length : Int) ≤ s.2.1 ∧ s.2.1 + m = 200001 ∧ s.2.2 < l.length
theorem numB_low {lo : Int} {d : Dt} (h : numB lo .non d = true) : ∃ i, d = .int i ∧ lo ≤ i := numB_int h
abbrev risD (K : PySem.W.Frag) (G : List Rw) : Dt := .obj (He.ga K "Rising") [("rows", .tup (rowsD G))]
theorem pick_int9 {ds : List Dt} {j : Nat} {v : Dt} (h : ds[j]? = some v) (hp : ds.all (fun d => match d with | .int i => decide (0 ≤ i ∧ i ≤ 9) | _ => false) = true) : ∃ i, v = .int i ∧ 0 ≤ i ∧ i ≤ 9 := by
  have hm := List.all_eq_true.mp hp v (List.mem_of_getElem? h)
  cases v with
  | int i => exact ⟨i, rfl, by simpa using hm⟩
  | _ => cases hm
theorem ixI {vs : List Int} {t : Int} {v : Int} {R : Dt → Prop} (h0 : 0 ≤ t) (h : vs[t.toNat]? = some v) (r : R (.int v)) : dIx (.lst (vs.map .int)) (.int t) R := (ix_of (pic := Dt.int) h0 h r).1
theorem ixF {vs : List Int} {t : Int} {R : Dt → Prop} (h0 : 0 ≤ t) (h : t < vs.length) (r : R (.int (valF vs t))) : dIx (.lst (vs.map .int)) (.int t) R := by
  have e : vs[t.toNat]? = some (vs[t.toNat]'(by omega)) := by simp
  have := valF_in e
  rw [show ((t.toNat : Nat) : Int) = t by omega] at this
  rw [this] at r
  exact ixI h0 e r
theorem right_ne {rs : List Rw} (h : Right rs) : rs ≠ [] := fun e => by subst e; exact h
theorem rows_app (a b : List Rw) : rowsD (a ++ b) = rowsD a ++ rowsD b := by simp [rowsD]
theorem rows_len (a : List Rw) : (rowsD a).length = a.length := List.length_map ..
theorem bd_big {rs : List Rw} (h : ∀ q ∈ rs, q.1 ≤ 4001) : Bd rs := fun r hr => by have := h r hr; omega
theorem mk_ok {rs : List Rw} (h : Right rs) (b : ∀ q ∈ rs, q.1 ≤ 4001) : (OFl (rs.map toO) ∧ (badAt none 0 (rs.map toO) = none → Bd ((rs.map toO).map toRow))) ∧ (badAt none 0 (rs.map toO)).isNone = true :=
  ⟨⟨ofl_rows rs, fun _ => by rw [toRow_toO]; exact bd_big b⟩, by rw [right_bad h]; rfl⟩
theorem row_eq (x y : Rw) : eqD (rowD x) (rowD y) = true ↔ x = y := by
  obtain ⟨a, b, c⟩ := x; obtain ⟨d, e, f⟩ := y
  simp [eqD, eqDs]
theorem eqD_rows (A B : List Rw) : eqD (.tup (rowsD A)) (.tup (rowsD B)) = decide (A = B) := by
  rw [Bool.eq_iff_iff, decide_eq_true_eq]
  exact eqDs_map row_eq
theorem eq_rowsT {A B : List Rw} {R : Dt → Prop} (r : R (.bl (decide (A = B)))) : dEq (.tup (rowsD A)) (.tup (rowsD B)) R := by
  refine q_eq 2 (pls_map fun _ _ => rfl) (pls_map fun _ _ => rfl) ?_
  rw [eqD_rows]
  exact r
theorem ne_rowsT {A B : List Rw} {R : Dt → Prop} (r : R (.bl (!decide (A = B)))) : dNe (.tup (rowsD A)) (.tup (rowsD B)) R := by
  refine q_ne 2 (pls_map fun _ _ => rfl) (pls_map fun _ _ => rfl) ?_
  rw [eqD_rows]
  exact r
instance {A B : List Rw} {R : Dt → Prop} : Wk (dEq (.tup (rowsD A)) (.tup (rowsD B)) R) (R (.bl (decide (A = B)))) := ⟨eq_rowsT⟩
instance {A B : List Rw} {R : Dt → Prop} : Wk (dNe (.tup (rowsD A)) (.tup (rowsD B)) R) (R (.bl (!decide (A = B)))) := ⟨ne_rowsT⟩
theorem rows_mk {vs : List Int} (V : VOk vs) (hl : vs.length ≤ 1000) {rs : List Rw} (h : RowsOf vs rs) : (OFl (rs.map toO) ∧ (badAt none 0 (rs.map toO) = none → Bd ((rs.map toO).map toRow))) ∧ (badAt none 0 (rs.map toO)).isNone = true := mk_ok h.right fun q hq => by have := h.bd q hq; omega
structure EndsAt (f : Int → Int) (n s e : Int) : Prop where
  a : s ≤ e
  b : e ≤ n - 1
  c : ∀ t, s ≤ t → t < e → der f t = der f s
  d : der f s < 2 → s < e ∧ (e < n - 1 → der f e ≠ der f s)
  e : 2 ≤ der f s → e = s
theorem EndsAt.ret {f : Int → Int} {n s e : Int} {acc : List Rw} (h : EndsAt f n s e) (up : ∀ t, n - 1 ≤ t → der f t = 1) (hG : ∀ G, Grd f s G → Grd f 0 (acc ++ G)) (d1 : der f s = 1) (he : e = n - 1) : Grd f 0 (acc ++ [(s, f s, true)]) :=
  hG _ (Grd.last fun t ht => by
    by_cases c : t < e
    · rw [h.c t ht c, d1]
    · exact up t (by omega))
theorem EndsAt.app {f : Int → Int} {n s e : Int} {acc : List Rw} (h : EndsAt f n s e) (up : ∀ t, n - 1 ≤ t → der f t = 1) (hG : ∀ G, Grd f s G → Grd f 0 (acc ++ G)) (hn : ¬ (der f s = 1 ∧ e = n - 1)) (G : List Rw) (hg : Grd f (e + 1) G) : Grd f 0 (acc ++ [(s, f s, decide (der f s = 1))] ++ G) := by
  rw [List.append_assoc]
  refine hG _ (Grd.more h.a h.c (fun c => ⟨(h.d c).1, ?_⟩) h.e hg)
  by_cases c2 : e < n - 1
  · exact (h.d c).2 c2
  · intro z
    have u := up e (by omega)
    exact hn ⟨by rw [← z]; exact u, by have := h.b; omega⟩
theorem EndsAt.brk {f : Int → Int} {n s e : Int} {j : Nat} (je : e = s + j) (j3 : ∀ t, s ≤ t → t < e → der f t = der f s) (j4 : 0 < j → der f s ≤ 1) (hj : s + j < n - 1) (hb : 1 < der f s ∨ der f (s + j) ≠ der f s) : EndsAt f n s e := by
  refine ⟨by omega, by omega, j3, fun h => ?_, fun h => ?_⟩
  · rcases hb with hb | hb
    · omega
    · rw [← je] at hb
      refine ⟨?_, fun _ => hb⟩
      rcases Int.lt_or_eq_of_le (show s ≤ e by omega) with z | z
      · exact z
      · rw [← z] at hb; exact absurd rfl hb
  · rcases Nat.eq_zero_or_pos j with z | z
    · omega
    · have := j4 z; omega
instance {G : List Rw} : YesC (noLs (rowsD G) = true) := ⟨noLs_map (fun r => by simp [noL, noLs]) G⟩
instance {K : PySem.W.Frag} {G : List Rw} : YesC (noL (risD K G) = true) := ⟨(inferInstance : YesC (noL (.obj _ [((_ : Str), .tup (rowsD G))]) = true)).h⟩
theorem rowsOf_len {vs : List Int} (V : vs.length ≤ 1000) {rs : List Rw} (h : RowsOf vs rs) : rs.length ≤ 1000 := by
  have h1 := h.bd
  have h2 := right_len' h.right (B := (vs.length : Int) - 1) (fun q hq => by have := h1 q hq; omega)
  omega
theorem ne_pair' {R : Dt → Prop} {s : Str} {w : Dt} (hs : PyData.strOk s = true) (hw : plB 0 w = true) (r : R (.bl false)) : dNe (.tup [.str s, w]) (.tup [.str s, w]) R := by
  have e : eqD w w = true := by cases w <;> first | (simp [eqD]; done) | (simp [plB] at hw)
  refine q_ne 1 (by simp [plB, plBs, hs]; cases w <;> first | rfl | exact hw | (simp [plB] at hw)) (by simp [plB, plBs, hs]; cases w <;> first | rfl | exact hw | (simp [plB] at hw)) ?_
  have e2 : eqD (.tup [.str s, w]) (.tup [.str s, w]) = true := by simp [eqD, eqDs, e]
  rw [e2]
  exact r
theorem cut_lo3 {xs : List Dt} {n : Int} (h0 : 0 ≤ n) (h1 : n ≤ xs.length) : cutD xs none (some n) = xs.take n.toNat := by
  unfold cutD
  rw [HT.sIx_none, List.drop_zero, Nat.sub_zero]
  have : HT.sIx xs.length xs.length (some n) = n.toNat := by
    show (if n < 0 then (n + (xs.length : Int)).toNat else min n.toNat xs.length) = _
    rw [if_neg (by omega)]
    omega
  rw [this]
theorem cut_hi3 {xs : List Dt} {n : Int} (h0 : 0 ≤ n) (h1 : n ≤ xs.length) : cutD xs (some n) none = xs.drop n.toNat := by
  unfold cutD
  have : HT.sIx xs.length 0 (some n) = n.toNat := by
    show (if n < 0 then (n + (xs.length : Int)).toNat else min n.toNat xs.length) = _
    rw [if_neg (by omega)]
    omega
  rw [this, HT.sIx_none, List.take_of_length_le (by simp)]
def othW (va : List Int) (m : Nat) : List Int := va.take m ++ (va.drop m).map (· + 1)
theorem oth_len (va : List Int) (m : Nat) : (othW va m).length = va.length := by simp [othW]; omega
theorem oth_get (va : List Int) (m i : Nat) (h : m ≤ va.length) : (othW va m)[i]? = (va[i]?).map fun v => if i < m then v else v + 1 := by
  unfold othW
  by_cases c : i < m
  · rw [List.getElem?_append_left (by simp; omega), List.getElem?_take_of_lt c]
    simp [c]
  · rw [List.getElem?_append_right (by simp; omega), List.getElem?_map, List.getElem?_drop]
    have e : m + (i - (va.take m).length) = i := by simp; omega
    rw [e]
    simp [c]
theorem oth_ok {va : List Int} (V : VOk va) {m : Nat} (h : m < va.length) : VOk (othW va m) := by
  refine ⟨fun e => ?_, fun i v hv => ?_, fun i v w hv hw => ?_⟩
  · have := congrArg List.length e
    rw [oth_len, List.length_nil] at this
    omega
  · rw [oth_get va m i (by omega)] at hv
    cases q : va[i]? with
    | none => rw [q] at hv; cases hv
    | some u =>
      rw [q] at hv
      have e : (if i < m then u else u + 1) = v := by simpa using hv
      have := V.ge i u q
      split at e <;> omega
  · rw [oth_get va m i (by omega)] at hv
    rw [oth_get va m (i + 1) (by omega)] at hw
    cases q : va[i]? with
    | none => rw [q] at hv; cases hv
    | some u =>
      cases q2 : va[i + 1]? with
      | none => rw [q2] at hw; cases hw
      | some u2 =>
        rw [q] at hv
        rw [q2] at hw
        have e : (if i < m then u else u + 1) = v := by simpa using hv
        have e2 : (if i + 1 < m then u2 else u2 + 1) = w := by simpa using hw
        have := V.mo i u u2 q q2
        split at e <;> split at e2 <;> omega
theorem oth_ne {va : List Int} {m : Nat} (h : m < va.length) : valF (othW va m) m = valF va m + 1 := by
  have e1 : va[m]? = some va[m] := List.getElem?_eq_getElem h
  have e2 : (othW va m)[m]? = some (va[m] + 1) := by rw [oth_get va m m (by omega), e1]; simp
  rw [valF_in e1, valF_in e2]
theorem ne_rowsK {l : List Rw} {R : Dt → Prop} (h : R (.bl false)) : dNe (.lst (rowsD l)) (.lst (rowsD l)) R := by
  refine q_ne 2 (pls_map fun _ _ => rfl) (pls_map fun _ _ => rfl) ?_
  have : eqD (.lst (rowsD l)) (.lst (rowsD l)) = true := (eqDs_map row_eq).mpr rfl
  rw [this]
  exact h
def Q_law_start (K : PySem.W.Frag) (ns : List Int) (R : Sl → Prop) (Y : Addr → List (Str × Dt) → Prop) : Prop := (∀ a, R (.os a St4))
def S_law_start (K : PySem.W.Frag) : DSp := fun args R Y => ∃ (ns : List Int), args = [.fr (.scr ns)] ∧ Q_law_start K ns (fun r => R r [.fr (.scr ns)]) (fun C fs => Y C fs [.fr (.scr ns)])
instance {K : PySem.W.Frag} {ns : List Int}  {R : Sl → Prop} {Y : Addr → List (Str × Dt) → Prop} : Wk (CallS (S_law_start K) [.scr ns] R Y) (∀ a, R (.os a St4)) := ⟨fun hW => ⟨ns, rfl, hW⟩⟩
def Q_law_draw (K : PySem.W.Frag) (ns : List Int) (a : Addr) (m : Int) (R : Sl → Sl → Prop) (Y : Addr → List (Str × Dt) → Sl → Prop) : Prop := (Side (0 < m ∧ m < 1073741824) (∀ n : Int, 0 ≤ n → n < m → R (.fr (.int n)) (.os a St4)))
theorem mo_law_draw {K : PySem.W.Frag} {ns : List Int} {a : Addr} {m : Int} {R R2 : Sl → Sl → Prop} {Y Y2 : Addr → List (Str × Dt) → Sl → Prop} (hR : ∀ x s, R x s → R2 x s) (hY : ∀ C fs s, Y C fs s → Y2 C fs s) (h : Q_law_draw K ns a m R Y) : Q_law_draw K ns a m R2 Y2 := by
  unfold Q_law_draw at h ⊢
  w_dflts wM
def S_law_draw (K : PySem.W.Frag) : DSp := fun args R Y => ∃ (ns : List Int) (a : Addr) (m : Int), args = [.fr (.scr ns), .os a St4, .fr (.int m)] ∧ Q_law_draw K ns a m (fun r s => R r [.fr (.scr ns), s, .fr (.int m)]) (fun C fs s => Y C fs [.fr (.scr ns), s, .fr (.int m)])
instance {K : PySem.W.Frag} {ns : List Int} {a : Addr} {m : Int}  {R : Sl → Sl → Prop} {Y : Addr → List (Str × Dt) → Sl → Prop} : Wk (CallB (S_law_draw K) [.scr ns] [.int m] (.os a St4) R Y) (Side (0 < m ∧ m < 1073741824) (∀ n : Int, 0 ≤ n → n < m → R (.fr (.int n)) (.os a St4))) := ⟨fun hW => ⟨ns, a, m, rfl, mo_law_draw (fun _ s z => ⟨s, rfl, z⟩) (fun _ _ s z => ⟨s, rfl, z⟩) hW⟩⟩
def Q_is_integer (K : PySem.W.Frag) (d : Dt) (R : Sl → Prop) (Y : Addr → List (Str × Dt) → Prop) : Prop := (Side (Fl d) (R (.fr (.bl (isInt d)))))
def S_is_integer (K : PySem.W.Frag) : DSp := fun args R Y => ∃ (d : Dt), args = [.fr (d)] ∧ Q_is_integer K d (fun r => R r [.fr (d)]) (fun C fs => Y C fs [.fr (d)])
instance {K : PySem.W.Frag} {d : Dt}  {R : Sl → Prop} {Y : Addr → List (Str × Dt) → Prop} : Wk (CallS (S_is_integer K) [d] R Y) (Side (Fl d) (R (.fr (.bl (isInt d))))) := ⟨fun hW => ⟨d, rfl, hW⟩⟩
def Q_check_integer (K : PySem.W.Frag) (wt : Str) (d : Dt) (R : Sl → Prop) (Y : Addr → List (Str × Dt) → Prop) : Prop := (Side (Fl d) (Br (isInt d) (R (.fr d)) (Y (He.ga K "BadNumber") [("what", .str wt), ("value", d)])))
def S_check_integer (K : PySem.W.Frag) : DSp := fun args R Y => ∃ (wt : Str) (d : Dt), args = [.fr (.str wt), .fr (d)] ∧ Q_check_integer K wt d (fun r => R r [.fr (.str wt), .fr (d)]) (fun C fs => Y C fs [.fr (.str wt), .fr (d)])
instance {K : PySem.W.Frag} {wt : Str} {d : Dt}  {R : Sl → Prop} {Y : Addr → List (Str × Dt) → Prop} : Wk (CallS (S_check_integer K) [.str wt, d] R Y) (Side (Fl d) (Br (isInt d) (R (.fr d)) (Y (He.ga K "BadNumber") [("what", .str wt), ("value", d)]))) := ⟨fun hW => ⟨wt, d, rfl, hW⟩⟩
def Q_check_number (K : PySem.W.Frag) (wt : Str) (d : Dt) (lo : Int) (h : Dt) (R : Sl → Prop) (Y : Addr → List (Str × Dt) → Prop) : Prop := (Side (Fl d ∧ Hi h) (Br (numB lo h d) (R (.fr d)) (Y (He.ga K "BadNumber") [("what", .str wt), ("value", d)])))
def S_check_number (K : PySem.W.Frag) : DSp := fun args R Y => ∃ (wt : Str) (d : Dt) (lo : Int) (h : Dt), args = [.fr (.str wt), .fr (d), .fr (.int lo), .fr (h)] ∧ Q_check_number K wt d lo h (fun r => R r [.fr (.str wt), .fr (d), .fr (.int lo), .fr (h)]) (fun C fs => Y C fs [.fr (.str wt), .fr (d), .fr (.int lo), .fr (h)])
instance {K : PySem.W.Frag} {wt : Str} {d : Dt} {lo : Int} {h : Dt}  {R : Sl → Prop} {Y : Addr → List (Str × Dt) → Prop} : Wk (CallS (S_check_number K) [.str wt, d, .int lo, h] R Y) (Side (Fl d ∧ Hi h) (Br (numB lo h d) (R (.fr d)) (Y (He.ga K "BadNumber") [("what", .str wt), ("value", d)]))) := ⟨fun hW => ⟨wt, d, lo, h, rfl, hW⟩⟩
def Q_row_fault (K : PySem.W.Frag) (s v : Dt) (g : Bool) (d : Dt) (b : Option Rw) (R : Sl → Prop) (Y : Addr → List (Str × Dt) → Prop) : Prop := (Side (Fl s ∧ Fl v) (R (.fr (.bl (rowFault s v b)))))
def S_row_fault (K : PySem.W.Frag) : DSp := fun args R Y => ∃ (s v : Dt) (g : Bool) (d : Dt) (b : Option Rw), (BefC d b) ∧ args = [.fr (.tup [s, v, .bl g]), .fr (d)] ∧ Q_row_fault K s v g d b (fun r => R r [.fr (.tup [s, v, .bl g]), .fr (d)]) (fun C fs => Y C fs [.fr (.tup [s, v, .bl g]), .fr (d)])
instance {K : PySem.W.Frag} {s v : Dt} {g : Bool} {d : Dt} {b : Option Rw} [hc0 : BefC d b] {R : Sl → Prop} {Y : Addr → List (Str × Dt) → Prop} : Wk (CallS (S_row_fault K) [.tup [s, v, .bl g], d] R Y) (Side (Fl s ∧ Fl v) (R (.fr (.bl (rowFault s v b))))) := ⟨fun hW => ⟨s, v, g, d, b, hc0, rfl, hW⟩⟩
def Q_check_rows (K : PySem.W.Frag) (d : Dt) (xs : List Dt) (os : List ORow) (R : Sl → Prop) (Y : Addr → List (Str × Dt) → Prop) : Prop := (Side (OFl os) (Br (badAt none 0 os).isNone (R (.fr .non)) (Y (He.ga K "BadRows") [("place", .int ((badAt none 0 os).getD 0 : Nat))])))
def S_check_rows (K : PySem.W.Frag) : DSp := fun args R Y => ∃ (d : Dt) (xs : List Dt) (os : List ORow), (SeqC d xs) ∧ (OdC xs os) ∧ args = [.fr (d)] ∧ Q_check_rows K d xs os (fun r => R r [.fr (d)]) (fun C fs => Y C fs [.fr (d)])
instance {K : PySem.W.Frag} {d : Dt} {xs : List Dt} {os : List ORow} [hc0 : SeqC d xs] [hc1 : OdC xs os] {R : Sl → Prop} {Y : Addr → List (Str × Dt) → Prop} : Wk (CallS (S_check_rows K) [d] R Y) (Side (OFl os) (Br (badAt none 0 os).isNone (R (.fr .non)) (Y (He.ga K "BadRows") [("place", .int ((badAt none 0 os).getD 0 : Nat))]))) := ⟨fun hW => ⟨d, xs, os, hc0, hc1, rfl, hW⟩⟩
def Q_value_at (K : PySem.W.Frag) (d : Dt) (rs : List Rw) (t : Int) (R : Sl → Prop) (Y : Addr → List (Str × Dt) → Prop) : Prop := (Side (Cov rs t) (R (.fr (.int (valueAt rs t)))))
def S_value_at (K : PySem.W.Frag) : DSp := fun args R Y => ∃ (d : Dt) (rs : List Rw) (t : Int), (SeqC d (rowsD rs)) ∧ args = [.fr (d), .fr (.int t)] ∧ Q_value_at K d rs t (fun r => R r [.fr (d), .fr (.int t)]) (fun C fs => Y C fs [.fr (d), .fr (.int t)])
instance {K : PySem.W.Frag} {d : Dt} {rs : List Rw} {t : Int} [hc0 : SeqC d (rowsD rs)] {R : Sl → Prop} {Y : Addr → List (Str × Dt) → Prop} : Wk (CallS (S_value_at K) [d, .int t] R Y) (Side (Cov rs t) (R (.fr (.int (valueAt rs t))))) := ⟨fun hW => ⟨d, rs, t, hc0, rfl, hW⟩⟩
def Q_runs_of (K : PySem.W.Frag) (d : Dt) (rs : List Rw) (k : Nat) (s v : Int) (g : Bool) (R : Sl → Prop) (Y : Addr → List (Str × Dt) → Prop) : Prop := (Side (rs[k]? = some (s, v, g)) (R (.fr (.lst (stepsD (runsN (s, v, g) rs[k + 1]?))))))
def S_runs_of (K : PySem.W.Frag) : DSp := fun args R Y => ∃ (d : Dt) (rs : List Rw) (k : Nat) (s v : Int) (g : Bool), (SeqC d (rowsD rs)) ∧ args = [.fr (d), .fr (.int (k : Nat)), .fr (.int s), .fr (.int v), .fr (.bl g)] ∧ Q_runs_of K d rs k s v g (fun r => R r [.fr (d), .fr (.int (k : Nat)), .fr (.int s), .fr (.int v), .fr (.bl g)]) (fun C fs => Y C fs [.fr (d), .fr (.int (k : Nat)), .fr (.int s), .fr (.int v), .fr (.bl g)])
instance {K : PySem.W.Frag} {d : Dt} {rs : List Rw} {k : Nat} {s v : Int} {g : Bool} [hc0 : SeqC d (rowsD rs)] {R : Sl → Prop} {Y : Addr → List (Str × Dt) → Prop} : Wk (CallS (S_runs_of K) [d, .int (k : Nat), .int s, .int v, .bl g] R Y) (Side (rs[k]? = some (s, v, g)) (R (.fr (.lst (stepsD (runsN (s, v, g) rs[k + 1]?)))))) := ⟨fun hW => ⟨d, rs, k, s, v, g, hc0, rfl, hW⟩⟩
def Q_steps_of (K : PySem.W.Frag) (d : Dt) (rs : List Rw) (R : Sl → Prop) (Y : Addr → List (Str × Dt) → Prop) : Prop := (Side (rs.length ≤ 400000) (R (.fr (.lst (stepsD (steps rs))))))
def S_steps_of (K : PySem.W.Frag) : DSp := fun args R Y => ∃ (d : Dt) (rs : List Rw), (SeqC d (rowsD rs)) ∧ args = [.fr (d)] ∧ Q_steps_of K d rs (fun r => R r [.fr (d)]) (fun C fs => Y C fs [.fr (d)])
instance {K : PySem.W.Frag} {d : Dt} {rs : List Rw} [hc0 : SeqC d (rowsD rs)] {R : Sl → Prop} {Y : Addr → List (Str × Dt) → Prop} : Wk (CallS (S_steps_of K) [d] R Y) (Side (rs.length ≤ 400000) (R (.fr (.lst (stepsD (steps rs)))))) := ⟨fun hW => ⟨d, rs, hc0, rfl, hW⟩⟩
def Q_greedy_rows (K : PySem.W.Frag) (rs : List Rw) (R : Sl → Prop) (Y : Addr → List (Str × Dt) → Prop) : Prop := (Side (Right rs ∧ Bd rs) (∀ G, Canon (valueAt rs) G → R (.fr (.tup (rowsD G)))))
def S_greedy_rows (K : PySem.W.Frag) : DSp := fun args R Y => ∃ (rs : List Rw), args = [.fr (.lst (rowsD rs))] ∧ Q_greedy_rows K rs (fun r => R r [.fr (.lst (rowsD rs))]) (fun C fs => Y C fs [.fr (.lst (rowsD rs))])
instance {K : PySem.W.Frag} {rs : List Rw}  {R : Sl → Prop} {Y : Addr → List (Str × Dt) → Prop} : Wk (CallS (S_greedy_rows K) [.lst (rowsD rs)] R Y) (Side (Right rs ∧ Bd rs) (∀ G, Canon (valueAt rs) G → R (.fr (.tup (rowsD G))))) := ⟨fun hW => ⟨rs, rfl, hW⟩⟩
def Q_RisingZZ_initZZ (K : PySem.W.Frag) (d : Dt) (xs : List Dt) (os : List ORow) (R : List (Str × Dt) → Prop) (Y : Addr → List (Str × Dt) → Prop) : Prop := (Side (OFl os ∧ (badAt none 0 os = none → Bd (os.map toRow))) (Br (badAt none 0 os).isNone (∀ G, Canon (valueAt (os.map toRow)) G → R [("rows", .tup (rowsD G))]) (Y (He.ga K "BadRows") [("place", .int ((badAt none 0 os).getD 0 : Nat))])))
theorem mo_RisingZZ_initZZ {K : PySem.W.Frag} {d : Dt} {xs : List Dt} {os : List ORow} {R R2 : List (Str × Dt) → Prop} {Y Y2 : Addr → List (Str × Dt) → Prop} (hR : ∀ x, R x → R2 x) (hY : ∀ C fs, Y C fs → Y2 C fs) (h : Q_RisingZZ_initZZ K d xs os R Y) : Q_RisingZZ_initZZ K d xs os R2 Y2 := by
  unfold Q_RisingZZ_initZZ at h ⊢
  w_dflts wM
def S_RisingZZ_initZZ (K : PySem.W.Frag) : DSp := fun args R Y => ∃ (y : Addr), ∃ (d : Dt) (xs : List Dt) (os : List ORow), (SeqC d xs) ∧ (OdC xs os) ∧ args = .oo y (He.ga K "Rising") (frF []) :: [.fr (d)] ∧ Q_RisingZZ_initZZ K d xs os (fun fs => R (.fr .non) (.oo y (He.ga K "Rising") (frF fs) :: [.fr (d)])) (fun D fs => ∀ args2, Y D fs args2)
instance {K : PySem.W.Frag} {d : Dt} {xs : List Dt} {os : List ORow} [hc0 : SeqC d xs] [hc1 : OdC xs os] {R : List (Str × Dt) → Prop} {Y : Addr → List (Str × Dt) → Prop} : Wk (CallM (S_RisingZZ_initZZ K) (He.ga K "Rising") [d] R Y) (Side (OFl os ∧ (badAt none 0 os = none → Bd (os.map toRow))) (Br (badAt none 0 os).isNone (∀ G, Canon (valueAt (os.map toRow)) G → R [("rows", .tup (rowsD G))]) (Y (He.ga K "BadRows") [("place", .int ((badAt none 0 os).getD 0 : Nat))]))) := ⟨fun hW y => ⟨y, d, xs, os, hc0, hc1, rfl, mo_RisingZZ_initZZ (fun fs z => ⟨fs, rfl, rfl, z⟩) (fun _ _ z _ => z) hW⟩⟩
def Q_RisingZZ_callZZ (K : PySem.W.Frag) (A : List Rw) (d : Dt) (R : Sl → Prop) (Y : Addr → List (Str × Dt) → Prop) : Prop := (Side (Fl d ∧ Right A) (Br (numB 0 .non d) (R (.fr (.int (valueAt A (intOf d))))) (Y (He.ga K "BadNumber") [("what", .str "minute"), ("value", d)])))
def S_RisingZZ_callZZ (K : PySem.W.Frag) : DSp := fun args R Y => ∃ (A : List Rw) (d : Dt), args = [.fr (risD K A), .fr (d)] ∧ Q_RisingZZ_callZZ K A d (fun r => R r [.fr (risD K A), .fr (d)]) (fun C fs => Y C fs [.fr (risD K A), .fr (d)])
instance {K : PySem.W.Frag} {A : List Rw} {d : Dt}  {R : Sl → Prop} {Y : Addr → List (Str × Dt) → Prop} : Wk (CallS (S_RisingZZ_callZZ K) [risD K A, d] R Y) (Side (Fl d ∧ Right A) (Br (numB 0 .non d) (R (.fr (.int (valueAt A (intOf d))))) (Y (He.ga K "BadNumber") [("what", .str "minute"), ("value", d)]))) := ⟨fun hW => ⟨A, d, rfl, hW⟩⟩
def Q_RisingZZ_lenZZ (K : PySem.W.Frag) (A : List Rw) (R : Sl → Prop) (Y : Addr → List (Str × Dt) → Prop) : Prop := (Side (A.length ≤ 400000) (R (.fr (.int (A.length : Nat)))))
def S_RisingZZ_lenZZ (K : PySem.W.Frag) : DSp := fun args R Y => ∃ (A : List Rw), args = [.fr (risD K A)] ∧ Q_RisingZZ_lenZZ K A (fun r => R r [.fr (risD K A)]) (fun C fs => Y C fs [.fr (risD K A)])
instance {K : PySem.W.Frag} {A : List Rw}  {R : Sl → Prop} {Y : Addr → List (Str × Dt) → Prop} : Wk (CallS (S_RisingZZ_lenZZ K) [risD K A] R Y) (Side (A.length ≤ 400000) (R (.fr (.int (A.length : Nat))))) := ⟨fun hW => ⟨A, rfl, hW⟩⟩
def Q_RisingZZ_eqZZ (K : PySem.W.Frag) (A B : List Rw) (R : Sl → Prop) (Y : Addr → List (Str × Dt) → Prop) : Prop := (R (.fr (.bl (decide (A = B)))))
def S_RisingZZ_eqZZ (K : PySem.W.Frag) : DSp := fun args R Y => ∃ (A B : List Rw), args = [.fr (risD K A), .fr (risD K B)] ∧ Q_RisingZZ_eqZZ K A B (fun r => R r [.fr (risD K A), .fr (risD K B)]) (fun C fs => Y C fs [.fr (risD K A), .fr (risD K B)])
instance {K : PySem.W.Frag} {A B : List Rw}  {R : Sl → Prop} {Y : Addr → List (Str × Dt) → Prop} : Wk (CallS (S_RisingZZ_eqZZ K) [risD K A, risD K B] R Y) (R (.fr (.bl (decide (A = B))))) := ⟨fun hW => ⟨A, B, rfl, hW⟩⟩
def Q_law_values (K : PySem.W.Frag) (ns : List Int) (a : Addr) (m : Int) (R : Sl → Sl → Prop) (Y : Addr → List (Str × Dt) → Sl → Prop) : Prop := (Side (1 ≤ m ∧ m ≤ 1000) (∀ vs : List Int, VOk vs → (vs.length : Int) ≤ m → (∀ v ∈ vs, v ≤ 20000) → R (.fr (.lst (vs.map .int))) (.os a St4)))
theorem mo_law_values {K : PySem.W.Frag} {ns : List Int} {a : Addr} {m : Int} {R R2 : Sl → Sl → Prop} {Y Y2 : Addr → List (Str × Dt) → Sl → Prop} (hR : ∀ x s, R x s → R2 x s) (hY : ∀ C fs s, Y C fs s → Y2 C fs s) (h : Q_law_values K ns a m R Y) : Q_law_values K ns a m R2 Y2 := by
  unfold Q_law_values at h ⊢
  w_dflts wM
def S_law_values (K : PySem.W.Frag) : DSp := fun args R Y => ∃ (ns : List Int) (a : Addr) (m : Int), args = [.fr (.scr ns), .os a St4, .fr (.int m)] ∧ Q_law_values K ns a m (fun r s => R r [.fr (.scr ns), s, .fr (.int m)]) (fun C fs s => Y C fs [.fr (.scr ns), s, .fr (.int m)])
instance {K : PySem.W.Frag} {ns : List Int} {a : Addr} {m : Int}  {R : Sl → Sl → Prop} {Y : Addr → List (Str × Dt) → Sl → Prop} : Wk (CallB (S_law_values K) [.scr ns] [.int m] (.os a St4) R Y) (Side (1 ≤ m ∧ m ≤ 1000) (∀ vs : List Int, VOk vs → (vs.length : Int) ≤ m → (∀ v ∈ vs, v ≤ 20000) → R (.fr (.lst (vs.map .int))) (.os a St4))) := ⟨fun hW => ⟨ns, a, m, rfl, mo_law_values (fun _ s z => ⟨s, rfl, z⟩) (fun _ _ s z => ⟨s, rfl, z⟩) hW⟩⟩
def Q_law_at (K : PySem.W.Frag) (vs : List Int) (t : Int) (R : Sl → Prop) (Y : Addr → List (Str × Dt) → Prop) : Prop := (Side (vs ≠ [] ∧ 0 ≤ t) (R (.fr (.int (valF vs t)))))
def S_law_at (K : PySem.W.Frag) : DSp := fun args R Y => ∃ (vs : List Int) (t : Int), args = [.fr (.lst (vs.map .int)), .fr (.int t)] ∧ Q_law_at K vs t (fun r => R r [.fr (.lst (vs.map .int)), .fr (.int t)]) (fun C fs => Y C fs [.fr (.lst (vs.map .int)), .fr (.int t)])
instance {K : PySem.W.Frag} {vs : List Int} {t : Int}  {R : Sl → Prop} {Y : Addr → List (Str × Dt) → Prop} : Wk (CallS (S_law_at K) [.lst (vs.map .int), .int t] R Y) (Side (vs ≠ [] ∧ 0 ≤ t) (R (.fr (.int (valF vs t))))) := ⟨fun hW => ⟨vs, t, rfl, hW⟩⟩
def Q_law_rows (K : PySem.W.Frag) (ns : List Int) (a : Addr) (vs : List Int) (R : Sl → Sl → Prop) (Y : Addr → List (Str × Dt) → Sl → Prop) : Prop := (Side (VOk vs ∧ vs.length ≤ 1000) (∀ b rs, RowsOf vs rs → R (.ol b (rowsD rs)) (.os a St4)))
theorem mo_law_rows {K : PySem.W.Frag} {ns : List Int} {a : Addr} {vs : List Int} {R R2 : Sl → Sl → Prop} {Y Y2 : Addr → List (Str × Dt) → Sl → Prop} (hR : ∀ x s, R x s → R2 x s) (hY : ∀ C fs s, Y C fs s → Y2 C fs s) (h : Q_law_rows K ns a vs R Y) : Q_law_rows K ns a vs R2 Y2 := by
  unfold Q_law_rows at h ⊢
  w_dflts wM
def S_law_rows (K : PySem.W.Frag) : DSp := fun args R Y => ∃ (ns : List Int) (a : Addr) (vs : List Int), args = [.fr (.scr ns), .os a St4, .fr (.lst (vs.map .int))] ∧ Q_law_rows K ns a vs (fun r s => R r [.fr (.scr ns), s, .fr (.lst (vs.map .int))]) (fun C fs s => Y C fs [.fr (.scr ns), s, .fr (.lst (vs.map .int))])
instance {K : PySem.W.Frag} {ns : List Int} {a : Addr} {vs : List Int}  {R : Sl → Sl → Prop} {Y : Addr → List (Str × Dt) → Sl → Prop} : Wk (CallB (S_law_rows K) [.scr ns] [.lst (vs.map .int)] (.os a St4) R Y) (Side (VOk vs ∧ vs.length ≤ 1000) (∀ b rs, RowsOf vs rs → R (.ol b (rowsD rs)) (.os a St4))) := ⟨fun hW => ⟨ns, a, vs, rfl, mo_law_rows (fun _ s z => ⟨s, rfl, z⟩) (fun _ _ s z => ⟨s, rfl, z⟩) hW⟩⟩
def Q_law_greedy (K : PySem.W.Frag) (vs : List Int) (R : Sl → Prop) (Y : Addr → List (Str × Dt) → Prop) : Prop := (Side (VOk vs ∧ vs.length ≤ 2000) (∀ G, Grd (valF vs) 0 G → R (.fr (.tup (rowsD G)))))
def S_law_greedy (K : PySem.W.Frag) : DSp := fun args R Y => ∃ (vs : List Int), args = [.fr (.lst (vs.map .int))] ∧ Q_law_greedy K vs (fun r => R r [.fr (.lst (vs.map .int))]) (fun C fs => Y C fs [.fr (.lst (vs.map .int))])
instance {K : PySem.W.Frag} {vs : List Int}  {R : Sl → Prop} {Y : Addr → List (Str × Dt) → Prop} : Wk (CallS (S_law_greedy K) [.lst (vs.map .int)] R Y) (Side (VOk vs ∧ vs.length ≤ 2000) (∀ G, Grd (valF vs) 0 G → R (.fr (.tup (rowsD G))))) := ⟨fun hW => ⟨vs, rfl, hW⟩⟩
def Q_law_value (K : PySem.W.Frag) (F : List Rw) (d : Dt) (R : Sl → Prop) (Y : Addr → List (Str × Dt) → Prop) : Prop := (Side (Fl d ∧ Rz F) (Br (numB 0 .non d) (R (.fr (.int (valueAt F (intOf d))))) (R (.fr (.tup [.str "minute", d])))))
def S_law_value (K : PySem.W.Frag) : DSp := fun args R Y => ∃ (F : List Rw) (d : Dt), args = [.fr (risD K F), .fr (d)] ∧ Q_law_value K F d (fun r => R r [.fr (risD K F), .fr (d)]) (fun C fs => Y C fs [.fr (risD K F), .fr (d)])
instance {K : PySem.W.Frag} {F : List Rw} {d : Dt}  {R : Sl → Prop} {Y : Addr → List (Str × Dt) → Prop} : Wk (CallS (S_law_value K) [risD K F, d] R Y) (Side (Fl d ∧ Rz F) (Br (numB 0 .non d) (R (.fr (.int (valueAt F (intOf d))))) (R (.fr (.tup [.str "minute", d]))))) := ⟨fun hW => ⟨F, d, rfl, hW⟩⟩
set_option hygiene false
local macro_rules
  | `(tactic| w_dflts wS) => `(tactic| first
    | omega | assumption | exact Nat.le_of_ble_eq_true rfl | exact rfl | exact True.intro
    | exact St4.mk _ _ _ _ | exact ⟨St4.mk _ _ _ _, True.intro⟩
    | (simp only [List.length_cons, List.length_nil, List.length_append, sizeLine, app_len]; omega)
    | exact .inr ⟨by decide, by decide⟩ | exact .inl ⟨by decide, by decide⟩
    | (refine .inr ⟨?_, ?_⟩ <;> omega) | (refine .inl ⟨?_, ?_⟩ <;> omega)
    | (refine ⟨?_, ?_⟩ <;> omega) | (refine ⟨?_, ?_, ?_⟩ <;> (first | omega | decide))
    | exact ⟨by assumption, by assumption, cnt_lt (by repeat' (first | exact cnt_nil | apply cnt_put)) (by decide)⟩
    | (refine ⟨?_, ?_, ?_⟩ <;> first | assumption | (simp only [List.length_cons, List.length_nil]; omega))
    | (refine ⟨?_, ?_⟩ <;> first | assumption | omega | (constructor; done) | exact True.intro)
    | (refine ⟨?_, ?_, ?_⟩ <;> first | assumption | omega | (constructor; done))
    | (refine ⟨?_, ?_, ?_, ?_⟩ <;> first | assumption | omega | (constructor; done))
    | (refine ⟨?_, ?_, ?_, ?_, ?_⟩ <;> first | assumption | omega | (constructor; done))
    | (constructor; done)
    | (and_intros <;> first | exact True.intro | assumption)
    | decide +kernel)
local macro_rules
  | `(tactic| w_dflts w1) => `(tactic| first
    | with_reducible refine Wk.go ?_
    | ((with_reducible refine isSide ?_); first | (refine Side.mk ?_ ?_; · w_dflts wS) | refine Side.mk ?_ ?_)
    | ((with_reducible refine isBrP ?_); first | (apply brp_t; assumption) | (apply brp_f; assumption) | (refine BrP.mk (fun hb => ?_) (fun hb => ?_)) <;> (first | (exfalso; omega) | skip))
    | ((with_reducible refine isBr ?_); first | (apply br_t; assumption) | (apply br_f; assumption) | refine Br.mk (fun hb => ?_) (fun hb => ?_))
    | ((with_reducible refine isFld ?_); first | (apply f_obj; assumption; assumption; exact rfl) | (apply f_exc; assumption; assumption; exact rfl))
    | ((with_reducible (apply hx_yes; assumption; intro a d)); dsimp only [gOn, gOff, List.set_cons_zero, List.set_cons_succ])
    | (with_reducible (apply hx_no; assumption))
    | w_dflts wO
    | (with_reducible (apply va_of; assumption))
    | (with_reducible (apply f_isInt; assumption))
    | (with_reducible (apply f_isStr; assumption))
    | (with_reducible (apply f_isBl; assumption))
    | (with_reducible (apply f_eqS; assumption))
    | (with_reducible (apply f_eqD; assumption))
    | (with_reducible (apply f_neD; assumption))
    | (with_reducible (apply isix_own; assumption; assumption))
    | (with_reducible (apply isix_ty; assumption; assumption))
    | (with_reducible (apply x_isO; assumption))
    | (with_reducible (apply x_isE; assumption; assumption))
    | (with_reducible (apply x_isV; assumption; assumption))
    | refine l_ixL rfl ?_
    | refine l_ixT rfl ?_
    | ((with_reducible refine ex_and ?_ ?_); (· simp [ExAll, exOk]); dsimp only [gOff, fixE, fixS, List.set_cons_zero, List.set_cons_succ])
    | with_reducible refine l_eqX rfl ?_
    | with_reducible refine l_neX rfl ?_
    | with_reducible refine ⟨_, rfl, ?_⟩
    | refine ⟨_, rfl, ?_⟩
    | refine ⟨_, _, rfl, ?_⟩
    | with_reducible intro _)
local macro_rules
  | `(tactic| w_dflts wO) => `(tactic| fail "none")
local macro_rules
  | `(tactic| w_dflts wd) => `(tactic| repeat' (first
    | with_reducible refine Wk.go ?_
    | ((with_reducible refine isSide ?_); first | (refine Side.mk ?_ ?_; · w_dflts wS) | refine Side.mk ?_ ?_)
    | ((with_reducible refine isBrP ?_); first | (apply brp_t; assumption) | (apply brp_f; assumption) | (refine BrP.mk (fun hb => ?_) (fun hb => ?_)) <;> (first | (exfalso; omega) | skip))
    | ((with_reducible refine isBr ?_); first | (apply br_t; assumption) | (apply br_f; assumption) | refine Br.mk (fun hb => ?_) (fun hb => ?_))
    | ((with_reducible refine isFld ?_); first | (apply f_obj; assumption; assumption; exact rfl) | (apply f_exc; assumption; assumption; exact rfl))
    | ((with_reducible (apply hx_yes; assumption; intro a d)); dsimp only [gOn, gOff, List.set_cons_zero, List.set_cons_succ])
    | (with_reducible (apply hx_no; assumption))
    | w_dflts wO
    | (with_reducible (apply va_of; assumption))
    | (with_reducible (apply f_isInt; assumption))
    | (with_reducible (apply f_isStr; assumption))
    | (with_reducible (apply f_isBl; assumption))
    | (with_reducible (apply f_eqS; assumption))
    | (with_reducible (apply f_eqD; assumption))
    | (with_reducible (apply f_neD; assumption))
    | (with_reducible (apply isix_own; assumption; assumption))
    | (with_reducible (apply isix_ty; assumption; assumption))
    | (with_reducible (apply x_isO; assumption))
    | (with_reducible (apply x_isE; assumption; assumption))
    | (with_reducible (apply x_isV; assumption; assumption))
    | refine l_ixL rfl ?_
    | refine l_ixT rfl ?_
    | ((with_reducible refine ex_and ?_ ?_); (· simp [ExAll, exOk]); dsimp only [gOff, fixE, fixS, List.set_cons_zero, List.set_cons_succ])
    | with_reducible refine l_eqX rfl ?_
    | with_reducible refine l_neX rfl ?_
    | with_reducible refine ⟨_, rfl, ?_⟩
    | refine ⟨_, rfl, ?_⟩
    | refine ⟨_, _, rfl, ?_⟩
    | with_reducible intro _))
local macro_rules
  | `(tactic| w_dflts wn) => `(tactic| repeat' (first
    | with_reducible refine Wk.go ?_
    | ((with_reducible refine isSide ?_); first | (refine Side.mk ?_ ?_; · w_dflts wS) | refine Side.mk ?_ ?_)
    | ((with_reducible refine isBrP ?_); first | (apply brp_t; assumption) | (apply brp_f; assumption) | (refine BrP.mk (fun hb => ?_) (fun hb => ?_)) <;> (first | (exfalso; omega) | skip))
    | ((with_reducible refine isBr ?_); first | (apply br_t; assumption) | (apply br_f; assumption) | refine Br.mk (fun hb => ?_) (fun hb => ?_))
    | ((with_reducible refine isFld ?_); first | (apply f_obj; assumption; assumption; exact rfl) | (apply f_exc; assumption; assumption; exact rfl))
    | ((with_reducible (apply hx_yes; assumption; intro a d)); dsimp only [gOn, gOff, List.set_cons_zero, List.set_cons_succ])
    | (with_reducible (apply hx_no; assumption))
    | w_dflts wO
    | (with_reducible (apply va_of; assumption))
    | (with_reducible (apply f_isInt; assumption))
    | (with_reducible (apply f_isStr; assumption))
    | (with_reducible (apply f_isBl; assumption))
    | (with_reducible (apply f_eqS; assumption))
    | (with_reducible (apply f_eqD; assumption))
    | (with_reducible (apply f_neD; assumption))
    | (with_reducible (apply isix_own; assumption; assumption))
    | (with_reducible (apply isix_ty; assumption; assumption))
    | (with_reducible (apply x_isO; assumption))
    | (with_reducible (apply x_isE; assumption; assumption))
    | (with_reducible (apply x_isV; assumption; assumption))
    | refine l_ixL rfl ?_
    | refine l_ixT rfl ?_
    | ((with_reducible refine ex_and ?_ ?_); (· simp [ExAll, exOk]); dsimp only [gOff, fixE, fixS, List.set_cons_zero, List.set_cons_succ])
    | with_reducible refine l_eqX rfl ?_
    | with_reducible refine l_neX rfl ?_
    | with_reducible refine ⟨_, rfl, ?_⟩
    | refine ⟨_, rfl, ?_⟩
    | refine ⟨_, _, rfl, ?_⟩
    | fail "stop"))
set_option hygiene true
set_option hygiene false
local macro_rules
  | `(tactic| w_dflts wF) => `(tactic| (have fT_x_NN := T.x_NN; have fT_m_Rising := T.m_Rising; have fT_cl_Rising := T.cl_Rising; have fT_eq_Rising := T.eq_Rising; have fT_if_Rising := T.if_Rising; have fT_na_Rising_rows := T.na_Rising_rows; have fT_op_Rising_call := T.op_Rising_call; have fT_op_Rising_iter := T.op_Rising_iter; have fT_op_Rising_len := T.op_Rising_len; have xf_BadNumber := T.E_BadNumber.xf; have xn_BadNumber_what := T.E_BadNumber.no "what" (by decide +kernel); have xn_BadNumber_value := T.E_BadNumber.no "value" (by decide +kernel); have xf_BadRows := T.E_BadRows.xf; have xn_BadRows_place := T.E_BadRows.no "place" (by decide +kernel)))
set_option hygiene true
theorem tkpo (P : Program) (w : World) (K : PySem.W.Frag) (mg : Str → Option Value) (base : Heap) (N : List Str) (qual : Str) (scope : Scope) (f : Addr) (cd : Value) (A : Around) (outer : List Env) (s : Shared) (H : Hp) (E : XK) :
    Takes (cxOf (L2.CX P w) P w K mg base N qual scope f cd A outer s H E) (fun cls d _ H => E cls d H) ∧ PassesOwn (model (cxOf (L2.CX P w) P w K mg base N qual scope f cd A outer s H E).prog (cxOf (L2.CX P w) P w K mg base N qual scope f cd A outer s H E).w) (cxOf (L2.CX P w) P w K mg base N qual scope f cd A outer s H E).A (cxOf (L2.CX P w) P w K mg base N qual scope f cd A outer s H E).env (cxOf (L2.CX P w) P w K mg base N qual scope f cd A outer s H E).xe :=
  ⟨takes_of (X := (cxOf (L2.CX P w) P w K mg base N qual scope f cd A outer s H E)) rfl rfl rfl rfl, passes_of (X := (cxOf (L2.CX P w) P w K mg base N qual scope f cd A outer s H E)) rfl⟩
section
variable {P : Program} {w : World} {K : PySem.W.Frag} {mg : Str → Option Value} {base : Heap}
theorem ok_law_start (T : Tx P K mg) : DN P w K mg base "_law_start" [] 1 (S_law_start K) := by
  obtain ⟨fd, F⟩ := T.f_law_start
  refine ⟨_, (fn_d (fun_of F) sc_law_start (fun args R Y h => by obtain ⟨_, rfl, _⟩ := h; rfl) (fun cdv A outer s H E hr => ?_)).toK (F.bindsN (fun _ _ _ _ _ _ us hl => match us, hl with | [_], _ => rfl)), T.g_law_start, F.kp⟩
  obtain ⟨tk, po⟩ := tkpo P w K mg base ["_law_script", "_law_first"] "_law_start" (defScope s_law_start) (He.fAd K ("_law_start", none)) cdv A outer s H E
  refine ⟨_, (pss_cons (ps_set (i := 1) sc_law_start.nd rfl (Or.inl rfl) pe_int)
  (pss_cons (ps_if (pt_cmpR op_gtP (pe_callB (call_lenK K rfl) (by rfl) T.b_len (by decide +kernel) (pa_cons (pv 0) pa_nil)) pe_int (nomark _)) (pss_one (ps_set (i := 1) sc_law_start.nd rfl (Or.inl rfl) (pe_ix (ix_K K rfl hr.units) (pv 0) pe_int (fun _ _ => rfl)))) pss_nil)
  (pss_one (mkR (ps_ret (pe_lst (pa_cons (pe_callB call_absP (by rfl) T.b_abs (by decide +kernel) (pa_cons (pe_callTy call_intP (by rfl) T.b_int (by decide +kernel) (pa_cons (pv 1) pa_nil)) pa_nil)) (pa_cons (pe_callTy call_intP (by rfl) T.b_int (by decide +kernel) (pa_cons (pe_cmpR op_geP (pe_callB call_absP (by rfl) T.b_abs (by decide +kernel) (pa_cons (pe_callTy call_intP (by rfl) T.b_int (by decide +kernel) (pa_cons (pv 1) pa_nil)) pa_nil)) (pe_op op_powP pe_int pe_int) (nomark _)) pa_nil)) (pa_cons pe_int (pa_cons pe_int pa_nil)))))))))), ?_⟩
  intro args R Y hS
  obtain ⟨ns, rfl, hS⟩ := hS
  unfold Q_law_start at hS
  try dsimp only at hS
  refine w_start (Γ := [some (.fr (.scr ns)), none]) ?_
  try dsimp only [cxOf]
  clear po tk hr
  w_dflts wF
  w_dflts w1
  w_dflts w1
  w_dflts w1
  refine g_mid (fun Γ => ∃ v : Int, Γ = [some (.fr (.scr ns)), some (.fr (.int v))]) ?_ ?_
  · w_dflts wd
    · refine x_ixC (by omega) (by omega) fun v => ?_
      w_dflts wd
      exact ⟨v, rfl⟩
    · exact ⟨0, rfl⟩
  · rintro Γ ⟨v, rfl⟩
    refine g_retO (evo_pack St4 ?_)
    w_dflts wd
    exact ⟨St4.mk _ _ _ _, _, .fr .nil, hS _⟩
theorem ok_law_draw (T : Tx P K mg) : DN P w K mg base "_law_draw" [] 1 (S_law_draw K) := by
  obtain ⟨fd, F⟩ := T.f_law_draw
  refine ⟨_, (fn_d (fun_of F) sc_law_draw (fun args R Y h => by obtain ⟨_, _, _, rfl, _⟩ := h; rfl) (fun cdv A outer s H E hr => ?_)).toK (F.bindsN (fun _ _ _ _ _ _ us hl => match us, hl with | [_, _, _], _ => rfl)), T.g_law_draw, F.kp⟩
  obtain ⟨tk, po⟩ := tkpo P w K mg base ["_law_script", "_law_state", "_law_limit", "_law_number", "_law_cell", "_law_mixed"] "_law_draw" (defScope s_law_draw) (He.fAd K ("_law_draw", none)) cdv A outer s H E
  refine ⟨_, (pss_cons (ps_asg (pe_op (op_addK K rfl) (pe_ix (ix_K K rfl hr.units) (pv 1) pe_int (fun _ _ => rfl)) pe_int) (pg_sub (pv 1) pe_int set_list))
  (pss_cons (ps_if (PW.pt (pw_and (pt_cmpR (op_eqK K rfl hr.units) (pe_ix (ix_K K rfl hr.units) (pv 1) pe_int (fun _ _ => rfl)) pe_int (nomark _)) (pw_and1 (pt_cmpR op_gtP (pe_ix (ix_K K rfl hr.units) (pv 1) pe_int (fun _ _ => rfl)) pe_int (nomark _))))) (pss_cons (ps_set (i := 3) sc_law_draw.nd rfl (Or.inl rfl) (pe_op op_modP (pe_callTy call_intP (by rfl) T.b_int (by decide +kernel) (pa_cons (pe_ix (ix_K K rfl hr.units) (pv 1) pe_int (fun _ _ => rfl)) pa_nil)) (pv 2)))
  (pss_cons (ps_asg (pe_op op_fdivP (pe_ix (ix_K K rfl hr.units) (pv 1) pe_int (fun _ _ => rfl)) (pv 2)) (pg_sub (pv 1) pe_int set_list))
  (pss_one (ps_ret (pv 3))))) pss_nil)
  (pss_cons (ps_asg pe_int (pg_sub (pv 1) pe_int set_list))
  (pss_cons (ps_set (i := 4) sc_law_draw.nd rfl (Or.inl rfl) pe_int)
  (pss_cons (ps_if (pt_cmpR op_gtP (pe_callB (call_lenK K rfl) (by rfl) T.b_len (by decide +kernel) (pa_cons (pv 0) pa_nil)) pe_int (nomark _)) (pss_one (ps_set (i := 4) sc_law_draw.nd rfl (Or.inl rfl) (pe_ix (ix_K K rfl hr.units) (pv 0) (pe_op op_modP (pe_callTy call_intP (by rfl) T.b_int (by decide +kernel) (pa_cons (pe_ix (ix_K K rfl hr.units) (pv 1) pe_int (fun _ _ => rfl)) pa_nil)) (pe_callB (call_lenK K rfl) (by rfl) T.b_len (by decide +kernel) (pa_cons (pv 0) pa_nil))) (fun _ _ => rfl)))) pss_nil)
  (pss_cons (ps_asg (pe_op (op_addK K rfl) (pe_ix (ix_K K rfl hr.units) (pv 1) pe_int (fun _ _ => rfl)) pe_int) (pg_sub (pv 1) pe_int set_list))
  (pss_cons (ps_set (i := 5) sc_law_draw.nd rfl (Or.inl rfl) (pe_op op_mulP (pe_op op_modP (pe_callTy call_intP (by rfl) T.b_int (by decide +kernel) (pa_cons (pe_ix (ix_K K rfl hr.units) (pv 1) pe_int (fun _ _ => rfl)) pa_nil)) pe_int) pe_int))
  (pss_cons (ps_set (i := 5) sc_law_draw.nd rfl (Or.inl rfl) (pe_op (op_addK K rfl) (pe_op (op_addK K rfl) (pe_op (op_addK K rfl) (pv 5) (pe_op op_modP (pe_callTy call_intP (by rfl) T.b_int (by decide +kernel) (pa_cons (pv 4) pa_nil)) pe_int)) (pe_op op_mulP pe_int (pe_ix (ix_K K rfl hr.units) (pv 1) pe_int (fun _ _ => rfl)))) pe_int))
  (pss_cons (ps_asg (pe_op op_modP (pe_callTy call_intP (by rfl) T.b_int (by decide +kernel) (pa_cons (pv 5) pa_nil)) pe_int) (pg_sub (pv 1) pe_int set_list))
  (pss_cons (ps_set (i := 5) sc_law_draw.nd rfl (Or.inl rfl) (pe_op op_modP (pe_callTy call_intP (by rfl) T.b_int (by decide +kernel) (pa_cons (pe_op (op_addK K rfl) (pe_op op_mulP (pe_ix (ix_K K rfl hr.units) (pv 1) pe_int (fun _ _ => rfl)) pe_int) (pe_ix (ix_K K rfl hr.units) (pv 1) pe_int (fun _ _ => rfl))) pa_nil)) pe_int))
  (pss_one (ps_ret (pe_op op_modP (pe_callTy call_intP (by rfl) T.b_int (by decide +kernel) (pa_cons (pe_op op_fdivP (pv 5) pe_int) pa_nil)) (pv 2)))))))))))))), ?_⟩
  intro args R Y hS
  obtain ⟨ns, a, m, rfl, hS⟩ := hS
  unfold Q_law_draw at hS
  try dsimp only at hS
  obtain ⟨hP, hS⟩ := hS
  refine w_start (Γ := [some (.fr (.scr ns)), some (.os a St4), some (.fr (.int m)), none, none, none]) ?_
  try dsimp only [cxOf]
  clear po tk hr
  w_dflts wF
  refine go_unpack (i := 1) rfl fun ds hds => ?_
  obtain ⟨s0, s1, s2, s3, rfl⟩ := hds
  have fin : ∀ x : Int, R (.fr (.int (x % m))) [.fr (.scr ns), .os a St4, .fr (.int m)] := fun x => hS _ (Int.emod_nonneg _ (by omega)) (Int.emod_lt_of_pos _ hP.1)
  w_dflts wd
  all_goals first | exact fin _ | (refine x_ixC (Int.emod_nonneg _ (by omega)) (Int.emod_lt_of_pos _ (by omega)) fun v => ?_)
  all_goals w_dflts wd
  all_goals exact fin _
theorem ok_is_integer (T : Tx P K mg) : DN P w K mg base "is_integer" [] 1 (S_is_integer K) := by
  obtain ⟨fd, F⟩ := T.f_is_integer
  refine ⟨_, (fn_d (fun_of F) sc_is_integer (fun args R Y h => by obtain ⟨_, rfl, _⟩ := h; rfl) (fun cdv A outer s H E hr => ?_)).toK (F.bindsN (fun _ _ _ _ _ _ us hl => match us, hl with | [_], _ => rfl)), T.g_is_integer, F.kp⟩
  obtain ⟨tk, po⟩ := tkpo P w K mg base ["value"] "is_integer" (defScope s_is_integer) (He.fAd K ("is_integer", none)) cdv A outer s H E
  refine ⟨_, (pss_one (ps_ret (pe_and (pe_callB (call_isiK K rfl) (by rfl) T.b_isinstance (by decide +kernel) (pa_cons (pv 0) (pa_cons (pe_bltn (v := .ty "int") (u := .type "int") (by rfl) T.b_int (by decide +kernel) rfl) pa_nil))) (pe_one (pe_not (pe_callB (call_isiK K rfl) (by rfl) T.b_isinstance (by decide +kernel) (pa_cons (pv 0) (pa_cons (pe_bltn (v := .ty "bool") (u := .type "bool") (by rfl) T.b_bool (by decide +kernel) rfl) pa_nil)))))))), ?_⟩
  intro args R Y hS
  obtain ⟨d, rfl, hS⟩ := hS
  unfold Q_is_integer at hS
  try dsimp only at hS
  obtain ⟨hP, hS⟩ := hS
  refine w_start (Γ := [some (.fr (d))]) ?_
  try dsimp only [cxOf]
  clear po tk hr
  w_dflts wF
  cases hP with
  | non => w_dflts wd; exact hS
  | bl b => w_dflts wd; exact hS
  | int i => w_dflts wd; exact hS
  | str hl => w_dflts wd; exact hS
theorem ok_check_integer (T : Tx P K mg) : DN P w K mg base "check_integer" [] 2 (S_check_integer K) := by
  have D_is_integer := ok_is_integer (P := P) (w := w) (base := base) T
  obtain ⟨fd, F⟩ := T.f_check_integer
  refine ⟨_, (fn_d (fun_of F) sc_check_integer (fun args R Y h => by obtain ⟨_, _, rfl, _⟩ := h; rfl) (fun cdv A outer s H E hr => ?_)).toK (F.bindsN (fun _ _ _ _ _ _ us hl => match us, hl with | [_, _], _ => rfl)), T.g_check_integer, F.kp⟩
  obtain ⟨tk, po⟩ := tkpo P w K mg base ["what", "value"] "check_integer" (defScope s_check_integer) (He.fAd K ("check_integer", none)) cdv A outer s H E
  refine ⟨_, (pss_cons (ps_if (pt_not (pt_val (pe_nK K rfl D_is_integer hr (by decide) tk (pa_cons (pv 1) pa_nil)))) (pss_one (ps_raiseE rfl T.E_BadNumber.at hr tk (pa_cons (pv 0) (pa_cons (pv 1) pa_nil)))) pss_nil)
  (pss_one (ps_ret (pv 1)))), ?_⟩
  intro args R Y hS
  obtain ⟨wt, d, rfl, hS⟩ := hS
  unfold Q_check_integer at hS
  try dsimp only at hS
  obtain ⟨hP, hS⟩ := hS
  refine w_start (Γ := [some (.fr (.str wt)), some (.fr (d))]) ?_
  try dsimp only [cxOf]
  clear po tk hr
  w_dflts wF
  w_dflts wd
  · exact hS.1 hb
  · exact hS.2 hb
theorem ok_check_number (T : Tx P K mg) : DN P w K mg base "check_number" [] 3 (S_check_number K) := by
  have D_check_integer := ok_check_integer (P := P) (w := w) (base := base) T
  obtain ⟨fd, F⟩ := T.f_check_number
  refine ⟨_, (fn_d (fun_of F) sc_check_number (fun args R Y h => by obtain ⟨_, _, _, _, rfl, _⟩ := h; rfl) (fun cdv A outer s H E hr => ?_)).toK (F.bindsN (fun _ _ _ _ _ _ us hl => match us, hl with | [_, _, _, _], _ => rfl)), T.g_check_number, F.kp⟩
  obtain ⟨tk, po⟩ := tkpo P w K mg base ["what", "value", "low", "high"] "check_number" (defScope s_check_number) (He.fAd K ("check_number", none)) cdv A outer s H E
  refine ⟨_, (pss_cons (ps_expr (pe_nK K rfl D_check_integer hr (by decide) tk (pa_cons (pv 0) (pa_cons (pv 1) pa_nil))))
  (pss_cons (ps_if (PW.pt (pw_or (pt_cmpR op_ltP (pv 1) (pv 2) (nomark _)) (pw_or1 (PW.pt (pw_and (pt_cmpR op_isntP (pv 3) pe_non (nomark _)) (pw_and1 (pt_cmpR op_gtP (pv 1) (pv 3) (nomark _)))))))) (pss_one (ps_raiseE rfl T.E_BadNumber.at hr tk (pa_cons (pv 0) (pa_cons (pv 1) pa_nil)))) pss_nil)
  (pss_one (ps_ret (pv 1))))), ?_⟩
  intro args R Y hS
  obtain ⟨wt, d, lo, h, rfl, hS⟩ := hS
  unfold Q_check_number at hS
  try dsimp only at hS
  obtain ⟨hP, hS⟩ := hS
  refine w_start (Γ := [some (.fr (.str wt)), some (.fr (d)), some (.fr (.int lo)), some (.fr (h))]) ?_
  try dsimp only [cxOf]
  clear po tk hr
  w_dflts wF
  obtain ⟨hf, hh⟩ := hP
  w_dflts wd
  · cases hf with
    | int i =>
      cases hh with
      | non =>
        w_dflts wd
        · exact hS.2 (numB_lo (by omega))
        · exact hS.1 (numB_yesN (by omega))
      | int h =>
        w_dflts wd
        · exact hS.2 (numB_lo (by omega))
        · exact hS.2 (numB_hi (by omega))
        · exact hS.1 (numB_yes (by omega) (by omega))
    | _ => simp [isInt] at *
  · exact hS.2 (numB_odd hb)
theorem ok_row_fault (T : Tx P K mg) : DN P w K mg base "row_fault" [] 2 (S_row_fault K) := by
  have D_is_integer := ok_is_integer (P := P) (w := w) (base := base) T
  obtain ⟨fd, F⟩ := T.f_row_fault
  refine ⟨_, (fn_d (fun_of F) sc_row_fault (fun args R Y h => by obtain ⟨_, _, _, _, _, _, rfl, _⟩ := h; rfl) (fun cdv A outer s H E hr => ?_)).toK (F.bindsN (fun _ _ _ _ _ _ us hl => match us, hl with | [_, _], _ => rfl)), T.g_row_fault, F.kp⟩
  obtain ⟨tk, po⟩ := tkpo P w K mg base ["row", "before", "start", "value", "grows", "first", "least", "grew"] "row_fault" (defScope s_row_fault) (He.fAd K ("row_fault", none)) cdv A outer s H E
  refine ⟨_, (pss_cons (ps_asg (pv 0) (pg_tupK (n := 3) K rfl (by rfl) (pgs_cons (pg_name (i := 2) sc_row_fault.nd rfl (Or.inl rfl)) (pgs_cons (pg_name (i := 3) sc_row_fault.nd rfl (Or.inl rfl)) (pgs_cons (pg_name (i := 4) sc_row_fault.nd rfl (Or.inl rfl)) pgs_nil)))))
  (pss_cons (ps_if (PW.pt (pw_or (pt_not (pt_val (pe_nK K rfl D_is_integer hr (by decide) tk (pa_cons (pv 2) pa_nil)))) (pw_or1 (pt_not (pt_val (pe_nK K rfl D_is_integer hr (by decide) tk (pa_cons (pv 3) pa_nil))))))) (pss_one (ps_ret pe_bl)) pss_nil)
  (pss_cons (ps_if (pt_cmpR op_isP (pv 1) pe_non (nomark _)) (pss_one (ps_ret (pe_or (pe_cmpR (op_neK K rfl hr.units) (pv 2) pe_int (nomark _)) (pe_one (pe_cmpR op_ltP (pv 3) pe_int (nomark _)))))) pss_nil)
  (pss_cons (ps_asg (pv 1) (pg_tupK (n := 3) K rfl (by rfl) (pgs_cons (pg_name (i := 5) sc_row_fault.nd rfl (Or.inl rfl)) (pgs_cons (pg_name (i := 6) sc_row_fault.nd rfl (Or.inl rfl)) (pgs_cons (pg_name (i := 7) sc_row_fault.nd rfl (Or.inl rfl)) pgs_nil)))))
  (pss_cons (ps_if (PW.pt (pw_or (pt_cmpR op_leP (pv 2) (pv 5) (nomark _)) (pw_or1 (pt_cmpR op_ltP (pv 3) (pv 2) (nomark _))))) (pss_one (ps_ret pe_bl)) pss_nil)
  (pss_cons (ps_if (pt_val (pv 7)) (pss_one (ps_ret (pe_cmpR op_ltP (pv 3) (pe_op op_subP (pe_op op_subP (pe_op (op_addK K rfl) (pv 6) (pv 2)) pe_int) (pv 5)) (nomark _)))) pss_nil)
  (pss_one (ps_ret (pe_or (pe_cmpR op_ltP (pv 3) (pv 6) (nomark _)) (pe_one (pe_cmpR op_ltP (pv 6) (pe_op op_subP (pv 2) pe_int) (nomark _)))))))))))), ?_⟩
  intro args R Y hS
  obtain ⟨s, v, g, d, b, hc0, rfl, hS⟩ := hS
  unfold Q_row_fault at hS
  try dsimp only at hS
  obtain ⟨hP, hS⟩ := hS
  refine w_start (Γ := [some (.fr (.tup [s, v, .bl g])), some (.fr (d)), none, none, none, none, none, none]) ?_
  try dsimp only [cxOf]
  clear po tk hr
  w_dflts wF
  obtain ⟨fs, fv⟩ := hP
  obtain rfl := hc0.h
  have fin : ∀ x : Bool, x = rowFault s v b → R (.fr (.bl x)) [.fr (.tup [s, v, .bl g]), .fr (befD b)] := fun x e => by rw [e]; exact hS
  cases b with
  | none =>
    dsimp only [befD] at *
    w_dflts wd
    · rename_i hs
      obtain ⟨i, rfl⟩ := isInt_eq hs
      obtain ⟨j, rfl⟩ := isInt_eq hb
      w_dflts wd
      all_goals (refine fin _ ?_; show _ = faultI i j none; unfold faultI; rw [Bool.eq_iff_iff]; simp only [Bool.or_eq_true, decide_eq_true_eq, true_iff, ne_eq]; omega)
    · refine fin _ ?_; rw [fault_v hb]
    · refine fin _ ?_; rw [fault_s hb]
  | some r =>
    obtain ⟨p, u, w⟩ := r
    dsimp only [befD] at *
    w_dflts wd
    · rename_i hs
      obtain ⟨i, rfl⟩ := isInt_eq hs
      obtain ⟨j, rfl⟩ := isInt_eq hb
      cases w
      all_goals w_dflts wd
      all_goals (try dsimp only at *)
      all_goals (refine fin _ ?_; show _ = faultI i j (some _); unfold faultI; dsimp only; rw [Bool.eq_iff_iff]; simp only [Bool.or_eq_true, decide_eq_true_eq, true_iff, if_true, Bool.false_eq_true, if_false]; omega)
    · refine fin _ ?_; rw [fault_v hb]
    · refine fin _ ?_; rw [fault_s hb]
theorem ok_check_rows (T : Tx P K mg) : DN P w K mg base "check_rows" [] 3 (S_check_rows K) := by
  have D_row_fault := ok_row_fault (P := P) (w := w) (base := base) T
  obtain ⟨fd, F⟩ := T.f_check_rows
  refine ⟨_, (fn_d (fun_of F) sc_check_rows (fun args R Y h => by obtain ⟨_, _, _, _, _, rfl, _⟩ := h; rfl) (fun cdv A outer s H E hr => ?_)).toK (F.bindsN (fun _ _ _ _ _ _ us hl => match us, hl with | [_], _ => rfl)), T.g_check_rows, F.kp⟩
  obtain ⟨tk, po⟩ := tkpo P w K mg base ["rows", "before", "at", "row"] "check_rows" (defScope s_check_rows) (He.fAd K ("check_rows", none)) cdv A outer s H E
  refine ⟨_, (pss_cons (ps_set (i := 1) sc_check_rows.nd rfl (Or.inl rfl) pe_non)
  (pss_cons (mkF [2, 3] (ps_for po rfl (pi_enumK K rfl (by rfl) T.b_enumerate (pa_cons (pv 0) pa_nil)) (pg_tupK (n := 2) K rfl (by rfl) (pgs_cons (pg_name (i := 2) sc_check_rows.nd rfl (Or.inl rfl)) (pgs_cons (pg_name (i := 3) sc_check_rows.nd rfl (Or.inl rfl)) pgs_nil))) (pss_cons (ps_if (PW.pt (pw_or (pt_val (pe_nK K rfl D_row_fault hr (by decide) tk (pa_cons (pv 3) (pa_cons (pv 1) pa_nil)))) (pw_or1 (PW.pt (pw_and (pt_cmpR (op_eqK K rfl hr.units) (pe_op (op_addK K rfl) (pv 2) pe_int) (pe_callB (call_lenK K rfl) (by rfl) T.b_len (by decide +kernel) (pa_cons (pv 0) pa_nil)) (nomark _)) (pw_and1 (pt_not (pt_val (pe_ix (ix_K K rfl hr.units) (pv 3) pe_int (fun _ _ => rfl)))))))))) (pss_one (ps_raiseE rfl T.E_BadRows.at hr tk (pa_cons (pv 2) pa_nil))) pss_nil)
  (pss_one (ps_set (i := 1) sc_check_rows.nd rfl (Or.inl rfl) (pv 3))))))
  (pss_one (ps_if (pt_cmpR op_isP (pv 1) pe_non (nomark _)) (pss_one (ps_raiseE rfl T.E_BadRows.at hr tk (pa_cons pe_int pa_nil))) pss_nil)))), ?_⟩
  intro args R Y hS
  obtain ⟨d, xs, os, hc0, hc1, rfl, hS⟩ := hS
  unfold Q_check_rows at hS
  try dsimp only at hS
  obtain ⟨hP, hS⟩ := hS
  refine w_start (Γ := [some (.fr (d)), none, none, none]) ?_
  try dsimp only [cxOf]
  clear po tk hr
  w_dflts wF
  obtain rfl := hc1.h
  have no : ∀ {x : Option Nat}, x = badAt none 0 os → ∀ n, x = some n → Y (He.ga K "BadRows") [("place", .int (n : Nat))] [.fr d] := fun {x} e n en => by
    rw [en] at e
    have := hS.2 (by rw [← e]; rfl)
    rw [← e] at this
    exact this
  have yes : badAt none 0 os = none → R (.fr .non) [.fr d] := fun e => hS.1 (by rw [e]; rfl)
  rcases hc0.h with rfl | rfl
  all_goals (
    w_dflts wd
    refine loop_enum (ys := os) (pic := orD) (α := Option Rw) (fun k l b => badAt b k l = badAt none 0 os ∧ (b = none → k = 0)) (fun b => [(1, some (.fr (befD b)))]) none ⟨rfl, fun _ => rfl⟩ rfl ?_ ?_
    · intro k y zs b ek hJ
      obtain ⟨s, v, g⟩ := y
      obtain ⟨hJ, hk⟩ := hJ
      have fl := hP (s, v, g) (List.mem_of_mem_drop (by rw [ek]; simp))
      have hl : os.length = k + (zs.length + 1) := by have := congrArg List.length ek; simp at this; omega
      have lm : (os.map orD).length = os.length := List.length_map ..
      have hJ : (if (rowFault s v b || (zs.isEmpty && !g)) = true then some k else badAt (some (toRow (s, v, g))) (k + 1) zs) = badAt none 0 os := by
        rw [← hJ]; cases b <;> rfl
      w_dflts wd
      · rw [if_pos (by rw [hb]; rfl)] at hJ
        exact no hJ k rfl
      · rename_i h1 h2
        obtain rfl : zs = [] := by cases zs with
          | nil => rfl
          | cons z zs => simp at hl; omega
        have hb' : g = _ := hb
        rw [h1, hb'] at hJ
        refine ⟨some (toRow (s, v, g)), ⟨hJ, fun z => (nomatch z)⟩, ?_⟩
        obtain ⟨i, j, rfl, rfl, _⟩ := fault_no h1
        rfl
      · rename_i h1 h2
        obtain rfl : zs = [] := by cases zs with
          | nil => rfl
          | cons z zs => simp at hl; omega
        have hb' : g = _ := hb
        rw [h1, hb'] at hJ
        exact no hJ k rfl
      · rename_i h1
        have hz : zs.isEmpty = false := by cases zs with
          | nil => simp at hl; omega
          | cons z zs => rfl
        rw [h1, hz] at hJ
        refine ⟨some (toRow (s, v, g)), ⟨hJ, fun z => (nomatch z)⟩, ?_⟩
        obtain ⟨i, j, rfl, rfl, _⟩ := fault_no h1
        rfl
    · intro b hJ
      obtain ⟨hJ, hk⟩ := hJ
      cases b with
      | none =>
        dsimp only [befD]
        w_dflts wd
        exact no hJ 0 rfl
      | some r =>
        dsimp only [befD]
        w_dflts wd
        exact yes hJ.symm)
theorem ok_value_at (T : Tx P K mg) : DN P w K mg base "value_at" [] 1 (S_value_at K) := by
  obtain ⟨fd, F⟩ := T.f_value_at
  refine ⟨_, (fn_d (fun_of F) sc_value_at (fun args R Y h => by obtain ⟨_, _, _, _, rfl, _⟩ := h; rfl) (fun cdv A outer s H E hr => ?_)).toK (F.bindsN (fun _ _ _ _ _ _ us hl => match us, hl with | [_, _], _ => rfl)), T.g_value_at, F.kp⟩
  obtain ⟨tk, po⟩ := tkpo P w K mg base ["rows", "minute", "found", "row", "start", "value", "grows"] "value_at" (defScope s_value_at) (He.fAd K ("value_at", none)) cdv A outer s H E
  refine ⟨_, (pss_cons (ps_set (i := 2) sc_value_at.nd rfl (Or.inl rfl) (pe_ix (ix_K K rfl hr.units) (pv 0) pe_int (fun _ _ => rfl)))
  (pss_cons (mkF [3] (ps_for po rfl (pi_seqK K rfl (pv 0)) (pg_name (i := 3) sc_value_at.nd rfl (Or.inl rfl)) (pss_cons (ps_if (pt_cmpR op_gtP (pe_ix (ix_K K rfl hr.units) (pv 3) pe_int (fun _ _ => rfl)) (pv 1) (nomark _)) (pss_one ps_break) pss_nil)
  (pss_one (ps_set (i := 2) sc_value_at.nd rfl (Or.inl rfl) (pv 3))))))
  (pss_cons (ps_asg (pv 2) (pg_tupK (n := 3) K rfl (by rfl) (pgs_cons (pg_name (i := 4) sc_value_at.nd rfl (Or.inl rfl)) (pgs_cons (pg_name (i := 5) sc_value_at.nd rfl (Or.inl rfl)) (pgs_cons (pg_name (i := 6) sc_value_at.nd rfl (Or.inl rfl)) pgs_nil)))))
  (pss_one (ps_ret (pe_op (op_addK K rfl) (pv 5) (pe_ifExp (pt_val (pv 6)) (pe_op op_subP (pv 1) (pv 4)) pe_int))))))), ?_⟩
  intro args R Y hS
  obtain ⟨d, rs, t, hc0, rfl, hS⟩ := hS
  unfold Q_value_at at hS
  try dsimp only at hS
  obtain ⟨hP, hS⟩ := hS
  refine w_start (Γ := [some (.fr (d)), some (.fr (.int t)), none, none, none, none, none]) ?_
  try dsimp only [cxOf]
  clear po tk hr
  w_dflts wF
  cases rs with
  | nil => exact hP.elim
  | cons r rs =>
    have hP' : r.1 ≤ t := hP
    have fin : ∀ (q : Rw) (x : Int), lstL t r rs = q → x = at1 q t → R (.fr (.int x)) [.fr d, .fr (.int t)] := fun q x e1 e2 => by
      have : valueAt (r :: rs) t = x := by rw [e2, ← e1]; exact (lst_val t r rs).symm
      rw [← this]; exact hS
    have er : rowsD (r :: rs) = rowD r :: rowsD rs := rfl
    have h0 : lstL t r (r :: rs) = lstL t r rs := if_neg (by omega)
    rcases hc0.h with rfl | rfl
    all_goals (
      rw [er]
      w_dflts wd
      refine loop_rest (ys := r :: rs) (pic := rowD) (α := Rw) (fun l q => lstL t q l = lstL t r rs) (fun q => [(2, some (.fr (rowD q)))]) r h0 rfl ?_ ?_
      · intro y zs q hJ
        have hJ : (if y.1 > t then q else lstL t y zs) = lstL t r rs := hJ
        w_dflts wd
        · rename_i hy
          rw [if_pos hy] at hJ
          exact fin q _ hJ.symm (by unfold at1; rw [if_pos hb])
        · rename_i hy
          rw [if_pos hy] at hJ
          exact fin q _ hJ.symm (by unfold at1; rw [hb]; simp)
        · rw [if_neg hb] at hJ
          exact ⟨y, hJ, rfl⟩
      · intro q hJ
        w_dflts wd
        · exact fin q _ hJ.symm (by unfold at1; rw [if_pos hb])
        · exact fin q _ hJ.symm (by unfold at1; rw [hb]; simp))
theorem ok_runs_of (T : Tx P K mg) : DN P w K mg base "runs_of" [] 1 (S_runs_of K) := by
  obtain ⟨fd, F⟩ := T.f_runs_of
  refine ⟨_, (fn_d (fun_of F) sc_runs_of (fun args R Y h => by obtain ⟨_, _, _, _, _, _, _, rfl, _⟩ := h; rfl) (fun cdv A outer s H E hr => ?_)).toK (F.bindsN (fun _ _ _ _ _ _ us hl => match us, hl with | [_, _, _, _, _], _ => rfl)), T.g_runs_of, F.kp⟩
  obtain ⟨tk, po⟩ := tkpo P w K mg base ["rows", "at", "start", "value", "grows", "last", "reached", "leap"] "runs_of" (defScope s_runs_of) (He.fAd K ("runs_of", none)) cdv A outer s H E
  refine ⟨_, (pss_cons (ps_if (pt_cmpR (op_eqK K rfl hr.units) (pe_op (op_addK K rfl) (pv 1) pe_int) (pe_callB (call_lenK K rfl) (by rfl) T.b_len (by decide +kernel) (pa_cons (pv 0) pa_nil)) (nomark _)) (pss_one (ps_ret (pe_lst (pa_cons (pe_tup (pa_cons (pv 2) (pa_cons pe_int pa_nil))) pa_nil)))) pss_nil)
  (pss_cons (ps_set (i := 5) sc_runs_of.nd rfl (Or.inl rfl) (pe_op op_subP (pe_ix (ix_K K rfl hr.units) (pe_ix (ix_K K rfl hr.units) (pv 0) (pe_op (op_addK K rfl) (pv 1) pe_int) (fun _ _ => rfl)) pe_int (fun _ _ => rfl)) pe_int))
  (pss_cons (ps_set (i := 6) sc_runs_of.nd rfl (Or.inl rfl) (pe_op (op_addK K rfl) (pv 3) (pe_ifExp (pt_val (pv 4)) (pe_op op_subP (pv 5) (pv 2)) pe_int)))
  (pss_cons (ps_set (i := 7) sc_runs_of.nd rfl (Or.inl rfl) (pe_tup (pa_cons (pv 5) (pa_cons (pe_op op_subP (pe_ix (ix_K K rfl hr.units) (pe_ix (ix_K K rfl hr.units) (pv 0) (pe_op (op_addK K rfl) (pv 1) pe_int) (fun _ _ => rfl)) pe_int (fun _ _ => rfl)) (pv 6)) pa_nil))))
  (pss_cons (ps_if (pt_cmpR op_gtP (pv 5) (pv 2) (nomark _)) (pss_one (ps_ret (pe_lst (pa_cons (pe_tup (pa_cons (pv 2) (pa_cons (pe_callTy call_intP (by rfl) T.b_int (by decide +kernel) (pa_cons (pv 4) pa_nil)) pa_nil))) (pa_cons (pv 7) pa_nil))))) pss_nil)
  (pss_one (ps_ret (pe_lst (pa_cons (pv 7) pa_nil))))))))), ?_⟩
  intro args R Y hS
  obtain ⟨d, rs, k, s, v, g, hc0, rfl, hS⟩ := hS
  unfold Q_runs_of at hS
  try dsimp only at hS
  obtain ⟨hP, hS⟩ := hS
  refine w_start (Γ := [some (.fr (d)), some (.fr (.int (k : Nat))), some (.fr (.int s)), some (.fr (.int v)), some (.fr (.bl g)), none, none, none]) ?_
  try dsimp only [cxOf]
  clear po tk hr
  w_dflts wF
  have lm : (rowsD rs).length = rs.length := List.length_map ..
  obtain ⟨hk, _⟩ := List.getElem?_eq_some_iff.mp hP
  rcases hc0.h with rfl | rfl
  all_goals (
    w_dflts wd
    · rw [List.getElem?_eq_none (by omega)] at hS
      exact hS
    · obtain ⟨q, hq⟩ : ∃ q, rs[k + 1]? = some q := ⟨rs[k + 1]'(by omega), by simp⟩
      have ix : ∀ {R : Dt → Prop}, R (rowD q) → dIx (.lst (rowsD rs)) (.int ((k : Int) + 1)) R ∧ dIx (.tup (rowsD rs)) (.int ((k : Int) + 1)) R := fun r => ix_of (by omega) (by rw [show ((k : Int) + 1).toNat = k + 1 by omega]; exact hq) r
      rw [hq] at hS
      have hS : R (.fr (.lst (stepsD (runs1 (s, v, g) q)))) _ := hS
      first | refine (ix ?_).1 | refine (ix ?_).2
      w_dflts wd
      all_goals (first | refine (ix ?_).1 | refine (ix ?_).2)
      all_goals w_dflts wd
      all_goals (
        have hS2 := hS
        unfold runs1 at hS2
        unfold at1 at hS2
        dsimp only at hS2
        first
          | (rw [if_pos (by omega)] at hS2; cases g <;> first | (simp at hb; done) | exact hS2 | (simp only [Bool.false_eq_true, if_false, if_true] at *; exact hS2))
          | (rw [if_neg (by omega)] at hS2; cases g <;> first | (simp at hb; done) | exact hS2 | (simp only [Bool.false_eq_true, if_false, if_true] at *; exact hS2))))
theorem ok_steps_of (T : Tx P K mg) : DN P w K mg base "steps_of" [] 2 (S_steps_of K) := by
  have D_runs_of := ok_runs_of (P := P) (w := w) (base := base) T
  obtain ⟨fd, F⟩ := T.f_steps_of
  refine ⟨_, (fn_d (fun_of F) sc_steps_of (fun args R Y h => by obtain ⟨_, _, _, rfl, _⟩ := h; rfl) (fun cdv A outer s H E hr => ?_)).toK (F.bindsN (fun _ _ _ _ _ _ us hl => match us, hl with | [_], _ => rfl)), T.g_steps_of, F.kp⟩
  obtain ⟨tk, po⟩ := tkpo P w K mg base ["rows", "found", "at", "start", "value", "grows", "run"] "steps_of" (defScope s_steps_of) (He.fAd K ("steps_of", none)) cdv A outer s H E
  refine ⟨_, (pss_cons (mkO (ps_set (i := 1) sc_steps_of.nd rfl (Or.inl rfl) (pe_lst pa_nil)))
  (pss_cons (mkF [2, 5, 6, 3, 4] (ps_for po rfl (pi_enumK K rfl (by rfl) T.b_enumerate (pa_cons (pv 0) pa_nil)) (pg_tupK (n := 2) K rfl (by rfl) (pgs_cons (pg_name (i := 2) sc_steps_of.nd rfl (Or.inl rfl)) (pgs_cons (pg_tupK (n := 3) K rfl (by rfl) (pgs_cons (pg_name (i := 3) sc_steps_of.nd rfl (Or.inl rfl)) (pgs_cons (pg_name (i := 4) sc_steps_of.nd rfl (Or.inl rfl)) (pgs_cons (pg_name (i := 5) sc_steps_of.nd rfl (Or.inl rfl)) pgs_nil)))) pgs_nil))) (pss_one (mkF [6] (ps_for po rfl (pi_seqK K rfl (pe_nK K rfl D_runs_of hr (by decide) tk (pa_cons (pv 0) (pa_cons (pv 2) (pa_cons (pv 3) (pa_cons (pv 4) (pa_cons (pv 5) pa_nil))))))) (pg_name (i := 6) sc_steps_of.nd rfl (Or.inl rfl)) (pss_one (ps_if (PW.pt (pw_or (pt_cmpR (op_eqK K rfl hr.units) (pe_callB (call_lenK K rfl) (by rfl) T.b_len (by decide +kernel) (pa_cons (pv 1) pa_nil)) pe_int (nomark _)) (pw_or1 (pt_cmpR (op_neK K rfl hr.units) (pe_ix (ix_K K rfl hr.units) (pe_ix (ix_K K rfl hr.units) (pv 1) (pe_un un_negP pe_int) (fun _ _ => rfl)) pe_int (fun _ _ => rfl)) (pe_ix (ix_K K rfl hr.units) (pv 6) pe_int (fun _ _ => rfl)) (nomark _))))) (pss_one (ps_expr (pe_bm PySem.F.plainAttrs_list PySem.F.slot_list_append PySem.F.type_list_append mt_append (pv 1) (pa_cons (pv 6) pa_nil)))) pss_nil)))))))
  (pss_one (ps_ret (pv 1))))), ?_⟩
  intro args R Y hS
  obtain ⟨d, rs, hc0, rfl, hS⟩ := hS
  unfold Q_steps_of at hS
  try dsimp only at hS
  obtain ⟨hP, hS⟩ := hS
  refine w_start (Γ := [some (.fr (d)), none, none, none, none, none, none]) ?_
  try dsimp only [cxOf]
  clear po tk hr
  w_dflts wF
  have hl := steps_len rs
  have push : ∀ {acc l : List (Int × Int)} {x : Int × Int}, acc ++ dd (lastO acc) (x :: l) = steps rs → acc.length ≤ 800000 := fun h => by have := congrArg List.length h; simp at this; omega
  rcases hc0.h with rfl | rfl
  all_goals (
    w_dflts wd
    rename_i a
    refine loop_enum (ys := rs) (pic := rowD) (α := List (Int × Int)) (fun k l acc => acc ++ dd (lastO acc) (rawK l) = steps rs) (fun acc => [(1, some (.ol a (stepsD acc)))]) [] (by rw [steps_eq]; rfl) rfl ?_ ?_
    · intro k y zs acc ek hJ
      rw [rawK_cons] at hJ
      have hy : rs[k]? = some (y.1, y.2.1, y.2.2) := by
        have := congrArg List.head? ek
        rw [List.head?_drop] at this
        exact this
      have hz : rs[k + 1]? = zs.head? := by
        have := congrArg List.tail ek
        rw [List.tail_drop] at this
        rw [← List.head?_drop, this]; rfl
      w_dflts wd
      rw [hz]
      refine loop_rest (pic := stD) (α := List (Int × Int)) (fun l acc => acc ++ dd (lastO acc) (l ++ rawK zs) = steps rs) (fun acc => [(1, some (.ol a (stepsD acc)))]) acc hJ rfl ?_ ?_
      · intro x l acc hJ
        have hJ : acc ++ dd (lastO acc) (x :: (l ++ rawK zs)) = steps rs := hJ
        obtain ⟨p1, p2⟩ := dd_push hJ
        have pl := push hJ
        rcases snoc_or acc with rfl | ⟨acc', z, rfl⟩
        · obtain ⟨q1, q2⟩ := p2 (by simp [lastO])
          have e0 : (stepsD []).length = 0 := rfl
          w_dflts wd
          exact ⟨[x], q1, rfl⟩
        · have e : stepsD (acc' ++ [z]) = stepsD acc' ++ [stD z] := by simp [stepsD]
          have e3 : stepsD (acc' ++ [z] ++ [x]) = stepsD acc' ++ [stD z] ++ [stD x] := by simp [stepsD]
          have le : (stepsD acc' ++ [stD z]).length = acc'.length + 1 := by simp [stepsD]
          simp only [List.length_append, List.length_cons, List.length_nil] at pl
          simp only [e]
          w_dflts wd
          · exact ⟨acc' ++ [z], p1 (by simp [lastO]; exact hb), by dsimp only; rw [e]; rfl⟩
          · obtain ⟨q1, q2⟩ := p2 (by simp [lastO]; exact hb)
            exact ⟨acc' ++ [z] ++ [x], q1, by dsimp only; rw [e3]; rfl⟩
      · intro acc hJ
        exact ⟨acc, hJ, rfl⟩
    · intro acc hJ
      have hJ : acc ++ [] = steps rs := hJ
      rw [List.append_nil] at hJ
      subst hJ
      w_dflts wd
      exact hS)
theorem ok_greedy_rows (T : Tx P K mg) : DN P w K mg base "greedy_rows" [] 3 (S_greedy_rows K) := by
  have D_steps_of := ok_steps_of (P := P) (w := w) (base := base) T
  have D_value_at := ok_value_at (P := P) (w := w) (base := base) T
  obtain ⟨fd, F⟩ := T.f_greedy_rows
  refine ⟨_, (fn_d (fun_of F) sc_greedy_rows (fun args R Y h => by obtain ⟨_, rfl, _⟩ := h; rfl) (fun cdv A outer s H E hr => ?_)).toK (F.bindsN (fun _ _ _ _ _ _ us hl => match us, hl with | [_], _ => rfl)), T.g_greedy_rows, F.kp⟩
  obtain ⟨tk, po⟩ := tkpo P w K mg base ["rows", "steps", "found", "start", "at", "step", "end"] "greedy_rows" (defScope s_greedy_rows) (He.fAd K ("greedy_rows", none)) cdv A outer s H E
  refine ⟨_, (pss_cons (ps_set (i := 1) sc_greedy_rows.nd rfl (Or.inl rfl) (pe_nK K rfl D_steps_of hr (by decide) tk (pa_cons (pv 0) pa_nil)))
  (pss_cons (mkO (ps_set (i := 2) sc_greedy_rows.nd rfl (Or.inl rfl) (pe_lst pa_nil)))
  (pss_cons (ps_set (i := 3) sc_greedy_rows.nd rfl (Or.inl rfl) pe_int)
  (pss_cons (ps_set (i := 4) sc_greedy_rows.nd rfl (Or.inl rfl) pe_int)
  (pss_cons (mkW [6, 5] (ps_while po (pt_cmpR op_ltP (pe_op (op_addK K rfl) (pv 4) pe_int) (pe_callB (call_lenK K rfl) (by rfl) T.b_len (by decide +kernel) (pa_cons (pv 1) pa_nil)) (nomark _)) (pss_cons (ps_set (i := 5) sc_greedy_rows.nd rfl (Or.inl rfl) (pe_ix (ix_K K rfl hr.units) (pe_ix (ix_K K rfl hr.units) (pv 1) (pv 4) (fun _ _ => rfl)) pe_int (fun _ _ => rfl)))
  (pss_cons (ps_set (i := 6) sc_greedy_rows.nd rfl (Or.inl rfl) (pe_ifExp (pt_cmpR op_ltP (pv 5) pe_int (nomark _)) (pe_ix (ix_K K rfl hr.units) (pe_ix (ix_K K rfl hr.units) (pv 1) (pe_op (op_addK K rfl) (pv 4) pe_int) (fun _ _ => rfl)) pe_int (fun _ _ => rfl)) (pv 3)))
  (pss_cons (ps_expr (pe_bm PySem.F.plainAttrs_list PySem.F.slot_list_append PySem.F.type_list_append mt_append (pv 2) (pa_cons (pe_tup (pa_cons (pv 3) (pa_cons (pe_nK K rfl D_value_at hr (by decide) tk (pa_cons (pv 0) (pa_cons (pv 3) pa_nil))) (pa_cons (pe_cmpR (op_eqK K rfl hr.units) (pv 5) pe_int (nomark _)) pa_nil)))) pa_nil)))
  (pss_cons (ps_set (i := 3) sc_greedy_rows.nd rfl (Or.inl rfl) (pe_op (op_addK K rfl) (pv 6) pe_int))
  (pss_one (mkW [] (ps_while po (PW.pt (pw_and (pt_cmpR op_ltP (pe_op (op_addK K rfl) (pv 4) pe_int) (pe_callB (call_lenK K rfl) (by rfl) T.b_len (by decide +kernel) (pa_cons (pv 1) pa_nil)) (nomark _)) (pw_and1 (pt_cmpR op_leP (pe_ix (ix_K K rfl hr.units) (pe_ix (ix_K K rfl hr.units) (pv 1) (pe_op (op_addK K rfl) (pv 4) pe_int) (fun _ _ => rfl)) pe_int (fun _ _ => rfl)) (pv 3) (nomark _))))) (pss_one (ps_aug (i := 4) sc_greedy_rows.nd rfl (Or.inl rfl) pe_int ip_add)))))))))))
  (pss_cons (ps_expr (pe_bm PySem.F.plainAttrs_list PySem.F.slot_list_append PySem.F.type_list_append mt_append (pv 2) (pa_cons (pe_tup (pa_cons (pv 3) (pa_cons (pe_nK K rfl D_value_at hr (by decide) tk (pa_cons (pv 0) (pa_cons (pv 3) pa_nil))) (pa_cons pe_bl pa_nil)))) pa_nil)))
  (pss_one (ps_ret (pe_callTy (call_tupleK K rfl) (by rfl) T.b_tuple (by decide +kernel) (pa_cons (pv 2) pa_nil)))))))))), ?_⟩
  intro args R Y hS
  obtain ⟨rs, rfl, hS⟩ := hS
  unfold Q_greedy_rows at hS
  try dsimp only at hS
  obtain ⟨hP, hS⟩ := hS
  refine w_start (Γ := [some (.fr (.lst (rowsD rs))), none, none, none, none, none, none]) ?_
  try dsimp only [cxOf]
  clear po tk hr
  w_dflts wF
  obtain ⟨hR, hB⟩ := hP
  have st := RM.steps_of hR
  have sb := steps_bd hR hB
  have rl := right_len hR hB
  have hcov : ∀ t, 0 ≤ t → Cov rs t := fun t ht => right_cov hR ht
  have rd : ∀ G : List Rw, (rowsD G).length = G.length := fun G => List.length_map ..
  generalize hl : steps rs = l at st sb
  generalize hf : valueAt rs = f at st hS
  have ld : (stepsD l).length = l.length := List.length_map ..
  have hc0 : Cov rs 0 := hcov 0 (by omega)
  w_dflts wd
  rename_i a
  rw [hl]
  have l0 : l ≠ [] := fun e => by subst e; exact st.runs.elim
  refine while_inv (gJ f l) (fun s => [(2, some (.ol a (rowsD s.1))), (3, some (.fr (.int s.2.1))), (4, some (.fr (.int (s.2.2 : Nat))))]) 200001 ([], 0, 0) ⟨fun G h => h, st.at0, st.runs, by simp, by simp, by simp, List.length_pos_iff.mpr l0⟩ rfl ?_
  intro m s hJ
  obtain ⟨acc, t, k⟩ := s
  obtain ⟨hG, hH, hr, h0, hn, hm, hk⟩ := hJ
  dsimp only at hG hH hr h0 hn hm hk ⊢
  have hct := hcov t h0
  have ra := rd acc
  w_dflts w1
  w_dflts wd
  · have hk2 : k + 1 < l.length := by omega
    obtain ⟨x, y, ex, ey, ed⟩ := drop_two hk2
    have ix1 : ∀ {R : Dt → Prop}, R (stD x) → dIx (.lst (stepsD l)) (.int (k : Int)) R := fun r => (ix_of (by omega) (by simpa using ex) r).1
    have ix2 : ∀ {R : Dt → Prop}, R (stD y) → dIx (.lst (stepsD l)) (.int ((k : Int) + 1)) R := fun r => (ix_of (by omega) (by rw [show ((k : Int) + 1).toNat = k + 1 by omega]; exact ey) r).1
    have hy := sb y (List.mem_of_getElem? ey)
    rw [ed] at hG hH hr
    have h1 : t < y.1 := hH.2
    have fv : valueAt rs t = f t := by rw [hf]
    have inner : ∀ s' : Int, s' = ende t x y + 1 → ∀ (acc' : List Rw), acc' = acc ++ [(t, f t, decide (x.2 = 1))] → ∀ (j : Nat), skip s' (l.drop j) = skip s' (l.drop k) → l.drop j = skip s' (l.drop j) → j < l.length → LpW (gJ f l) (fun s => [(2, some (.ol a (rowsD s.1))), (3, some (.fr (.int s.2.1))), (4, some (.fr (.int (s.2.2 : Nat))))])
        [some (.fr (.lst (rowsD rs))), some (.fr (.lst (stepsD l))), some (.ol a []), some (.fr (.int 0)), some (.fr (.int 0)), none, none] m [some (.fr (.lst (rowsD rs))), some (.fr (.lst (stepsD l))), some (.ol a (rowsD acc')), some (.fr (.int s')), some (.fr (.int (j : Nat))), none, none] := fun s' es acc' ea j e1 e2 hj => by
      have het : t ≤ ende t x y := by unfold ende; split <;> omega
      have hey : ende t x y ≤ y.1 := by unfold ende; split <;> omega
      have e3 : l.drop j = skip s' (x :: y :: l.drop (k + 2)) := by rw [← ed, ← e1]; exact e2
      obtain ⟨sa, sr⟩ := skip_at (s := s') hr (fun z hz => by simp at hz; subst hz; have := hH.1; omega)
      refine ⟨(200001 - s').toNat, by omega, (acc', s', j), ⟨fun G hg => ?_, by show Hit s' (l.drop j); rw [e3]; exact sa, by show Runs (der f) (l.drop j); rw [e3]; exact sr, by show 0 ≤ s'; omega, by show (acc'.length : Int) ≤ s'; rw [ea]; simp; omega, by show s' + _ = 200001; omega, hj⟩, rfl⟩
      have hg' : Gre f s' (l.drop j) G := hg
      rw [e3, es] at hg'
      have := hG _ (Gre.more hg')
      show Gre f 0 l (acc' ++ G)
      rw [ea, List.append_assoc]
      exact this
    have ra2 : rowsD (acc ++ [(t, f t, decide (x.2 = 1))]) = rowsD acc ++ [rowD (t, f t, decide (x.2 = 1))] := by simp [rowsD]
    have ixj : ∀ (j : Nat) (z : Int × Int), l[j + 1]? = some z → ∀ {R : Dt → Prop}, R (stD z) → dIx (.lst (stepsD l)) (.int ((j : Int) + 1)) R := fun j z ez {R} r => (ix_of (by omega) (by rw [show ((j : Int) + 1).toNat = j + 1 by omega]; exact ez) r).1
    refine ix1 ?_
    w_dflts wd
    · refine ix2 ?_
      w_dflts wd
      rw [fv]
      have es : y.1 + 1 = ende t x y + 1 := by unfold ende; rw [if_pos hb]
      refine while_inv (α := Nat) (fun m' j => skip (y.1 + 1) (l.drop j) = skip (y.1 + 1) (l.drop k) ∧ k ≤ j ∧ j + m' = l.length ∧ j < l.length) (fun j => [(4, some (.fr (.int (j : Nat))))]) (l.length - k) k ⟨rfl, by omega, by omega, by omega⟩ rfl ?_
      intro m' j ⟨e1, e2, e3, e4⟩
      w_dflts w1
      w_dflts wd
      · obtain ⟨p, z, ep, ez, ed2⟩ := drop_two (l := l) (k := j) (by omega)
        have ed3 : l.drop (j + 1) = z :: l.drop (j + 2) := drop_at ez
        refine ixj j z ez ?_
        w_dflts wd
        · refine ⟨m' - 1, by omega, j + 1, ⟨?_, by omega, by omega, by omega⟩, rfl⟩
          rw [← e1, ed2, skip_go hb, ed3]
        · have := inner (y.1 + 1) es _ rfl j e1 (by
            rw [ed2, skip_stop]
            intro q hq
            simp at hq
            subst hq
            exact hb) (by omega)
          rw [ra2] at this
          exact this
      · obtain ⟨p, ep⟩ := drop_one (l := l) (k := j) (by omega)
        have := inner (y.1 + 1) es _ rfl j e1 (by rw [ep]; rfl) (by omega)
        rw [ra2] at this
        exact this
    · rw [fv]
      have es : t + 1 = ende t x y + 1 := by unfold ende; rw [if_neg hb]
      refine while_inv (α := Nat) (fun m' j => skip (t + 1) (l.drop j) = skip (t + 1) (l.drop k) ∧ k ≤ j ∧ j + m' = l.length ∧ j < l.length) (fun j => [(4, some (.fr (.int (j : Nat))))]) (l.length - k) k ⟨rfl, by omega, by omega, by omega⟩ rfl ?_
      intro m' j ⟨e1, e2, e3, e4⟩
      w_dflts w1
      w_dflts wd
      · obtain ⟨p, z, ep, ez, ed2⟩ := drop_two (l := l) (k := j) (by omega)
        have ed3 : l.drop (j + 1) = z :: l.drop (j + 2) := drop_at ez
        refine ixj j z ez ?_
        w_dflts wd
        · refine ⟨m' - 1, by omega, j + 1, ⟨?_, by omega, by omega, by omega⟩, rfl⟩
          rw [← e1, ed2, skip_go hb, ed3]
        · have := inner (t + 1) es _ rfl j e1 (by
            rw [ed2, skip_stop]
            intro q hq
            simp at hq
            subst hq
            exact hb) (by omega)
          rw [ra2] at this
          exact this
      · obtain ⟨p, ep⟩ := drop_one (l := l) (k := j) (by omega)
        have := inner (t + 1) es _ rfl j e1 (by rw [ep]; rfl) (by omega)
        rw [ra2] at this
        exact this
  · obtain ⟨x, ex⟩ := drop_one (l := l) (k := k) (by omega)
    have hg := hG [(t, f t, true)] (by rw [ex]; exact Gre.last t x)
    have fv : valueAt rs t = f t := by rw [hf]
    have ra2 : rowsD (acc ++ [(t, f t, true)]) = rowsD acc ++ [rowD (t, f t, true)] := by simp [rowsD]
    have := hS _ ⟨l, st, hg⟩
    rw [ra2] at this
    rw [fv]
    exact this
theorem ok_RisingZZ_initZZ (T : Tx P K mg) : DA P w K mg base (He.fAd K ("Rising", some "__init__")) [] 4 (S_RisingZZ_initZZ K) := by
  have D_check_rows := ok_check_rows (P := P) (w := w) (base := base) T
  have D_greedy_rows := ok_greedy_rows (P := P) (w := w) (base := base) T
  obtain ⟨fd, F⟩ := T.f_RisingZZ_initZZ
  refine ⟨(fn_d (fun_of F) sc_RisingZZ_initZZ (fun args R Y h => by obtain ⟨_, _, _, _, _, _, rfl, _⟩ := h; rfl) (fun cdv A outer s H E hr => ?_)).toK (F.bindsN (fun _ _ _ _ _ _ us hl => match us, hl with | [_, _], _ => rfl))⟩
  obtain ⟨tk, po⟩ := tkpo P w K mg base ["self", "rows"] "Rising.__init__" (defScope s_RisingZZ_initZZ) (He.fAd K ("Rising", some "__init__")) cdv A outer s H E
  refine ⟨_, (pss_cons (ps_expr (pe_nK K rfl D_check_rows hr (by decide) tk (pa_cons (pv 1) pa_nil)))
  (pss_one (ps_fldK K rfl (pv 0) (pe_nK K rfl D_greedy_rows hr (by decide) tk (pa_cons (pe_callTy (call_listK K rfl) (by rfl) T.b_list (by decide +kernel) (pa_cons (pv 1) pa_nil)) pa_nil))))), ?_⟩
  intro args R Y hS
  obtain ⟨y, d, xs, os, hc0, hc1, rfl, hS⟩ := hS
  unfold Q_RisingZZ_initZZ at hS
  try dsimp only at hS
  obtain ⟨hP, hS⟩ := hS
  refine w_start (Γ := [some (.oo y (He.ga K "Rising") (frF [])), some (.fr (d))]) ?_
  try dsimp only [cxOf]
  clear po tk hr
  w_dflts wF
  obtain ⟨hO, hB⟩ := hP
  w_dflts wd
  · have hn : badAt none 0 os = none := by simpa using hb
    obtain ⟨hi, hR⟩ := bad_right hn
    have e : xs = rowsD (os.map toRow) := by rw [hc1.h, rows_int hi]
    subst e
    have hB2 := hB hn
    rcases hc0.h with rfl | rfl
    all_goals (
      w_dflts wd
      rename_i G hG
      exact hS.1 hb G hG)
  · exact hS.2 hb _
theorem ok_RisingZZ_callZZ (T : Tx P K mg) : DA P w K mg base (He.fAd K ("Rising", some "__call__")) [] 4 (S_RisingZZ_callZZ K) := by
  have D_check_number := ok_check_number (P := P) (w := w) (base := base) T
  have D_value_at := ok_value_at (P := P) (w := w) (base := base) T
  obtain ⟨fd, F⟩ := T.f_RisingZZ_callZZ
  refine ⟨(fn_d (fun_of F) sc_RisingZZ_callZZ (fun args R Y h => by obtain ⟨_, _, rfl, _⟩ := h; rfl) (fun cdv A outer s H E hr => ?_)).toK (F.bindsN (fun _ _ _ _ _ _ us hl => match us, hl with | [_, _], _ => rfl))⟩
  obtain ⟨tk, po⟩ := tkpo P w K mg base ["self", "minute"] "Rising.__call__" (defScope s_RisingZZ_callZZ) (He.fAd K ("Rising", some "__call__")) cdv A outer s H E
  refine ⟨_, (pss_cons (ps_expr (pe_nK K rfl D_check_number hr (by decide) tk (pa_cons pe_str (pa_cons (pv 1) (pa_cons pe_int (pa_cons pe_non pa_nil))))))
  (pss_one (ps_ret (pe_nK K rfl D_value_at hr (by decide) tk (pa_cons (pe_fldK K rfl (pv 0)) (pa_cons (pv 1) pa_nil)))))), ?_⟩
  intro args R Y hS
  obtain ⟨A, d, rfl, hS⟩ := hS
  unfold Q_RisingZZ_callZZ at hS
  try dsimp only at hS
  obtain ⟨hP, hS⟩ := hS
  refine w_start (Γ := [some (.fr (risD K A)), some (.fr (d))]) ?_
  try dsimp only [cxOf]
  clear po tk hr
  w_dflts wF
  obtain ⟨hf, hA⟩ := hP
  have hi : Hi .non := .non
  w_dflts wn
  · obtain ⟨n, rfl, hn⟩ := numB_low hb
    have hc : Cov A n := right_cov hA hn
    replace hS := hS.1 hb
    dsimp only [intOf] at *
    w_dflts wn
    exact hS
  · exact hS.2 hb
theorem ok_RisingZZ_iterZZ (T : Tx P K mg) : FnIt P w K mg base 1 (He.fAd K ("Rising", some "__iter__")) (He.ga K "Rising") "rows" := by
  obtain ⟨fd, F⟩ := T.f_RisingZZ_iterZZ
  exact fn_iter (fun_of F) sc_RisingZZ_iterZZ (F.bindsN (fun _ _ _ _ _ _ us hl => match us, hl with | [_], _ => rfl)) (fun cdv A outer s H => (pss_one (ps_ret (pe_callB call_iterTup (by rfl) T.b_iter (by decide +kernel) (pa_cons (pe_fldK K rfl (pv 0)) pa_nil)))))
theorem ok_RisingZZ_lenZZ (T : Tx P K mg) : DA P w K mg base (He.fAd K ("Rising", some "__len__")) [] 1 (S_RisingZZ_lenZZ K) := by
  obtain ⟨fd, F⟩ := T.f_RisingZZ_lenZZ
  refine ⟨(fn_d (fun_of F) sc_RisingZZ_lenZZ (fun args R Y h => by obtain ⟨_, rfl, _⟩ := h; rfl) (fun cdv A outer s H E hr => ?_)).toK (F.bindsN (fun _ _ _ _ _ _ us hl => match us, hl with | [_], _ => rfl))⟩
  obtain ⟨tk, po⟩ := tkpo P w K mg base ["self"] "Rising.__len__" (defScope s_RisingZZ_lenZZ) (He.fAd K ("Rising", some "__len__")) cdv A outer s H E
  refine ⟨_, (pss_one (ps_ret (pe_callB (call_lenK K rfl) (by rfl) T.b_len (by decide +kernel) (pa_cons (pe_fldK K rfl (pv 0)) pa_nil)))), ?_⟩
  intro args R Y hS
  obtain ⟨A, rfl, hS⟩ := hS
  unfold Q_RisingZZ_lenZZ at hS
  try dsimp only at hS
  obtain ⟨hP, hS⟩ := hS
  refine w_start (Γ := [some (.fr (risD K A))]) ?_
  try dsimp only [cxOf]
  clear po tk hr
  w_dflts wF
  have la := rows_len A
  w_dflts wn
  rw [la]
  exact hS
theorem ok_RisingZZ_eqZZ (T : Tx P K mg) : DA P w K mg base (He.fAd K ("Rising", some "__eq__")) [] 1 (S_RisingZZ_eqZZ K) := by
  obtain ⟨fd, F⟩ := T.f_RisingZZ_eqZZ
  refine ⟨(fn_d (fun_of F) sc_RisingZZ_eqZZ (fun args R Y h => by obtain ⟨_, _, rfl, _⟩ := h; rfl) (fun cdv A outer s H E hr => ?_)).toK (F.bindsN (fun _ _ _ _ _ _ us hl => match us, hl with | [_, _], _ => rfl))⟩
  obtain ⟨tk, po⟩ := tkpo P w K mg base ["self", "other"] "Rising.__eq__" (defScope s_RisingZZ_eqZZ) (He.fAd K ("Rising", some "__eq__")) cdv A outer s H E
  refine ⟨_, (pss_one (ps_ret (pe_and (pe_callB (call_isiK K rfl) (by rfl) T.b_isinstance (by decide +kernel) (pa_cons (pv 1) (pa_cons (pe_glob (v := .ref (He.ga K "Rising")) rfl T.g_Rising rfl) pa_nil))) (pe_one (pe_cmpR (op_eqK K rfl hr.units) (pe_fldK K rfl (pv 0)) (pe_fldK K rfl (pv 1)) (nomark _)))))), ?_⟩
  intro args R Y hS
  obtain ⟨A, B, rfl, hS⟩ := hS
  unfold Q_RisingZZ_eqZZ at hS
  try dsimp only at hS
  refine w_start (Γ := [some (.fr (risD K A)), some (.fr (risD K B))]) ?_
  try dsimp only [cxOf]
  clear po tk hr
  w_dflts wF
  w_dflts wn
  exact hS
theorem ok_law_values (T : Tx P K mg) : DN P w K mg base "_law_values" [] 2 (S_law_values K) := by
  have D_law_draw := ok_law_draw (P := P) (w := w) (base := base) T
  obtain ⟨fd, F⟩ := T.f_law_values
  refine ⟨_, (fn_d (fun_of F) sc_law_values (fun args R Y h => by obtain ⟨_, _, _, rfl, _⟩ := h; rfl) (fun cdv A outer s H E hr => ?_)).toK (F.bindsN (fun _ _ _ _ _ _ us hl => match us, hl with | [_, _, _], _ => rfl)), T.g_law_values, F.kp⟩
  obtain ⟨tk, po⟩ := tkpo P w K mg base ["_law_script", "_law_state", "_law_most", "_law_value_here", "_law_found", "_law_minute"] "_law_values" (defScope s_law_values) (He.fAd K ("_law_values", none)) cdv A outer s H E
  refine ⟨_, (pss_cons (ps_set (i := 3) sc_law_values.nd rfl (Or.inl rfl) (mk1 1 (pe_nK K rfl D_law_draw hr (by decide) tk (pa_cons (pv 0) (pa_cons (pv 1) (pa_cons pe_int pa_nil))))))
  (pss_cons (mkO (ps_set (i := 4) sc_law_values.nd rfl (Or.inl rfl) (pe_lst pa_nil)))
  (pss_cons (mkF [5] (ps_for po rfl (pi_range1 (by rfl) T.b_range (pa_cons (pe_op (op_addK K rfl) pe_int (mk1 1 (pe_nK K rfl D_law_draw hr (by decide) tk (pa_cons (pv 0) (pa_cons (pv 1) (pa_cons (pv 2) pa_nil)))))) pa_nil)) (pg_name (i := 5) sc_law_values.nd rfl (Or.inl rfl)) (pss_cons (ps_set (i := 3) sc_law_values.nd rfl (Or.inl rfl) (pe_callB (call_maxP rfl) (by rfl) T.b_max (by decide +kernel) (pa_cons (pe_callTy call_intP (by rfl) T.b_int (by decide +kernel) (pa_cons (pv 3) pa_nil)) (pa_cons (pv 5) pa_nil))))
  (pss_cons (ps_expr (pe_bm PySem.F.plainAttrs_list PySem.F.slot_list_append PySem.F.type_list_append mt_append (pv 4) (pa_cons (pv 3) pa_nil)))
  (pss_one (ps_set (i := 3) sc_law_values.nd rfl (Or.inl rfl) (pe_op (op_addK K rfl) (pv 3) (pe_ix (ix_K K rfl hr.units) (pe_lst (pa_cons pe_int (pa_cons pe_int (pa_cons pe_int (pa_cons pe_int (pa_cons pe_int (pa_cons pe_int (pa_cons pe_int (pa_cons pe_int pa_nil))))))))) (mk1 1 (pe_nK K rfl D_law_draw hr (by decide) tk (pa_cons (pv 0) (pa_cons (pv 1) (pa_cons pe_int pa_nil))))) (fun _ _ => rfl)))))))))
  (pss_one (ps_ret (pv 4)))))), ?_⟩
  intro args R Y hS
  obtain ⟨ns, a, m, rfl, hS⟩ := hS
  unfold Q_law_values at hS
  try dsimp only at hS
  obtain ⟨hP, hS⟩ := hS
  refine w_start (Γ := [some (.fr (.scr ns)), some (.os a St4), some (.fr (.int m)), none, none, none]) ?_
  try dsimp only [cxOf]
  clear po tk hr
  w_dflts wF
  w_dflts wd
  rename_i n0 p0 q0 b n1 p1 q1
  refine loop_rng (α := List Int × Int) (fun k s => s.1.length = k ∧ VPre s.1 ∧ (∀ v, s.1.getLast? = some v → v ≤ s.2) ∧ 0 ≤ s.2 ∧ s.2 ≤ 6 + 10 * (k : Int) ∧ (∀ v ∈ s.1, v ≤ 20000)) (fun s => [(3, some (.fr (.int s.2))), (4, some (.ol b (s.1.map .int)))]) ([], n0) ⟨rfl, vpre_nil, by simp, p0, by show n0 ≤ 6 + 10 * (0 : Nat); omega, by simp⟩ rfl ?_ ?_
  · intro k s hk hJ
    obtain ⟨acc, v⟩ := s
    obtain ⟨h1, h2, h3, h4, h5, h6⟩ := hJ
    dsimp only at h1 h2 h3 h4 h5 h6 ⊢
    have la : (acc.map Dt.int).length = acc.length := List.length_map ..
    w_dflts wd
    rename_i n2 p2 q2
    refine x_ixL p2 (by simp only [List.length_cons, List.length_nil]; omega) fun w hw => ?_
    obtain ⟨i, rfl, hi, hi9⟩ := pick_int9 hw rfl
    w_dflts wd
    generalize hw' : (if 0 + (k : Int) > v then 0 + (k : Int) else v) = w
    have hw1 : (k : Int) ≤ w ∧ v ≤ w ∧ w ≤ 6 + 10 * (k : Int) := by rw [← hw']; split <;> omega
    exact ⟨(acc ++ [w], w + i), ⟨by simp [h1], vpre_snoc h2 (fun u hu => by have := h3 u hu; omega) (by rw [h1]; exact hw1.1), fun u hu => by simp at hu; omega, by show 0 ≤ w + i; omega, by show w + i ≤ 6 + 10 * ((k + 1 : Nat) : Int); omega, fun u hu => by
      rcases List.mem_append.mp hu with hu | hu
      · exact h6 u hu
      · have : u = w := by simpa using hu
        omega⟩, by simp only [List.map_append]; rfl⟩
  · intro s hJ
    obtain ⟨acc, v⟩ := s
    obtain ⟨h1, h2, h3, h4, h5, h6⟩ := hJ
    dsimp only at h1 h2 h3 h4 h6 ⊢
    w_dflts wd
    exact hS acc (vpre_ok h2 (fun e => by rw [e] at h1; simp at h1; omega)) (by omega) h6
theorem ok_law_at (T : Tx P K mg) : DN P w K mg base "_law_at" [] 1 (S_law_at K) := by
  obtain ⟨fd, F⟩ := T.f_law_at
  refine ⟨_, (fn_d (fun_of F) sc_law_at (fun args R Y h => by obtain ⟨_, _, rfl, _⟩ := h; rfl) (fun cdv A outer s H E hr => ?_)).toK (F.bindsN (fun _ _ _ _ _ _ us hl => match us, hl with | [_, _], _ => rfl)), T.g_law_at, F.kp⟩
  obtain ⟨tk, po⟩ := tkpo P w K mg base ["_law_values_here", "_law_minute"] "_law_at" (defScope s_law_at) (He.fAd K ("_law_at", none)) cdv A outer s H E
  refine ⟨_, (pss_cons (ps_if (pt_cmpR op_ltP (pv 1) (pe_callB (call_lenK K rfl) (by rfl) T.b_len (by decide +kernel) (pa_cons (pv 0) pa_nil)) (nomark _)) (pss_one (ps_ret (pe_ix (ix_K K rfl hr.units) (pv 0) (pv 1) (fun _ _ => rfl)))) pss_nil)
  (pss_one (ps_ret (pe_op (op_addK K rfl) (pe_op op_subP (pe_op (op_addK K rfl) (pe_ix (ix_K K rfl hr.units) (pv 0) (pe_un un_negP pe_int) (fun _ _ => rfl)) (pv 1)) (pe_callB (call_lenK K rfl) (by rfl) T.b_len (by decide +kernel) (pa_cons (pv 0) pa_nil))) pe_int)))), ?_⟩
  intro args R Y hS
  obtain ⟨vs, t, rfl, hS⟩ := hS
  unfold Q_law_at at hS
  try dsimp only at hS
  obtain ⟨hP, hS⟩ := hS
  refine w_start (Γ := [some (.fr (.lst (vs.map .int))), some (.fr (.int t))]) ?_
  try dsimp only [cxOf]
  clear po tk hr
  w_dflts wF
  obtain ⟨hn, ht⟩ := hP
  have la : (vs.map Dt.int).length = vs.length := List.length_map ..
  w_dflts wd
  · refine ixF ht (by omega) ?_
    w_dflts wd
    exact hS
  · rw [valF_out hn (by omega)] at hS
    rcases snoc_or vs with rfl | ⟨vs', x, rfl⟩
    · exact absurd rfl hn
    · have e : (vs' ++ [x]).map Dt.int = vs'.map Dt.int ++ [.int x] := by simp
      have el : (vs' ++ [x]).getLastD 0 = x := by simp
      rw [el] at hS
      rw [e] at la hS ⊢
      w_dflts wd
      rw [la]
      exact hS
theorem ok_law_rows (T : Tx P K mg) : DN P w K mg base "_law_rows" [] 2 (S_law_rows K) := by
  have D_law_draw := ok_law_draw (P := P) (w := w) (base := base) T
  obtain ⟨fd, F⟩ := T.f_law_rows
  refine ⟨_, (fn_d (fun_of F) sc_law_rows (fun args R Y h => by obtain ⟨_, _, _, rfl, _⟩ := h; rfl) (fun cdv A outer s H E hr => ?_)).toK (F.bindsN (fun _ _ _ _ _ _ us hl => match us, hl with | [_, _, _], _ => rfl)), T.g_law_rows, F.kp⟩
  obtain ⟨tk, po⟩ := tkpo P w K mg base ["_law_script", "_law_state", "_law_values_here", "_law_rows_here", "_law_last", "_law_minute", "_law_goes_on", "_law_start_here", "_law_value_here", "_law_grows"] "_law_rows" (defScope s_law_rows) (He.fAd K ("_law_rows", none)) cdv A outer s H E
  refine ⟨_, (pss_cons (mkO (ps_set (i := 3) sc_law_rows.nd rfl (Or.inl rfl) (pe_lst pa_nil)))
  (pss_cons (ps_set (i := 4) sc_law_rows.nd rfl (Or.inl rfl) (pe_op op_subP (pe_callB (call_lenK K rfl) (by rfl) T.b_len (by decide +kernel) (pa_cons (pv 2) pa_nil)) pe_int))
  (pss_cons (mkF [6, 9, 5, 7, 8] (ps_for po rfl (pi_range1 (by rfl) T.b_range (pa_cons (pv 4) pa_nil)) (pg_name (i := 5) sc_law_rows.nd rfl (Or.inl rfl)) (pss_cons (ps_set (i := 6) sc_law_rows.nd rfl (Or.inl rfl) pe_bl)
  (pss_cons (ps_if (pt_cmpR op_gtP (pe_callB (call_lenK K rfl) (by rfl) T.b_len (by decide +kernel) (pa_cons (pv 3) pa_nil)) pe_int (nomark _)) (pss_cons (ps_asg (pe_ix (ix_K K rfl hr.units) (pv 3) (pe_un un_negP pe_int) (fun _ _ => rfl)) (pg_tupK (n := 3) K rfl (by rfl) (pgs_cons (pg_name (i := 7) sc_law_rows.nd rfl (Or.inl rfl)) (pgs_cons (pg_name (i := 8) sc_law_rows.nd rfl (Or.inl rfl)) (pgs_cons (pg_name (i := 9) sc_law_rows.nd rfl (Or.inl rfl)) pgs_nil)))))
  (pss_cons (ps_if (pt_val (pv 9)) (pss_one (ps_set (i := 8) sc_law_rows.nd rfl (Or.inl rfl) (pe_op op_subP (pe_op (op_addK K rfl) (pv 8) (pv 5)) (pv 7)))) pss_nil)
  (pss_one (ps_set (i := 6) sc_law_rows.nd rfl (Or.inl rfl) (pe_cmpR (op_eqK K rfl hr.units) (pv 8) (pe_ix (ix_K K rfl hr.units) (pv 2) (pv 5) (fun _ _ => rfl)) (nomark _)))))) pss_nil)
  (pss_one (ps_if (PW.pt (pw_or (pt_not (pt_val (pv 6))) (pw_or1 (pt_cmpR (op_eqK K rfl hr.units) (mk1 1 (pe_nK K rfl D_law_draw hr (by decide) tk (pa_cons (pv 0) (pa_cons (pv 1) (pa_cons pe_int pa_nil))))) pe_int (nomark _))))) (pss_one (ps_expr (pe_bm PySem.F.plainAttrs_list PySem.F.slot_list_append PySem.F.type_list_append mt_append (pv 3) (pa_cons (pe_tup (pa_cons (pv 5) (pa_cons (pe_ix (ix_K K rfl hr.units) (pv 2) (pv 5) (fun _ _ => rfl)) (pa_cons (pe_cmpR (op_eqK K rfl hr.units) (mk1 1 (pe_nK K rfl D_law_draw hr (by decide) tk (pa_cons (pv 0) (pa_cons (pv 1) (pa_cons pe_int pa_nil))))) pe_int (nomark _)) pa_nil)))) pa_nil)))) pss_nil))))))
  (pss_cons (ps_expr (pe_bm PySem.F.plainAttrs_list PySem.F.slot_list_append PySem.F.type_list_append mt_append (pv 3) (pa_cons (pe_tup (pa_cons (pv 4) (pa_cons (pe_ix (ix_K K rfl hr.units) (pv 2) (pv 4) (fun _ _ => rfl)) (pa_cons pe_bl pa_nil)))) pa_nil)))
  (pss_one (mkR (ps_ret (pv 3)))))))), ?_⟩
  intro args R Y hS
  obtain ⟨ns, a, vs, rfl, hS⟩ := hS
  unfold Q_law_rows at hS
  try dsimp only at hS
  obtain ⟨hP, hS⟩ := hS
  refine w_start (Γ := [some (.fr (.scr ns)), some (.os a St4), some (.fr (.lst (vs.map .int))), none, none, none, none, none, none, none]) ?_
  try dsimp only [cxOf]
  clear po tk hr
  w_dflts wF
  obtain ⟨hV, hl⟩ := hP
  have la : (vs.map Dt.int).length = vs.length := List.length_map ..
  have lp := List.length_pos_iff.mpr hV.ne
  have ld : ∀ G : List Rw, (rowsD G).length = G.length := fun G => List.length_map ..
  w_dflts wd
  rename_i b
  rw [la]
  refine loop_rng (α := List Rw) (fun k rs => (rs.length ≤ k) ∧ (k = 0 → rs = []) ∧ (0 < k → ∃ r tl, rs = r :: tl ∧ Part vs k r tl)) (fun rs => [(3, some (.ol b (rowsD rs)))]) [] ⟨by simp, fun _ => rfl, fun h => absurd h (by omega)⟩ rfl ?_ ?_
  · intro k rs hk hJ
    obtain ⟨hm, h0, h1⟩ := hJ
    have lr := ld rs
    have hk' : (0 : Int) + (k : Int) = k := by omega
    rw [hk'] at hk ⊢
    rcases Nat.eq_zero_or_pos k with rfl | k0
    · obtain rfl := h0 rfl
      have l0 : (rowsD []).length = 0 := rfl
      w_dflts wd
      refine ixF (by omega) (by omega) ?_
      w_dflts wd
      rename_i n1 p1 q1
      exact ⟨[(0, valF vs 0, decide (n1 = 1))], ⟨by simp, fun z => absurd z (by omega), fun _ => ⟨_, [], rfl, Part.one hV _⟩⟩, rfl⟩
    · obtain ⟨r, tl, rfl, hp⟩ := h1 k0
      obtain ⟨i, ei⟩ := last_split r tl
      have er : rowsD (r :: tl) = rowsD i ++ [rowD (lastR r tl)] := by rw [ei]; simp [rowsD]
      have li : (rowsD i ++ [rowD (lastR r tl)]).length = tl.length + 1 := by rw [← er, lr]; rfl
      have lt : tl.length + 1 ≤ k := by simpa using hm
      have e2 : ∀ g : Bool, rowsD (r :: (tl ++ [((k : Int), valF vs k, g)])) = rowsD i ++ [rowD (lastR r tl)] ++ [rowD ((k : Int), valF vs k, g)] := fun g => by
        rw [← er]; simp [rowsD]
      have eqv : ∀ x : Int, x = at1 (lastR r tl) k → x = valF vs k → Part vs (k + 1) r tl := fun x h1 h2 => hp.on (by rw [← h1, h2])
      have big : ∀ g : Bool, (r :: (tl ++ [((k : Int), valF vs k, g)])).length ≤ k + 1 := fun g => by simp; omega
      simp only [er]
      w_dflts wd
      all_goals (refine ixF (by omega) (by omega) ?_)
      all_goals w_dflts wd
      all_goals first
        | (refine ixF (by omega) (by omega) ?_
           w_dflts wd
           rename_i n1 p1 q1
           refine ⟨r :: (tl ++ [((k : Int), valF vs k, decide (n1 = 1))]), ⟨big _, fun z => absurd z (by omega), fun _ => ⟨r, _, rfl, hp.add hV k0 _⟩⟩, ?_⟩
           dsimp only
           rw [e2]
           rfl)
        | (refine ⟨r :: tl, ⟨by simp; omega, fun z => absurd z (by omega), fun _ => ⟨r, tl, rfl, eqv _ ?_ (by assumption)⟩⟩, ?_⟩
           · first | (unfold at1; simp_all; done) | (unfold at1; simp_all; omega)
           · dsimp only
             rw [er]
             rfl)
  · intro rs hJ
    obtain ⟨hm, h0, h1⟩ := hJ
    have hk : ((vs.length : Int) - 1 - 0).toNat = vs.length - 1 := by omega
    rw [hk] at hm h0 h1
    have lr := ld rs
    have fin : RowsOf vs (rs ++ [((vs.length : Int) - 1, valF vs ((vs.length : Int) - 1), true)]) := by
      rcases Nat.eq_zero_or_pos (vs.length - 1) with z | z
      · rw [h0 z]
        have := rows_one hV (by omega)
        have e : (vs.length : Int) - 1 = 0 := by omega
        rw [e]; exact this
      · obtain ⟨r, tl, rfl, hp⟩ := h1 z
        have := rows_end hV hp z (by omega)
        have e : ((vs.length - 1 : Nat) : Int) = (vs.length : Int) - 1 := by omega
        rw [e] at this; exact this
    w_dflts wd
    refine ixF (by omega) (by omega) ?_
    w_dflts wd
    have := hS b _ fin
    have er : rowsD (rs ++ [((vs.length : Int) - 1, valF vs ((vs.length : Int) - 1), true)]) = rowsD rs ++ [rowD ((vs.length : Int) - 1, valF vs ((vs.length : Int) - 1), true)] := by simp [rowsD]
    rw [er] at this
    exact this
theorem ok_law_greedy (T : Tx P K mg) : DN P w K mg base "_law_greedy" [] 2 (S_law_greedy K) := by
  have D_law_at := ok_law_at (P := P) (w := w) (base := base) T
  obtain ⟨fd, F⟩ := T.f_law_greedy
  refine ⟨_, (fn_d (fun_of F) sc_law_greedy (fun args R Y h => by obtain ⟨_, rfl, _⟩ := h; rfl) (fun cdv A outer s H E hr => ?_)).toK (F.bindsN (fun _ _ _ _ _ _ us hl => match us, hl with | [_], _ => rfl)), T.g_law_greedy, F.kp⟩
  obtain ⟨tk, po⟩ := tkpo P w K mg base ["_law_values_here", "_law_rows_here", "_law_start_here", "_law_k", "_law_value_here", "_law_step", "_law_end", "_law_minute", "_law_rise"] "_law_greedy" (defScope s_law_greedy) (He.fAd K ("_law_greedy", none)) cdv A outer s H E
  refine ⟨_, (pss_cons (mkO (ps_set (i := 1) sc_law_greedy.nd rfl (Or.inl rfl) (pe_lst pa_nil)))
  (pss_cons (ps_set (i := 2) sc_law_greedy.nd rfl (Or.inl rfl) pe_int)
  (pss_cons (mkF [6, 3, 7, 8, 5, 4] (ps_for po rfl (pi_range1 (by rfl) T.b_range (pa_cons (pe_op (op_addK K rfl) (pe_callB (call_lenK K rfl) (by rfl) T.b_len (by decide +kernel) (pa_cons (pv 0) pa_nil)) pe_int) pa_nil)) (pg_name (i := 3) sc_law_greedy.nd rfl (Or.inl rfl)) (pss_cons (ps_set (i := 4) sc_law_greedy.nd rfl (Or.inl rfl) (pe_nK K rfl D_law_at hr (by decide) tk (pa_cons (pv 0) (pa_cons (pv 2) pa_nil))))
  (pss_cons (ps_set (i := 5) sc_law_greedy.nd rfl (Or.inl rfl) (pe_op op_subP (pe_nK K rfl D_law_at hr (by decide) tk (pa_cons (pv 0) (pa_cons (pe_op (op_addK K rfl) (pv 2) pe_int) pa_nil))) (pv 4)))
  (pss_cons (ps_if (pt_cmpR op_geP (pv 2) (pe_op op_subP (pe_callB (call_lenK K rfl) (by rfl) T.b_len (by decide +kernel) (pa_cons (pv 0) pa_nil)) pe_int) (nomark _)) (pss_one (ps_ret (pe_callTy (call_tupleK K rfl) (by rfl) T.b_tuple (by decide +kernel) (pa_cons (pe_op (op_addK K rfl) (pv 1) (pe_lst (pa_cons (pe_tup (pa_cons (pv 2) (pa_cons (pv 4) (pa_cons pe_bl pa_nil)))) pa_nil))) pa_nil)))) pss_nil)
  (pss_cons (ps_set (i := 6) sc_law_greedy.nd rfl (Or.inl rfl) (pv 2))
  (pss_cons (mkF [7, 8] (ps_for po rfl (pi_range2 (by rfl) T.b_range (pa_cons (pv 2) (pa_cons (pe_op op_subP (pe_callB (call_lenK K rfl) (by rfl) T.b_len (by decide +kernel) (pa_cons (pv 0) pa_nil)) pe_int) pa_nil))) (pg_name (i := 7) sc_law_greedy.nd rfl (Or.inl rfl)) (pss_cons (ps_set (i := 8) sc_law_greedy.nd rfl (Or.inl rfl) (pe_op op_subP (pe_nK K rfl D_law_at hr (by decide) tk (pa_cons (pv 0) (pa_cons (pe_op (op_addK K rfl) (pv 7) pe_int) pa_nil))) (pe_nK K rfl D_law_at hr (by decide) tk (pa_cons (pv 0) (pa_cons (pv 7) pa_nil)))))
  (pss_cons (ps_if (PW.pt (pw_or (pt_cmpR op_gtP (pv 5) pe_int (nomark _)) (pw_or1 (pt_cmpR (op_neK K rfl hr.units) (pv 8) (pv 5) (nomark _))))) (pss_one ps_break) pss_nil)
  (pss_one (ps_set (i := 6) sc_law_greedy.nd rfl (Or.inl rfl) (pe_op (op_addK K rfl) (pv 7) pe_int)))))))
  (pss_cons (ps_if (PW.pt (pw_and (pt_cmpR (op_eqK K rfl hr.units) (pv 5) pe_int (nomark _)) (pw_and1 (pt_cmpR (op_eqK K rfl hr.units) (pv 6) (pe_op op_subP (pe_callB (call_lenK K rfl) (by rfl) T.b_len (by decide +kernel) (pa_cons (pv 0) pa_nil)) pe_int) (nomark _))))) (pss_one (ps_ret (pe_callTy (call_tupleK K rfl) (by rfl) T.b_tuple (by decide +kernel) (pa_cons (pe_op (op_addK K rfl) (pv 1) (pe_lst (pa_cons (pe_tup (pa_cons (pv 2) (pa_cons (pv 4) (pa_cons pe_bl pa_nil)))) pa_nil))) pa_nil)))) pss_nil)
  (pss_cons (ps_expr (pe_bm PySem.F.plainAttrs_list PySem.F.slot_list_append PySem.F.type_list_append mt_append (pv 1) (pa_cons (pe_tup (pa_cons (pv 2) (pa_cons (pv 4) (pa_cons (pe_cmpR (op_eqK K rfl hr.units) (pv 5) pe_int (nomark _)) pa_nil)))) pa_nil)))
  (pss_one (ps_set (i := 2) sc_law_greedy.nd rfl (Or.inl rfl) (pe_op (op_addK K rfl) (pv 6) pe_int))))))))))))
  (pss_one (ps_ret (pe_callTy (call_tupleK K rfl) (by rfl) T.b_tuple (by decide +kernel) (pa_cons (pv 1) pa_nil))))))), ?_⟩
  intro args R Y hS
  obtain ⟨vs, rfl, hS⟩ := hS
  unfold Q_law_greedy at hS
  try dsimp only at hS
  obtain ⟨hP, hS⟩ := hS
  refine w_start (Γ := [some (.fr (.lst (vs.map .int))), none, none, none, none, none, none, none, none]) ?_
  try dsimp only [cxOf]
  clear po tk hr
  w_dflts wF
  obtain ⟨hV, hl⟩ := hP
  have lp := List.length_pos_iff.mpr hV.ne
  have la : (vs.map Dt.int).length = vs.length := List.length_map ..
  have up : ∀ t, (vs.length : Int) - 1 ≤ t → der (valF vs) t = 1 := fun t ht => by unfold der; rw [valF_up hV.ne t ht]; omega
  w_dflts wn
  intro b
  w_dflts wn
  rw [la]
  refine loop_rng (α := List Rw × Int) (fun k s => (k : Int) ≤ s.2 ∧ s.2 ≤ (vs.length : Int) ∧ s.1.length ≤ k ∧ ∀ G, Grd (valF vs) s.2 G → Grd (valF vs) 0 (s.1 ++ G)) (fun s => [(1, some (.ol b (rowsD s.1))), (2, some (.fr (.int s.2)))]) ([], 0) ⟨by simp, by simp, by simp, fun G h => h⟩ rfl ?_ ?_
  · rintro k ⟨acc, s⟩ hk ⟨hks, hsn, hal, hG⟩
    dsimp only at hks hsn hal hG ⊢
    have ra := rows_len acc
    have p1 : vs ≠ [] ∧ 0 ≤ s := ⟨hV.ne, by omega⟩
    have p2 : vs ≠ [] ∧ 0 ≤ s + 1 := ⟨hV.ne, by omega⟩
    have ds : valF vs (s + 1) - valF vs s = der (valF vs) s := rfl
    w_dflts wn
    · have e1 := hS _ (hG [(s, valF vs s, true)] (Grd.last fun t ht => up t (by omega)))
      rw [rows_app] at e1
      exact e1
    have hs1 : s < (vs.length : Int) - 1 := by omega
    rw [ds, la]
    refine loop_rng (α := Int) (fun j e => e = s + j ∧ (∀ t, s ≤ t → t < e → der (valF vs) t = der (valF vs) s) ∧ (0 < j → der (valF vs) s ≤ 1)) (fun e => [(6, some (.fr (.int e)))]) s ⟨by simp, fun t h1 h2 => by omega, fun h => absurd h (by omega)⟩ rfl ?_ ?_
    · rintro j e hj ⟨je, j3, j4⟩
      have q1 : vs ≠ [] ∧ 0 ≤ s + (j : Int) + 1 := ⟨hV.ne, by omega⟩
      have q2 : vs ≠ [] ∧ 0 ≤ s + (j : Int) := ⟨hV.ne, by omega⟩
      have dj : valF vs (s + (j : Int) + 1) - valF vs (s + (j : Int)) = der (valF vs) (s + (j : Int)) := rfl
      w_dflts wn
      all_goals first
        | (have E := EndsAt.brk (n := vs.length) je j3 j4 hj (by omega)
           have e1 := hS _ (E.ret up hG (by omega) (by omega))
           rw [rows_app] at e1
           exact e1)
        | (have E := EndsAt.brk (n := vs.length) je j3 j4 hj (by omega)
           exact ⟨(acc ++ [(s, valF vs s, decide (der (valF vs) s = 1))], e + 1), ⟨by show ((k + 1 : Nat) : Int) ≤ e + 1; omega, by show e + 1 ≤ (vs.length : Int); omega, by simp; omega, E.app up hG (by omega)⟩, by dsimp only; rw [rows_app]; rfl⟩)
        | exact ⟨s + (j : Int) + 1, ⟨by omega, fun t h1 h2 => by
          by_cases c : t < e
          · exact j3 t h1 c
          · have : t = s + j := by omega
            rw [this]
            omega, fun _ => by omega⟩, rfl⟩
    · rintro e ⟨je, j3, j4⟩
      have E : EndsAt (valF vs) vs.length s e := ⟨by omega, by omega, j3, fun h => ⟨by omega, fun z => by omega⟩, fun h => by have := j4 (by omega); omega⟩
      w_dflts wn
      all_goals first
        | (have e1 := hS _ (E.ret up hG (by omega) (by omega))
           rw [rows_app] at e1
           exact e1)
        | exact ⟨(acc ++ [(s, valF vs s, decide (der (valF vs) s = 1))], e + 1), ⟨by show ((k + 1 : Nat) : Int) ≤ e + 1; omega, by show e + 1 ≤ (vs.length : Int); omega, by simp; omega, E.app up hG (by omega)⟩, by dsimp only; rw [rows_app]; rfl⟩
  · rintro ⟨acc, s⟩ ⟨h1, h2, h3, h4⟩
    exfalso
    dsimp only at h1 h2
    omega
theorem ok_law_value (T : Tx P K mg) : DN P w K mg base "_law_value" [] 6 (S_law_value K) := by
  have D_RisingZZ_callZZ := ok_RisingZZ_callZZ (P := P) (w := w) (base := base) T
  obtain ⟨fd, F⟩ := T.f_law_value
  refine ⟨_, (fn_d (fun_of F) sc_law_value (fun args R Y h => by obtain ⟨_, _, rfl, _⟩ := h; rfl) (fun cdv A outer s H E hr => ?_)).toK (F.bindsN (fun _ _ _ _ _ _ us hl => match us, hl with | [_, _], _ => rfl)), T.g_law_value, F.kp⟩
  obtain ⟨tk, po⟩ := tkpo P w K mg base ["_law_f", "_law_minute", "e"] "_law_value" (defScope s_law_value) (He.fAd K ("_law_value", none)) cdv A outer s H E
  refine ⟨_, (pss_one (ps_try_h rfl rfl rfl sc_law_value.nd tk (fun W2 pn xe tk2 po2 => (pss_one (ps_ret (pe_callOK K rfl T.op_Rising_call D_RisingZZ_callZZ hr (by decide) tk2 (pv 0) (pa_cons (pv 1) pa_nil)))))
  (.named (i := 2) ⟨rfl, by decide, .inl T.g_BadNumber⟩ rfl rfl (fun a oe cls d pn hz hf => (pss_one (ps_ret (pe_tup (pa_cons (pe_xf T.E_BadNumber.xf (T.E_BadNumber.no "what" (by decide +kernel)) hz hf (pv 2)) (pa_cons (pe_xf T.E_BadNumber.xf (T.E_BadNumber.no "value" (by decide +kernel)) hz hf (pv 2)) pa_nil)))))) .nil))), ?_⟩
  intro args R Y hS
  obtain ⟨F, d, rfl, hS⟩ := hS
  unfold Q_law_value at hS
  try dsimp only at hS
  obtain ⟨hP, hS⟩ := hS
  refine w_start (Γ := [some (.fr (risD K F)), some (.fr (d)), none]) ?_
  try dsimp only [cxOf]
  clear po tk hr
  w_dflts wF
  obtain ⟨hf, hz⟩ := hP
  have pc : Fl d ∧ Right F := ⟨hf, hz.r⟩
  w_dflts wd
  · exact hS.1 hb
  · exact hS.2 hb
theorem ok_law (T : Tx P K mg) {fd : FuncData} (F : FunD K "law" "law" (defArgs s_law) (defBody s_law) (defScope s_law) [] [] (He.fAd K ("law", none)) fd) : FnOk P w K mg base (L2.CX P w) 7 (He.fAd K ("law", none)) fd ["_law_script"] (spD K SLaw) := by
  have D_RisingZZ_eqZZ := ok_RisingZZ_eqZZ (P := P) (w := w) (base := base) T
  have D_RisingZZ_initZZ := ok_RisingZZ_initZZ (P := P) (w := w) (base := base) T
  have D_RisingZZ_iterZZ := ok_RisingZZ_iterZZ (P := P) (w := w) (base := base) T
  have D_RisingZZ_lenZZ := ok_RisingZZ_lenZZ (P := P) (w := w) (base := base) T
  have D_law_at := ok_law_at (P := P) (w := w) (base := base) T
  have D_law_draw := ok_law_draw (P := P) (w := w) (base := base) T
  have D_law_greedy := ok_law_greedy (P := P) (w := w) (base := base) T
  have D_law_rows := ok_law_rows (P := P) (w := w) (base := base) T
  have D_law_start := ok_law_start (P := P) (w := w) (base := base) T
  have D_law_value := ok_law_value (P := P) (w := w) (base := base) T
  have D_law_values := ok_law_values (P := P) (w := w) (base := base) T
  refine fn_d (fun_of F) sc_law (fun args R Y h => by obtain ⟨_, rfl, _⟩ := h; rfl) (fun cdv A outer s H E hr => ?_)
  obtain ⟨tk, po⟩ := tkpo P w K mg base ["_law_script", "_law_state", "_law_values_here", "_law_rows_here", "_law_kept", "_law_f", "_law_due", "_law_minute", "_law_twin", "_law_at_here", "_law_other", "_law_more", "_law_k", "_law_value_here", "_law_row"] "law" (defScope s_law) (He.fAd K ("law", none)) cdv A outer s H E
  refine ⟨_, (pss_cons (ps_set (i := 1) sc_law.nd rfl (Or.inl rfl) (pe_nK K rfl D_law_start hr (by decide) tk (pa_cons (pv 0) pa_nil)))
  (pss_cons (ps_set (i := 2) sc_law.nd rfl (Or.inl rfl) (mk1 1 (pe_nK K rfl D_law_values hr (by decide) tk (pa_cons (pv 0) (pa_cons (pv 1) (pa_cons pe_int pa_nil))))))
  (pss_cons (ps_set (i := 3) sc_law.nd rfl (Or.inl rfl) (mk1 1 (pe_nK K rfl D_law_rows hr (by decide) tk (pa_cons (pv 0) (pa_cons (pv 1) (pa_cons (pv 2) pa_nil))))))
  (pss_cons (ps_set (i := 4) sc_law.nd rfl (Or.inl rfl) (pe_callTy (call_listK K rfl) (by rfl) T.b_list (by decide +kernel) (pa_cons (pv 3) pa_nil)))
  (pss_cons (ps_set (i := 5) sc_law.nd rfl (Or.inl rfl) (mkLend 3 (pe_cK K rfl T.m_Rising D_RisingZZ_initZZ hr (by decide) tk T.g_Rising (pa_cons (pv 3) pa_nil))))
  (pss_cons (ps_if (pt_cmpR (op_neK K rfl hr.units) (pv 3) (pv 4) (nomark _)) (pss_one (ps_ret pe_bl)) pss_nil)
  (pss_cons (ps_expr (pe_bm PySem.F.plainAttrs_list PySem.F.slot_list_append PySem.F.type_list_append mt_append (pv 3) (pa_cons (pe_tup (pa_cons pe_int (pa_cons pe_int (pa_cons pe_bl pa_nil)))) pa_nil)))
  (pss_cons (ps_asg (pe_tup (pa_cons pe_int (pa_cons pe_int (pa_cons pe_bl pa_nil)))) (pg_sub (pv 3) pe_int set_list))
  (pss_cons (ps_set (i := 6) sc_law.nd rfl (Or.inl rfl) (pe_nK K rfl D_law_greedy hr (by decide) tk (pa_cons (pv 2) pa_nil)))
  (pss_cons (ps_if (PW.pt (pw_or (pt_cmpR (op_neK K rfl hr.units) (pe_fldK K rfl (pv 5)) (pv 6) (nomark _)) (pw_or (pt_not (pt_val (pe_callB (call_isiK K rfl) (by rfl) T.b_isinstance (by decide +kernel) (pa_cons (pe_fldK K rfl (pv 5)) (pa_cons (pe_bltn (v := .ty "tuple") (u := .type "tuple") (by rfl) T.b_tuple (by decide +kernel) rfl) pa_nil))))) (pw_or (pt_cmpR (op_neK K rfl hr.units) (pe_lenOK K rfl T.op_Rising_len D_RisingZZ_lenZZ hr (by decide) tk T.b_len (pa_cons (pv 5) pa_nil)) (pe_callB (call_lenK K rfl) (by rfl) T.b_len (by decide +kernel) (pa_cons (pv 6) pa_nil)) (nomark _)) (pw_or1 (pt_cmpR (op_neK K rfl hr.units) (mkLc [14] (pe_lc (own := [("_law_row", 14)]) rfl sc_law.nd (pi_ownK K rfl T.op_Rising_iter D_RisingZZ_iterZZ hr (by decide) (pv 5)) (blkOk_by (own := [("_law_row", 14)]) (N := ["_law_script", "_law_state", "_law_values_here", "_law_rows_here", "_law_kept", "_law_f", "_law_due", "_law_minute", "_law_twin", "_law_at_here", "_law_other", "_law_more", "_law_k", "_law_value_here", "_law_row"]) (sc := defScope s_law) (by decide +kernel)) (fun _ _ _ _ _ => (pg_name (i := 14) sc_law.nd rfl (Or.inl rfl))) (fun _ _ _ _ _ => pts_nil) (fun _ _ _ _ _ => (pv 14)))) (pe_callTy (call_listK K rfl) (by rfl) T.b_list (by decide +kernel) (pa_cons (pv 6) pa_nil)) (nomark _))))))) (pss_one (ps_ret pe_bl)) pss_nil)
  (pss_cons (mkF [7] (ps_for po rfl (pi_seqK K rfl (pe_op (op_addK K rfl) (mkLc [12] (pe_lc (own := [("_law_k", 12)]) rfl sc_law.nd (pi_range1 (by rfl) T.b_range (pa_cons (pe_op (op_addK K rfl) (pe_callB (call_lenK K rfl) (by rfl) T.b_len (by decide +kernel) (pa_cons (pv 2) pa_nil)) pe_int) pa_nil)) (blkOk_by (own := [("_law_k", 12)]) (N := ["_law_script", "_law_state", "_law_values_here", "_law_rows_here", "_law_kept", "_law_f", "_law_due", "_law_minute", "_law_twin", "_law_at_here", "_law_other", "_law_more", "_law_k", "_law_value_here", "_law_row"]) (sc := defScope s_law) (by decide +kernel)) (fun _ _ _ _ _ => (pg_name (i := 12) sc_law.nd rfl (Or.inl rfl))) (fun _ _ _ _ _ => pts_nil) (fun _ _ _ _ _ => (pv 12)))) (pe_lst (pa_cons (pe_op op_powP pe_int pe_int) pa_nil)))) (pg_name (i := 7) sc_law.nd rfl (Or.inl rfl)) (pss_one (ps_if (pt_cmpR (op_neK K rfl hr.units) (pe_nK K rfl D_law_value hr (by decide) tk (pa_cons (pv 5) (pa_cons (pv 7) pa_nil))) (pe_nK K rfl D_law_at hr (by decide) tk (pa_cons (pv 2) (pa_cons (pv 7) pa_nil))) (nomark _)) (pss_one (ps_ret pe_bl)) pss_nil))))
  (pss_cons (mkF [7] (ps_for po rfl (pi_seqK K rfl (pe_lst (pa_cons (pe_un un_negP pe_int) (pa_cons (pe_un un_negP (pe_op op_powP pe_int pe_int)) (pa_cons pe_bl (pa_cons pe_non pa_nil)))))) (pg_name (i := 7) sc_law.nd rfl (Or.inl rfl)) (pss_one (ps_if (pt_cmpR (op_neK K rfl hr.units) (pe_nK K rfl D_law_value hr (by decide) tk (pa_cons (pv 5) (pa_cons (pv 7) pa_nil))) (pe_tup (pa_cons pe_str (pa_cons (pv 7) pa_nil))) (nomark _)) (pss_one (ps_ret pe_bl)) pss_nil))))
  (pss_cons (ps_set (i := 8) sc_law.nd rfl (Or.inl rfl) (pe_cK K rfl T.m_Rising D_RisingZZ_initZZ hr (by decide) tk T.g_Rising (pa_cons (pe_callTy (call_tupleK K rfl) (by rfl) T.b_tuple (by decide +kernel) (pa_cons (mk1 1 (pe_nK K rfl D_law_rows hr (by decide) tk (pa_cons (pv 0) (pa_cons (pv 1) (pa_cons (pv 2) pa_nil))))) pa_nil)) pa_nil)))
  (pss_cons (ps_if (PW.pt (pw_or (pt_not (pt_eqDK K rfl T.eq_Rising D_RisingZZ_eqZZ hr (by decide) tk (pv 5) (pv 8))) (pw_or (pt_neDK K rfl T.eq_Rising D_RisingZZ_eqZZ hr (by decide) tk (pv 5) (pv 8)) (pw_or1 (pt_cmpR (op_neK K rfl hr.units) (pe_fldK K rfl (pv 8)) (pv 6) (nomark _)))))) (pss_one (ps_ret pe_bl)) pss_nil)
  (pss_cons (ps_set (i := 9) sc_law.nd rfl (Or.inl rfl) (mk1 1 (pe_nK K rfl D_law_draw hr (by decide) tk (pa_cons (pv 0) (pa_cons (pv 1) (pa_cons (pe_callB (call_lenK K rfl) (by rfl) T.b_len (by decide +kernel) (pa_cons (pv 2) pa_nil)) pa_nil))))))
  (pss_cons (ps_set (i := 10) sc_law.nd rfl (Or.inl rfl) (pe_op (op_addK K rfl) (pe_slice (sl_K K rfl) (pv 2) po_none (po_some (pv 9))) (mkLc [13] (pe_lc (own := [("_law_value_here", 13)]) rfl sc_law.nd (pi_seqK K rfl (pe_slice (sl_K K rfl) (pv 2) (po_some (pv 9)) po_none)) (blkOk_by (own := [("_law_value_here", 13)]) (N := ["_law_script", "_law_state", "_law_values_here", "_law_rows_here", "_law_kept", "_law_f", "_law_due", "_law_minute", "_law_twin", "_law_at_here", "_law_other", "_law_more", "_law_k", "_law_value_here", "_law_row"]) (sc := defScope s_law) (by decide +kernel)) (fun _ _ _ _ _ => (pg_name (i := 13) sc_law.nd rfl (Or.inl rfl))) (fun _ _ _ _ _ => pts_nil) (fun _ _ _ _ _ => (pe_op (op_addK K rfl) (pv 13) pe_int))))))
  (pss_cons (ps_set (i := 11) sc_law.nd rfl (Or.inl rfl) (pe_cK K rfl T.m_Rising D_RisingZZ_initZZ hr (by decide) tk T.g_Rising (pa_cons (mk1 1 (pe_nK K rfl D_law_rows hr (by decide) tk (pa_cons (pv 0) (pa_cons (pv 1) (pa_cons (pv 10) pa_nil))))) pa_nil)))
  (pss_one (ps_ret (pe_and (pe_not (pe_eqDK K rfl T.eq_Rising D_RisingZZ_eqZZ hr (by decide) tk (pv 5) (pv 11))) (pe_and (pe_neDK K rfl T.eq_Rising D_RisingZZ_eqZZ hr (by decide) tk (pv 5) (pv 11)) (pe_one (pe_cmpR (op_eqK K rfl hr.units) (pe_fldK K rfl (pv 11)) (pe_nK K rfl D_law_greedy hr (by decide) tk (pa_cons (pv 10) pa_nil)) (nomark _)))))))))))))))))))))))), ?_⟩
  intro args R Y hS
  obtain ⟨ns, rfl, hl, hS⟩ := hS
  refine w_start (Γ := [some (.fr (.scr ns)), none, none, none, none, none, none, none, none, none, none, none, none, none, none]) ?_
  try dsimp only [cxOf]
  clear po tk hr
  w_dflts wF
  w_dflts wn
  intro a
  w_dflts wn
  intro va hV hvl hvm
  have pa : VOk va ∧ va.length ≤ 1000 := ⟨hV, by omega⟩
  have lva : (va.map Dt.int).length = va.length := List.length_map ..
  w_dflts wn
  intro b rs hrs
  have lr := rows_len rs
  obtain ⟨ho, hbn⟩ := rows_mk hV (by omega) hrs
  w_dflts wn
  intro F hF
  rw [toRow_toO] at hF
  obtain ⟨zF, fv⟩ := rz_rows hV (by omega) hrs hF
  clear ho hbn
  w_dflts wn
  refine ne_rowsK ?_
  have rn := right_ne hrs.right
  have lp := List.length_pos_iff.mpr rn
  have lpD : 0 < (rowsD rs).length := by omega
  have lrb : rs.length ≤ 1000 := rowsOf_len (by omega) hrs
  have pg : VOk va ∧ va.length ≤ 2000 := ⟨hV, by omega⟩
  w_dflts wn
  refine ⟨0, by unfold ixN; simp; try omega, ?_⟩
  w_dflts wn
  intro G hG
  have eF : F = G := (zF.grd fv).uniq (fun _ _ => rfl) hG (Int.le_refl 0)
  subst eF
  have lF := rows_len F
  have bF : F.length ≤ 4002 := by
    have := right_len' zF.r (B := 4001) (fun q hq => zF.bd q hq)
    omega
  have bF2 : F.length ≤ 400000 := by omega
  have eFr : F = F := rfl
  have lFi : (F.length : Int) = ((rowsD F).length : Int) := by omega
  w_dflts wn
  refine lc_map (ys := F) rowD (by omega) ?_ ?_
  · intro k y hy
    w_dflts wn
    exact ⟨rfl, rfl⟩
  intro b2
  w_dflts wn
  refine ne_rowsK ?_
  w_dflts wn
  have e3 : ((va.map Dt.int).length : Int) + 3 = (((va.map Dt.int).length + 3 : Nat) : Int) := by omega
  rw [e3, rngD_map]
  refine lc_map (ys := List.range ((va.map Dt.int).length + 3)) (fun k : Nat => .int k) (by simp; omega) ?_ ?_
  · intro k y hy
    w_dflts wn
    exact ⟨rfl, rfl⟩
  intro b3
  w_dflts wn
  · simp; omega
  have bp : 0 ≤ (10 : Int) ^ Int.toNat 4 := by decide
  generalize (10 : Int) ^ Int.toNat 4 = big at *
  have app : (List.range ((va.map Dt.int).length + 3)).map (fun k : Nat => Dt.int k) ++ [.int big] = ((List.range ((va.map Dt.int).length + 3)).map (fun k : Nat => (k : Int)) ++ [big]).map Dt.int := by simp
  rw [app]
  refine loop_map (pic := Dt.int) (α := Unit) (fun _ _ => True) (fun _ => []) () trivial rfl ?_ ?_
  · intro k y _ hy _
    have y0 : 0 ≤ y := by
      have := List.mem_of_getElem? hy
      simp only [List.mem_append, List.mem_map, List.mem_range, List.mem_singleton] at this
      omega
    have ny : numB 0 .non (.int y) = true := numB_yesN y0
    have pc : Fl (.int y) ∧ Rz F := ⟨.int _, zF⟩
    have ey : intOf (.int y) = y := rfl
    have pv : va ≠ [] ∧ 0 ≤ y := ⟨hV.ne, y0⟩
    have ef : RM.valueAt F (intOf (.int y)) = valF va y := fv y y0
    w_dflts wn
    all_goals first | exact ⟨(), trivial, rfl⟩ | exact absurd ef (by assumption)
  intro _ _
  w_dflts wn
  refine loop_inv (α := Unit) (fun _ _ => True) (fun _ => []) () trivial rfl ?_ ?_
  · intro k x _ hx _
    obtain ⟨fx, nx', px⟩ : Fl x ∧ numB 0 .non x = false ∧ plB 0 x = true := by
      have hm := List.mem_of_getElem? hx
      simp only [List.mem_cons, List.not_mem_nil, or_false] at hm
      rcases hm with rfl | rfl | rfl | rfl
      · exact ⟨.int _, rfl, rfl⟩
      · exact ⟨.int _, by decide +kernel, rfl⟩
      · exact ⟨.bl _, rfl, rfl⟩
      · exact ⟨.non, rfl, rfl⟩
    have pc : Fl x ∧ Rz F := ⟨fx, zF⟩
    w_dflts wn
    refine ne_pair' (by decide +kernel) px ?_
    w_dflts wn
    exact ⟨(), trivial, rfl⟩
  intro _ _
  w_dflts wn
  intro b4 rs2 hrs2
  obtain ⟨ho2, hbn2⟩ := rows_mk hV (by omega) hrs2
  w_dflts wn
  intro F2 hF2
  rw [toRow_toO] at hF2
  obtain ⟨zF2, fv2⟩ := rz_rows hV (by omega) hrs2 hF2
  have eF2 : F2 = F := zF2.eq zF fun t ht => by rw [fv2 t ht, fv t ht]
  subst eF2
  clear ho2 hbn2
  have vp := List.length_pos_iff.mpr hV.ne
  w_dflts wn
  intro m m0 m1
  have cl := cut_lo3 (xs := va.map Dt.int) m0 (by omega)
  have ch := cut_hi3 (xs := va.map Dt.int) m0 (by omega)
  obtain ⟨k, rfl⟩ : ∃ k : Nat, m = k := ⟨m.toNat, by omega⟩
  have kl : k < va.length := by omega
  w_dflts wn
  rw [ch, Int.toNat_natCast, ← List.map_drop]
  refine lc_map (ys := va.drop k) (fun v : Int => .int (v + 1)) (by simp; omega) ?_ ?_
  · intro j y hy
    w_dflts wn
    exact ⟨rfl, rfl⟩
  intro b5
  rw [cl, Int.toNat_natCast, ← List.map_take]
  have eo : (va.take k).map Dt.int ++ (va.drop k).map (fun v : Int => Dt.int (v + 1)) = (othW va k).map Dt.int := by simp [othW, Function.comp_def]
  have lo := oth_len va k
  have vo := oth_ok hV kl
  have po : VOk (othW va k) ∧ (othW va k).length ≤ 1000 := ⟨vo, by omega⟩
  have po2 : VOk (othW va k) ∧ (othW va k).length ≤ 2000 := ⟨vo, by omega⟩
  w_dflts wn
  · simp; omega
  rw [eo]
  w_dflts wn
  intro b6 rs3 hrs3
  obtain ⟨ho3, hbn3⟩ := rows_mk vo (by omega) hrs3
  w_dflts wn
  intro F3 hF3
  rw [toRow_toO] at hF3
  obtain ⟨zF3, fv3⟩ := rz_rows vo (by omega) hrs3 hF3
  clear ho3 hbn3
  have nF : ¬ F2 = F3 := fun e => by
    have h1 := fv3 k (by omega)
    have h2 := fv2 k (by omega)
    rw [oth_ne kl, ← e, h2] at h1
    omega
  have nFd : decide (F2 = F3) = false := decide_eq_false nF
  w_dflts wn
  intro G3 hG3
  have eG3 : F3 = G3 := (zF3.grd fv3).uniq (fun _ _ => rfl) hG3 (Int.le_refl 0)
  w_dflts wn
  rw [decide_eq_true eG3]
  exact hS _
end
end LW
open PySem PySem.W PySem.Calls PyProof.Rows
set_option maxRecDepth 100000 in
set_option maxHeartbeats 0 in
theorem PySem.Challenge.cw_laterways_k03_rows_of_maps_holds : PySem.Challenge.rw_laterways_k03_rows_of_maps.Holds := by
  refine LW.fin_early ?_
  intro w mg fa h Y G hmg0
  obtain ⟨K, KX, c⟩ := Y
  have hmg : mg ("law" : PySem.Str) = some (.ref fa) := by
    have e : (HandSHeadRun.topDef (OpenLaw.row PySem.Challenge.rw_laterways_k03_rows_of_maps).prog 30).name = ("law" : PySem.Str) := by kernel_rfl
    rw [← e]
    exact hmg0
  have T := LW.tx_of KX G c
  obtain ⟨fdL, FL⟩ := T.f_law
  have e : fa = LW.lawA K := by
    have z := T.g_law
    rw [hmg] at z
    cases z
    rfl
  subst e
  exact ⟨K, fdL, KX, fun s u => FL.bindsA (ps := ["_law_script"]) (fun _ _ _ _ _ _ us hl => match us, hl with | [_], _ => rfl) s [u] rfl, fun base => LW.ok_law T FL⟩
