import PyProof.Rows.All
import Wide.All
import OpenK.AllK
import Wide.FinOn
import KE.KStateDown
import Lean
import HandS.Base
import HandS.Call
import HandS.List
import HandS.Comp
import HandS.Dict
import HandS.Exc
import HandS.ExcOwn
import HandS.Words
import HandS.Defaults
import HandS.Evl
import HandS.HeadHook1
import HandS.Lambda
import HandS.TupAny
import HandS.Wide
import HandS.TupLe
import HandS.TupMul
import KE.DataEq
import HandS.CallSlots
import HandS.TryMany
import HandS.Iter
import HandS.Zip
import KE.GoesEnum
import KE.GoesZip
import KE.GoesMore
import HandS.More
import HandS.Codes
import HandS.Small
import HandS.Deep
import HandS.SetFor
import HandS.SortInts
import HandS.Remove
import KE.KIndexOf
import HandS.IsInst
import HandS.Conv
import HandS.Steps
import KE.DataMinMax
import PyProof.Rows.SortShellAny
import KE.SortData
import HandS.Ends
import HandS.WordsExc
import HandS.Head0
import HandS.Head1
import HandS.Head2
import HandS.HeadEnd
import HandS.HeadHook2
import KE.KRevSl
import HandS.Style
import HandS.RaiseMore
import HandS.ExcInit
import KE.KExcInit
import KE.KTryMore
import HandS.ExcIs
import KE.KExcIs
import HandS.ExcField
import HandS.Finally
import OpenK.KOps
import HandS.FStr
import HandS.TryOnly
import HandS.Strs
import HandS.TupSets
import HandS.SetBool
import PyProof.Rows.IntBool
import HandS.EndTab
import HandS.HeadWalk
import PySem.Challenge.RW_afterlist_k07_reasons_shown_or_not
set_option Elab.async false
set_option linter.all false
set_option maxRecDepth 100000
set_option maxHeartbeats 4000000
namespace Vz
open PySem PySem.Spec PyProof.Rows L2
/-- what is known of a tuple's object: nothing more; it may be a dict's key; it has no dict of its own -/
inductive Fl where
  | any | key | nod
  deriving DecidableEq
inductive D where
  | none | bool (b : Bool) | int (i : Int) | str (x : Str)
  | list (xs : List D) | tup (f : Fl) (xs : List D)
  | dT (ps : List (List Key × D)) | dK (ps : List (Key × D))
abbrev D.t (xs : List D) : D := .tup .nod xs
/-- a tuple that has no dict of its own -/
def TN (K : PySem.W.Frag) (F : Hp) (a : Addr) (vs : List V) : Prop := (∃ o, F a = some (.frz o (.tup vs)) ∧ o.dict = none) ∨
  ∃ (o : Obj) (its : Array Value) (n : Nat), K.lookup a = some o ∧ o.cls = .type "tuple" ∧ o.dict = none ∧ o.data = .seq its n ∧ its.size ≤ sizeLine ∧ Vals vs its.toList
def TF (K : PySem.W.Frag) (F : Hp) (f : Fl) (a : Addr) (vs : List V) : Prop := match f with
  | .any => SqT K F a vs
  | .key => F a = some (.tup vs)
  | .nod => TN K F a vs
theorem TN.sq {K : PySem.W.Frag} {F : Hp} {a : Addr} {vs : List V} (h : TN K F a vs) : SqT K F a vs := by
  rcases h with ⟨o, h, _⟩ | ⟨o, its, n, h1, h2, _, h3⟩
  · exact .inl (.inr ⟨o, h⟩)
  · exact .inr ⟨o, its, n, h1, h2, h3⟩
theorem TF.sq {K : PySem.W.Frag} {F : Hp} {f : Fl} {a : Addr} {vs : List V} (h : TF K F f a vs) : SqT K F a vs := by
  cases f with
  | any => exact h
  | key => exact .of h
  | nod => exact TN.sq h
theorem TF.mono {K : PySem.W.Frag} {F F' : Hp} {f : Fl} {a : Addr} {vs : List V} (e : Evl.Ex F F') (h : TF K F f a vs) : TF K F' f a vs := by
  cases f with
  | any => exact Evl.ex_t e h
  | key => exact e _ _ h
  | nod =>
    rcases h with ⟨o, h, d⟩ | h
    · exact .inl ⟨o, e _ _ h, d⟩
    · exact .inr h

mutual
inductive Rep (K : PySem.W.Frag) (F : Hp) : D → V → Prop
  | non : Rep K F .none .non
  | bl (b : Bool) : Rep K F (.bool b) (.bl b)
  | int (i : Int) : Rep K F (.int i) (.int i)
  | str (x : Str) : Rep K F (.str x) (.str x)
  | lst {a : Addr} {vs : List V} {xs : List D} : F a = some (.lst vs) → Reps K F xs vs → Rep K F (.list xs) (.ref a)
  | tup {f : Fl} {a : Addr} {vs : List V} {xs : List D} : TF K F f a vs → Reps K F xs vs → Rep K F (.tup f xs) (.ref a)
  | dT {a : Addr} {ks : List (List Key × V)} {ps : List (List Key × D)} : F a = some (.dT ks) → RepT K F ps ks → Rep K F (.dT ps) (.ref a)
  | dK {a : Addr} {ks : List (Key × V)} {ps : List (Key × D)} : F a = some (.dK ks) → RepK K F ps ks → Rep K F (.dK ps) (.ref a)
inductive Reps (K : PySem.W.Frag) (F : Hp) : List D → List V → Prop
  | nil : Reps K F [] []
  | cons {d : D} {ds : List D} {v : V} {vs : List V} : Rep K F d v → Reps K F ds vs → Reps K F (d :: ds) (v :: vs)
inductive RepT (K : PySem.W.Frag) (F : Hp) : List (List Key × D) → List (List Key × V) → Prop
  | nil : RepT K F [] []
  | cons {d : D} {ps : List (List Key × D)} {k : List Key} {v : V} {ks : List (List Key × V)} : Rep K F d v → RepT K F ps ks → RepT K F ((k, d) :: ps) ((k, v) :: ks)
inductive RepK (K : PySem.W.Frag) (F : Hp) : List (Key × D) → List (Key × V) → Prop
  | nil : RepK K F [] []
  | cons {d : D} {ps : List (Key × D)} {k : Key} {v : V} {ks : List (Key × V)} : Rep K F d v → RepK K F ps ks → RepK K F ((k, d) :: ps) ((k, v) :: ks)
end

abbrev Ex := Evl.Ex
section
variable {K : PySem.W.Frag} {F F' H : Hp}
theorem sql_mono {a : Addr} {vs : List V} (e : Ex F F') (h : SqL K F a vs) : SqL K F' a vs := Evl.ex_l e h
theorem sqt_mono {a : Addr} {vs : List V} (e : Ex F F') (h : SqT K F a vs) : SqT K F' a vs := Evl.ex_t e h
mutual
theorem Rep.mono (e : Ex F F') : ∀ {d : D} {v : V}, Rep K F d v → Rep K F' d v
  | _, _, .non => .non
  | _, _, .bl b => .bl b
  | _, _, .int i => .int i
  | _, _, .str x => .str x
  | _, _, .lst h r => .lst (e _ _ h) (Reps.mono e r)
  | _, _, .tup h r => .tup (h.mono e) (Reps.mono e r)
  | _, _, .dT h r => .dT (e _ _ h) (RepT.mono e r)
  | _, _, .dK h r => .dK (e _ _ h) (RepK.mono e r)
theorem Reps.mono (e : Ex F F') : ∀ {d : List D} {v : List V}, Reps K F d v → Reps K F' d v
  | _, _, .nil => .nil
  | _, _, .cons h r => .cons (Rep.mono e h) (Reps.mono e r)
theorem RepT.mono (e : Ex F F') : ∀ {d : List (List Key × D)} {v : List (List Key × V)}, RepT K F d v → RepT K F' d v
  | _, _, .nil => .nil
  | _, _, .cons h r => .cons (Rep.mono e h) (RepT.mono e r)
theorem RepK.mono (e : Ex F F') : ∀ {d : List (Key × D)} {v : List (Key × V)}, RepK K F d v → RepK K F' d v
  | _, _, .nil => .nil
  | _, _, .cons h r => .cons (Rep.mono e h) (RepK.mono e r)
end
theorem Reps.length : ∀ {ds : List D} {vs : List V}, Reps K F ds vs → ds.length = vs.length
  | _, _, .nil => rfl
  | _, _, .cons _ r => congrArg Nat.succ (Reps.length r)
theorem Reps.append : ∀ {ds es : List D} {vs ws : List V}, Reps K F ds vs → Reps K F es ws → Reps K F (ds ++ es) (vs ++ ws)
  | _, _, _, _, .nil, r => r
  | _, _, _, _, .cons h r, q => .cons h (Reps.append r q)
theorem Reps.take : ∀ {ds : List D} {vs : List V} (n : Nat), Reps K F ds vs → Reps K F (ds.take n) (vs.take n)
  | _, _, 0, _ => .nil
  | _, _, _ + 1, .nil => .nil
  | _, _, n + 1, .cons h r => .cons h (Reps.take n r)
theorem Reps.drop : ∀ {ds : List D} {vs : List V} (n : Nat), Reps K F ds vs → Reps K F (ds.drop n) (vs.drop n)
  | _, _, 0, r => r
  | _, _, _ + 1, .nil => .nil
  | _, _, n + 1, .cons _ r => Reps.drop n r
theorem Reps.set {d : D} {v : V} (h : Rep K F d v) : ∀ {ds : List D} {vs : List V} (i : Nat), Reps K F ds vs → Reps K F (ds.set i d) (vs.set i v)
  | _, _, _, .nil => .nil
  | _, _, 0, .cons _ r => .cons h r
  | _, _, i + 1, .cons g r => .cons g (Reps.set h i r)
theorem Reps.eraseIdx : ∀ {ds : List D} {vs : List V} (i : Nat), Reps K F ds vs → Reps K F (ds.eraseIdx i) (vs.eraseIdx i)
  | _, _, _, .nil => .nil
  | _, _, 0, .cons _ r => r
  | _, _, i + 1, .cons g r => .cons g (Reps.eraseIdx i r)
theorem Reps.reverse : ∀ {ds : List D} {vs : List V}, Reps K F ds vs → Reps K F ds.reverse vs.reverse
  | _, _, .nil => .nil
  | _, _, .cons g r => by
    rw [List.reverse_cons, List.reverse_cons]
    exact Reps.append (Reps.reverse r) (.cons g .nil)
theorem Reps.get : ∀ {ds : List D} {vs : List V} {i : Nat} {d : D}, Reps K F ds vs → ds[i]? = some d → ∃ v, vs[i]? = some v ∧ Rep K F d v
  | _, _, _, _, .nil, e => by simp at e
  | _, _, 0, _, .cons h _, e => by
    simp at e
    subst e
    exact ⟨_, rfl, h⟩
  | _, _, i + 1, d, .cons _ r, e => by
    obtain ⟨v, h1, h2⟩ := Reps.get (i := i) (d := d) r (by simpa using e)
    exact ⟨v, by simpa using h1, h2⟩
theorem Reps.one {d : D} {vs : List V} (r : Reps K F [d] vs) : ∃ v, vs = [v] ∧ Rep K F d v := by
  cases r with
  | cons h r => cases r; exact ⟨_, rfl, h⟩
theorem Reps.two {d e : D} {vs : List V} (r : Reps K F [d, e] vs) : ∃ v w, vs = [v, w] ∧ Rep K F d v ∧ Rep K F e w := by
  cases r with
  | cons h r =>
    obtain ⟨w, rfl, h2⟩ := r.one
    exact ⟨_, _, rfl, h, h2⟩
/-- simple data: the value itself -/
def flatD : D → Option V
  | .none => some .non
  | .bool b => some (.bl b)
  | .int i => some (.int i)
  | .str x => some (.str x)
  | _ => none
theorem Rep.flat {d : D} {v u : V} (h : Rep K F d v) (e : flatD d = some u) : v = u := by
  cases h with
  | non => exact Option.some.inj e
  | bl b => exact Option.some.inj e
  | int i => exact Option.some.inj e
  | str x => exact Option.some.inj e
  | lst _ _ => exact nomatch e
  | tup _ _ => exact nomatch e
  | dT _ _ => exact nomatch e
  | dK _ _ => exact nomatch e
theorem Rep.of_flat {d : D} {u : V} (e : flatD d = some u) : Rep K F d u := by
  cases d with
  | none => cases Option.some.inj e; exact .non
  | bool b => cases Option.some.inj e; exact .bl b
  | int i => cases Option.some.inj e; exact .int i
  | str x => cases Option.some.inj e; exact .str x
  | _ => exact nomatch e
theorem Reps.ints : ∀ {ns : List Int} {vs : List V}, Reps K F (ns.map D.int) vs → vs = ns.map V.int
  | [], _, h => by cases h; rfl
  | n :: ns, _, h => by
    cases h with
    | cons h r =>
      cases h
      rw [Reps.ints r]; rfl
end

/-- an exception as a value: its class by name, its fields -/
structure Exn where
  cls : Str
  fs : List (Str × D)
/-- data; a cell (place 0: itself; place i + 1: an object that it owns); the script -/
inductive W where
  | dat (d : D)
  | loc (k j : Nat)
  | scr (ns : List Int)
  | exn (x : Exn)
/-- what stands in a cell: a list that is written, one that is so no more, a dict (its keys tuples; numbers, texts), a list of lists, an instance with lists as fields -/
inductive C where
  | lst (xs : List D)
  | frz (d : D)
  | dT (ps : List (List Key × D))
  | dK (ps : List (Key × D))
  | ll (xss : List (List D))
  | ins (cl : Str) (fs : List (Str × List D))
abbrev Sto := List C
abbrev Rho := List (Option W)

/-- the context's tables: an own class's address by its name -/
structure Tb where
  cls : Str → Option Addr
  /-- what besides stands still -/
  G : Hp
  /-- tables of code objects, with the names of what they hold -/
  tabs : List (Addr × Str)
def Tb.g (T : Tb) (G : Hp) : Tb := { T with G := G }

def COk (T : Tb) (K : PySem.W.Frag) (F H : Hp) (as : List Addr) : C → Prop
  | .lst xs => ∃ a vs, as = [a] ∧ F a = none ∧ H a = some (.lst vs) ∧ Reps K F xs vs
  | .frz d => ∃ a r, as = a :: r ∧ Rep K F d (.ref a)
  | .dT ps => ∃ a ks, as = [a] ∧ F a = none ∧ H a = some (.dT ks) ∧ RepT K F ps ks
  | .dK ps => ∃ a ks, as = [a] ∧ F a = none ∧ H a = some (.dK ks) ∧ RepK K F ps ks
  | .ll xss => ∃ a bs, as = a :: bs ∧ F a = none ∧ H a = some (.lst (bs.map V.ref)) ∧ Paired (fun xs b => F b = none ∧ ∃ vs, H b = some (.lst vs) ∧ Reps K F xs vs) xss bs
  | .ins cl fs => ∃ a dx bs ca, as = a :: dx :: bs ∧ T.cls cl = some ca ∧ F a = none ∧ F dx = none ∧ H dx = some (.own a) ∧ H a = some (.ins ca dx ((fs.map (·.1)).zip (bs.map V.ref))) ∧
      Paired (fun (p : Str × List D) b => F b = none ∧ ∃ vs, H b = some (.lst vs) ∧ Reps K F p.2 vs) fs bs

/-- the tables: no one else's, with code objects that are known -/
structure TabOk (T : Tb) (F : Hp) (A : List (List Addr)) (H : Hp) : Prop where
  tabs : LamX.Tabs T.tabs H
  f : ∀ p ∈ T.tabs, F p.1 = none
  g : ∀ p ∈ T.tabs, T.G p.1 = none
  a : ∀ p ∈ T.tabs, p.1 ∉ A.flatten
  nf : ∀ b ps, F b ≠ some (.tbl ps)
  ng : ∀ b ps, T.G b ≠ some (.tbl ps)
  na : ∀ b ∈ A.flatten, ∀ ps, H b ≠ some (.tbl ps)
section
variable {T T' : Tb} {F F' H H' : Hp} {A A' : List (List Addr)}
theorem TabOk.n1 (h : TabOk T F A H) {p : Addr × Str} (hp : p ∈ T.tabs) {b : Addr} (hb : H b = none) : p.1 ≠ b := fun z => by
  obtain ⟨ps, h1, _⟩ := h.tabs p hp
  rw [z, hb] at h1
  cases h1
theorem TabOk.n2 (h : TabOk T F A H) {p : Addr × Str} (hp : p ∈ T.tabs) {b : Addr} {o : HO} (hb : H b = some o) (ho : ∀ ps, o ≠ .tbl ps) : p.1 ≠ b := fun z => by
  obtain ⟨ps, h1, _⟩ := h.tabs p hp
  rw [z, hb] at h1
  exact ho ps (Option.some.inj h1)
theorem TabOk.n3 (h : TabOk T F A H) {p : Addr × Str} (hp : p ∈ T.tabs) {b : Addr} (hb : b ∈ A.flatten) : p.1 ≠ b := fun z => h.a p hp (by rw [z]; exact hb)
/-- a plain object is written -/
theorem tabs_upd {Ts : List (Addr × Str)} {b : Addr} {o o0 : HO} (t : LamX.Tabs Ts H) (hb : H b = some o0) (h1 : ∀ ps, o0 ≠ .tbl ps) (h2 : ∀ φ, o0 ≠ .ext φ) : LamX.Tabs Ts (upd H b o) := fun p hp => by
  obtain ⟨ps, q1, q2, q3⟩ := t p hp
  refine ⟨ps, by rw [upd_ne]; exact q1; exact fun z => by rw [z, hb] at q1; exact h1 _ (Option.some.inj q1), q2, fun pos cv hc => ?_⟩
  obtain ⟨c, e1, e2⟩ := q3 pos cv hc
  refine ⟨c, e1, ?_⟩
  rw [upd_ne]
  · exact e2
  · intro z
    rw [z, hb] at e2
    unfold LamX.CodeO at e2
    exact h2 _ (Option.some.inj e2)
/-- nothing new but things that are no tables -/
theorem TabOk.ext (h : TabOk T F A H) (e : Evl.Ex H H') (th : ∀ a ∈ A.flatten, (H a).isSome) (hf : ∀ p ∈ T.tabs, F' p.1 = none) (nf : ∀ b ps, F' b ≠ some (.tbl ps)) : TabOk T F' A H' where
  tabs := LamX.Tabs.ext h.tabs e
  f := hf
  g := h.g
  a := h.a
  nf := nf
  ng := h.ng
  na := fun b hb ps z => by
    cases q : H b with
    | none =>
      have := th b hb
      rw [q] at this
      cases this
    | some o =>
      rw [e b o q] at z
      cases z
      exact h.na b hb ps q
end
/-- the world -/
structure Wd (T : Tb) (K : PySem.W.Frag) (F : Hp) (A : List (List Addr)) (S : Sto) (H : Hp) : Prop where
  sub : Ex F H
  len : A.length = S.length
  ok : ∀ (k : Nat) as c, A[k]? = some as → S[k]? = some c → COk T K F H as c
  nod : A.flatten.Nodup
  there : ∀ a ∈ A.flatten, (H a).isSome
  gh : Ex T.G H
  gd : ∀ a ∈ A.flatten, T.G a = none
  fg : ∀ a o, F a = some o → T.G a = none
  tb : TabOk T F A H

/-- an exception that is held at a: its class, its dict -/
def exnHO (a ca : Addr) (d : Option Addr) : HO := .ext fun h => ∃ (oe : Obj) (us : Array Value), h.get? a = some oe ∧ oe.cls = .ref ca ∧ oe.dict = d ∧ oe.data = .fields us
def ExnAt (K : PySem.W.Frag) (F : Hp) (x : Exn) (a : Addr) : Prop := ∃ d, F a = some (exnHO a (He.ga K x.cls) d) ∧ ((x.fs = [] ∧ d = none) ∨ ∃ dd vfs, d = some dd ∧ F dd = some (.xd vfs) ∧ Paired (fun (p : Str × D) (q : Str × V) => p.1 = q.1 ∧ Rep K F p.2 q.2) x.fs vfs)
theorem ExnAt.mono {K : PySem.W.Frag} {F F' : Hp} {x : Exn} {a : Addr} (e : Ex F F') (h : ExnAt K F x a) : ExnAt K F' x a := by
  obtain ⟨d, h1, h2⟩ := h
  refine ⟨d, e _ _ h1, ?_⟩
  rcases h2 with h2 | ⟨dd, vfs, h3, h4, h5⟩
  · exact .inl h2
  · exact .inr ⟨dd, vfs, h3, e _ _ h4, Paired.mapP h5 fun _ _ q => ⟨q.1, q.2.mono e⟩⟩
def RepW (K : PySem.W.Frag) (F : Hp) (A : List (List Addr)) : W → V → Prop
  | .dat d, v => Rep K F d v
  | .loc k j, v => ∃ as a, A[k]? = some as ∧ as[j]? = some a ∧ v = .ref a
  | .scr ns, v => ∃ a, v = .ref a ∧ SqL K F a (ns.map V.int)
  | .exn x, v => ∃ a, v = .ref a ∧ ExnAt K F x a
/-- the addresses that stood stand -/
def Pre (A A' : List (List Addr)) : Prop := ∀ (k : Nat) as, A[k]? = some as → A'[k]? = some as
theorem Pre.refl (A : List (List Addr)) : Pre A A := fun _ _ h => h
theorem Pre.trans {A B C : List (List Addr)} (a : Pre A B) (b : Pre B C) : Pre A C := fun k as h => b k as (a k as h)
theorem Pre.push (A : List (List Addr)) (x : List Addr) : Pre A (A ++ [x]) := fun k as h => by
  rw [List.getElem?_append_left (List.getElem?_eq_some_iff.mp h).1]; exact h
theorem RepW.mono {K : PySem.W.Frag} {F F' : Hp} {A A' : List (List Addr)} {w : W} {v : V} (e : Ex F F') (p : Pre A A') (h : RepW K F A w v) : RepW K F' A' w v := by
  cases w with
  | dat d => exact Rep.mono e h
  | loc k j =>
    obtain ⟨as, a, h1, h2, h3⟩ := h
    exact ⟨as, a, p _ _ h1, h2, h3⟩
  | scr ns =>
    obtain ⟨a, h1, h2⟩ := h
    exact ⟨a, h1, sql_mono e h2⟩
  | exn x =>
    obtain ⟨a, h1, h2⟩ := h
    exact ⟨a, h1, h2.mono e⟩
def RepWs (K : PySem.W.Frag) (F : Hp) (A : List (List Addr)) : List W → List V → Prop := Paired (RepW K F A)
theorem RepWs.mono {K : PySem.W.Frag} {F F' : Hp} {A A' : List (List Addr)} {ws : List W} {vs : List V} (e : Ex F F') (p : Pre A A') (h : RepWs K F A ws vs) : RepWs K F' A' ws vs :=
  Paired.mapP h fun _ _ x => x.mono e p
/-- the slots -/
structure Sl (K : PySem.W.Frag) (F : Hp) (A : List (List Addr)) (ρ : Rho) (σ : L2.St) : Prop where
  len : ρ.length = σ.length
  at_ : ∀ (i : Nat) w, ρ[i]? = some (some w) → ∃ v, σ[i]? = some (some v) ∧ RepW K F A w v
theorem Sl.mono {K : PySem.W.Frag} {F F' : Hp} {A A' : List (List Addr)} {ρ : Rho} {σ : L2.St} (e : Ex F F') (p : Pre A A') (h : Sl K F A ρ σ) : Sl K F' A' ρ σ :=
  ⟨h.len, fun i w q => let ⟨v, h1, h2⟩ := h.at_ i w q; ⟨v, h1, h2.mono e p⟩⟩
theorem Sl.set {K : PySem.W.Frag} {F : Hp} {A : List (List Addr)} {ρ : Rho} {σ : L2.St} {w : W} {v : V} (h : Sl K F A ρ σ) (i : Nat) (r : RepW K F A w v) : Sl K F A (ρ.set i (some w)) (σ.set i (some v)) := by
  refine ⟨by rw [List.length_set, List.length_set]; exact h.len, fun j w' q => ?_⟩
  by_cases hj : i = j
  · subst hj
    have hi : i < ρ.length := by
      have q' := (List.getElem?_eq_some_iff.mp q).1
      rwa [List.length_set] at q'
    rw [List.getElem?_set_self hi] at q
    cases q
    exact ⟨v, by rw [List.getElem?_set_self (by rw [← h.len]; exact hi)], r⟩
  · rw [List.getElem?_set_ne hj] at q
    obtain ⟨v', h1, h2⟩ := h.at_ j w' q
    exact ⟨v', by rw [List.getElem?_set_ne hj]; exact h1, h2⟩

inductive R (α : Type) where
  | ok (a : α) (S : Sto)
  | exc (x : Exn) (S : Sto)
  | bad
def R.bind {α β : Type} (r : R α) (k : α → Sto → R β) : R β := match r with
  | .ok a S => k a S
  | .exc x S => .exc x S
  | .bad => .bad
inductive Out where
  | nx (ρ : Rho) (S : Sto)
  | rt (w : W) (S : Sto)
  | bk (ρ : Rho) (S : Sto)
  | ct (ρ : Rho) (S : Sto)
  | exc (x : Exn) (ρ : Rho) (S : Sto)
  | bad
end Vz
namespace Vz
open PySem PySem.Spec PyProof.Rows L2

def rd (S : Sto) : W → Option D
  | .dat d => some d
  | .scr _ => none
  | .exn _ => none
  | .loc k 0 => match S[k]? with
    | some (.lst xs) => some (.list xs)
    | some (.frz d) => some d
    | some (.dT ps) => some (.dT ps)
    | some (.dK ps) => some (.dK ps)
    | _ => none
  | .loc k (j + 1) => match S[k]? with
    | some (.ll xss) => (xss[j]?).map D.list
    | some (.ins _ fs) => (match j with
      | 0 => none
      | i + 1 => (fs[i]?).map fun p => D.list p.2)
    | _ => none
/-- data whose top is read off H, what lies within off F -/
inductive RepU (K : PySem.W.Frag) (F H : Hp) : D → V → Prop
  | flat {d : D} {v : V} : flatD d = some v → RepU K F H d v
  | lst {a : Addr} {vs : List V} {xs : List D} : H a = some (.lst vs) → Reps K F xs vs → RepU K F H (.list xs) (.ref a)
  | tup {f : Fl} {a : Addr} {vs : List V} {xs : List D} : TF K F f a vs → SqT K H a vs → Reps K F xs vs → RepU K F H (.tup f xs) (.ref a)
  | dT {a : Addr} {ks : List (List Key × V)} {ps : List (List Key × D)} : H a = some (.dT ks) → RepT K F ps ks → RepU K F H (.dT ps) (.ref a)
  | dK {a : Addr} {ks : List (Key × V)} {ps : List (Key × D)} : H a = some (.dK ks) → RepK K F ps ks → RepU K F H (.dK ps) (.ref a)
theorem prd_get {α β : Type} {G : α → β → Prop} : ∀ {xs : List α} {ys : List β} {i : Nat} {x : α}, Paired G xs ys → xs[i]? = some x → ∃ y, ys[i]? = some y ∧ G x y
  | _, _, _, _, .nil, e => by simp at e
  | _, _, 0, _, .cons h _, e => by
    simp at e
    subst e
    exact ⟨_, rfl, h⟩
  | _, _, i + 1, x, .cons _ r, e => by
    obtain ⟨y, h1, h2⟩ := prd_get (i := i) (x := x) r (by simpa using e)
    exact ⟨y, by simpa using h1, h2⟩
section
variable {T : Tb} {K : PySem.W.Frag} {F H : Hp} {A : List (List Addr)} {S : Sto} {w : W} {v : V} {d : D}
theorem Rep.u (e : Ex F H) (r : Rep K F d v) : RepU K F H d v := by
  cases r with
  | non => exact .flat rfl
  | bl b => exact .flat rfl
  | int i => exact .flat rfl
  | str x => exact .flat rfl
  | lst h r => exact .lst (e _ _ h) r
  | tup h r => exact .tup h (sqt_mono e h.sq) r
  | dT h r => exact .dT (e _ _ h) r
  | dK h r => exact .dK (e _ _ h) r
theorem RepU.rep (e : Ex F H) (r : RepU K F H d v) : Rep K H d v := by
  cases r with
  | flat h => exact .of_flat h
  | lst h r => exact .lst h (r.mono e)
  | tup h _ r => exact .tup (h.mono e) (r.mono e)
  | dT h r => exact .dT h (r.mono e)
  | dK h r => exact .dK h (r.mono e)
theorem rd_rep (hw : Wd T K F A S H) (r : RepW K F A w v) (e : rd S w = some d) : RepU K F H d v := by
  cases w with
  | dat d' =>
    cases Option.some.inj e
    exact Rep.u hw.sub r
  | scr ns => exact nomatch e
  | exn x => exact nomatch e
  | loc k j =>
    obtain ⟨as, a, h1, h2, rfl⟩ := r
    cases j with
    | zero =>
      cases q : S[k]? with
      | none => simp only [rd, q] at e; exact nomatch e
      | some c =>
        have c1 := hw.ok k as c h1 q
        simp only [rd, q] at e
        cases c with
        | lst xs =>
          cases Option.some.inj e
          obtain ⟨b, vs, rfl, _, hb, hr⟩ := c1
          cases Option.some.inj h2
          exact .lst hb hr
        | frz d' =>
          cases Option.some.inj e
          obtain ⟨b, r, rfl, hr⟩ := c1
          cases Option.some.inj h2
          exact hr.u hw.sub
        | dT ps =>
          cases Option.some.inj e
          obtain ⟨b, ks, rfl, _, hb, hr⟩ := c1
          cases Option.some.inj h2
          exact .dT hb hr
        | dK ps =>
          cases Option.some.inj e
          obtain ⟨b, ks, rfl, _, hb, hr⟩ := c1
          cases Option.some.inj h2
          exact .dK hb hr
        | ll xss => exact nomatch e
        | ins cl fs => exact nomatch e
    | succ j =>
      cases q : S[k]? with
      | none => simp only [rd, q] at e; exact nomatch e
      | some c =>
        have c1 := hw.ok k as c h1 q
        simp only [rd, q] at e
        cases c with
        | lst xs => exact nomatch e
        | frz d' => exact nomatch e
        | dT ps => exact nomatch e
        | dK ps => exact nomatch e
        | ll xss =>
          obtain ⟨b, bs, rfl, _, _, hr⟩ := c1
          cases q2 : xss[j]? with
          | none => simp only [q2] at e; exact nomatch e
          | some xs =>
            simp only [q2] at e
            cases Option.some.inj e
            obtain ⟨b', hb1, _, vs, hb2, hr2⟩ := prd_get hr q2
            have : a = b' := by
              rw [List.getElem?_cons_succ, hb1] at h2
              exact (Option.some.inj h2).symm
            subst this
            exact .lst hb2 hr2
        | ins cl fs =>
          obtain ⟨b, dx, bs, ca, rfl, _, _, _, _, _, hr⟩ := c1
          cases j with
          | zero => exact nomatch e
          | succ i =>
            cases q2 : fs[i]? with
            | none => simp only [q2] at e; exact nomatch e
            | some p =>
              simp only [q2] at e
              cases Option.some.inj e
              obtain ⟨b', hb1, _, vs, hb2, hr2⟩ := prd_get hr q2
              have : a = b' := by
                rw [List.getElem?_cons_succ, List.getElem?_cons_succ, hb1] at h2
                exact (Option.some.inj h2).symm
              subst this
              exact .lst hb2 hr2

theorem COk.more {F' H' : Hp} {as : List Addr} {c : C} (h : COk T K F H as c) (e : Ex F F') (k : ∀ a ∈ as, F a = none → F' a = none) (g : ∀ a ∈ as, F a = none → H' a = H a) : COk T K F' H' as c := by
  cases c with
  | lst xs =>
    obtain ⟨a, vs, rfl, h1, h2, h3⟩ := h
    exact ⟨a, vs, rfl, k a (by simp) h1, by rw [g a (by simp) h1]; exact h2, h3.mono e⟩
  | frz d =>
    obtain ⟨a, r, rfl, h1⟩ := h
    exact ⟨a, r, rfl, h1.mono e⟩
  | dT ps =>
    obtain ⟨a, vs, rfl, h1, h2, h3⟩ := h
    exact ⟨a, vs, rfl, k a (by simp) h1, by rw [g a (by simp) h1]; exact h2, h3.mono e⟩
  | dK ps =>
    obtain ⟨a, vs, rfl, h1, h2, h3⟩ := h
    exact ⟨a, vs, rfl, k a (by simp) h1, by rw [g a (by simp) h1]; exact h2, h3.mono e⟩
  | ll xss =>
    obtain ⟨a, bs, rfl, h1, h2, h3⟩ := h
    refine ⟨a, bs, rfl, k a (by simp) h1, by rw [g a (by simp) h1]; exact h2, ?_⟩
    have k' : ∀ b ∈ bs, F b = none → F' b = none := fun b hb => k b (List.mem_cons_of_mem _ hb)
    have g' : ∀ b ∈ bs, F b = none → H' b = H b := fun b hb => g b (List.mem_cons_of_mem _ hb)
    clear h2 k g
    induction h3 with
    | nil => exact .nil
    | cons q _ ih =>
      obtain ⟨q1, vs, q2, q3⟩ := q
      exact .cons ⟨k' _ (by simp) q1, vs, by rw [g' _ (by simp) q1]; exact q2, q3.mono e⟩ (ih (fun b hb => k' b (List.mem_cons_of_mem _ hb)) fun b hb => g' b (List.mem_cons_of_mem _ hb))
  | ins cl fs =>
    obtain ⟨a, dx, bs, ca, rfl, h0, h1, h2, h3, h4, h5⟩ := h
    refine ⟨a, dx, bs, ca, rfl, h0, k a (by simp) h1, k dx (by simp) h2, by rw [g dx (by simp) h2]; exact h3, by rw [g a (by simp) h1]; exact h4, ?_⟩
    have k' : ∀ b ∈ bs, F b = none → F' b = none := fun b hb => k b (List.mem_cons_of_mem _ (List.mem_cons_of_mem _ hb))
    have g' : ∀ b ∈ bs, F b = none → H' b = H b := fun b hb => g b (List.mem_cons_of_mem _ (List.mem_cons_of_mem _ hb))
    clear h4 k g
    induction h5 with
    | nil => exact .nil
    | cons q _ ih =>
      obtain ⟨q1, vs, q2, q3⟩ := q
      exact .cons ⟨k' _ (by simp) q1, vs, by rw [g' _ (by simp) q1]; exact q2, q3.mono e⟩ (ih (fun b hb => k' b (List.mem_cons_of_mem _ hb)) fun b hb => g' b (List.mem_cons_of_mem _ hb))
theorem mem_flat {A : List (List Addr)} {k : Nat} {as : List Addr} {a : Addr} (h : A[k]? = some as) (m : a ∈ as) : a ∈ A.flatten :=
  List.mem_flatten.mpr ⟨as, List.mem_of_getElem? h, m⟩
/-- a new thing, frozen at once -/
theorem Wd.new (hw : Wd T K F A S H) {p : Addr} (hp : H p = none) (o : HO) (ho : ∀ ps, o ≠ .tbl ps := by intro ps z; cases z) : Wd T K (upd F p o) A S (upd H p o) := by
  have hF : F p = none := Evl.fresh_back hw.sub hp
  have eF : Ex F (upd F p o) := Evl.Ex.new hF
  have ne : ∀ a ∈ A.flatten, a ≠ p := fun a ha z => by
    subst z
    have := hw.there a ha
    rw [hp] at this
    cases this
  refine ⟨fun a u e => ?_, hw.len, fun k as c h1 h2 => (hw.ok k as c h1 h2).more eF (fun a ha e => ?_) (fun a ha _ => ?_), hw.nod, fun a ha => ?_, ?_, hw.gd, fun a u e => ?_, hw.tb.ext (Evl.Ex.new hp) hw.there (fun q hq => by rw [upd_ne (hw.tb.n1 hq hp)]; exact hw.tb.f q hq) fun b ps z => ?_⟩
  rotate_right
  · by_cases e : b = p
    · subst e
      rw [upd_same] at z
      exact ho ps (Option.some.inj z)
    · rw [upd_ne e] at z
      exact hw.tb.nf b ps z
  · by_cases z : a = p
    · subst z
      rw [upd_same] at e ⊢
      exact e
    · rw [upd_ne z] at e ⊢
      exact hw.sub a u e
  · rw [upd_ne (ne a (mem_flat h1 ha))]
    exact e
  · rw [upd_ne (ne a (mem_flat h1 ha))]
  · rw [upd_ne (ne a ha)]
    exact hw.there a ha
  · exact hw.gh.trans (Evl.Ex.new hp)
  · by_cases z : a = p
    · subst z
      exact Evl.fresh_back hw.gh hp
    · rw [upd_ne z] at e
      exact hw.fg a u e
theorem Wd.freshF (hw : Wd T K F A S H) {p : Addr} (hp : H p = none) : F p = none := Evl.fresh_back hw.sub hp
theorem Wd.exNew (hw : Wd T K F A S H) {p : Addr} (hp : H p = none) (o : HO) : Ex F (upd F p o) := Evl.Ex.new (hw.freshF hp)
/-- a new thing that no one holds by the world -/
theorem Wd.junk (hw : Wd T K F A S H) {p : Addr} (hp : H p = none) (o : HO) : Wd T K F A S (upd H p o) := by
  have ne : ∀ a ∈ A.flatten, a ≠ p := fun a ha z => by
    subst z
    have := hw.there a ha
    rw [hp] at this
    cases this
  refine ⟨hw.sub.trans (Evl.Ex.new hp), hw.len, fun k as c h1 h2 => (hw.ok k as c h1 h2).more (Evl.Ex.refl F) (fun a ha e => e) (fun a ha _ => ?_), hw.nod, fun a ha => ?_, hw.gh.trans (Evl.Ex.new hp), hw.gd, hw.fg, hw.tb.ext (Evl.Ex.new hp) hw.there hw.tb.f hw.tb.nf⟩
  · rw [upd_ne (ne a (mem_flat h1 ha))]
  · rw [upd_ne (ne a ha)]
    exact hw.there a ha
/-- a new cell of one object -/
theorem Wd.push (hw : Wd T K F A S H) {p : Addr} (hp : H p = none) (o : HO) {c : C} (hc : COk T K F (upd H p o) [p] c) (ho : ∀ ps, o ≠ .tbl ps := by intro ps z; cases z) : Wd T K F (A ++ [[p]]) (S ++ [c]) (upd H p o) := by
  have w := hw.junk hp o
  have hn : p ∉ A.flatten := fun z => by
    have := hw.there p z
    rw [hp] at this
    cases this
  refine ⟨w.sub, by rw [List.length_append, List.length_append, hw.len]; rfl, fun k as c' h1 h2 => ?_, ?_, fun a ha => ?_, w.gh, fun a ha => ?_, hw.fg, ⟨w.tb.tabs, w.tb.f, w.tb.g, fun q hq m => by
    rw [List.flatten_append, List.flatten_singleton] at m
    rcases List.mem_append.mp m with m | m
    · exact w.tb.a q hq m
    · exact hw.tb.n1 hq hp (List.mem_singleton.mp m), w.tb.nf, w.tb.ng, fun b hb ps z => by
    rw [List.flatten_append, List.flatten_singleton] at hb
    rcases List.mem_append.mp hb with m | m
    · exact w.tb.na b m ps z
    · rw [List.mem_singleton.mp m, upd_same] at z
      exact ho ps (Option.some.inj z)⟩⟩
  · by_cases hk : k < A.length
    · rw [List.getElem?_append_left hk] at h1
      rw [List.getElem?_append_left (by rw [← hw.len]; exact hk)] at h2
      exact w.ok k as c' h1 h2
    · have hk' : k = A.length := by
        have := (List.getElem?_eq_some_iff.mp h1).1
        rw [List.length_append, List.length_singleton] at this
        omega
      subst hk'
      rw [List.getElem?_concat_length] at h1
      rw [hw.len, List.getElem?_concat_length] at h2
      cases Option.some.inj h1
      cases Option.some.inj h2
      exact hc
  · rw [List.flatten_append, List.flatten_singleton, List.nodup_append]
    refine ⟨hw.nod, by simp, fun a ha b hb z => ?_⟩
    rw [List.mem_singleton] at hb
    subst z
    subst hb
    exact hn ha
  · rw [List.flatten_append, List.flatten_singleton] at ha
    rcases List.mem_append.mp ha with ha | ha
    · exact w.there a ha
    · rw [List.mem_singleton] at ha
      subst ha
      rw [upd_same]
      rfl
  · rw [List.flatten_append, List.flatten_singleton] at ha
    rcases List.mem_append.mp ha with ha | ha
    · exact w.gd a ha
    · rw [List.mem_singleton] at ha
      subst ha
      exact Evl.fresh_back hw.gh hp
theorem nodup_ix_flat : ∀ {A : List (List Addr)} {k j : Nat} {as bs : List Addr} {a : Addr}, A.flatten.Nodup → A[k]? = some as → A[j]? = some bs → a ∈ as → a ∈ bs → k = j
  | [], _, _, _, _, _, _, h, _, _, _ => by simp at h
  | x :: A, 0, 0, _, _, _, _, _, _, _, _ => rfl
  | x :: A, 0, j + 1, as, bs, a, hn, h1, h2, m1, m2 => by
    simp at h1 h2
    subst h1
    rw [List.flatten_cons, List.nodup_append] at hn
    exact absurd rfl (hn.2.2 a m1 a (List.mem_flatten.mpr ⟨bs, List.mem_of_getElem? h2, m2⟩))
  | x :: A, k + 1, 0, as, bs, a, hn, h1, h2, m1, m2 => by
    simp at h1 h2
    subst h2
    rw [List.flatten_cons, List.nodup_append] at hn
    exact absurd rfl (hn.2.2 a m2 a (List.mem_flatten.mpr ⟨as, List.mem_of_getElem? h1, m1⟩))
  | x :: A, k + 1, j + 1, as, bs, a, hn, h1, h2, m1, m2 => by
    simp at h1 h2
    rw [List.flatten_cons, List.nodup_append] at hn
    rw [nodup_ix_flat hn.2.1 h1 h2 m1 m2]
/-- a cell's object is written: the cell k, an address of it, what stands there then -/
theorem Wd.write (hw : Wd T K F A S H) {k : Nat} {as : List Addr} {a : Addr} {c : C} {o : HO} (hA : A[k]? = some as) (ha : a ∈ as) (hF : F a = none) (hc : COk T K F (upd H a o) as c) {o0 : HO} (hH : H a = some o0) (n1 : ∀ ps, o0 ≠ .tbl ps := by intro ps z; cases z) (n2 : ∀ φ, o0 ≠ .ext φ := by intro φ z; cases z) (ho : ∀ ps, o ≠ .tbl ps := by intro ps z; cases z) : Wd T K F A (S.set k c) (upd H a o) := by
  refine ⟨fun b u e => ?_, by rw [List.length_set]; exact hw.len, fun j bs c' h1 h2 => ?_, hw.nod, fun b hb => ?_, fun b u e => ?_, hw.gd, hw.fg, ⟨tabs_upd hw.tb.tabs hH n1 n2, hw.tb.f, hw.tb.g, hw.tb.a, hw.tb.nf, hw.tb.ng, fun b hb ps z => by
    by_cases e : b = a
    · subst e
      rw [upd_same] at z
      exact ho ps (Option.some.inj z)
    · rw [upd_ne e] at z
      exact hw.tb.na b hb ps z⟩⟩
  · have : b ≠ a := fun z => by rw [z, hF] at e; cases e
    rw [upd_ne this]
    exact hw.sub b u e
  · by_cases hj : k = j
    · subst hj
      rw [hA] at h1
      cases Option.some.inj h1
      rw [List.getElem?_set_self (by
        have q := (List.getElem?_eq_some_iff.mp h2).1
        rwa [List.length_set] at q)] at h2
      cases Option.some.inj h2
      exact hc
    · rw [List.getElem?_set_ne hj] at h2
      refine (hw.ok j bs c' h1 h2).more (Evl.Ex.refl F) (fun _ _ e => e) fun b hb _ => ?_
      rw [upd_ne]
      rintro rfl
      exact hj (nodup_ix_flat hw.nod hA h1 ha hb)
  · by_cases z : b = a
    · subst z
      rw [upd_same]
      rfl
    · rw [upd_ne z]
      exact hw.there b hb
  · have : b ≠ a := fun z => by rw [z, hw.gd a (mem_flat hA ha)] at e; cases e
    rw [upd_ne this]
    exact hw.gh b u e
/-- cells from n on are forgotten -/
theorem Wd.cut (hw : Wd T K F A S H) (n : Nat) : Wd T K F (A.take n) (S.take n) H := by
  have sub : ∀ a ∈ (A.take n).flatten, a ∈ A.flatten := fun a ha => by
    obtain ⟨as, h1, h2⟩ := List.mem_flatten.mp ha
    exact List.mem_flatten.mpr ⟨as, List.mem_of_mem_take h1, h2⟩
  refine ⟨hw.sub, by rw [List.length_take, List.length_take, hw.len], fun k as c h1 h2 => ?_, ?_, fun a ha => hw.there a (sub a ha), hw.gh, fun a ha => hw.gd a (sub a ha), hw.fg, ⟨hw.tb.tabs, hw.tb.f, hw.tb.g, fun q hq m => hw.tb.a q hq (sub _ m), hw.tb.nf, hw.tb.ng, fun b hb => hw.tb.na b (sub b hb)⟩⟩
  · rw [List.getElem?_take] at h1 h2
    split at h1
    · rename_i hk
      rw [if_pos hk] at h2
      exact hw.ok k as c h1 h2
    · cases h1
  · have q := hw.nod
    rw [← List.take_append_drop n A, List.flatten_append, List.nodup_append] at q
    exact q.1
end
theorem Pre.cut {A A' : List (List Addr)} {n : Nat} (h : Pre A A') (hn : n = A.length) : A'.take n = A := by
  subst hn
  refine List.ext_getElem? fun i => ?_
  rw [List.getElem?_take]
  split
  · rename_i hi
    rw [List.getElem?_eq_getElem hi]
    exact h i _ (List.getElem?_eq_getElem hi)
  · rename_i hi
    rw [List.getElem?_eq_none (by omega)]

def RepX (T : Tb) (K : PySem.W.Frag) (F : Hp) (x : Exn) (cls : Value) (d : Option Addr) : Prop :=
  ∃ ca, T.cls x.cls = some ca ∧ cls = .ref ca ∧ ((x.fs = [] ∧ d = none) ∨ ∃ dd vfs, d = some dd ∧ F dd = some (.xd vfs) ∧ Paired (fun (p : Str × D) (q : Str × V) => p.1 = q.1 ∧ Rep K F p.2 q.2) x.fs vfs)
section
variable {α β α' β' : Type}
def Post (T : Tb) (K : PySem.W.Frag) (rel : Hp → List (List Addr) → α → β → Prop) (F : Hp) (A : List (List Addr)) (r : R α) (Q : β → Hp → Prop) (Wx : XK) : Prop :=
  match r with
  | .ok a S => ∀ F' A' H' v, Ex F F' → Pre A A' → Wd T K F' A' S H' → rel F' A' a v → Q v H'
  | .exc x S => ∀ F' A' H' cls d, Ex F F' → Pre A A' → Wd T K F' A' S H' → RepX T K F' x cls d → Wx cls d H'
  | .bad => False
variable {T : Tb} {K : PySem.W.Frag} {F : Hp} {A : List (List Addr)} {Wx : XK}
theorem Post.shift {rel : Hp → List (List Addr) → α → β → Prop} {F' : Hp} {A' : List (List Addr)} {r : R α} {Q : β → Hp → Prop} (h : Post T K rel F A r Q Wx) (e : Ex F F') (p : Pre A A') : Post T K rel F' A' r Q Wx := by
  cases r with
  | ok a S => exact fun F2 A2 H2 v e2 p2 => h F2 A2 H2 v (e.trans e2) (p.trans p2)
  | exc x S => exact fun F2 A2 H2 c d e2 p2 => h F2 A2 H2 c d (e.trans e2) (p.trans p2)
  | bad => exact h
theorem Post.bind {rel1 : Hp → List (List Addr) → α → β → Prop} {rel2 : Hp → List (List Addr) → α' → β' → Prop} {r : R α} {k : α → Sto → R α'} {P : β → Hp → Prop} {Q : β' → Hp → Prop} (h : Post T K rel2 F A (r.bind k) Q Wx)
    (hk : ∀ a S' F' A' H' v, Ex F F' → Pre A A' → Wd T K F' A' S' H' → rel1 F' A' a v → Post T K rel2 F' A' (k a S') Q Wx → P v H') : Post T K rel1 F A r P Wx := by
  cases r with
  | ok a S => exact fun F2 A2 H2 v e2 p2 w2 r2 => hk a S F2 A2 H2 v e2 p2 w2 r2 (Post.shift h e2 p2)
  | exc x S => exact h
  | bad => exact h
end
def R.lift {α : Type} (o : Option α) (S : Sto) : R α := match o with
  | some a => .ok a S
  | none => .bad
theorem Post.lift {α β : Type} {T : Tb} {K : PySem.W.Frag} {F : Hp} {A : List (List Addr)} {Wx : XK} {rel : Hp → List (List Addr) → α → β → Prop} {o : Option α} {S : Sto} {Q : β → Hp → Prop} (h : Post T K rel F A (R.lift o S) Q Wx) :
    ∃ a, o = some a ∧ ∀ F' A' H' v, Ex F F' → Pre A A' → Wd T K F' A' S H' → rel F' A' a v → Q v H' := by
  cases o with
  | none => exact h.elim
  | some a => exact ⟨a, rfl, h⟩

abbrev FE := Rho → Sto → R W
abbrev FT := Rho → Sto → R Bool
abbrev FA := Rho → Sto → R (List W)
abbrev FS := Rho → Sto → Out
def relB (_ : Hp) (_ : List (List Addr)) (b c : Bool) : Prop := b = c
def SemE (T : Tb) (K : PySem.W.Frag) (Wx : WX) (t : TE) (f : FE) : Prop :=
  ∀ G F A S H σ ρ Q, Wd (T.g G) K F A S H → Sl K F A ρ σ → Post (T.g G) K (RepW K) F A (f ρ S) Q (fun c d H' => Wx c d σ H') → t σ H Q
def SemT (T : Tb) (K : PySem.W.Frag) (Wx : WX) (t : TT) (f : FT) : Prop :=
  ∀ G F A S H σ ρ Q, Wd (T.g G) K F A S H → Sl K F A ρ σ → Post (T.g G) K relB F A (f ρ S) Q (fun c d H' => Wx c d σ H') → t σ H Q
def SemA (T : Tb) (K : PySem.W.Frag) (Wx : WX) (t : TA) (f : FA) : Prop :=
  ∀ G F A S H σ ρ Q, Wd (T.g G) K F A S H → Sl K F A ρ σ → Post (T.g G) K (RepWs K) F A (f ρ S) Q (fun c d H' => Wx c d σ H') → t σ H Q
def PostS (T : Tb) (K : PySem.W.Frag) (F : Hp) (A : List (List Addr)) (r : Out) (D : Ends) (Wx : WX) : Prop :=
  match r with
  | .nx ρ S => ∀ F' A' H' σ, Ex F F' → Pre A A' → Wd T K F' A' S H' → Sl K F' A' ρ σ → D.nx σ H'
  | .bk ρ S => ∀ F' A' H' σ, Ex F F' → Pre A A' → Wd T K F' A' S H' → Sl K F' A' ρ σ → D.bk σ H'
  | .ct ρ S => ∀ F' A' H' σ, Ex F F' → Pre A A' → Wd T K F' A' S H' → Sl K F' A' ρ σ → D.ct σ H'
  | .rt w S => ∀ F' A' H' v, Ex F F' → Pre A A' → Wd T K F' A' S H' → RepW K F' A' w v → D.rt v H'
  | .exc x ρ S => ∀ F' A' H' σ cls d, Ex F F' → Pre A A' → Wd T K F' A' S H' → Sl K F' A' ρ σ → RepX T K F' x cls d → Wx cls d σ H'
  | .bad => False
def SemS (T : Tb) (K : PySem.W.Frag) (Wx : WX) (t : TS) (f : FS) : Prop :=
  ∀ G F A S H σ ρ D, Wd (T.g G) K F A S H → Sl K F A ρ σ → PostS (T.g G) K F A (f ρ S) D Wx → t D σ H
theorem PostS.shift {T : Tb} {K : PySem.W.Frag} {F : Hp} {A : List (List Addr)} {Wx : WX} {F' : Hp} {A' : List (List Addr)} {r : Out} {D : Ends} (h : PostS T K F A r D Wx) (e : Ex F F') (p : Pre A A') : PostS T K F' A' r D Wx := by
  cases r with
  | nx ρ S => exact fun F2 A2 H2 v e2 p2 => h F2 A2 H2 v (e.trans e2) (p.trans p2)
  | bk ρ S => exact fun F2 A2 H2 v e2 p2 => h F2 A2 H2 v (e.trans e2) (p.trans p2)
  | ct ρ S => exact fun F2 A2 H2 v e2 p2 => h F2 A2 H2 v (e.trans e2) (p.trans p2)
  | rt ρ S => exact fun F2 A2 H2 v e2 p2 => h F2 A2 H2 v (e.trans e2) (p.trans p2)
  | exc x ρ S => exact fun F2 A2 H2 σ c d e2 p2 => h F2 A2 H2 σ c d (e.trans e2) (p.trans p2)
  | bad => exact h
/-- a result of an expression, and how the statement goes on -/
def R.then {α : Type} (r : R α) (ρ : Rho) (k : α → Sto → Out) : Out := match r with
  | .ok a S => k a S
  | .exc x S => .exc x ρ S
  | .bad => .bad
theorem PostS.then {α β : Type} {T : Tb} {K : PySem.W.Frag} {F : Hp} {A : List (List Addr)} {Wx : WX} {rel : Hp → List (List Addr) → α → β → Prop} {r : R α} {ρ : Rho} {σ : L2.St} {k : α → Sto → Out} {D : Ends} {P : β → Hp → Prop} (hs : Sl K F A ρ σ) (h : PostS T K F A (r.then ρ k) D Wx)
    (hk : ∀ a S' F' A' H' v, Ex F F' → Pre A A' → Wd T K F' A' S' H' → rel F' A' a v → PostS T K F' A' (k a S') D Wx → P v H') : Post T K rel F A r P (fun c d H' => Wx c d σ H') := by
  cases r with
  | ok a S => exact fun F2 A2 H2 v e2 p2 w2 r2 => hk a S F2 A2 H2 v e2 p2 w2 r2 (PostS.shift h e2 p2)
  | exc x S => exact fun F2 A2 H2 c d e2 p2 w2 r2 => h F2 A2 H2 σ c d e2 p2 w2 (hs.mono e2 p2) r2
  | bad => exact h
structure JE (T : Tb) (X : Cx) (Wx : WX) (e : Expr) (f : FE) : Prop where
  ex : ∃ t, PE X e t ∧ SemE T X.K Wx t f
structure JT (T : Tb) (X : Cx) (Wx : WX) (e : Expr) (f : FT) : Prop where
  ex : ∃ t, PT X e t ∧ SemT T X.K Wx t f
structure JW (T : Tb) (X : Cx) (Wx : WX) (e : Expr) (f : FT) : Prop where
  ex : ∃ t, PW X e t ∧ SemT T X.K Wx t f
structure JA (T : Tb) (X : Cx) (Wx : WX) (es : List Expr) (f : FA) : Prop where
  ex : ∃ t, PA X es t ∧ SemA T X.K Wx t f
structure JS (T : Tb) (X : Cx) (Wx : WX) (st : Stmt) (f : FS) : Prop where
  ex : ∃ t, PS X st t ∧ SemS T X.K Wx t f
structure JB (T : Tb) (X : Cx) (Wx : WX) (sts : List Stmt) (f : FS) : Prop where
  ex : ∃ t, PSs X sts t ∧ SemS T X.K Wx t f
end Vz
namespace Vz
open PySem PySem.Spec PyProof.Rows L2
def lim : Nat := 1000000
theorem lim_le {n : Nat} (h : n ≤ lim) : n ≤ sizeLine := Nat.le_trans h (by decide)
theorem lim_lt {n : Nat} (h : n < lim) : n < sizeLine := Nat.lt_of_lt_of_le h (by decide)
def ifO {α : Type} (b : Bool) (o : Option α) : Option α := match b with
  | true => o
  | false => none
theorem ifO_some {α : Type} {b : Bool} {o : Option α} {a : α} (h : ifO b o = some a) : b = true ∧ o = some a := by
  cases b with
  | true => exact ⟨rfl, h⟩
  | false => cases h
section
variable {T : Tb} {X : Cx} {Wx : WX}

def fVar (i : Nat) : FE := fun ρ S => match ρ[i]? with
  | some (some w) => .ok w S
  | _ => .bad
def fC (d : D) : FE := fun _ S => .ok (.dat d) S
theorem je_var (i : Nat) {x : Str} {pos : Pos} (hN : X.N[i]? = some x := by rfl) (hv : Vis X.env.scope x := by first | exact Or.inl rfl | exact Or.inr (Or.inl rfl) | exact Or.inr (Or.inr rfl)) (hd : (x == ("__debug__" : Str)) = false := by decide)
    (hcd : (x == ("__classdict__" : Str)) = false := by decide) : JE T X Wx (.Name x pos) (fVar i) := by
  refine ⟨_, pe_var (i := i) hN hv hd hcd, fun G F A S H σ ρ Q hw hs hp => ?_⟩
  unfold fVar at hp
  split at hp
  · rename_i w e
    obtain ⟨v, h1, h2⟩ := hs.at_ i w e
    exact ⟨v, h1, hp F A H v (Evl.Ex.refl F) (Pre.refl A) hw h2⟩
  · exact hp.elim
theorem je_const {e : Expr} {d : D} {v : V} (h : PE X e (tC v)) (r : flatD d = some v) : JE T X Wx e (fC d) :=
  ⟨_, h, fun G F A S H σ ρ Q hw hs hp => hp F A H v (Evl.Ex.refl F) (Pre.refl A) hw (Rep.of_flat r)⟩
theorem je_int {i j pos} : JE T X Wx (.Constant (.int i) j pos) (fC (.int i)) := je_const pe_int rfl
theorem je_bl {i j pos} : JE T X Wx (.Constant (.bool i) j pos) (fC (.bool i)) := je_const pe_bl rfl
theorem je_str {i j pos} : JE T X Wx (.Constant (.str i) j pos) (fC (.str i)) := je_const pe_str rfl
theorem je_non {j pos} : JE T X Wx (.Constant .none j pos) (fC .none) := je_const pe_non rfl
/-- a module's constant -/
theorem je_glob {x : Str} {d : D} {v : V} {u : Value} {pos : Pos} (hg : Gl X x) (hm : X.mg x = some u) (r : RelV v u) (h : flatD d = some v) (hd : (x == ("__debug__" : Str)) = false := by decide) : JE T X Wx (.Name x pos) (fC d) :=
  je_const (pe_glob hg hm r hd) h

theorem fin_new {K : PySem.W.Frag} {F H : Hp} {A : List (List Addr)} {S : Sto} {z : D} {Q : VK} {p : Addr} {o : HO} (q : ∀ F' H' v, Ex F F' → Wd T K F' A S H' → Rep K F' z v → Q v H') (hw : Wd T K F A S H) (hp : H p = none)
    (hr : ∀ F', Ex F F' → F' p = some o → Rep K F' z (.ref p)) (ho : ∀ ps, o ≠ .tbl ps := by intro ps z; cases z) : Q (.ref p) (upd H p o) := q _ _ _ (hw.exNew hp o) (hw.new hp o ho) (hr _ (hw.exNew hp o) upd_same)
def OpL (T : Tb) (K : PySem.W.Frag) (r : R2) (g : D → D → Option D) : Prop :=
  ∀ (G F : Hp) (A : List (List Addr)) (S : Sto) (H : Hp) (x y : V) (dx dy z : D) (Q : VK), Wd (T.g G) K F A S H → RepU K F H dx x → RepU K F H dy y → g dx dy = some z →
    (∀ F' H' v, Ex F F' → Wd (T.g G) K F' A S H' → Rep K F' z v → Q v H') → r x y H Q
def orD (g g' : D → D → Option D) : D → D → Option D := fun x y => match g x y with
  | some z => some z
  | none => g' x y
theorem OpL.or {K : PySem.W.Frag} {r r' : R2} {g g' : D → D → Option D} (h : OpL T K r g) (h' : OpL T K r' g') : OpL T K (fun x y H Q => r x y H Q ∨ r' x y H Q) (orD g g') := by
  intro G F A S H x y dx dy z Q hw rx ry e q
  unfold orD at e
  split at e
  · rename_i z' e'
    cases e
    exact .inl (h G F A S H x y dx dy z Q hw rx ry e' q)
  · exact .inr (h' G F A S H x y dx dy z Q hw rx ry e q)
def rd2 (S : Sto) (x y : W) (g : D → D → Option D) : Option D := (rd S x).bind fun dx => (rd S y).bind fun dy => g dx dy
def fBin (g : D → D → Option D) (a b : FE) : FE := fun ρ S => (a ρ S).bind fun x S1 => (b ρ S1).bind fun y S2 => R.lift ((rd2 S2 x y g).map W.dat) S2
theorem rd2_some {S : Sto} {x y : W} {g : D → D → Option D} {w : W} (h : (rd2 S x y g).map W.dat = some w) : ∃ dx dy z, rd S x = some dx ∧ rd S y = some dy ∧ g dx dy = some z ∧ w = .dat z := by
  unfold rd2 at h
  cases h1 : rd S x with
  | none => rw [h1] at h; cases h
  | some dx =>
    cases h2 : rd S y with
    | none => rw [h1, h2] at h; cases h
    | some dy =>
      cases h3 : g dx dy with
      | none =>
        rw [h1, h2] at h
        simp only [Option.bind_some, h3] at h
        cases h
      | some z =>
        rw [h1, h2] at h
        simp only [Option.bind_some, h3] at h
        cases h
        exact ⟨dx, dy, z, rfl, rfl, h3, rfl⟩
theorem semE_op {K : PySem.W.Frag} {ta tb : TE} {fa fb : FE} {r : R2} {g : D → D → Option D} (ha : SemE T K Wx ta fa) (hb : SemE T K Wx tb fb) (hr : OpL T K r g) : SemE T K Wx (tOp r ta tb) (fBin g fa fb) := by
  intro G F A S H σ ρ Q hw hs hp
  refine ha G F A S H σ ρ _ hw hs (hp.bind fun x S1 F1 A1 H1 v1 e1 p1 w1 r1 hp1 => ?_)
  refine hb G F1 A1 S1 H1 σ ρ _ w1 (hs.mono e1 p1) (hp1.bind fun y S2 F2 A2 H2 v2 e2 p2 w2 r2 hp2 => ?_)
  obtain ⟨w, hw', q⟩ := hp2.lift
  obtain ⟨dx, dy, z, h1, h2, h3, rfl⟩ := rd2_some hw'
  exact hr G F2 A2 S2 H2 v1 v2 dx dy z Q w2 (rd_rep w2 (r1.mono e2 p2) h1) (rd_rep w2 r2 h2) h3 fun F3 H3 v3 e3 w3 r3 => q F3 A2 H3 v3 e3 (Pre.refl A2) w3 r3
variable {a b c : Expr} {fa fb fc : FE} {pos : Pos}
theorem je_op {op : Operator} {r : R2} {g : D → D → Option D} (ho : OpR X (binaryOp op) r) (hr : OpL T X.K r g) (ha : JE T X Wx a fa) (hb : JE T X Wx b fb) : JE T X Wx (.BinOp a op b pos) (fBin g fa fb) := by
  obtain ⟨ta, h1, s1⟩ := ha
  obtain ⟨tb, h2, s2⟩ := hb
  exact ⟨_, pe_op ho h1 h2, semE_op s1 s2 hr⟩
theorem je_cmp {op : CmpOp} {r : R2} {g : D → D → Option D} (ho : OpR X (compareOp op) r) (hr : OpL T X.K r g) (ha : JE T X Wx a fa) (hb : JE T X Wx b fb) (hm : behindInMarks op b = false) : JE T X Wx (.Compare a [op] [b] pos) (fBin g fa fb) := by
  obtain ⟨ta, h1, s1⟩ := ha
  obtain ⟨tb, h2, s2⟩ := hb
  exact ⟨_, pe_cmpR ho h1 h2 hm, semE_op s1 s2 hr⟩
/-- a bool, as a test -/
def asB : W → Option Bool
  | .dat (.bool b) => some b
  | _ => none
def fB (f : FE) : FT := fun ρ S => (f ρ S).bind fun w S1 => R.lift (asB w) S1
theorem asB_some {w : W} {b : Bool} (h : asB w = some b) : w = .dat (.bool b) := by
  unfold asB at h
  split at h
  · cases h; rfl
  · cases h
theorem semT_B {K : PySem.W.Frag} {t : TE} {f : FE} (h : SemE T K Wx t f) : SemT T K Wx (fun σ H Q => t σ H fun x H' => ∃ k, x = .bl k ∧ Q k H') (fB f) := by
  intro G F A S H σ ρ Q hw hs hp
  refine h G F A S H σ ρ _ hw hs (hp.bind fun x S1 F1 A1 H1 v1 e1 p1 w1 r1 hp1 => ?_)
  obtain ⟨b, e, q⟩ := hp1.lift
  cases asB_some e
  cases r1
  exact ⟨b, rfl, q F1 A1 H1 b (Evl.Ex.refl _) (Pre.refl _) w1 rfl⟩
theorem jt_cmp {op : CmpOp} {r : R2} {g : D → D → Option D} (ho : OpR X (compareOp op) r) (hr : OpL T X.K r g) (ha : JE T X Wx a fa) (hb : JE T X Wx b fb) (hm : behindInMarks op b = false) : JT T X Wx (.Compare a [op] [b] pos) (fB (fBin g fa fb)) := by
  obtain ⟨ta, h1, s1⟩ := ha
  obtain ⟨tb, h2, s2⟩ := hb
  exact ⟨_, pt_cmpR ho h1 h2 hm, semT_B (semE_op s1 s2 hr)⟩
/-- an expression whose value is a bool -/
theorem jt_val {e : Expr} {f : FE} (h : JE T X Wx e f) (he : ∀ whole, isTrue e X.env whole = (do let v ← whole; standAt e.pos; holding [v] (truthy v)) := by intro _; rfl) : JT T X Wx e (fB f) := by
  obtain ⟨t, h1, s1⟩ := h
  exact ⟨_, pt_val h1 he, semT_B s1⟩

def gI (C : Int → Int → Bool) (f : Int → Int → D) : D → D → Option D
  | .int i, .int j => ifO (C i j) (some (f i j))
  | _, _ => none
theorem opL_I {K : PySem.W.Frag} {Cp : Int → Int → Prop} {f : Int → Int → V} {C : Int → Int → Bool} {g : Int → Int → D} (hC : ∀ i j, C i j = true → Cp i j) (hf : ∀ i j, flatD (g i j) = some (f i j)) : OpL T K (rI Cp f) (gI C g) := by
  intro G F A S H x y dx dy z Q hw rx ry e q
  unfold gI at e
  split at e
  · rename_i i j
    obtain ⟨c, e⟩ := ifO_some e
    cases e
    cases rx with
    | flat h1 =>
      cases ry with
      | flat h2 =>
        cases h1
        cases h2
        exact ⟨i, j, rfl, rfl, hC i j c, q F H _ (Evl.Ex.refl F) hw (.of_flat (hf i j))⟩
  · cases e
theorem opL_I0 {K : PySem.W.Frag} {f : Int → Int → V} {g : Int → Int → D} (hf : ∀ i j, flatD (g i j) = some (f i j)) : OpL T K (rI0 f) (gI (fun _ _ => true) g) := by
  intro G F A S H x y dx dy z Q hw rx ry e q
  obtain ⟨i, j, h1, h2, _, h3⟩ := (opL_I (T := T) (K := K) (Cp := fun _ _ => True) (C := fun _ _ => true) (fun _ _ _ => trivial) hf) G F A S H x y dx dy z Q hw rx ry e q
  exact ⟨i, j, h1, h2, h3⟩
def addI : D → D → Option D := gI (fun _ _ => true) fun i j => .int (i + j)
def subI : D → D → Option D := gI (fun _ _ => true) fun i j => .int (i - j)
def mulI : D → D → Option D := gI (fun i j => decide (i.natAbs < 2 ^ 64) || decide (j.natAbs < 2 ^ 64)) fun i j => .int (i * j)
def mulW : D → D → Option D := gI (fun i j => decide (i.natAbs.log2 + j.natAbs.log2 < 1000000)) fun i j => .int (i * j)
def divI : D → D → Option D := gI (fun _ j => decide (0 < j) && decide (j.natAbs.log2 < 9000)) fun i j => .int (i / j)
def modI : D → D → Option D := gI (fun _ j => decide (0 < j)) fun i j => .int (i % j)
def powI : D → D → Option D := gI (fun i j => decide (0 ≤ j) && (decide (j ≤ 1000) && decide (i.natAbs < 2 ^ 64))) fun i j => .int (i ^ j.toNat)
def ltI : D → D → Option D := gI (fun _ _ => true) fun i j => .bool (decide (i < j))
def leI : D → D → Option D := gI (fun _ _ => true) fun i j => .bool (decide (i ≤ j))
def gtI : D → D → Option D := gI (fun _ _ => true) fun i j => .bool (decide (j < i))
def geI : D → D → Option D := gI (fun _ _ => true) fun i j => .bool (decide (j ≤ i))
theorem l_addI {K : PySem.W.Frag} : OpL T K (rI0 fun i j => .int (i + j)) addI := opL_I0 fun _ _ => rfl
theorem l_subI {K : PySem.W.Frag} : OpL T K (rI0 fun i j => .int (i - j)) subI := opL_I0 fun _ _ => rfl
theorem l_mulI {K : PySem.W.Frag} : OpL T K (rI CMul fun i j => .int (i * j)) mulI := opL_I (fun i j h => by
  rcases Bool.or_eq_true_iff.mp h with h | h
  · have h := of_decide_eq_true h
    exact .inl ⟨by omega, by omega⟩
  · have h := of_decide_eq_true h
    exact .inr ⟨by omega, by omega⟩) fun _ _ => rfl
theorem l_mulW {K : PySem.W.Frag} : OpL T K (rI CMulW fun i j => .int (i * j)) mulW := opL_I (fun i j h => (of_decide_eq_true h : i.natAbs.log2 + j.natAbs.log2 < 1000000)) fun _ _ => rfl
theorem l_divI {K : PySem.W.Frag} : OpL T K (rI CDivW fun i j => .int (i / j)) divI := opL_I (fun i j h => by
  obtain ⟨h1, h2⟩ := Bool.and_eq_true_iff.mp h
  exact ⟨of_decide_eq_true h1, of_decide_eq_true h2⟩) fun _ _ => rfl
theorem l_modI {K : PySem.W.Frag} : OpL T K (rI (fun _ j => 0 < j) fun i j => .int (i % j)) modI := opL_I (fun i j h => of_decide_eq_true h) fun _ _ => rfl
theorem l_powI {K : PySem.W.Frag} : OpL T K (rI CPow fun i j => .int (i ^ j.toNat)) powI := opL_I (fun i j h => by
  obtain ⟨h1, h2⟩ := Bool.and_eq_true_iff.mp h
  obtain ⟨h3, h4⟩ := Bool.and_eq_true_iff.mp h2
  exact ⟨of_decide_eq_true h1, by have := of_decide_eq_true h3; omega, of_decide_eq_true h4⟩) fun _ _ => rfl
theorem l_ltI {K : PySem.W.Frag} : OpL T K (rI0 fun i j => .bl (decide (i < j))) ltI := opL_I0 fun _ _ => rfl
theorem l_gtI {K : PySem.W.Frag} : OpL T K (rI0 fun i j => .bl (decide (j < i))) gtI := opL_I0 fun _ _ => rfl
theorem l_geI {K : PySem.W.Frag} : OpL T K (rI0 fun i j => .bl (decide (j ≤ i))) geI := opL_I0 fun _ _ => rfl
/-- texts, tuples, lists joined -/
def addS : D → D → Option D
  | .str x, .str y => ifO (decide (x.length + y.length ≤ lim)) (some (.str (x ++ y)))
  | _, _ => none
def addT : D → D → Option D
  | .tup f x, .tup g y => ifO (decide (x.length + y.length ≤ lim)) (some (match x with
    | [] => .tup g y
    | a :: r => match y with
      | [] => .tup f (a :: r)
      | b :: q => .tup .nod (a :: r ++ b :: q)))
  | _, _ => none
def addL : D → D → Option D
  | .list x, .list y => ifO (decide (x.length + y.length ≤ lim)) (some (.list (x ++ y)))
  | _, _ => none
theorem l_addS {K : PySem.W.Frag} : OpL T K (fun x y H Q => ∃ i j, x = .str i ∧ y = .str j ∧ i.length + j.length ≤ sizeLine ∧ Q (.str (i ++ j)) H) addS := by
  intro G F A S H x y dx dy z Q hw rx ry e q
  unfold addS at e
  split at e
  · rename_i i j
    obtain ⟨c, e⟩ := ifO_some e
    cases e
    cases rx with
    | flat h1 =>
      cases ry with
      | flat h2 =>
        cases h1
        cases h2
        exact ⟨i, j, rfl, rfl, lim_le (of_decide_eq_true c), q F H _ (Evl.Ex.refl F) hw (.str _)⟩
  · cases e
theorem Reps.nil_iff {K : PySem.W.Frag} {F : Hp} {ds : List D} {vs : List V} (r : Reps K F ds vs) : vs = [] ↔ ds = [] := by
  cases r with
  | nil => simp
  | cons _ _ => simp
/-- a new tuple, its object known -/
theorem tup_new {pins : List (Addr × Obj)} {σ : L2.St} {H : Hp} {s : Shared} {its : List Value} {vs : List V} {t' : Nat} (I : Inv X pins σ H s) (hv : Vals vs its) (hz : vs.length ≤ sizeLine) :
    Inv X pins σ (upd H s.heap.objs.size (.frz { cls := .type "tuple", data := .seq its.toArray } (.tup vs))) { s with heap := s.heap.push { cls := .type "tuple", data := .seq its.toArray }, toks := t' } :=
  I.laid (fun _ _ q => Heap.get?_push_of_some _ q) (Nat.le_refl _) ⟨Heap.get?_push_size _ rfl, hz, its, hv, ⟨_, Heap.get?_push_size _ rfl, rfl, 0, rfl⟩⟩
/-- a place for a new tuple that has no dict -/
def NewT (H : Hp) (vs : List V) (Q : VK) : Prop := ∀ p o, H p = none → o.dict = none → Q (.ref p) (upd H p (.frz o (.tup vs)))
def rCatF (K : PySem.W.Frag) : R2 := fun x y H Q => ∃ a b xs ys, x = .ref a ∧ y = .ref b ∧ SqT K H a xs ∧ SqT K H b ys ∧ xs.length + ys.length ≤ sizeLine ∧
  (xs = [] → Q (.ref b) H) ∧ (xs ≠ [] → ys = [] → Q (.ref a) H) ∧ (xs ≠ [] → ys ≠ [] → NewT H (xs ++ ys) Q)
theorem l_addL {K : PySem.W.Frag} : OpL T K rCat addL := by
  intro G F A S H x y dx dy z Q hw rx ry e q
  unfold addL at e
  split at e
  · rename_i i j
    obtain ⟨c, e⟩ := ifO_some e
    cases e
    have c' := lim_le (of_decide_eq_true c)
    cases rx with
    | flat h1 => cases h1
    | lst h1 r1 =>
      cases ry with
      | flat h2 => cases h2
      | lst h2 r2 =>
        refine ⟨_, _, _, _, rfl, rfl, h1, h2, by rw [← r1.length, ← r2.length]; exact c', fun p hp => ?_⟩
        exact fin_new q hw hp fun F' e h => .lst h ((r1.append r2).mono e)
  · cases e
theorem op_catF {X : Cx} : OpR X (binaryOp .Add) (rCatF X.K) := by
  intro pins s σ H x y v u Q I rx ry h
  obtain ⟨a, b, xs, ys, rfl, rfl, ha, hb, hz, q0, q1, q2⟩ := h
  cases rx
  cases ry
  obtain ⟨its, r1, p1, _⟩ := I.tuple ha
  obtain ⟨its2, r2, p2, _⟩ := I.tuple hb
  by_cases hx : xs = []
  · subst hx
    cases r1
    exact cat_tup0 p1 p2 ⟨.ref b, H, I, rfl, q0 rfl⟩
  · refine HT.cat_tup p1 p2 (fun z => hx (r1.nil_iff.mp z)) (fun z => ⟨.ref a, H, I, rfl, q1 hx (r2.nil_iff.mp z)⟩) (fun z => ?_) (by rw [← r1.length, ← r2.length]; exact hz)
    exact ⟨.ref s.heap.objs.size, _, tup_new (t' := s.toks) I (r1.append r2) (by rw [List.length_append]; exact hz), rfl, q2 hx (fun w => z (r2.nil_iff.mpr w)) _ _ (I.hok.fresh (Nat.le_refl _)) rfl⟩
theorem fin_newT {K : PySem.W.Frag} {F H : Hp} {A : List (List Addr)} {S : Sto} {xs : List D} {vs : List V} {Q : VK} (q : ∀ F' H' v, Ex F F' → Wd T K F' A S H' → Rep K F' (.tup .nod xs) v → Q v H') (hw : Wd T K F A S H) (r : Reps K F xs vs) : NewT H vs Q := fun p o hp ho =>
  fin_new q hw hp fun F' e h => .tup (.inl ⟨o, h, ho⟩) (r.mono e)
theorem l_addT {K : PySem.W.Frag} : OpL T K (rCatF K) addT := by
  intro G F A S H x y dx dy z Q hw rx ry e q
  unfold addT at e
  split at e
  · rename_i f i g j
    obtain ⟨c, e⟩ := ifO_some e
    have c' := lim_le (of_decide_eq_true c)
    cases rx with
    | flat h1 => cases h1
    | tup f1 h1 r1 =>
      cases ry with
      | flat h2 => cases h2
      | tup f2 h2 r2 =>
        refine ⟨_, _, _, _, rfl, rfl, h1, h2, by rw [← r1.length, ← r2.length]; exact c', fun n1 => ?_, fun n1 n2 => ?_, fun n1 n2 => ?_⟩
        · cases r1.nil_iff.mp n1
          cases e
          exact q F H _ (Evl.Ex.refl _) hw (.tup f2 r2)
        · cases r2.nil_iff.mp n2
          cases i with
          | nil => exact absurd (r1.nil_iff.mpr rfl) n1
          | cons a r =>
            cases e
            exact q F H _ (Evl.Ex.refl _) hw (.tup f1 r1)
        · cases i with
          | nil => exact absurd (r1.nil_iff.mpr rfl) n1
          | cons a r =>
            cases j with
            | nil => exact absurd (r2.nil_iff.mpr rfl) n2
            | cons b s =>
              cases e
              exact fin_newT q hw (r1.append r2)
  · cases e
def addD : D → D → Option D := orD addI (orD addL (orD addT addS))
theorem je_add (ha : JE T X Wx a fa) (hb : JE T X Wx b fb) : JE T X Wx (.BinOp a .Add b pos) (fBin addD fa fb) :=
  je_op (OpR.or op_add (OpR.or op_cat (OpR.or op_catF op_add_str))) (l_addI.or (l_addL.or (l_addT.or l_addS))) ha hb
/-- a list times a number -/
def repL : D → D → Option D
  | .list x, .int k => ifO (decide (k.natAbs ≤ 1000000) && decide (x.length * k.toNat ≤ lim)) (some (.list (List.replicate k.toNat x).flatten))
  | _, _ => none
theorem Reps.rep {K : PySem.W.Frag} {F : Hp} {ds : List D} {vs : List V} (r : Reps K F ds vs) : ∀ k : Nat, Reps K F (List.replicate k ds).flatten (List.replicate k vs).flatten
  | 0 => .nil
  | k + 1 => by
    rw [List.replicate_succ, List.replicate_succ, List.flatten_cons, List.flatten_cons]
    exact r.append (Reps.rep r k)
theorem l_repL {K : PySem.W.Frag} : OpL T K rRep repL := by
  intro G F A S H x y dx dy z Q hw rx ry e q
  unfold repL at e
  split at e
  · rename_i i j
    obtain ⟨c, e⟩ := ifO_some e
    cases e
    obtain ⟨c1, c3⟩ := Bool.and_eq_true_iff.mp c
    have c1 := of_decide_eq_true c1
    cases rx with
    | flat h1 => cases h1
    | lst h1 r1 =>
      cases ry with
      | flat h2 =>
        cases h2
        refine ⟨_, _, _, rfl, rfl, h1, by omega, by omega, by rw [← r1.length]; exact lim_le (of_decide_eq_true c3), fun p hp => ?_⟩
        exact fin_new q hw hp fun F' e h => .lst h ((r1.rep j.toNat).mono e)
  · cases e
/-- a tuple times a number -/
def repT : D → D → Option D
  | .tup _ x, .int k => ifO ((decide (2 ≤ k) && decide (k ≤ 1000)) && (decide (x.length ≤ 1000) && !x.isEmpty)) (some (.tup .key (List.replicate k.toNat x).flatten))
  | _, _ => none
theorem l_repT {K : PySem.W.Frag} : OpL T K (rRepT K) repT := by
  intro G F A S H x y dx dy z Q hw rx ry e q
  unfold repT at e
  split at e
  · rename_i f i j
    obtain ⟨c, e⟩ := ifO_some e
    cases e
    obtain ⟨c1, c⟩ := Bool.and_eq_true_iff.mp c
    obtain ⟨c2, c3⟩ := Bool.and_eq_true_iff.mp c
    obtain ⟨c1, c4⟩ := Bool.and_eq_true_iff.mp c1
    have c1 := of_decide_eq_true c1
    have c2 := of_decide_eq_true c2
    have c4 := of_decide_eq_true c4
    cases rx with
    | flat h1 => cases h1
    | tup f1 h1 r1 =>
      cases ry with
      | flat h2 =>
        cases h2
        refine ⟨_, _, _, rfl, rfl, h1, fun n1 => ?_, by omega, by omega, by rw [← r1.length]; exact c2, fun p hp => ?_⟩
        · cases r1.nil_iff.mp n1
          cases c3
        · exact fin_new q hw hp fun F' e h => .tup (f := .key) h ((r1.rep j.toNat).mono e)
  · cases e
theorem tuple_mul1 (l : Addr) (items : Array Value) (n : Nat) (dd : Option Addr) (sl : Array (Option Value)) (u : Tok) :
    Meets (Builtin.«tuple.__mul__» ⟨[.ref l, .int 1 u], []⟩) (fun _ R s => s.heap.get? l = some ⟨.type "tuple", dd, .seq items n, sl⟩ ∧ R (.ok (.ret (Value.ref l))) s) :=
  .of_wp fun prog w A R s h => by
    obtain ⟨hp, g, d, tk, os⟩ := s
    obtain ⟨hl, h⟩ := h
    have f1 := AutoSeq1.idx_int
    wp_walk using wpAny_loadPart' hl
    exact ⟨_, rfl, h⟩
theorem tuple_mul0 (l : Addr) (items : Array Value) (n : Nat) (dd : Option Addr) (sl : Array (Option Value)) (u : Tok) :
    Meets (Builtin.«tuple.__mul__» ⟨[.ref l, .int 0 u], []⟩) (fun _ R s => s.heap.get? l = some ⟨.type "tuple", dd, .seq items n, sl⟩ ∧ items.isEmpty = false ∧ R (.ok (.ret (Value.ref s.heap.objs.size))) { s with heap := s.heap.push ⟨.type "tuple", none, .seq #[] 0, #[]⟩ }) :=
  .of_wp fun prog w A R s h => by
    obtain ⟨hp, g, d, tk, os⟩ := s
    obtain ⟨hl, h0, h⟩ := h
    have f1 := AutoSeq1.idx_int
    wp_walk using wpAny_loadPart' hl
    exact ⟨_, rfl, h⟩
/-- .. once, never -/
def rRep01 (K : PySem.W.Frag) : R2 := fun x y H Q => ∃ l xs, x = .ref l ∧ SqT K H l xs ∧ ((y = .int 1 ∧ Q (.ref l) H) ∨ (y = .int 0 ∧ xs ≠ [] ∧ NewT H [] Q))
theorem op_rep01 {X : Cx} : OpR X (binaryOp .Mult) (rRep01 X.K) := by
  intro pins s σ H x y v u Q I rx ry h
  obtain ⟨l, xs, rfl, hT, h⟩ := h
  cases rx
  obtain ⟨its, r, ⟨⟨cls, dd, data, sl⟩, ho, hc, n, hd⟩, hs⟩ := I.tuple hT
  simp only at hc hd
  subst hc hd
  rcases h with ⟨rfl, q⟩ | ⟨rfl, hne, q⟩
  · obtain ⟨t, rfl⟩ := ry
    refine wpAny_binaryOp_repeat_ref (T := "tuple") (U := "int") (by decide) ⟨_, ho, rfl⟩ (fun s' => typeIs_int s' 1 t) noFill_tuple_mul F.fills_int_mul F.slot_int_rmul repeat_tuple F.slot_int_index.lookup ?_
    exact call_meets F.slot_int_rmul (typeIs_int s 1 t) F.entry_int_rmul (F.args_int_rmul_2 _ _) (int_rmul_tuple 1 t l its.toArray n dd sl) ⟨ho, rfl, ⟨_, ho, rfl⟩, call_meets F.slot_tuple_mul ⟨_, ho, rfl⟩ F.entry_tuple_mul (F.args_tuple_mul_2 _ _) (tuple_mul1 l its.toArray n dd sl t) ⟨ho, ⟨.ref l, H, I, rfl, q⟩⟩⟩
  · obtain ⟨t, rfl⟩ := ry
    have hi : its.toArray.isEmpty = false := by
      cases its with
      | nil => cases r; exact absurd rfl hne
      | cons a b => rfl
    refine wpAny_binaryOp_repeat_ref (T := "tuple") (U := "int") (by decide) ⟨_, ho, rfl⟩ (fun s' => typeIs_int s' 0 t) noFill_tuple_mul F.fills_int_mul F.slot_int_rmul repeat_tuple F.slot_int_index.lookup ?_
    exact call_meets F.slot_int_rmul (typeIs_int s 0 t) F.entry_int_rmul (F.args_int_rmul_2 _ _) (int_rmul_tuple 0 t l its.toArray n dd sl) ⟨ho, rfl, ⟨_, ho, rfl⟩, call_meets F.slot_tuple_mul ⟨_, ho, rfl⟩ F.entry_tuple_mul (F.args_tuple_mul_2 _ _) (tuple_mul0 l its.toArray n dd sl t) ⟨ho, hi,
      ⟨.ref s.heap.objs.size, _, tup_new (t' := s.toks) I .nil (Nat.zero_le _), rfl, q _ _ (I.hok.fresh (Nat.le_refl _)) rfl⟩⟩⟩
def rep01 : D → D → Option D
  | .tup f x, .int 1 => some (.tup f x)
  | .tup _ (_ :: _), .int 0 => some (.tup .nod [])
  | _, _ => none
theorem l_rep01 {K : PySem.W.Frag} : OpL T K (rRep01 K) rep01 := by
  intro G F A S H x y dx dy z Q hw rx ry e q
  unfold rep01 at e
  split at e
  · cases e
    cases rx with
    | flat h1 => cases h1
    | tup f1 h1 r1 => exact ⟨_, _, rfl, h1, .inl ⟨by cases ry with | flat h2 => exact (Option.some.inj h2).symm, q F H _ (Evl.Ex.refl _) hw (.tup f1 r1)⟩⟩
  · cases e
    cases rx with
    | flat h1 => cases h1
    | tup f1 h1 r1 => exact ⟨_, _, rfl, h1, .inr ⟨by cases ry with | flat h2 => exact (Option.some.inj h2).symm, fun z => (nomatch r1.nil_iff.mp z), fin_newT q hw .nil⟩⟩
  · cases e
def mulD : D → D → Option D := orD mulI (orD mulW (orD repL (orD repT rep01)))
theorem je_mul (ha : JE T X Wx a fa) (hb : JE T X Wx b fb) : JE T X Wx (.BinOp a .Mult b pos) (fBin mulD fa fb) := je_op (OpR.or op_mul (OpR.or op_mulW (OpR.or op_rep (OpR.or op_repT op_rep01)))) (l_mulI.or (l_mulW.or (l_repL.or (l_repT.or l_rep01)))) ha hb
theorem je_div (ha : JE T X Wx a fa) (hb : JE T X Wx b fb) : JE T X Wx (.BinOp a .FloorDiv b pos) (fBin divI fa fb) := je_op op_fdivW l_divI ha hb
theorem je_mod (ha : JE T X Wx a fa) (hb : JE T X Wx b fb) : JE T X Wx (.BinOp a .Mod b pos) (fBin modI fa fb) := je_op op_mod l_modI ha hb
theorem je_pow (ha : JE T X Wx a fa) (hb : JE T X Wx b fb) : JE T X Wx (.BinOp a .Pow b pos) (fBin powI fa fb) := je_op op_pow l_powI ha hb

theorem RepU.flat_of {K : PySem.W.Frag} {F H : Hp} {d : D} {v : V} {x : V} (r : RepU K F H d v) (e : flatD d = some x) : v = x := by
  cases r with
  | flat h => rw [e] at h; exact (Option.some.inj h).symm
  | lst _ _ => cases e
  | tup _ _ _ => cases e
  | dT _ _ => cases e
  | dK _ _ => cases e
mutual
/-- as the kit's data -/
def D.py : D → PyData
  | .none => .none
  | .bool b => .bool b
  | .int i => .int i
  | .str x => .str x
  | .list xs => .list (pyAll xs)
  | .tup _ xs => .tuple (pyAll xs)
  | .dT _ => .dict []
  | .dK _ => .dict []
def pyAll : List D → List PyData
  | [] => []
  | x :: xs => x.py :: pyAll xs
end
theorem dp_flat {K : PySem.W.Frag} {H : Hp} {d : D} {v : V} (e : flatD d = some v) : Dp K H v d.py := by
  cases d with
  | none => cases e; exact .non
  | bool b => cases e; exact .bl b
  | int i => cases e; exact .int i
  | str x => cases e; exact .str x
  | _ => cases e
mutual
theorem Rep.dp {K : PySem.W.Frag} {F H : Hp} (e : Ex F H) : ∀ {d : D} {v : V}, Rep K F d v → d.py.plain = true → Dp K H v d.py
  | _, _, .non, _ => .non
  | _, _, .bl b, _ => .bl b
  | _, _, .int i, _ => .int i
  | _, _, .str x, _ => .str x
  | _, _, .lst h r, p => .lst (.of (e _ _ h)) (Reps.dp e r p)
  | _, _, .tup h r, p => .tup (sqt_mono e h.sq) (Reps.dp e r p)
  | _, _, .dT h r, p => nomatch p
  | _, _, .dK h r, p => nomatch p
theorem Reps.dp {K : PySem.W.Frag} {F H : Hp} (e : Ex F H) : ∀ {d : List D} {v : List V}, Reps K F d v → PyData.plainAll (pyAll d) = true → DpAll K H v (pyAll d)
  | _, _, .nil, _ => .nil
  | _, _, .cons h r, p => by
    obtain ⟨p1, p2⟩ := Bool.and_eq_true_iff.mp p
    exact .cons (Rep.dp e h p1) (Reps.dp e r p2)
end
theorem RepU.dp {K : PySem.W.Frag} {F H : Hp} {d : D} {v : V} (e : Ex F H) (r : RepU K F H d v) (p : d.py.plain = true) : Dp K H v d.py := by
  cases r with
  | flat h => exact dp_flat h
  | lst h r => exact .lst (.of h) (r.dp e p)
  | tup _ h r => exact .tup h (r.dp e p)
  | dT _ _ => cases p
  | dK _ _ => cases p
/-- == of data -/
def shp (d : D) : Bool := SeqAt.shaped d.py
def eqD : D → D → Option D := fun x y => ifO (shp x && shp y) (some (.bool (PyData.eqv x.py y.py)))
def neD : D → D → Option D := fun x y => ifO (shp x && shp y) (some (.bool (!PyData.eqv x.py y.py)))
theorem plain_shaped {d : D} (h : shp d = true) : d.py.plain = true := PyData.plain_of_canLay0 d.py (SeqAt.canLay_of_shaped h)
theorem l_eqD {K : PySem.W.Frag} : OpL T K (rEqD K) eqD := by
  intro G F A S H x y dx dy z Q hw rx ry e q
  obtain ⟨c, e⟩ := ifO_some e
  cases e
  obtain ⟨c1, c2⟩ := Bool.and_eq_true_iff.mp c
  exact ⟨dx.py, dy.py, rx.dp hw.sub (plain_shaped c1), ry.dp hw.sub (plain_shaped c2), c1, c2, q F H _ (Evl.Ex.refl F) hw (.bl _)⟩
theorem l_neD {K : PySem.W.Frag} : OpL T K (rNeD K) neD := by
  intro G F A S H x y dx dy z Q hw rx ry e q
  obtain ⟨c, e⟩ := ifO_some e
  cases e
  obtain ⟨c1, c2⟩ := Bool.and_eq_true_iff.mp c
  exact ⟨dx.py, dy.py, rx.dp hw.sub (plain_shaped c1), ry.dp hw.sub (plain_shaped c2), c1, c2, q F H _ (Evl.Ex.refl F) hw (.bl _)⟩
/-- is None -/
def isN : D → D → Option D
  | .none, .none => some (.bool true)
  | _, .none => some (.bool false)
  | _, _ => none
def isNN : D → D → Option D
  | .none, .none => some (.bool false)
  | _, .none => some (.bool true)
  | _, _ => none
theorem RepU.non_iff {K : PySem.W.Frag} {F H : Hp} {d : D} {v : V} (r : RepU K F H d v) : v = .non ↔ d = .none := by
  cases r with
  | flat h =>
    cases d with
    | none => cases h; simp
    | bool _ => cases h; simp
    | int _ => cases h; simp
    | str _ => cases h; simp
    | _ => cases h
  | lst _ _ => simp
  | tup _ _ _ => simp
  | dT _ _ => simp
  | dK _ _ => simp
theorem l_isN {K : PySem.W.Frag} : OpL T K (fun x y H Q => y = .non ∧ Q (.bl (decide (x = .non))) H) isN := by
  intro G F A S H x y dx dy z Q hw rx ry e q
  have h2 : dy = .none ∧ z = .bool (decide (x = .non)) := by
    unfold isN at e
    split at e
    · cases e
      exact ⟨rfl, by rw [decide_eq_true (rx.non_iff.mpr rfl)]⟩
    · rename_i h
      cases e
      exact ⟨rfl, by rw [decide_eq_false fun q => h (rx.non_iff.mp q)]⟩
    · cases e
  obtain ⟨rfl, rfl⟩ := h2
  exact ⟨ry.non_iff.mpr rfl, q F H _ (Evl.Ex.refl F) hw (.bl _)⟩
theorem l_isNN {K : PySem.W.Frag} : OpL T K (fun x y H Q => y = .non ∧ Q (.bl (!decide (x = .non))) H) isNN := by
  intro G F A S H x y dx dy z Q hw rx ry e q
  have h2 : dy = .none ∧ z = .bool (!decide (x = .non)) := by
    unfold isNN at e
    split at e
    · cases e
      exact ⟨rfl, by rw [decide_eq_true (rx.non_iff.mpr rfl)]; rfl⟩
    · rename_i h
      cases e
      exact ⟨rfl, by rw [decide_eq_false fun q => h (rx.non_iff.mp q)]; rfl⟩
    · cases e
  obtain ⟨rfl, rfl⟩ := h2
  exact ⟨ry.non_iff.mpr rfl, q F H _ (Evl.Ex.refl F) hw (.bl _)⟩
end
end Vz
namespace Vz
open PySem PySem.Spec PyProof.Rows L2
section
variable {T : Tb} {X : Cx} {Wx : WX}
/-- the canonical readings -/
def cE (T : Tb) (K : PySem.W.Frag) (Wx : WX) (f : FE) : TE := fun σ H Q => ∃ G F A S ρ, Wd (T.g G) K F A S H ∧ Sl K F A ρ σ ∧ Post (T.g G) K (RepW K) F A (f ρ S) Q (fun c d H' => Wx c d σ H')
def cT (T : Tb) (K : PySem.W.Frag) (Wx : WX) (f : FT) : TT := fun σ H Q => ∃ G F A S ρ, Wd (T.g G) K F A S H ∧ Sl K F A ρ σ ∧ Post (T.g G) K relB F A (f ρ S) Q (fun c d H' => Wx c d σ H')
theorem PE.weak {e : Expr} {t u : TE} (h : PE X e t) (i : ∀ σ H Q, u σ H Q → t σ H Q) : PE X e u := ⟨fun p s σ H Q I q => h.run p s σ H Q I (i σ H Q q)⟩
theorem PT.weak {e : Expr} {t u : TT} (h : PT X e t) (i : ∀ σ H Q, u σ H Q → t σ H Q) : PT X e u := ⟨fun p s σ H Q I q => h.run p s σ H Q I (i σ H Q q)⟩
theorem PSs.weak {e : List Stmt} {t u : TS} (h : PSs X e t) (i : ∀ D σ H, u D σ H → t D σ H) : PSs X e u := ⟨fun p s σ H D I q => h.run p s σ H D I (i D σ H q)⟩
theorem JE.pe {e : Expr} {f : FE} (h : JE T X Wx e f) : PE X e (cE T X.K Wx f) := by
  obtain ⟨t, h1, h2⟩ := h
  exact PE.weak h1 fun σ H Q ⟨G, F, A, S, ρ, a, b, c⟩ => h2 G F A S H σ ρ Q a b c
theorem JT.pt {e : Expr} {f : FT} (h : JT T X Wx e f) : PT X e (cT T X.K Wx f) := by
  obtain ⟨t, h1, h2⟩ := h
  exact PT.weak h1 fun σ H Q ⟨G, F, A, S, ρ, a, b, c⟩ => h2 G F A S H σ ρ Q a b c
variable {a b c e : Expr} {fa fb fc : FE} {ta tb tc : FT} {pos : Pos} {rest : List Expr}
def fAnd (t u : FT) : FT := fun ρ S => (t ρ S).bind fun c S1 => match c with
  | true => u ρ S1
  | false => .ok false S1
def fOr (t u : FT) : FT := fun ρ S => (t ρ S).bind fun c S1 => match c with
  | true => .ok true S1
  | false => u ρ S1
def fNot (t : FT) : FT := fun ρ S => (t ρ S).bind fun c S1 => .ok (!c) S1
/-- a test's answer as a value -/
def fV (t : FT) : FE := fun ρ S => (t ρ S).bind fun c S1 => .ok (.dat (.bool c)) S1
theorem jt_of_jw (h : JW T X Wx e ta) : JT T X Wx e ta := by
  obtain ⟨t, h1, h2⟩ := h
  exact ⟨t, h1.pt, h2⟩
theorem jw_and1 (h : JT T X Wx a ta) : JW T X Wx (.BoolOp .And [a] pos) ta := by
  obtain ⟨t, h1, h2⟩ := h
  exact ⟨t, pw_and1 h1, h2⟩
theorem jw_or1 (h : JT T X Wx a ta) : JW T X Wx (.BoolOp .Or [a] pos) ta := by
  obtain ⟨t, h1, h2⟩ := h
  exact ⟨t, pw_or1 h1, h2⟩
theorem jw_and (ha : JT T X Wx a ta) (hb : JW T X Wx (.BoolOp .And (b :: rest) pos) tb) : JW T X Wx (.BoolOp .And (a :: b :: rest) pos) (fAnd ta tb) := by
  obtain ⟨t, h1, s1⟩ := ha
  obtain ⟨u, h2, s2⟩ := hb
  refine ⟨_, pw_and h1 h2, fun G F A S H σ ρ Q hw hs hp => ?_⟩
  refine s1 G F A S H σ ρ _ hw hs (hp.bind fun x S1 F1 A1 H1 v1 e1 p1 w1 r1 hp1 => ?_)
  cases r1
  cases x with
  | true => exact s2 G F1 A1 S1 H1 σ ρ Q w1 (hs.mono e1 p1) hp1
  | false => exact hp1 F1 A1 H1 _ (Evl.Ex.refl _) (Pre.refl _) w1 rfl
theorem jw_or (ha : JT T X Wx a ta) (hb : JW T X Wx (.BoolOp .Or (b :: rest) pos) tb) : JW T X Wx (.BoolOp .Or (a :: b :: rest) pos) (fOr ta tb) := by
  obtain ⟨t, h1, s1⟩ := ha
  obtain ⟨u, h2, s2⟩ := hb
  refine ⟨_, pw_or h1 h2, fun G F A S H σ ρ Q hw hs hp => ?_⟩
  refine s1 G F A S H σ ρ _ hw hs (hp.bind fun x S1 F1 A1 H1 v1 e1 p1 w1 r1 hp1 => ?_)
  cases r1
  cases x with
  | true => exact hp1 F1 A1 H1 _ (Evl.Ex.refl _) (Pre.refl _) w1 rfl
  | false => exact s2 G F1 A1 S1 H1 σ ρ Q w1 (hs.mono e1 p1) hp1
theorem jt_not (ha : JT T X Wx a ta) : JT T X Wx (.UnaryOp .Not a pos) (fNot ta) := by
  obtain ⟨t, h1, s1⟩ := ha
  refine ⟨_, pt_not h1, fun G F A S H σ ρ Q hw hs hp => ?_⟩
  refine s1 G F A S H σ ρ _ hw hs (hp.bind fun x S1 F1 A1 H1 v1 e1 p1 w1 r1 hp1 => ?_)
  cases r1
  exact hp1 F1 A1 H1 _ (Evl.Ex.refl _) (Pre.refl _) w1 rfl
/-- .. as values -/
def fAndV (f g : FE) : FE := fun ρ S => (fB f ρ S).bind fun c S1 => match c with
  | true => g ρ S1
  | false => .ok (.dat (.bool false)) S1
def fOrV (f g : FE) : FE := fun ρ S => (fB f ρ S).bind fun c S1 => match c with
  | true => .ok (.dat (.bool true)) S1
  | false => g ρ S1
def fNotV (f : FE) : FE := fun ρ S => (fB f ρ S).bind fun c S1 => .ok (.dat (.bool (!c))) S1
theorem je_one {op} (h : JE T X Wx a fa) : JE T X Wx (.BoolOp op [a] pos) fa := by
  obtain ⟨t, h1, h2⟩ := h
  exact ⟨t, pe_one h1, h2⟩
theorem je_and (ha : JE T X Wx a fa) (hb : JE T X Wx (.BoolOp .And (b :: rest) pos) fb) : JE T X Wx (.BoolOp .And (a :: b :: rest) pos) (fAndV fa fb) := by
  obtain ⟨t, h1, s1⟩ := ha
  obtain ⟨u, h2, s2⟩ := hb
  refine ⟨_, pe_and h1 h2, fun G F A S H σ ρ Q hw hs hp => ?_⟩
  refine semT_B s1 G F A S H σ ρ _ hw hs (hp.bind fun x S1 F1 A1 H1 v1 e1 p1 w1 r1 hp1 => ?_)
  cases r1
  cases x with
  | true => exact s2 G F1 A1 S1 H1 σ ρ Q w1 (hs.mono e1 p1) hp1
  | false => exact hp1 F1 A1 H1 _ (Evl.Ex.refl _) (Pre.refl _) w1 (.bl _)
theorem je_not (ha : JE T X Wx a fa) : JE T X Wx (.UnaryOp .Not a pos) (fNotV fa) := by
  obtain ⟨t, h1, s1⟩ := ha
  refine ⟨_, pe_not h1, fun G F A S H σ ρ Q hw hs hp => ?_⟩
  refine semT_B s1 G F A S H σ ρ _ hw hs (hp.bind fun x S1 F1 A1 H1 v1 e1 p1 w1 r1 hp1 => ?_)
  cases r1
  exact hp1 F1 A1 H1 _ (Evl.Ex.refl _) (Pre.refl _) w1 (.bl _)
def fIf (t : FT) (f g : FE) : FE := fun ρ S => (t ρ S).bind fun c S1 => match c with
  | true => f ρ S1
  | false => g ρ S1
theorem je_if (hc : JT T X Wx c tc) (ha : JE T X Wx a fa) (hb : JE T X Wx b fb) : JE T X Wx (.IfExp c a b pos) (fIf tc fa fb) := by
  obtain ⟨t0, h0, s0⟩ := hc
  obtain ⟨t, h1, s1⟩ := ha
  obtain ⟨u, h2, s2⟩ := hb
  refine ⟨_, pe_ifExp h0 h1 h2, fun G F A S H σ ρ Q hw hs hp => ?_⟩
  refine s0 G F A S H σ ρ _ hw hs (hp.bind fun x S1 F1 A1 H1 v1 e1 p1 w1 r1 hp1 => ?_)
  cases r1
  cases x with
  | true => exact s1 G F1 A1 S1 H1 σ ρ Q w1 (hs.mono e1 p1) hp1
  | false => exact s2 G F1 A1 S1 H1 σ ρ Q w1 (hs.mono e1 p1) hp1
/-- a op b op' c -/
def fChain (g g' : D → D → Option D) (a b c : FE) : FE := fun ρ S => (a ρ S).bind fun x S1 => (b ρ S1).bind fun y S2 => (R.lift (((rd2 S2 x y g).map W.dat).bind asB) S2).bind fun k S3 => match k with
  | true => (c ρ S3).bind fun z S4 => R.lift ((rd2 S4 y z g').map W.dat) S4
  | false => .ok (.dat (.bool false)) S3
theorem semE_chain {K : PySem.W.Frag} {r r' : R2} {g g' : D → D → Option D} {t1 t2 t3 : TE} (s1 : SemE T K Wx t1 fa) (s2 : SemE T K Wx t2 fb) (s3 : SemE T K Wx t3 fc) (l : OpL T K r g) (l' : OpL T K r' g') :
    SemE T K Wx (tChain r r' t1 t2 t3) (fChain g g' fa fb fc) := by
  intro G F A S H σ ρ Q hw hs hp
  refine s1 G F A S H σ ρ _ hw hs (hp.bind fun x S1 F1 A1 H1 v1 e1 p1 w1 r1 hp1 => ?_)
  refine s2 G F1 A1 S1 H1 σ ρ _ w1 (hs.mono e1 p1) (hp1.bind fun y S2 F2 A2 H2 v2 e2 p2 w2 r2 hp2 => ?_)
  cases q : (rd2 S2 x y g).map W.dat with
  | none => rw [q] at hp2; exact hp2.elim
  | some w =>
    obtain ⟨dx, dy, z, h1, h2, h3, rfl⟩ := rd2_some q
    rw [q] at hp2
    refine l _ F2 A2 S2 H2 v1 v2 dx dy z _ w2 (rd_rep w2 (r1.mono e2 p2) h1) (rd_rep w2 r2 h2) h3 fun F3 H3 v3 e3 w3 r3 => ?_
    cases z with
    | bool k =>
      cases r3
      refine ⟨k, rfl, ?_⟩
      have hp3 := Post.shift hp2 e3 (Pre.refl A2)
      cases k with
      | true =>
        refine s3 G F3 A2 S2 H3 σ ρ _ w3 (((hs.mono e1 p1).mono e2 p2).mono e3 (Pre.refl _)) (Post.bind hp3 fun z S4 F4 A4 H4 v4 e4 p4 w4 r4 hp4 => ?_)
        obtain ⟨w', hw', q'⟩ := hp4.lift
        obtain ⟨dx', dy', z', h1', h2', h3', rfl⟩ := rd2_some hw'
        exact l' G F4 A4 S4 H4 v2 v4 dx' dy' z' Q w4 (rd_rep w4 (r2.mono (e3.trans e4) p4) h1') (rd_rep w4 r4 h2') h3' fun F5 H5 v5 e5 w5 r5 => q' F5 A4 H5 v5 e5 (Pre.refl _) w5 r5
      | false => exact hp3 F3 A2 H3 _ (Evl.Ex.refl _) (Pre.refl _) w3 (.bl _)
    | _ => exact hp2.elim
theorem je_chain {op op' : CmpOp} {r r' : R2} {g g' : D → D → Option D} (ho : OpR X (compareOp op) r) (hl : OpL T X.K r g) (ho' : OpR X (compareOp op') r') (hl' : OpL T X.K r' g') (ha : JE T X Wx a fa) (hb : JE T X Wx b fb) (hc : JE T X Wx c fc)
    (hm : lastMarks [op, op'] [b, c] = false := by with_unfolding_all rfl) : JE T X Wx (.Compare a [op, op'] [b, c] pos) (fChain g g' fa fb fc) := by
  obtain ⟨t1, h1, s1⟩ := ha
  obtain ⟨t2, h2, s2⟩ := hb
  obtain ⟨t3, h3, s3⟩ := hc
  exact ⟨_, pe_chain ho ho' h1 h2 h3 hm, semE_chain s1 s2 s3 hl hl'⟩
variable {es : List Expr} {ga : FA}
def aNil : FA := fun _ S => .ok [] S
def aCons (f : FE) (g : FA) : FA := fun ρ S => (f ρ S).bind fun w S1 => (g ρ S1).bind fun ws S2 => .ok (w :: ws) S2
theorem ja_nil : JA T X Wx [] aNil := ⟨_, pa_nil, fun G F A S H σ ρ Q hw hs hp => hp F A H [] (Evl.Ex.refl _) (Pre.refl _) hw .nil⟩
theorem ja_cons (he : JE T X Wx e fa) (hr : JA T X Wx es ga) (hs : starEach (e :: es) X.env = (false, eval e X.env) :: starEach es X.env := by rfl) : JA T X Wx (e :: es) (aCons fa ga) := by
  obtain ⟨t1, h1, s1⟩ := he
  obtain ⟨t2, h2, s2⟩ := hr
  refine ⟨_, pa_cons h1 h2 hs, fun G F A S H σ ρ Q hw hs hp => ?_⟩
  refine s1 G F A S H σ ρ _ hw hs (hp.bind fun x S1 F1 A1 H1 v1 e1 p1 w1 r1 hp1 => ?_)
  refine s2 G F1 A1 S1 H1 σ ρ _ w1 (hs.mono e1 p1) (hp1.bind fun y S2 F2 A2 H2 v2 e2 p2 w2 r2 hp2 => ?_)
  exact hp2 F2 A2 H2 _ (Evl.Ex.refl _) (Pre.refl _) w2 (.cons (r1.mono e2 p2) r2)
/-- all of them, read -/
def rds (S : Sto) : List W → Option (List D)
  | [] => some []
  | w :: ws => (rd S w).bind fun d => (rds S ws).bind fun ds => some (d :: ds)
theorem rds_cons {S : Sto} {w : W} {ws : List W} {ds : List D} (h : rds S (w :: ws) = some ds) : ∃ d r, rd S w = some d ∧ rds S ws = some r ∧ ds = d :: r := by
  simp only [rds] at h
  cases h1 : rd S w with
  | none => rw [h1] at h; cases h
  | some d =>
    cases h2 : rds S ws with
    | none => rw [h1, h2] at h; cases h
    | some r =>
      rw [h1, h2] at h
      cases h
      exact ⟨d, r, rfl, rfl, rfl⟩
abbrev RepUs (K : PySem.W.Frag) (F H : Hp) : List D → List V → Prop := Paired (RepU K F H)
theorem rds_rep {K : PySem.W.Frag} {F H : Hp} {A : List (List Addr)} {S : Sto} (hw : Wd T K F A S H) : ∀ {ws : List W} {vs : List V} {ds : List D}, RepWs K F A ws vs → rds S ws = some ds → RepUs K F H ds vs
  | _, _, _, .nil, h => by
    cases h
    exact .nil
  | _, _, _, .cons r rr, h => by
    obtain ⟨d, r', h1, h2, rfl⟩ := rds_cons h
    exact .cons (rd_rep hw r h1) (rds_rep hw rr h2)
/-- all of them as frozen data -/
def dats : List W → Option (List D)
  | [] => some []
  | .dat d :: ws => (dats ws).bind fun ds => some (d :: ds)
  | _ => none
theorem dats_rep {K : PySem.W.Frag} {F : Hp} {A : List (List Addr)} : ∀ {ws : List W} {vs : List V} {ds : List D}, RepWs K F A ws vs → dats ws = some ds → Reps K F ds vs
  | _, _, _, .nil, h => by
    cases h
    exact .nil
  | w :: ws, _, _, .cons r rr, h => by
    cases w with
    | dat d =>
      simp only [dats] at h
      cases h2 : dats ws with
      | none => rw [h2] at h; cases h
      | some r' =>
        rw [h2] at h
        cases h
        exact .cons r (dats_rep rr h2)
    | loc k j => cases h
    | scr ns => cases h
    | exn x => cases h
def small (ds : List D) : Option (List D) := ifO (decide (ds.length ≤ lim)) (some ds)
theorem small_some {ws : List W} {f : List D → W} {w : W} (h : (((dats ws).bind small).map f) = some w) : ∃ ds, dats ws = some ds ∧ ds.length ≤ lim ∧ w = f ds := by
  cases h1 : dats ws with
  | none => rw [h1] at h; cases h
  | some ds =>
    rw [h1, Option.bind_some] at h
    unfold small at h
    cases h2 : decide (ds.length ≤ lim) with
    | false => rw [h2] at h; cases h
    | true =>
      rw [h2] at h
      cases h
      exact ⟨ds, rfl, of_decide_eq_true h2, rfl⟩
def tTupF (t : TA) : TE := fun σ H Q => t σ H fun xs H1 => xs.length ≤ sizeLine ∧ NewT H1 xs Q
theorem pe_tupF {k : Nat} {t : TA} (h : PA X es t) : PE X (.Tuple es k pos) (tTupF t) := by
  refine ⟨fun pins s σ H Q I hq => ?_⟩
  refine wpAny_Tuple_spliced (thn (h.run pos pins s σ H _ I hq) fun us s1 ⟨xs, H1, I1, r, z, q⟩ => ⟨by rw [← r.length]; exact z, ?_⟩)
  have hf : H1 s1.heap.objs.size = none := I1.hok.fresh (Nat.le_refl _)
  exact ⟨.ref s1.heap.objs.size, _, tup_new (t' := s1.toks) I1 r z, rfl, q _ _ hf rfl⟩
/-- a tuple -/
def fTup (g : FA) : FE := fun ρ S => (g ρ S).bind fun ws S1 => R.lift (((dats ws).bind small).map fun ds => .dat (.tup .nod ds)) S1
theorem je_tup {k : Nat} (h : JA T X Wx es ga) : JE T X Wx (.Tuple es k pos) (fTup ga) := by
  obtain ⟨t1, h1, s1⟩ := h
  refine ⟨_, pe_tupF h1, fun G F A S H σ ρ Q hw hs hp => ?_⟩
  refine s1 G F A S H σ ρ _ hw hs (hp.bind fun ws S1 F1 A1 H1 v1 e1 p1 w1 r1 hp1 => ?_)
  obtain ⟨w, hw', q⟩ := hp1.lift
  obtain ⟨ds, h2, h3, rfl⟩ := small_some hw'
  have rr := dats_rep r1 h2
  exact ⟨by rw [← rr.length]; exact lim_le h3, fun p o hp ho => q _ A1 _ _ (w1.exNew hp _) (Pre.refl _) (w1.new hp _) (.tup (.inl ⟨o, upd_same, ho⟩) (rr.mono (w1.exNew hp _)))⟩
/-- a tuple that may be a dict's key -/
def fTupK (g : FA) : FE := fun ρ S => (g ρ S).bind fun ws S1 => R.lift (((dats ws).bind small).map fun ds => .dat (.tup .key ds)) S1
abbrev FL := Rho → Sto → R (List D)
def PostL (T : Tb) (K : PySem.W.Frag) (F : Hp) (A : List (List Addr)) (r : R (List D)) (Q : VK) (Wx : XK) : Prop :=
  match r with
  | .ok ds S => ∀ F' A' H' p vs, Ex F F' → Pre A A' → Wd T K F' A' S H' → H' p = some (.lst vs) → F' p = none → T.G p = none → p ∉ A'.flatten → Reps K F' ds vs → Q (.ref p) H'
  | .exc x S => ∀ F' A' H' cls d, Ex F F' → Pre A A' → Wd T K F' A' S H' → RepX T K F' x cls d → Wx cls d H'
  | .bad => False
theorem PostL.shift {K : PySem.W.Frag} {F : Hp} {A : List (List Addr)} {W : XK} {F' : Hp} {A' : List (List Addr)} {r : R (List D)} {Q : VK} (h : PostL T K F A r Q W) (e : Ex F F') (p : Pre A A') : PostL T K F' A' r Q W := by
  cases r with
  | ok a S => exact fun F2 A2 H2 q v e2 p2 => h F2 A2 H2 q v (e.trans e2) (p.trans p2)
  | exc x S => exact fun F2 A2 H2 c d e2 p2 => h F2 A2 H2 c d (e.trans e2) (p.trans p2)
  | bad => exact h
theorem PostL.bind {α β : Type} {K : PySem.W.Frag} {F : Hp} {A : List (List Addr)} {W : XK} {rel1 : Hp → List (List Addr) → α → β → Prop} {r : R α} {k : α → Sto → R (List D)} {P : β → Hp → Prop} {Q : VK} (h : PostL T K F A (r.bind k) Q W)
    (hk : ∀ a S' F' A' H' v, Ex F F' → Pre A A' → Wd T K F' A' S' H' → rel1 F' A' a v → PostL T K F' A' (k a S') Q W → P v H') : Post T K rel1 F A r P W := by
  cases r with
  | ok a S => exact fun F2 A2 H2 v e2 p2 w2 r2 => hk a S F2 A2 H2 v e2 p2 w2 r2 (h.shift e2 p2)
  | exc x S => exact h
  | bad => exact h
theorem PostL.new {K : PySem.W.Frag} {F H : Hp} {A : List (List Addr)} {S : Sto} {W : XK} {ds : List D} {vs : List V} {Q : VK} {p : Addr} (h : PostL T K F A (.ok ds S) Q W) (hw : Wd T K F A S H) (r : Reps K F ds vs) (hp : H p = none) : Q (.ref p) (upd H p (.lst vs)) := by
  refine h F A _ p vs (Evl.Ex.refl _) (Pre.refl _) (hw.junk hp _) upd_same (hw.freshF hp) (Evl.fresh_back hw.gh hp) (fun z => ?_) r
  have := hw.there p z
  rw [hp] at this
  cases this
structure JL (T : Tb) (X : Cx) (Wx : WX) (e : Expr) (f : FL) : Prop where
  ex : ∃ t, PE X e t ∧ ∀ G F A S H σ ρ Q, Wd (T.g G) X.K F A S H → Sl X.K F A ρ σ → PostL (T.g G) X.K F A (f ρ S) Q (fun c d H' => Wx c d σ H') → t σ H Q
theorem Wd.adopt {K : PySem.W.Frag} {F H : Hp} {A : List (List Addr)} {S : Sto} {p : Addr} {o : HO} (hw : Wd T K F A S H) (h : H p = some o) (hF : F p = none) (hG : T.G p = none) (hA : p ∉ A.flatten) (ho : ∀ ps, o ≠ .tbl ps := by intro ps z; cases z) : Wd T K (upd F p o) A S H := by
  refine ⟨fun a u e => ?_, hw.len, fun k as c h1 h2 => (hw.ok k as c h1 h2).more (Evl.Ex.new hF) (fun a ha e => ?_) (fun _ _ _ => rfl), hw.nod, hw.there, hw.gh, hw.gd, fun a u e => ?_, ⟨hw.tb.tabs, fun q hq => by rw [upd_ne (hw.tb.n2 hq h ho)]; exact hw.tb.f q hq, hw.tb.g, hw.tb.a, fun b ps z => by
    by_cases e : b = p
    · subst e
      rw [upd_same] at z
      exact ho ps (Option.some.inj z)
    · rw [upd_ne e] at z
      exact hw.tb.nf b ps z, hw.tb.ng, hw.tb.na⟩⟩
  · by_cases z : a = p
    · subst z
      rw [upd_same] at e
      rw [h]
      exact e
    · rw [upd_ne z] at e
      exact hw.sub a u e
  · rw [upd_ne]
    · exact e
    · rintro rfl
      exact hA (mem_flat h1 ha)
  · by_cases z : a = p
    · subst z
      exact hG
    · rw [upd_ne z] at e
      exact hw.fg a u e
theorem Wd.adoptC {K : PySem.W.Frag} {F H : Hp} {A : List (List Addr)} {S : Sto} {p : Addr} {o : HO} {c : C} (hw : Wd T K F A S H) (h : H p = some o) (hg : T.G p = none) (hA : p ∉ A.flatten) (hc : COk T K F H [p] c) (ho : ∀ ps, o ≠ .tbl ps := by intro ps z; cases z) : Wd T K F (A ++ [[p]]) (S ++ [c]) H := by
  refine ⟨hw.sub, by rw [List.length_append, List.length_append, hw.len]; rfl, fun k as c' h1 h2 => ?_, ?_, fun a ha => ?_, hw.gh, fun a ha => ?_, hw.fg, ⟨hw.tb.tabs, hw.tb.f, hw.tb.g, fun q hq m => by
    rw [List.flatten_append, List.flatten_singleton] at m
    rcases List.mem_append.mp m with m | m
    · exact hw.tb.a q hq m
    · exact hw.tb.n2 hq h ho (List.mem_singleton.mp m), hw.tb.nf, hw.tb.ng, fun b hb ps z => by
    rw [List.flatten_append, List.flatten_singleton] at hb
    rcases List.mem_append.mp hb with m | m
    · exact hw.tb.na b m ps z
    · rw [List.mem_singleton.mp m, h] at z
      exact ho ps (Option.some.inj z)⟩⟩
  · by_cases hk : k < A.length
    · rw [List.getElem?_append_left hk] at h1
      rw [List.getElem?_append_left (by rw [← hw.len]; exact hk)] at h2
      exact hw.ok k as c' h1 h2
    · have hk' : k = A.length := by
        have := (List.getElem?_eq_some_iff.mp h1).1
        rw [List.length_append, List.length_singleton] at this
        omega
      subst hk'
      rw [List.getElem?_concat_length] at h1
      rw [hw.len, List.getElem?_concat_length] at h2
      cases Option.some.inj h1
      cases Option.some.inj h2
      exact hc
  · rw [List.flatten_append, List.flatten_singleton, List.nodup_append]
    refine ⟨hw.nod, by simp, fun a ha b hb z => ?_⟩
    rw [List.mem_singleton] at hb
    subst z
    subst hb
    exact hA ha
  · rw [List.flatten_append, List.flatten_singleton] at ha
    rcases List.mem_append.mp ha with ha | ha
    · exact hw.there a ha
    · rw [List.mem_singleton] at ha
      subst ha
      rw [h]
      rfl
  · rw [List.flatten_append, List.flatten_singleton] at ha
    rcases List.mem_append.mp ha with ha | ha
    · exact hw.gd a ha
    · rw [List.mem_singleton] at ha
      subst ha
      exact hg
/-- frozen at once -/
def fFrz (g : FL) : FE := fun ρ S => (g ρ S).bind fun ds S1 => .ok (.dat (.list ds)) S1
/-- a cell -/
def fCell (g : FL) : FE := fun ρ S => (g ρ S).bind fun ds S1 => .ok (.loc S1.length 0) (S1 ++ [.lst ds])
theorem je_frz {f : FL} (h : JL T X Wx e f) : JE T X Wx e (fFrz f) := by
  obtain ⟨t, h1, s1⟩ := h
  refine ⟨t, h1, fun G F A S H σ ρ Q hw hs hp => s1 G F A S H σ ρ Q hw hs ?_⟩
  unfold fFrz at hp
  cases q : f ρ S with
  | ok ds S1 =>
    rw [q] at hp
    exact fun F1 A1 H1 p vs e1 p1 w1 hH hF hG hA hr => hp _ A1 H1 _ (e1.trans (Evl.Ex.new hF)) p1 (w1.adopt hH hF hG hA) (.lst upd_same (hr.mono (Evl.Ex.new hF)))
  | exc x S1 => rw [q] at hp; exact hp
  | bad => rw [q] at hp; exact hp
theorem je_cell {f : FL} (h : JL T X Wx e f) : JE T X Wx e (fCell f) := by
  obtain ⟨t, h1, s1⟩ := h
  refine ⟨t, h1, fun G F A S H σ ρ Q hw hs hp => s1 G F A S H σ ρ Q hw hs ?_⟩
  unfold fCell at hp
  cases q : f ρ S with
  | ok ds S1 =>
    rw [q] at hp
    refine fun F1 A1 H1 p vs e1 p1 w1 hH hF hG hA hr => hp F1 (A1 ++ [[p]]) H1 _ e1 (p1.trans (Pre.push _ _)) (w1.adoptC hH hG hA ⟨p, vs, rfl, hF, hH, hr⟩) ⟨[p], p, ?_, rfl, rfl⟩
    rw [← w1.len, List.getElem?_concat_length]
  | exc x S1 => rw [q] at hp; exact hp
  | bad => rw [q] at hp; exact hp
/-- a display -/
def lDisp (g : FA) : FL := fun ρ S => (g ρ S).bind fun ws S1 => R.lift ((dats ws).bind small) S1
theorem jl_lst (h : JA T X Wx es ga) : JL T X Wx (.List es pos) (lDisp ga) := by
  obtain ⟨t1, h1, s1⟩ := h
  refine ⟨_, pe_lst h1, fun G F A S H σ ρ Q hw hs hp => ?_⟩
  refine s1 G F A S H σ ρ _ hw hs (hp.bind fun ws S1 F1 A1 H1 v1 e1 p1 w1 r1 hp1 => ?_)
  cases h0 : (dats ws).bind small with
  | none => rw [h0] at hp1; exact hp1.elim
  | some ds =>
    rw [h0] at hp1
    obtain ⟨ds', h2, h3, e'⟩ := small_some (f := fun ds => .dat (.list ds)) (by rw [h0]; rfl)
    cases e'
    have rr := dats_rep r1 h2
    exact ⟨by rw [← rr.length]; exact lim_le h3, fun p hp => hp1.new w1 rr hp⟩
/-- a list joined, as a fresh list -/
def lCat (f g : FE) : FL := fun ρ S => (f ρ S).bind fun x S1 => (g ρ S1).bind fun y S2 => R.lift ((rd2 S2 x y addL).bind fun d => match d with
  | .list ds => some ds
  | _ => none) S2

/-- r: what the call asks of values; g: what it gives on data -/
def CallL (T : Tb) (K : PySem.W.Frag) (r : List V → Hp → VK → Prop) (g : List D → Option D) : Prop :=
  ∀ (G F : Hp) (A : List (List Addr)) (S : Sto) (H : Hp) (vs : List V) (ds : List D) (z : D) (Q : VK), Wd (T.g G) K F A S H → RepUs K F H ds vs → g ds = some z →
    (∀ F' H' v, Ex F F' → Wd (T.g G) K F' A S H' → Rep K F' z v → Q v H') → r vs H Q
def CallLL (T : Tb) (K : PySem.W.Frag) (r : List V → Hp → VK → Prop) (g : List D → Option (List D)) : Prop :=
  ∀ (G F : Hp) (A : List (List Addr)) (S : Sto) (H : Hp) (vs : List V) (ds : List D) (z : List D) (Q : VK), Wd (T.g G) K F A S H → RepUs K F H ds vs → g ds = some z →
    (∀ H' p us, Wd (T.g G) K F A S H' → H' p = some (.lst us) → F p = none → G p = none → p ∉ A.flatten → Reps K F z us → Q (.ref p) H') → r vs H Q
def fCall (g : List D → Option D) (f : FA) : FE := fun ρ S => (f ρ S).bind fun ws S1 => R.lift (((rds S1 ws).bind g).map W.dat) S1
def lCall (g : List D → Option (List D)) (f : FA) : FL := fun ρ S => (f ρ S).bind fun ws S1 => R.lift ((rds S1 ws).bind g) S1
theorem rds_some {α β : Type} {S : Sto} {ws : List W} {g : List D → Option α} {h : α → β} {w : β} (e : (((rds S ws).bind g).map h) = some w) : ∃ ds z, rds S ws = some ds ∧ g ds = some z ∧ w = h z := by
  cases h1 : rds S ws with
  | none => rw [h1] at e; cases e
  | some ds =>
    rw [h1, Option.bind_some] at e
    cases h2 : g ds with
    | none => rw [h2] at e; cases e
    | some z => rw [h2] at e; cases e; exact ⟨ds, z, rfl, h2, rfl⟩
theorem semE_cb {K : PySem.W.Frag} {t : TA} {r : List V → Hp → VK → Prop} {g : List D → Option D} (h : SemA T K Wx t ga) (hr : CallL T K r g) : SemE T K Wx (tCB r t) (fCall g ga) := by
  intro G F A S H σ ρ Q hw hs hp
  refine h G F A S H σ ρ _ hw hs (hp.bind fun ws S1 F1 A1 H1 v1 e1 p1 w1 r1 hp1 => ?_)
  obtain ⟨w, hw', q⟩ := hp1.lift
  obtain ⟨ds, z, h2, h3, rfl⟩ := rds_some hw'
  exact hr G F1 A1 S1 H1 v1 ds z Q w1 (rds_rep w1 r1 h2) h3 fun F' H' v e' w' r' => q F' A1 H' v e' (Pre.refl _) w' r'
theorem je_callB {r : List V → Hp → VK → Prop} {g : List D → Option D} {x : Str} {id : String} {p : Pos} (hc : CallR X (.builtin id) r) (hl : CallL T X.K r g) (hg : Gl X x) (hm : X.mg x = none) (hv : bootBuiltins x = some (.builtin id)) (ha : JA T X Wx (e :: es) ga) (hn : x ≠ "__name__" := by decide)
    (hdb : (x == ("__debug__" : Str)) = false := by decide) (he : starEach (e :: es) X.env = (false, eval e X.env) :: starEach es X.env := by rfl) (hpl : (backTo pos (starEach es X.env)).any (·.1) = false := by rfl) : JE T X Wx (.Call (.Name x p) (e :: es) [] pos) (fCall g ga) := by
  obtain ⟨t1, h1, s1⟩ := ha
  exact ⟨_, pe_callB hc hg hm hv h1 hn hdb he hpl, semE_cb s1 hl⟩
theorem je_callTy {r : List V → Hp → VK → Prop} {g : List D → Option D} {x : Str} {id : String} {p : Pos} (hc : CallR X (.type id) r) (hl : CallL T X.K r g) (hg : Gl X x) (hm : X.mg x = none) (hv : bootBuiltins x = some (.type id)) (ha : JA T X Wx (e :: es) ga) (hn : x ≠ "__name__" := by decide)
    (hdb : (x == ("__debug__" : Str)) = false := by decide) (he : starEach (e :: es) X.env = (false, eval e X.env) :: starEach es X.env := by rfl) (hpl : (backTo pos (starEach es X.env)).any (·.1) = false := by rfl) : JE T X Wx (.Call (.Name x p) (e :: es) [] pos) (fCall g ga) := by
  obtain ⟨t1, h1, s1⟩ := ha
  exact ⟨_, pe_callTy hc hg hm hv h1 hn hdb he hpl, semE_cb s1 hl⟩
end
end Vz
namespace Vz
open PySem PySem.Spec PyProof.Rows L2
abbrev noW : WX := fun _ _ _ _ => False
theorem tkB {X : Cx} : Takes X noW := takes_none5
section
variable {T : Tb} {X : Cx} {Wx : WX} {e a b c : Expr} {fa fb fc f : FE} {tb tc : FT} {pos : Pos} {st : Stmt} {sts : List Stmt} {g h : FS}

def Out.andThen (r : Out) (k : Rho → Sto → Out) : Out := match r with
  | .nx ρ S => k ρ S
  | r => r
theorem PostS.andThen {K : PySem.W.Frag} {F : Hp} {A : List (List Addr)} {r : Out} {k : FS} {D : Ends} {u : TS} (h : PostS T K F A (r.andThen k) D Wx)
    (hk : ∀ ρ S F' A' H' σ, Ex F F' → Pre A A' → Wd T K F' A' S H' → Sl K F' A' ρ σ → PostS T K F' A' (k ρ S) D Wx → u D σ H') : PostS T K F A r { D with nx := u D } Wx := by
  cases r with
  | nx ρ S => exact fun F2 A2 H2 σ e2 p2 w2 s2 => hk ρ S F2 A2 H2 σ e2 p2 w2 s2 (PostS.shift h e2 p2)
  | bk ρ S => exact h
  | ct ρ S => exact h
  | rt ρ S => exact h
  | exc x ρ S => exact h
  | bad => exact h
def sNil : FS := fun ρ S => .nx ρ S
def sSeq (g h : FS) : FS := fun ρ S => (g ρ S).andThen h
theorem jb_nil : JB T X Wx [] sNil := ⟨_, pss_nil, fun G F A S H σ ρ D hw hs hp => hp F A H σ (Evl.Ex.refl _) (Pre.refl _) hw hs⟩
theorem jb_one (h : JS T X Wx st g) : JB T X Wx [st] g := by
  obtain ⟨t, h1, s1⟩ := h
  exact ⟨t, pss_one h1, s1⟩
theorem jb_cons (h1 : JS T X Wx st g) (h2 : JB T X Wx sts h) : JB T X Wx (st :: sts) (sSeq g h) := by
  obtain ⟨t, h1, s1⟩ := h1
  obtain ⟨u, h2, s2⟩ := h2
  refine ⟨_, pss_cons h1 h2, fun G F A S H σ ρ D hw hs hp => ?_⟩
  exact s1 G F A S H σ ρ _ hw hs (PostS.andThen hp fun ρ' S' F' A' H' σ' e p w s q => s2 G F' A' S' H' σ' ρ' D w s q)
def sPass : FS := sNil
def sBreak : FS := fun ρ S => .bk ρ S
def sCont : FS := fun ρ S => .ct ρ S
def sExpr (f : FE) : FS := fun ρ S => (f ρ S).then ρ fun _ S1 => .nx ρ S1
theorem js_expr (he : JE T X Wx e f) (hs : swapsWith e none pos.line X.env = pure false := by rfl) : JS T X Wx (.Expr e pos) (sExpr f) := by
  obtain ⟨t, h1, s1⟩ := he
  refine ⟨_, ps_expr h1 hs, fun G F A S H σ ρ D hw hs hp => ?_⟩
  exact s1 G F A S H σ ρ _ hw hs (PostS.then hs hp fun w S' F' A' H' v e p w' r q => q F' A' H' σ (Evl.Ex.refl _) (Pre.refl _) w' (hs.mono e p))
def sRet (f : FE) : FS := fun ρ S => (f ρ S).then ρ fun w S1 => .rt w S1
theorem js_ret (he : JE T X Wx e f) : JS T X Wx (.Return (some e) pos) (sRet f) := by
  obtain ⟨t, h1, s1⟩ := he
  refine ⟨_, ps_ret h1, fun G F A S H σ ρ D hw hs hp => ?_⟩
  exact s1 G F A S H σ ρ _ hw hs (PostS.then hs hp fun w S' F' A' H' v e p w' r q => q F' A' H' v (Evl.Ex.refl _) (Pre.refl _) w' r)
def sRetN : FS := fun _ S => .rt (.dat .none) S
def sIf (t : FT) (g h : FS) : FS := fun ρ S => (t ρ S).then ρ fun c S1 => match c with
  | true => g ρ S1
  | false => h ρ S1
theorem js_if {p q : List Stmt} (hc : JT T X Wx c tc) (ha : JB T X Wx p g) (hb : JB T X Wx q h) : JS T X Wx (.If c p q pos) (sIf tc g h) := by
  obtain ⟨t0, h0, s0⟩ := hc
  obtain ⟨t, h1, s1⟩ := ha
  obtain ⟨u, h2, s2⟩ := hb
  refine ⟨_, ps_if h0 h1 h2, fun G F A S H σ ρ D hw hs hp => ?_⟩
  refine s0 G F A S H σ ρ _ hw hs (PostS.then hs hp fun x S' F' A' H' v e p w' r q => ?_)
  cases r
  cases x with
  | true => exact s1 G F' A' S' H' σ ρ D w' (hs.mono e p) q
  | false => exact s2 G F' A' S' H' σ ρ D w' (hs.mono e p) q
/-- name = e -/
def sSet (i : Nat) (f : FE) : FS := fun ρ S => (f ρ S).then ρ fun w S1 => .nx (ρ.set i (some w)) S1
theorem js_set {i : Nat} {x : Str} {pos' : Pos} (hN : X.N.Nodup) (he : JE T X Wx e f) (hi : X.N[i]? = some x := by rfl) (hx : Loc X.env.scope x := by first | exact Or.inl rfl | exact Or.inr rfl) (hs : swapsWith e (some (.Name x pos')) pos.line X.env = pure false := by rfl) (hf : X.fn x = true ∨ X.env.scope.names.lookup x = some .local := by first | exact .inl rfl | exact .inr rfl | assumption) :
    JS T X Wx (.Assign [.Name x pos'] e pos) (sSet i f) := by
  obtain ⟨t, h1, s1⟩ := he
  refine ⟨_, ps_set hN hi hx h1 hs hf, fun G F A S H σ ρ D hw hs hp => ?_⟩
  refine s1 G F A S H σ ρ _ hw hs (PostS.then hs hp fun w S' F' A' H' v e p w' r q => ?_)
  exact q F' A' H' _ (Evl.Ex.refl _) (Pre.refl _) w' ((hs.mono e p).set i r)
/-- name op= e (two ints) -/
def sAug (i : Nat) (g : D → D → Option D) (f : FE) : FS := fun ρ S => match ρ[i]? with
  | some (some x) => (f ρ S).then ρ fun y S1 => (R.lift ((rd2 S1 x y g).map W.dat) S1).then ρ fun w S2 => .nx (ρ.set i (some w)) S2
  | _ => .bad
/-- a, b = x, y -/
def sPar (i j : Nat) (f : FA) : FS := fun ρ S => (f ρ S).then ρ fun ws S1 => match ws with
  | [v, w] => .nx ((ρ.set i (some v)).set j (some w)) S1
  | _ => .bad
theorem js_par {i j : Nat} {x y : Str} {px py pt : Pos} {kt k2 pt2} {ga : FA} (hc : X.calm = true) (hN : X.N.Nodup) (ha : JA T X Wx [a, b] ga) (hij : i ≠ j := by decide) (hi : X.N[i]? = some x := by rfl) (hj : X.N[j]? = some y := by rfl)
    (hx : X.env.scope.names.lookup x = some .local := by rfl) (hy : X.env.scope.names.lookup y = some .local := by rfl)
    (hw : swappedStores [.Tuple [.Name x px, .Name y py] kt pt] (.Tuple [a, b] k2 pt2) X.env = pure (some [x, y]) := by rfl)
    (hs : swapsWithSole [.Tuple [.Name x px, .Name y py] kt pt] (.Tuple [a, b] k2 pt2) pos.line X.env = pure false := by rfl) :
    JS T X Wx (.Assign [.Tuple [.Name x px, .Name y py] kt pt] (.Tuple [a, b] k2 pt2) pos) (sPar i j ga) := by
  obtain ⟨t, h1, s1⟩ := ha
  refine ⟨_, ps_par hc hN hi hj hij hx hy h1 hw hs, fun G F A S H σ ρ D hw hs hp => ?_⟩
  refine s1 G F A S H σ ρ _ hw hs (PostS.then hs hp fun ws S' F' A' H' v e p w' r q => ?_)
  cases r with
  | nil => exact q.elim
  | cons r1 rr =>
    cases rr with
    | nil => exact q.elim
    | cons r2 rr =>
      cases rr with
      | nil => exact ⟨_, _, rfl, q F' A' H' _ (Evl.Ex.refl _) (Pre.refl _) w' (((hs.mono e p).set i r1).set j r2)⟩
      | cons _ _ => exact q.elim

/-- what a target makes of a value -/
abbrev FG := W → Rho → Sto → Option (Rho × Sto)
structure JG (T : Tb) (X : Cx) (tg : Expr) (g : FG) : Prop where
  ex : ∃ t, PG X tg t ∧ ∀ G F A S H σ ρ w v Q, Wd (T.g G) X.K F A S H → Sl X.K F A ρ σ → RepW X.K F A w v → (∃ ρ' S', g w ρ S = some (ρ', S') ∧ ∀ F' A' σ' H', Ex F F' → Pre A A' → Wd (T.g G) X.K F' A' S' H' → Sl X.K F' A' ρ' σ' → Q σ' H') → t v σ H Q
structure JGs (T : Tb) (X : Cx) (tgs : List Expr) (g : List D → Rho → Option Rho) : Prop where
  ex : ∃ t, PGs X tgs t ∧ ∀ G F A S H σ ρ ds vs Q, Wd (T.g G) X.K F A S H → Sl X.K F A ρ σ → Reps X.K F ds vs → (∃ ρ', g ds ρ = some ρ' ∧ ∀ σ', Sl X.K F A ρ' σ' → Q σ' H) → t vs σ H Q
def oName (i : Nat) : FG := fun w ρ S => some (ρ.set i (some w), S)
theorem jg_name {i : Nat} {x : Str} (hN : X.N.Nodup) (hi : X.N[i]? = some x := by rfl) (hx : Loc X.env.scope x := by first | exact Or.inl rfl | exact Or.inr rfl) (hf : X.fn x = true ∨ X.env.scope.names.lookup x = some .local := by first | exact .inl rfl | exact .inr rfl | assumption) : JG T X (.Name x pos) (oName i) := by
  refine ⟨_, pg_name hN hi hx hf, fun G F A S H σ ρ w v Q hw hs r ⟨ρ', S', h1, q⟩ => ?_⟩
  cases h1
  exact q _ _ _ _ (Evl.Ex.refl _) (Pre.refl _) hw (hs.set i r)
def onNil : List D → Rho → Option Rho := fun ds ρ => match ds with
  | [] => some ρ
  | _ => none
def onCons (g : FG) (gs : List D → Rho → Option Rho) : List D → Rho → Option Rho := fun ds ρ => match ds with
  | d :: r => (g (.dat d) ρ []).bind fun p => gs r p.1
  | _ => none
theorem jgs_nil : JGs T X [] onNil := by
  refine ⟨_, pgs_nil, fun G F A S H σ ρ ds vs Q hw hs r ⟨ρ', h1, q⟩ => ?_⟩
  cases r with
  | nil =>
    cases h1
    exact ⟨rfl, q _ hs⟩
  | cons _ _ => cases h1
/-- names alone stand in a tuple target -/
theorem jgs_cons {i : Nat} {x : Str} {tgs : List Expr} {gs : List D → Rho → Option Rho} (hN : X.N.Nodup) (h2 : JGs T X tgs gs) (hi : X.N[i]? = some x := by rfl) (hx : Loc X.env.scope x := by first | exact Or.inl rfl | exact Or.inr rfl)
    (hf : X.fn x = true ∨ X.env.scope.names.lookup x = some .local := by first | exact .inl rfl | exact .inr rfl | assumption)
    (hst : (assignEach (.Name x pos :: tgs) X.env).map (·.2) = assign (.Name x pos) X.env :: (assignEach tgs X.env).map (·.2) := by rfl) : JGs T X (.Name x pos :: tgs) (onCons (oName i) gs) := by
  obtain ⟨u, h2, s2⟩ := h2
  refine ⟨_, pgs_cons (pg_name hN hi hx hf) h2 hst, fun G F A S H σ ρ ds vs Q hw hs r ⟨ρ', h1, q⟩ => ?_⟩
  cases r with
  | nil => cases h1
  | cons r rr => exact ⟨_, _, rfl, s2 G F A S H _ _ _ _ Q hw (hs.set (w := .dat _) i r) rr ⟨ρ', h1, q⟩⟩
/-- (a, b, ..) = a tuple -/
def oTup (n : Nat) (gs : List D → Rho → Option Rho) : FG := fun w ρ S => match rd S w with
  | some (.tup _ ds) => ifO (decide (ds.length = n)) ((gs ds ρ).map fun ρ' => (ρ', S))
  | _ => none
theorem jg_tup {tgs : List Expr} {k : Nat} {gs : List D → Rho → Option Rho} {n : Nat} (hc : X.calm = true) (h : JGs T X tgs gs) (hn : (assignEach tgs X.env).length = n := by rfl) (hst : (assignEach tgs X.env).findIdx? (·.1) = none := by rfl) :
    JG T X (.Tuple tgs k pos) (oTup n gs) := by
  obtain ⟨t, h1, s1⟩ := h
  refine ⟨_, pg_tup hc h1 hn hst, fun G F A S H σ ρ w v Q hw hs r ⟨ρ', S', h2, q⟩ => ?_⟩
  unfold oTup at h2
  split at h2
  · rename_i ds e
    obtain ⟨c, h2⟩ := ifO_some h2
    cases h3 : gs ds ρ with
    | none => rw [h3] at h2; cases h2
    | some ρ2 =>
      rw [h3] at h2
      cases h2
      have rr := rd_rep hw r e
      cases rr with
      | flat z => cases z
      | tup f1 f2 f3 => exact ⟨_, _, rfl, f2, by rw [← f3.length]; exact of_decide_eq_true c, s1 G F A S H σ ρ ds _ Q hw hs f3 ⟨ρ', h3, fun σ' s' => q F A σ' H (Evl.Ex.refl _) (Pre.refl _) hw s'⟩⟩
  · cases h2
/-- target = e -/
def sAsg (f : FE) (g : FG) : FS := fun ρ S => (f ρ S).then ρ fun w S1 => match g w ρ S1 with
  | some (ρ', S2) => .nx ρ' S2
  | none => .bad
theorem js_asg {tg : Expr} {gg : FG} (he : JE T X Wx e f) (hg : JG T X tg gg) (hs : swapsWithSole [tg] e pos.line X.env = pure false := by rfl) (hw : swappedStores [tg] e X.env = pure none := by rfl)
    (h1 : (assignEach [tg] X.env).map (·.2) = [assign tg X.env] := by rfl) : JS T X Wx (.Assign [tg] e pos) (sAsg f gg) := by
  obtain ⟨t, g1, s1⟩ := he
  obtain ⟨u, g2, s2⟩ := hg
  refine ⟨_, ps_asg g1 g2 hs hw h1, fun G F A S H σ ρ D hw hs hp => ?_⟩
  refine s1 G F A S H σ ρ _ hw hs (PostS.then hs hp fun w S' F' A' H' v e p w' r q => ?_)
  cases h3 : gg w ρ S' with
  | none => rw [h3] at q; exact q.elim
  | some z =>
    rw [h3] at q
    exact s2 G F' A' S' H' σ ρ w v _ w' (hs.mono e p) r ⟨z.1, z.2, h3, fun F2 A2 σ' H2 e2 p2 w2 s2 => q F2 A2 H2 σ' e2 p2 w2 s2⟩
end

/-- what a result is worth to the caller, who has n cells: cells made since are dropped; one that is handed back is frozen (c: handed back as a cell) -/
def retV (c : Bool) (n : Nat) (w : W) (S : Sto) : R W := match w with
  | .loc k j => match decide (k < n) with
    | true => .ok (.loc k j) (S.take n)
    | false => match j with
      | 0 => match S[k]? with
        | some (.lst xs) => (match c with
          | true => .ok (.loc n 0) (S.take n ++ [.lst xs])
          | false => .ok (.dat (.list xs)) (S.take n))
        | some (.frz d) => .ok (.dat d) (S.take n)
        | some (.dT ps) => .ok (.dat (.dT ps)) (S.take n)
        | some (.dK ps) => .ok (.dat (.dK ps)) (S.take n)
        | some (.ll xss) => .ok (.dat (.list (xss.map D.list))) (S.take n)
        | some (.ins cl fs) => .ok (.loc n 0) (S.take n ++ [.ins cl fs])
        | none => .bad
      | _ => .bad
  | w => .ok w (S.take n)
def Out.fn (c : Bool) (n : Nat) : Out → R W
  | .nx _ S => .ok (.dat .none) (S.take n)
  | .rt w S => retV c n w S
  | .exc x _ S => .exc x (S.take n)
  | _ => .bad
def runF (m : Nat) (c : Bool) (fb : FS) : List W → Sto → R W := fun ws S => (fb (ws.map some ++ List.replicate (m - ws.length) none) S).fn c S.length
def spV (T : Tb) (K : PySem.W.Frag) (n : Nat) (f : List W → Sto → R W) : Sp := fun vs H Q E => ∃ G F A S ws, ws.length = n ∧ Wd (T.g G) K F A S H ∧ RepWs K F A ws vs ∧ Post (T.g G) K (RepW K) F A (f ws S) Q E
section
variable {T : Tb} {K : PySem.W.Frag}
theorem rws_len {F : Hp} {A : List (List Addr)} {ws : List W} {vs : List V} (h : RepWs K F A ws vs) : ws.length = vs.length := Paired.length h
theorem sl_start {F : Hp} {A : List (List Addr)} {N : List Str} : ∀ {ws : List W} {vs : List V}, RepWs K F A ws vs → Sl K F A (ws.map some ++ List.replicate (N.length - ws.length) none) (L2.start N vs) := by
  intro ws vs h
  have hl := rws_len h
  refine ⟨by unfold L2.start; simp [hl], fun i w q => ?_⟩
  by_cases hi : i < ws.length
  · rw [List.getElem?_append_left (by simpa using hi), List.getElem?_map] at q
    cases h1 : ws[i]? with
    | none => rw [h1] at q; cases q
    | some w' =>
      rw [h1] at q
      cases q
      obtain ⟨v, h2, h3⟩ := prd_get h h1
      refine ⟨v, ?_, h3⟩
      unfold L2.start
      rw [List.getElem?_append_left (by rw [List.length_map, ← hl]; exact hi), List.getElem?_map, h2]
      rfl
  · rw [List.getElem?_append_right (by simpa using hi)] at q
    rw [List.getElem?_replicate] at q
    split at q <;> cases q
theorem Pre.cutW {A A' : List (List Addr)} (h : Pre A A') : A'.take A.length = A := h.cut rfl
/-- what is handed back, in the caller's world -/
theorem mem_take {A' : List (List Addr)} {k n : Nat} {as : List Addr} {a : Addr} (nd : A'.flatten.Nodup) (h : A'[k]? = some as) (m : a ∈ as) (hk : ¬ k < n) : a ∉ (A'.take n).flatten := fun z => by
  obtain ⟨bs, h1, h2⟩ := List.mem_flatten.mp z
  obtain ⟨j, hj, e⟩ := List.getElem_of_mem h1
  have h3 : (A'.take n)[j]? = some bs := by rw [List.getElem?_eq_getElem hj, e]
  rw [List.getElem?_take] at h3
  split at h3
  · rename_i hjn
    have := nodup_ix_flat nd h3 h h2 m
    omega
  · cases h3


def OwnP (K : PySem.W.Frag) (F H : Hp) (xs : List D) (b : Addr) : Prop := F b = none ∧ ∃ vs, H b = some (.lst vs) ∧ Reps K F xs vs
theorem own_shift {F H : Hp} {a : Addr} {o : HO} (hF : F a = none) : ∀ {xss : List (List D)} {bs : List Addr}, a ∉ bs → Paired (OwnP K F H) xss bs → Paired (OwnP K (upd F a o) H) xss bs
  | _, _, _, .nil => .nil
  | _, b :: bs, h, .cons q r => by
    obtain ⟨q1, vs, q2, q3⟩ := q
    refine .cons ⟨?_, vs, q2, q3.mono (Evl.Ex.new hF)⟩ (own_shift hF (fun z => h (List.mem_cons_of_mem _ z)) r)
    rw [upd_ne]
    · exact q1
    · rintro rfl
      exact h (by simp)
/-- a list of lists frozen -/
theorem frz_ll {A : List (List Addr)} {S : Sto} {H : Hp} : ∀ {xss : List (List D)} {bs : List Addr} {F : Hp}, Wd T K F A S H → (∀ b ∈ bs, T.G b = none ∧ b ∉ A.flatten) → bs.Nodup → Paired (OwnP K F H) xss bs →
    ∃ F', Ex F F' ∧ Wd T K F' A S H ∧ Reps K F' (xss.map D.list) (bs.map V.ref)
  | _, _, F, hw, _, _, .nil => ⟨F, Evl.Ex.refl _, hw, .nil⟩
  | _, b :: bs, F, hw, hA, hn, .cons q r => by
    obtain ⟨q1, vs, q2, q3⟩ := q
    obtain ⟨n1, n2⟩ := List.nodup_cons.mp hn
    have e1 : Ex F (upd F b (.lst vs)) := Evl.Ex.new q1
    obtain ⟨F', e2, w2, r2⟩ := frz_ll (hw.adopt q2 q1 (hA b (by simp)).1 (hA b (by simp)).2) (fun c hc => hA c (List.mem_cons_of_mem _ hc)) n2 (own_shift q1 n1 r)
    exact ⟨F', e1.trans e2, w2, .cons (.lst (e2 _ _ upd_same) (q3.mono (e1.trans e2))) r2⟩
theorem Wd.adoptM {F H : Hp} {A : List (List Addr)} {S : Sto} {as : List Addr} {c : C} (hw : Wd T K F A S H) (hn : as.Nodup) (hA : ∀ b ∈ as, b ∉ A.flatten) (hH : ∀ b ∈ as, (H b).isSome) (hG : ∀ b ∈ as, T.G b = none) (hc : COk T K F H as c) (hT : ∀ b ∈ as, ∀ ps, H b ≠ some (.tbl ps)) : Wd T K F (A ++ [as]) (S ++ [c]) H := by
  refine ⟨hw.sub, by rw [List.length_append, List.length_append, hw.len]; rfl, fun k as' c' h1 h2 => ?_, ?_, fun a ha => ?_, hw.gh, fun a ha => ?_, hw.fg, ⟨hw.tb.tabs, hw.tb.f, hw.tb.g, fun q hq m => by
    rw [List.flatten_append, List.flatten_singleton] at m
    rcases List.mem_append.mp m with m | m
    · exact hw.tb.a q hq m
    · obtain ⟨ps, z, _⟩ := hw.tb.tabs q hq
      exact hT _ m ps z, hw.tb.nf, hw.tb.ng, fun b hb => by
    rw [List.flatten_append, List.flatten_singleton] at hb
    rcases List.mem_append.mp hb with m | m
    · exact hw.tb.na b m
    · exact hT b m⟩⟩
  · by_cases hk : k < A.length
    · rw [List.getElem?_append_left hk] at h1
      rw [List.getElem?_append_left (by rw [← hw.len]; exact hk)] at h2
      exact hw.ok k as' c' h1 h2
    · have hk' : k = A.length := by
        have := (List.getElem?_eq_some_iff.mp h1).1
        rw [List.length_append, List.length_singleton] at this
        omega
      subst hk'
      rw [List.getElem?_concat_length] at h1
      rw [hw.len, List.getElem?_concat_length] at h2
      cases Option.some.inj h1
      cases Option.some.inj h2
      exact hc
  · rw [List.flatten_append, List.flatten_singleton, List.nodup_append]
    refine ⟨hw.nod, hn, fun a ha b hb z => ?_⟩
    subst z
    exact hA a hb ha
  · rw [List.flatten_append, List.flatten_singleton] at ha
    rcases List.mem_append.mp ha with ha | ha
    · exact hw.there a ha
    · exact hH a ha
  · rw [List.flatten_append, List.flatten_singleton] at ha
    rcases List.mem_append.mp ha with ha | ha
    · exact hw.gd a ha
    · exact hG a ha
theorem nodup_mem {A : List (List Addr)} {k : Nat} {as : List Addr} (nd : A.flatten.Nodup) (h : A[k]? = some as) : as.Nodup := by
  obtain ⟨l1, l2, rfl⟩ := List.append_of_mem (List.mem_of_getElem? h)
  rw [List.flatten_append, List.flatten_cons, List.nodup_append] at nd
  exact (List.nodup_append.mp nd.2.1).1
theorem retV_ok {F F' : Hp} {A A' : List (List Addr)} {S' : Sto} {H' : Hp} {w : W} {v : V} {c : Bool} {Q : VK} {E : XK} (hp : Pre A A') (e : Ex F F') (hw : Wd T K F' A' S' H') (r : RepW K F' A' w v) (h : Post T K (RepW K) F A (retV c A.length w S') Q E) : Q v H' := by
  have cut := hp.cutW
  have wc := hw.cut A.length
  rw [cut] at wc
  cases w with
  | dat d => exact h F' A H' v e (Pre.refl _) wc r
  | scr ns => exact h F' A H' v e (Pre.refl _) wc r
  | exn x => exact h F' A H' v e (Pre.refl _) wc r
  | loc k j =>
    obtain ⟨as, a, h1, h2, rfl⟩ := r
    unfold retV at h
    cases hk : decide (k < A.length) with
    | true =>
      simp only [hk] at h
      refine h F' A H' _ e (Pre.refl _) wc ⟨as, a, ?_, h2, rfl⟩
      have hk := of_decide_eq_true hk
      have := List.getElem?_take_of_lt (l := A') hk
      rw [cut] at this
      rw [this]
      exact h1
    | false =>
      simp only [hk] at h
      have hk := of_decide_eq_false hk
      cases j with
      | succ j => exact h.elim
      | zero =>
        cases q : S'[k]? with
        | none => simp only [q] at h; exact h.elim
        | some c' =>
          have ck := hw.ok k as c' h1 q
          have gA : ∀ b ∈ as, T.G b = none := fun b hb => hw.gd b (mem_flat h1 hb)
          have nA : ∀ b ∈ as, b ∉ A.flatten := fun b hb => by
            have := mem_take hw.nod h1 hb hk
            rwa [cut] at this
          have nd := nodup_mem hw.nod h1
          simp only [q] at h
          cases c' with
          | lst xs =>
            obtain ⟨b, vs, rfl, c1, c2, c3⟩ := ck
            cases Option.some.inj h2
            have nA := nA a (by simp)
            cases c with
            | true =>
              refine h F' (A ++ [[a]]) H' _ e (Pre.push _ _) (wc.adoptC c2 (hw.gd a (mem_flat h1 (by simp))) nA ⟨a, vs, rfl, c1, c2, c3⟩) ⟨[a], a, by rw [List.getElem?_concat_length], rfl, rfl⟩
            | false => exact h _ A H' _ (e.trans (Evl.Ex.new c1)) (Pre.refl _) (wc.adopt c2 c1 (gA a (by simp)) nA) (.lst upd_same (c3.mono (Evl.Ex.new c1)))
          | frz d =>
            obtain ⟨b, r, rfl, c1⟩ := ck
            cases Option.some.inj h2
            exact h F' A H' _ e (Pre.refl _) wc c1
          | dT ps =>
            obtain ⟨b, vs, rfl, c1, c2, c3⟩ := ck
            cases Option.some.inj h2
            exact h _ A H' _ (e.trans (Evl.Ex.new c1)) (Pre.refl _) (wc.adopt c2 c1 (gA a (by simp)) (nA a (by simp))) (.dT upd_same (c3.mono (Evl.Ex.new c1)))
          | dK ps =>
            obtain ⟨b, vs, rfl, c1, c2, c3⟩ := ck
            cases Option.some.inj h2
            exact h _ A H' _ (e.trans (Evl.Ex.new c1)) (Pre.refl _) (wc.adopt c2 c1 (gA a (by simp)) (nA a (by simp))) (.dK upd_same (c3.mono (Evl.Ex.new c1)))
          | ll xss =>
            obtain ⟨b, bs, rfl, c1, c2, c3⟩ := ck
            cases Option.some.inj h2
            obtain ⟨n1, n2⟩ := List.nodup_cons.mp nd
            have e1 : Ex F' (upd F' a (.lst (bs.map V.ref))) := Evl.Ex.new c1
            obtain ⟨F2, e2, w2, r2⟩ := frz_ll (wc.adopt c2 c1 (gA a (by simp)) (nA a (by simp))) (fun b' hb' => ⟨gA b' (List.mem_cons_of_mem _ hb'), nA b' (List.mem_cons_of_mem _ hb')⟩) n2 (own_shift (H := H') c1 n1 c3)
            exact h F2 A H' _ (e.trans (e1.trans e2)) (Pre.refl _) w2 (.lst (e2 _ _ upd_same) r2)
          | ins cl fs =>
            exact h F' (A ++ [as]) H' _ e (Pre.push _ _) (wc.adoptM nd nA (fun b hb => hw.there b (mem_flat h1 hb)) (fun b hb => hw.gd b (mem_flat h1 hb)) ck fun b hb => hw.tb.na b (mem_flat h1 hb)) ⟨as, a, by rw [List.getElem?_concat_length], h2, rfl⟩
theorem semF {t : TS} {g : FS} {E : XK} {c : Bool} {N : List Str} {n : Nat} (hs : SemS T K (fun cls d _ H => E cls d H) t g) {vs : List V} {H : Hp} {Q : VK} (h : spV T K n (runF N.length c g) vs H Q E) : t { nx := fun _ H' => Q .non H', rt := Q } (L2.start N vs) H := by
  obtain ⟨G, F, A, S, ws, hn, hw, hr, hp⟩ := h
  refine hs G F A S H _ (ws.map some ++ List.replicate (N.length - ws.length) none) _ hw (sl_start hr) ?_
  unfold runF at hp
  rw [← hw.len] at hp
  cases q : g (ws.map some ++ List.replicate (N.length - ws.length) none) S with
  | nx ρ S1 =>
    rw [q] at hp
    intro F1 A1 H1 σ1 e1 p1 w1 _
    have wc := w1.cut A.length
    rw [p1.cutW] at wc
    exact hp F1 A H1 .non e1 (Pre.refl _) wc .non
  | rt w S1 =>
    rw [q] at hp
    intro F1 A1 H1 v e1 p1 w1 r1
    exact retV_ok p1 e1 w1 r1 hp
  | exc x ρ S1 =>
    rw [q] at hp
    intro F1 A1 H1 σ1 cls d e1 p1 w1 _ rx
    have wc := w1.cut A.length
    rw [p1.cutW] at wc
    exact hp F1 A H1 cls d e1 (Pre.refl _) wc rx
  | bk ρ S1 => rw [q] at hp; exact hp.elim
  | ct ρ S1 => rw [q] at hp; exact hp.elim
  | bad => rw [q] at hp; exact hp.elim
end
section
variable {T : Tb} {K : PySem.W.Frag} {P : Program} {w : World} {mg : Str → Option Value} {base : Heap} {x qual : Str} {params : Arguments} {body : List Stmt} {scope : Scope} {dvs : List V} {kws : List (Str × V)} {f : Addr} {fd : FuncData}
end
/-- f(..), an own def -/
def fApp (n : Nat) (g : List W → Sto → R W) (f : FA) : FE := fun ρ S => (f ρ S).bind fun ws S1 => match decide (ws.length = n) with
  | true => g ws S1
  | false => .bad
section
variable {T : Tb} {X : Cx} {Wx : WX} {k n : Nat} {f : Addr} {fd : FuncData} {ps : List Str} {g : List W → Sto → R W} {ga : FA} {x : Str} {p pos : Pos} {e : Expr} {es : List Expr}
theorem semE_app {K : PySem.W.Frag} {t : TA} (h : SemA T K Wx t ga) : SemE T K Wx (tCallS (spV T K n g) (WE Wx) t) (fApp n g ga) := by
  intro G F A S H σ ρ Q hw hs hp
  refine h G F A S H σ ρ _ hw hs (hp.bind fun ws S1 F1 A1 H1 v1 e1 p1 w1 r1 hp1 => ?_)
  cases hn : decide (ws.length = n) with
  | false => rw [hn] at hp1; exact hp1.elim
  | true =>
    rw [hn] at hp1
    exact ⟨G, F1, A1, S1, ws, of_decide_eq_true hn, w1, r1, hp1⟩
end
end Vz
namespace Vz
open PySem PySem.Spec PyProof.Rows L2
section
variable {T : Tb} {X : Cx} {Wx : WX} {e a b c : Expr} {f : FE} {tc : FT} {pos : Pos} {st : Stmt} {g : FS} {tg iter : Expr}
/-- what is walked: data that stays; a list in a cell, as it stands at each turn -/
inductive Wk where
  | ds (xs : List D)
  | cell (k j : Nat)
  | dyn (f : Sto → Option (List D))
def Wk.ls : Wk → Sto → Option (List D)
  | .ds xs, _ => some xs
  | .cell k j, S => match rd S (.loc k j) with
    | some (.list xs) => some xs
    | _ => none
  | .dyn f, S => f S
abbrev FI := Rho → Sto → R Wk
def relI (T : Tb) (K : PySem.W.Frag) (F : Hp) (A : List (List Addr)) (wk : Wk) (J : It) : Prop :=
  ∀ G F' A' S' H', Ex F F' → Pre A A' → Wd (T.g G) K F' A' S' H' → ∀ ds, wk.ls S' = some ds → ∀ (i : Nat), (∀ d, ds[i]? = some d → J.go i H' ∧ ∀ x H'', J.yld i H' x H'' → ∃ F'', Ex F' F'' ∧ Wd (T.g G) K F'' A' S' H'' ∧ Rep K F'' d x) ∧ (ds.length = i → J.stop i H')
structure JI (T : Tb) (X : Cx) (Wx : WX) (tg iter : Expr) (fi : FI) : Prop where
  ex : ∃ wi, PI X tg iter wi ∧ ∀ G F A S H σ ρ Q, Wd (T.g G) X.K F A S H → Sl X.K F A ρ σ → Post (T.g G) X.K (relI (T.g G) X.K) F A (fi ρ S) Q (fun c d H' => Wx c d σ H') → wi σ H Q
/-- a list or a tuple that stays -/
def frd (S : Sto) : W → Option D
  | .dat d => some d
  | .loc k 0 => match S[k]? with
    | some (.frz d) => some d
    | _ => none
  | _ => none
def seqOf : D → Option (List D)
  | .list ds => some ds
  | .tup _ ds => some ds
  | _ => none
theorem frd_rep {K : PySem.W.Frag} {F H : Hp} {A : List (List Addr)} {S : Sto} {w : W} {v : V} {d : D} (hw : Wd T K F A S H) (r : RepW K F A w v) (h : frd S w = some d) : Rep K F d v := by
  cases w with
  | dat d' => cases h; exact r
  | scr ns => cases h
  | exn x => cases h
  | loc k j =>
    cases j with
    | succ j => cases h
    | zero =>
      obtain ⟨as, a, h1, h2, rfl⟩ := r
      unfold frd at h
      cases q : S[k]? with
      | none => simp only [q] at h; cases h
      | some c =>
        simp only [q] at h
        cases c with
        | frz d' =>
          cases h
          obtain ⟨b, r, rfl, hr⟩ := hw.ok k as _ h1 q
          cases Option.some.inj h2
          exact hr
        | _ => cases h
def walk (S : Sto) (w : W) : Option Wk := match (frd S w).bind seqOf with
  | some ds => some (.ds ds)
  | none => match w with
    | .loc k j => (Wk.ls (.cell k j) S).map fun _ => .cell k j
    | _ => none
def iSeq (f : FE) : FI := fun ρ S => (f ρ S).bind fun w S1 => R.lift (walk S1 w) S1
theorem PI.run' {l : Expr} {tl : TE} (hl : PE X l tl) : PI X tg l (fun σ H R => tl σ H fun x H1 => (∃ a, x = .ref a ∧ (∃ xs, SqL X.K H1 a xs) ∧ R (Itl X.K a) H1) ∨ ∃ a, x = .ref a ∧ (∃ xs, SqT X.K H1 a xs) ∧ R (Itt X.K a) H1) := by
  refine ⟨fun pins s σ H R I h => ?_⟩
  refine thn (hl.run pins s σ H _ I h) fun v s1 ⟨x, H1, I1, r1, q1⟩ => ?_
  rcases q1 with ⟨a, e, ⟨xs, hq⟩, q⟩ | ⟨a, e, ⟨xs, hq⟩, q⟩
  · subst e
    cases r1
    obtain ⟨its, rv, p, hz⟩ := I1.list hq
    refine wpAny_pyIter_list p.isList ?_
    refine ⟨s1.heap.objs.size, [s1.heap.objs.size], _, _, H1, rfl, I1.kept (t' := s1.toks) fun b o e => Heap.get?_push_of_some _ e, turn_list a _, ⟨_, Heap.get?_push_size _ rfl, rfl, rfl⟩, fun b hb => ?_, q⟩
    have e : b = s1.heap.objs.size := by simpa using hb
    subst e
    exact I1.fpOk (Nat.le_refl _) (I1.hok.fresh (Nat.le_refl _))
  · subst e
    cases r1
    obtain ⟨its, rv, p, hz⟩ := I1.tuple hq
    refine wpAny_pyIter_tuple (show s1.heap.IsTuple a its.toArray from p) ?_
    refine ⟨s1.heap.objs.size, [s1.heap.objs.size], _, _, H1, rfl, I1.kept (t' := s1.toks) fun b o e => Heap.get?_push_of_some _ e, turn_tuple a _, ⟨_, Heap.get?_push_size _ rfl, rfl, rfl⟩, fun b hb => ?_, q⟩
    have e : b = s1.heap.objs.size := by simpa using hb
    subst e
    exact I1.fpOk (Nat.le_refl _) (I1.hok.fresh (Nat.le_refl _))
theorem reps_at {K : PySem.W.Frag} {F : Hp} {ds : List D} {vs : List V} (r : Reps K F ds vs) {i : Nat} (h : ds.length ≤ i) : vs.length ≤ i := by rw [← r.length]; exact h
theorem relI_list {K : PySem.W.Frag} {F : Hp} {A : List (List Addr)} {a : Addr} {vs : List V} {ds : List D} (h : F a = some (.lst vs)) (r : Reps K F ds vs) : relI T K F A (.ds ds) (Itl K a) := by
  intro G F' A' S' H' e p w ds' z i
  cases z
  have hH : SqL K H' a vs := .of (w.sub _ _ (e _ _ h))
  refine ⟨fun d hd => ?_, fun hi => ⟨vs, hH, reps_at r (Nat.le_of_eq hi)⟩⟩
  obtain ⟨v, h1, h2⟩ := r.get hd
  refine ⟨⟨vs, v, hH, h1⟩, fun x H'' ⟨q1, q2⟩ => ?_⟩
  subst q1
  have := q2 vs hH
  rw [h1] at this
  cases this
  exact ⟨F', Evl.Ex.refl _, w, h2.mono e⟩
theorem relI_tup {K : PySem.W.Frag} {F : Hp} {A : List (List Addr)} {a : Addr} {vs : List V} {ds : List D} (h : SqT K F a vs) (r : Reps K F ds vs) : relI T K F A (.ds ds) (Itt K a) := by
  intro G F' A' S' H' e p w ds' z i
  cases z
  have hH : SqT K H' a vs := sqt_mono w.sub (sqt_mono e h)
  refine ⟨fun d hd => ?_, fun hi => ⟨vs, hH, reps_at r (Nat.le_of_eq hi)⟩⟩
  obtain ⟨v, h1, h2⟩ := r.get hd
  refine ⟨⟨vs, v, hH, h1⟩, fun x H'' ⟨q1, q2⟩ => ?_⟩
  subst q1
  have := q2 vs hH
  rw [h1] at this
  cases this
  exact ⟨F', Evl.Ex.refl _, w, h2.mono e⟩
theorem seq_some {o : Option D} {ds : List D} (h : o.bind seqOf = some ds) : o = some (.list ds) ∨ ∃ f, o = some (.tup f ds) := by
  cases o with
  | none => cases h
  | some d =>
    cases d with
    | list xs => cases h; exact .inl rfl
    | tup f xs => cases h; exact .inr ⟨f, rfl⟩
    | _ => cases h
theorem relI_cell {K : PySem.W.Frag} {F : Hp} {A : List (List Addr)} {k j : Nat} {as : List Addr} {a : Addr} (h1 : A[k]? = some as) (h2 : as[j]? = some a) : relI T K F A (.cell k j) (Itl K a) := by
  intro G F' A' S' H' e p w ds z i
  have h : rd S' (.loc k j) = some (.list ds) := by
    simp only [Wk.ls] at z
    split at z
    · rename_i xs q
      cases z
      exact q
    · cases z
  have r := rd_rep (w := .loc k j) (v := .ref a) w ⟨as, a, p _ _ h1, h2, rfl⟩ h
  cases r with
  | flat q => cases q
  | lst h3 r3 =>
    have hH : SqL K H' a _ := .of h3
    refine ⟨fun d hd => ?_, fun hi => ⟨_, hH, reps_at r3 (Nat.le_of_eq hi)⟩⟩
    obtain ⟨v, q1, q2⟩ := r3.get hd
    refine ⟨⟨_, v, hH, q1⟩, fun x H'' ⟨y1, y2⟩ => ?_⟩
    subst y1
    have := y2 _ hH
    rw [q1] at this
    cases this
    exact ⟨F', Evl.Ex.refl _, w, q2⟩
theorem ji_seq (h : JE T X Wx e f) : JI T X Wx tg e (iSeq f) := by
  obtain ⟨t, h1, s1⟩ := h
  refine ⟨_, PI.run' h1, fun G F A S H σ ρ Q hw hs hp => ?_⟩
  refine s1 G F A S H σ ρ _ hw hs (hp.bind fun w S1 F1 A1 H1 v e1 p1 w1 r1 hp1 => ?_)
  obtain ⟨wk, h2, q⟩ := hp1.lift
  unfold walk at h2
  split at h2
  · rename_i ds h2'
    cases h2
    rcases seq_some h2' with h3 | ⟨fl, h3⟩
    · have r := frd_rep w1 r1 h3
      cases r with
      | lst h4 r4 => exact .inl ⟨_, rfl, ⟨_, .of (w1.sub _ _ h4)⟩, q F1 A1 H1 _ (Evl.Ex.refl _) (Pre.refl _) w1 (relI_list h4 r4)⟩
    · have r := frd_rep w1 r1 h3
      cases r with
      | tup h4 r4 => exact .inr ⟨_, rfl, ⟨_, sqt_mono w1.sub h4.sq⟩, q F1 A1 H1 _ (Evl.Ex.refl _) (Pre.refl _) w1 (relI_tup h4.sq r4)⟩
  · split at h2
    · rename_i k j _ 
      cases h3 : Wk.ls (.cell k j) S1 with
      | none => rw [h3] at h2; cases h2
      | some ds =>
        rw [h3] at h2
        cases h2
        have h : rd S1 (.loc k j) = some (.list ds) := by
          simp only [Wk.ls] at h3
          split at h3
          · rename_i xs q
            cases h3
            exact q
          · cases h3
        have r := rd_rep w1 r1 h
        obtain ⟨as, a, g1, g2, rfl⟩ := r1
        cases r with
        | flat z => cases z
        | lst h4 r4 => exact .inl ⟨_, rfl, ⟨_, .of h4⟩, q F1 A1 H1 _ (Evl.Ex.refl _) (Pre.refl _) w1 (relI_cell g1 g2)⟩
    · cases h2
/-- range -/
def rng (lo : Int) (n : Nat) : List D := (List.range n).map fun (i : Nat) => .int (lo + (i : Int))
theorem relI_rng {K : PySem.W.Frag} {F : Hp} {A : List (List Addr)} (lo : Int) (n : Nat) : relI T K F A (.ds (rng lo n)) (Itr lo n) := by
  intro G F' A' S' H' e p w ds' z i
  cases z
  refine ⟨fun d hd => ?_, fun hi => by unfold rng at hi; rw [List.length_map, List.length_range] at hi; exact Nat.le_of_eq hi⟩
  unfold rng at hd
  rw [List.getElem?_map] at hd
  have hi : i < n := by
    by_cases hi : i < n
    · exact hi
    · rw [List.getElem?_eq_none (by rw [List.length_range]; omega)] at hd
      cases hd
  rw [List.getElem?_range hi] at hd
  cases hd
  refine ⟨hi, fun x H'' ⟨q1, q2⟩ => ?_⟩
  subst q1 q2
  exact ⟨F', Evl.Ex.refl _, w, .int _⟩
def rng1 : List D → Option (List D)
  | [.int j] => ifO (decide (j.natAbs ≤ 1000000)) (some (rng 0 j.toNat))
  | _ => none
variable {ga : FA}
def iArgs (g : List D → Option (List D)) (f : FA) : FI := fun ρ S => (f ρ S).bind fun ws S1 => R.lift (((dats ws).bind g).map Wk.ds) S1
theorem ji_range1 {p : Pos} (hm : X.mg "range" = none) (ha : JA T X Wx [a] ga) (hg : Gl X "range" := by rfl) (hs : starEach [a] X.env = [(false, eval a X.env)] := by rfl) : JI T X Wx tg (.Call (.Name "range" p) [a] [] pos) (iArgs rng1 ga) := by
  obtain ⟨t, h1, s1⟩ := ha
  refine ⟨_, pi_range1 hg hm h1 hs, fun G F A S H σ ρ Q hw hs hp => ?_⟩
  refine s1 G F A S H σ ρ _ hw hs (hp.bind fun ws S1 F1 A1 H1 v e1 p1 w1 r1 hp1 => ?_)
  obtain ⟨wk, h2, q⟩ := hp1.lift
  cases h3 : dats ws with
  | none => rw [h3] at h2; cases h2
  | some es =>
    rw [h3, Option.bind_some] at h2
    have rr := dats_rep r1 h3
    cases h4 : rng1 es with
    | none => rw [h4] at h2; cases h2
    | some ds =>
    rw [h4] at h2
    cases h2
    have h2 := h4
    unfold rng1 at h2
    split at h2
    · rename_i j
      obtain ⟨c, h2⟩ := ifO_some h2
      cases h2
      have c1 := of_decide_eq_true c
      obtain ⟨u, rfl, ru⟩ := rr.one
      cases ru
      exact ⟨j, rfl, by omega, by omega, q F1 A1 H1 _ (Evl.Ex.refl _) (Pre.refl _) w1 (relI_rng 0 j.toNat)⟩
    · cases h2
def cutW (n : Nat) : Option W → Option W
  | some (.loc k j) => ifO (decide (k < n)) (some (.loc k j))
  | o => o
def cutR (n : Nat) (ρ : Rho) : Rho := ρ.map (cutW n)
theorem Sl.cut {K : PySem.W.Frag} {F : Hp} {A A' : List (List Addr)} {ρ : Rho} {σ : L2.St} (p : Pre A A') (h : Sl K F A' ρ σ) : Sl K F A (cutR A.length ρ) σ := by
  refine ⟨by unfold cutR; rw [List.length_map]; exact h.len, fun i w q => ?_⟩
  unfold cutR at q
  rw [List.getElem?_map] at q
  cases h1 : ρ[i]? with
  | none => rw [h1] at q; cases q
  | some o =>
    rw [h1] at q
    cases o with
    | none => cases q
    | some w' =>
      cases w' with
      | dat d =>
        cases q
        exact h.at_ i _ h1
      | scr ns =>
        cases q
        exact h.at_ i _ h1
      | exn x =>
        cases q
        exact h.at_ i _ h1
      | loc k j =>
        have q : ifO (decide (k < A.length)) (some (W.loc k j)) = some w := Option.some.inj q
        obtain ⟨c, q⟩ := ifO_some q
        cases q
        obtain ⟨v, h2, as, a, h3, h4, h5⟩ := h.at_ i _ h1
        have hk := of_decide_eq_true c
        refine ⟨v, h2, as, a, ?_, h4, h5⟩
        have := List.getElem?_take_of_lt (l := A') hk
        rw [p.cutW] at this
        rw [this]
        exact h3
/-- the turn's end: what it made is forgotten -/
def forF (n : Nat) (bd : D → Rho → Sto → Out) (wk : Wk) : Nat → Nat → Rho → Sto → Out
  | m, i, ρ, S => match wk.ls S with
    | none => .bad
    | some ds => match ds[i]? with
      | none => (match decide (ds.length = i) with
        | true => .nx ρ S
        | false => .bad)
      | some d => match m with
        | 0 => .bad
        | m + 1 => match bd d ρ S with
          | .nx ρ' S' => forF n bd wk m (i + 1) (cutR n ρ') (S'.take n)
          | .ct ρ' S' => forF n bd wk m (i + 1) (cutR n ρ') (S'.take n)
          | .bk ρ' S' => .nx (cutR n ρ') (S'.take n)
          | r => r
def bodyF (gg : FG) (g : FS) : D → Rho → Sto → Out := fun d ρ S => match gg (.dat d) ρ S with
  | some (ρ', S') => g ρ' S'
  | none => .bad
def sFor (fi : FI) (gg : FG) (g : FS) : FS := fun ρ S => (fi ρ S).then ρ fun wk S1 => match wk.ls S1 with
  | some ds => forF S1.length (bodyF gg g) wk ds.length 0 ρ S1
  | none => .bad
theorem PostS.cutNx {K : PySem.W.Frag} {F' : Hp} {A A' : List (List Addr)} {S' : Sto} {H' : Hp} {ρ : Rho} {σ : L2.St} (p : Pre A A') (w : Wd T K F' A' S' H') (s : Sl K F' A' ρ σ) : Wd T K F' A (S'.take A.length) H' ∧ Sl K F' A (cutR A.length ρ) σ := by
  have wc := w.cut A.length
  rw [p.cutW] at wc
  exact ⟨wc, s.cut p⟩
theorem js_for {body : List Stmt} {fi : FI} {gg : FG} (hpass : PassesOwn (model X.prog X.w) X.A X.env X.xe) (hc : X.calm = true) (hi : JI T X Wx tg iter fi) (hg : JG T X tg gg) (hb : JB T X Wx body g) (hs : ∀ x, foldedSetIterable iter X.env x = pure x := by intro _; rfl) :
    JS T X Wx (.For tg iter body [] pos) (sFor fi gg g) := by
  obtain ⟨wi, h1, s1⟩ := hi
  obtain ⟨tG, h2, s2⟩ := hg
  obtain ⟨tB, h3, s3⟩ := hb
  refine ⟨_, ps_for hpass hc h1 h2 h3 hs, fun G F A S H σ ρ D hw hsl hp => ?_⟩
  refine s1 G F A S H σ ρ _ hw hsl (PostS.then hsl hp fun wk S1 F1 A1 H1 J e1 p1 w1 rI q => ?_)
  rw [← w1.len] at q
  cases h0 : wk.ls S1 with
  | none => rw [h0] at q; exact q.elim
  | some ds0 =>
  rw [h0] at q
  refine ⟨fun i m σ' H' => ∃ F' S' ρ', Ex F1 F' ∧ Wd (T.g G) X.K F' A1 S' H' ∧ Sl X.K F' A1 ρ' σ' ∧ PostS (T.g G) X.K F' A1 (forF A1.length (bodyF gg g) wk m i ρ' S') D Wx,
    ⟨ds0.length, F1, S1, ρ, Evl.Ex.refl _, w1, hsl.mono e1 p1, q⟩, ?_⟩
  rintro i m σ' H' ⟨F', S', ρ', e', w', s', q'⟩
  unfold forF at q'
  cases hl : wk.ls S' with
  | none => rw [hl] at q'; exact q'.elim
  | some ds =>
  rw [hl] at q'
  simp only at q'
  obtain ⟨go, stop⟩ := rI G F' A1 S' H' e' (Pre.refl _) w' ds hl i
  cases hd : ds[i]? with
  | none =>
    rw [hd] at q'
    simp only at q'
    cases hz : decide (ds.length = i) with
    | false => rw [hz] at q'; exact q'.elim
    | true =>
      rw [hz] at q'
      exact .inl ⟨stop (of_decide_eq_true hz), q' F' A1 H' σ' (Evl.Ex.refl _) (Pre.refl _) w' s'⟩
  | some d =>
    rw [hd] at q'
    simp only at q'
    obtain ⟨gi, yl⟩ := go d hd
    cases m with
    | zero => exact q'.elim
    | succ m =>
    refine .inr ⟨gi, fun σ2 H2 => ∃ F2 S2 ρ2, Ex F1 F2 ∧ Wd (T.g G) X.K F2 A1 S2 H2 ∧ Sl X.K F2 A1 ρ2 σ2 ∧ PostS (T.g G) X.K F2 A1 (forF A1.length (bodyF gg g) wk m (i + 1) ρ2 S2) D Wx, ?_, fun x H'' y => ?_⟩
    · rintro σ2 H2 ⟨F2, S2, ρ2, e2, w2, s2', q2⟩
      exact ⟨m, Nat.lt_succ_self m, F2, S2, ρ2, e2, w2, s2', q2⟩
    · obtain ⟨F3, e3, w3, r3⟩ := yl x H'' y
      simp only [bodyF] at q'
      cases q0 : gg (.dat d) ρ' S' with
      | none => rw [q0] at q'; exact q'.elim
      | some z =>
        obtain ⟨ρ3, S3⟩ := z
        rw [q0] at q'
        simp only at q'
        refine s2 G F3 A1 S' H'' σ' ρ' (.dat d) x _ w3 (s'.mono e3 (Pre.refl _)) r3 ⟨ρ3, S3, q0, fun F4 A4 σ4 H4 e4 p4 w4 s4 => ?_⟩
        refine s3 G F4 A4 S3 H4 σ4 ρ3 _ w4 s4 ?_
        have q3 := PostS.shift q' (e3.trans e4) (Pre.refl _)
        have e34 := e'.trans (e3.trans e4)
        clear q'
        cases q5 : g ρ3 S3 with
        | nx ρ5 S5 =>
          rw [q5] at q3
          intro F5 A5 H5 σ5 e5 p5 w5 s5
          obtain ⟨w6, s6⟩ := PostS.cutNx (p4.trans p5) w5 s5
          exact ⟨F5, S5.take A1.length, _, e34.trans e5, w6, s6, PostS.shift q3 e5 (Pre.refl _)⟩
        | ct ρ5 S5 =>
          rw [q5] at q3
          intro F5 A5 H5 σ5 e5 p5 w5 s5
          obtain ⟨w6, s6⟩ := PostS.cutNx (p4.trans p5) w5 s5
          exact ⟨F5, S5.take A1.length, _, e34.trans e5, w6, s6, PostS.shift q3 e5 (Pre.refl _)⟩
        | bk ρ5 S5 =>
          rw [q5] at q3
          intro F5 A5 H5 σ5 e5 p5 w5 s5
          obtain ⟨w6, s6⟩ := PostS.cutNx (p4.trans p5) w5 s5
          exact q3 F5 A1 H5 σ5 e5 (Pre.refl _) w6 s6
        | rt w5 S5 => rw [q5] at q3; exact PostS.shift q3 (Evl.Ex.refl _) p4
        | exc x5 ρ5 S5 => rw [q5] at q3; exact PostS.shift q3 (Evl.Ex.refl _) p4
        | bad => rw [q5] at q3; exact q3
/-- while; k: as many turns at most -/
def whileF (n : Nat) (t : FT) (g : FS) : Nat → Rho → Sto → Out
  | 0, _, _ => .bad
  | k + 1, ρ, S => (t ρ S).then ρ fun c S1 => match c with
    | false => .nx ρ S1
    | true => match g ρ S1 with
      | .nx ρ' S' => whileF n t g k (cutR n ρ') (S'.take n)
      | .ct ρ' S' => whileF n t g k (cutR n ρ') (S'.take n)
      | .bk ρ' S' => .nx (cutR n ρ') (S'.take n)
      | r => r
def sWhile (k : Nat) (t : FT) (g : FS) : FS := fun ρ S => whileF S.length t g k ρ S
theorem js_while {body : List Stmt} (k : Nat) (hpass : PassesOwn (model X.prog X.w) X.A X.env X.xe) (hc : JT T X Wx c tc) (hb : JB T X Wx body g) : JS T X Wx (.While c body [] pos) (sWhile k tc g) := by
  obtain ⟨tT, h1, s1⟩ := hc
  obtain ⟨tB, h3, s3⟩ := hb
  refine ⟨_, ps_while hpass h1 h3, fun G F A S H σ ρ D hw hsl hp => ?_⟩
  unfold sWhile at hp
  rw [← hw.len] at hp
  refine ⟨fun m σ' H' => ∃ F' S' ρ', Ex F F' ∧ Wd (T.g G) X.K F' A S' H' ∧ Sl X.K F' A ρ' σ' ∧ PostS (T.g G) X.K F' A (whileF A.length tc g m ρ' S') D Wx, ⟨k, F, S, ρ, Evl.Ex.refl _, hw, hsl, hp⟩, ?_⟩
  rintro m σ' H' ⟨F', S', ρ', e', w', s', q'⟩
  cases m with
  | zero => exact q'.elim
  | succ m =>
    refine s1 G F' A S' H' σ' ρ' _ w' s' ?_
    unfold whileF at q'
    cases qt : tc ρ' S' with
    | bad => rw [qt] at q'; exact q'
    | exc x S2 =>
      rw [qt] at q'
      exact fun F2 A2 H2 c d e2 p2 w2 r2 => q' F2 A2 H2 σ' c d e2 p2 w2 (s'.mono e2 p2) r2
    | ok b S2 =>
      rw [qt] at q'
      intro F2 A2 H2 b' e2 p2 w2 rb
      cases rb
      cases b with
      | false => exact q' F2 A2 H2 σ' e2 p2 w2 (s'.mono e2 p2)
      | true =>
        refine ⟨fun σ3 H3 => ∃ F3 S3 ρ3, Ex F F3 ∧ Wd (T.g G) X.K F3 A S3 H3 ∧ Sl X.K F3 A ρ3 σ3 ∧ PostS (T.g G) X.K F3 A (whileF A.length tc g m ρ3 S3) D Wx, fun σ3 H3 q3 => ⟨m, Nat.lt_succ_self m, q3⟩, ?_⟩
        refine s3 G F2 A2 S2 H2 σ' ρ' _ w2 (s'.mono e2 p2) ?_
        simp only [R.then] at q'
        cases q5 : g ρ' S2 with
        | nx ρ5 S5 =>
          rw [q5] at q'
          intro F5 A5 H5 σ5 e5 p5 w5 s5
          obtain ⟨w6, s6⟩ := PostS.cutNx (p2.trans p5) w5 s5
          exact ⟨F5, S5.take A.length, _, (e'.trans e2).trans e5, w6, s6, PostS.shift q' (e2.trans e5) (Pre.refl _)⟩
        | ct ρ5 S5 =>
          rw [q5] at q'
          intro F5 A5 H5 σ5 e5 p5 w5 s5
          obtain ⟨w6, s6⟩ := PostS.cutNx (p2.trans p5) w5 s5
          exact ⟨F5, S5.take A.length, _, (e'.trans e2).trans e5, w6, s6, PostS.shift q' (e2.trans e5) (Pre.refl _)⟩
        | bk ρ5 S5 =>
          rw [q5] at q'
          intro F5 A5 H5 σ5 e5 p5 w5 s5
          obtain ⟨w6, s6⟩ := PostS.cutNx (p2.trans p5) w5 s5
          exact q' F5 A H5 σ5 (e2.trans e5) (Pre.refl _) w6 s6
        | rt w5 S5 => rw [q5] at q'; exact PostS.shift q' e2 p2
        | exc x5 ρ5 S5 => rw [q5] at q'; exact PostS.shift q' e2 p2
        | bad => rw [q5] at q'; exact q'
end
end Vz
namespace Vz
open PySem PySem.Spec PyProof.Rows L2
def wipeR (ρ : Rho) : List Nat → Rho
  | [] => ρ
  | v :: vs => (wipeR ρ vs).set v none
section
variable {T : Tb} {X : Cx} {Wx : WX} {e tg iter elt : Expr} {f : FE} {tc : FT} {pos : Pos}
theorem Sl.setN {K : PySem.W.Frag} {F : Hp} {A : List (List Addr)} {ρ : Rho} {σ : L2.St} (h : Sl K F A ρ σ) (i : Nat) : Sl K F A (ρ.set i none) (σ.set i none) := by
  refine ⟨by rw [List.length_set, List.length_set]; exact h.len, fun j w q => ?_⟩
  by_cases hj : i = j
  · subst hj
    have hi : i < ρ.length := by
      have q' := (List.getElem?_eq_some_iff.mp q).1
      rwa [List.length_set] at q'
    rw [List.getElem?_set_self hi] at q
    cases q
  · rw [List.getElem?_set_ne hj] at q
    obtain ⟨v', h1, h2⟩ := h.at_ j w q
    exact ⟨v', by rw [List.getElem?_set_ne hj]; exact h1, h2⟩
theorem Sl.wipe {K : PySem.W.Frag} {F : Hp} {A : List (List Addr)} {ρ : Rho} {σ : L2.St} (h : Sl K F A ρ σ) : ∀ vs : List Nat, Sl K F A (wipeR ρ vs) (L2.wipe σ vs)
  | [] => h
  | v :: vs => (Sl.wipe h vs).setN v
theorem wipe_set {σ : L2.St} {i : Nat} {o : Option V} : ∀ {vs : List Nat}, L2.wipe (σ.set i o) vs = if i ∈ vs then L2.wipe σ vs else (L2.wipe σ vs).set i o
  | [] => by simp [L2.wipe]
  | v :: vs => by
    unfold L2.wipe
    rw [wipe_set (vs := vs)]
    by_cases h : i = v
    · subst h
      rw [if_pos List.mem_cons_self]
      split
      · rfl
      · rw [List.set_set]
    · by_cases h2 : i ∈ vs
      · rw [if_pos h2, if_pos (List.mem_cons_of_mem _ h2)]
      · rw [if_neg h2, if_neg (by simp [h, h2]), List.set_comm _ _ h]
theorem wipe_set_in {σ : L2.St} {i : Nat} {o : Option V} {vs : List Nat} (h : i ∈ vs) : L2.wipe (σ.set i o) vs = L2.wipe σ vs := by rw [wipe_set, if_pos h]
theorem wipe_wipe {σ : L2.St} {vs : List Nat} : L2.wipe (L2.wipe σ vs) vs = L2.wipe σ vs := by
  have : ∀ us : List Nat, (∀ u ∈ us, u ∈ vs) → L2.wipe (L2.wipe σ us) vs = L2.wipe σ vs := by
    intro us
    induction us with
    | nil => intro _; rfl
    | cons u us ih =>
      intro h
      show L2.wipe ((L2.wipe σ us).set u none) vs = _
      rw [wipe_set_in (h u List.mem_cons_self)]
      exact ih fun x hx => h x (List.mem_cons_of_mem _ hx)
  exact this vs fun _ h => h
abbrev FC := D → Rho → Option Rho
/-- a comprehension's target -/
structure JC (T : Tb) (X : Cx) (vs : List Nat) (tg : Expr) (g : FC) : Prop where
  ex : ∃ t, PG X tg t ∧ ∀ G F A S H σ ρ d v Q, Wd (T.g G) X.K F A S H → Sl X.K F A ρ σ → Rep X.K F d v → (∃ ρ', g d ρ = some ρ' ∧ ∀ σ', Sl X.K F A ρ' σ' → L2.wipe σ' vs = L2.wipe σ vs → Q σ' H) → t v σ H Q
structure JCs (T : Tb) (X : Cx) (vs : List Nat) (tgs : List Expr) (g : List D → Rho → Option Rho) : Prop where
  ex : ∃ t, PGs X tgs t ∧ ∀ G F A S H σ ρ ds us Q, Wd (T.g G) X.K F A S H → Sl X.K F A ρ σ → Reps X.K F ds us → (∃ ρ', g ds ρ = some ρ' ∧ ∀ σ', Sl X.K F A ρ' σ' → L2.wipe σ' vs = L2.wipe σ vs → Q σ' H) → t us σ H Q
def cName (i : Nat) : FC := fun d ρ => some (ρ.set i (some (.dat d)))
theorem jc_name {i : Nat} {x : Str} {vs : List Nat} (hN : X.N.Nodup) (hi : X.N[i]? = some x := by rfl) (hx : Loc X.env.scope x := by first | exact Or.inl rfl | exact Or.inr rfl) (hv : i ∈ vs := by decide) (hf : X.fn x = true ∨ X.env.scope.names.lookup x = some .local := by first | exact .inl rfl | exact .inr rfl | assumption) : JC T X vs (.Name x pos) (cName i) := by
  refine ⟨_, pg_name hN hi hx hf, fun G F A S H σ ρ d v Q hw hs r ⟨ρ', h1, q⟩ => ?_⟩
  cases h1
  exact q _ (hs.set (w := .dat d) i r) (wipe_set_in hv)
def cnNil : List D → Rho → Option Rho := fun ds ρ => match ds with
  | [] => some ρ
  | _ => none
def cnCons (i : Nat) (gs : List D → Rho → Option Rho) : List D → Rho → Option Rho := fun ds ρ => match ds with
  | d :: r => gs r (ρ.set i (some (.dat d)))
  | _ => none
theorem jcs_nil {vs : List Nat} : JCs T X vs [] cnNil := by
  refine ⟨_, pgs_nil, fun G F A S H σ ρ ds us Q hw hs r ⟨ρ', h1, q⟩ => ?_⟩
  cases r with
  | nil =>
    cases h1
    exact ⟨rfl, q _ hs rfl⟩
  | cons _ _ => cases h1
theorem jcs_cons {i : Nat} {x : Str} {vs : List Nat} {tgs : List Expr} {gs : List D → Rho → Option Rho} (hN : X.N.Nodup) (h2 : JCs T X vs tgs gs) (hi : X.N[i]? = some x := by rfl) (hx : Loc X.env.scope x := by first | exact Or.inl rfl | exact Or.inr rfl) (hv : i ∈ vs := by decide)
    (hf : X.fn x = true ∨ X.env.scope.names.lookup x = some .local := by first | exact .inl rfl | exact .inr rfl | assumption)
    (hst : (assignEach (.Name x pos :: tgs) X.env).map (·.2) = assign (.Name x pos) X.env :: (assignEach tgs X.env).map (·.2) := by rfl) : JCs T X vs (.Name x pos :: tgs) (cnCons i gs) := by
  obtain ⟨u, h2, s2⟩ := h2
  refine ⟨_, pgs_cons (pg_name hN hi hx hf) h2 hst, fun G F A S H σ ρ ds us Q hw hs r ⟨ρ', h1, q⟩ => ?_⟩
  cases r with
  | nil => cases h1
  | cons r rr => exact ⟨_, _, rfl, s2 G F A S H _ _ _ _ Q hw (hs.set (w := .dat _) i r) rr ⟨ρ', h1, fun σ' s' e' => q σ' s' (e'.trans (wipe_set_in hv))⟩⟩
def cTup (n : Nat) (gs : List D → Rho → Option Rho) : FC := fun d ρ => match d with
  | .tup _ ds => ifO (decide (ds.length = n)) (gs ds ρ)
  | _ => none
theorem jc_tup {tgs : List Expr} {k : Nat} {vs : List Nat} {gs : List D → Rho → Option Rho} {n : Nat} (hc : X.calm = true) (h : JCs T X vs tgs gs) (hn : (assignEach tgs X.env).length = n := by rfl) (hst : (assignEach tgs X.env).findIdx? (·.1) = none := by rfl) :
    JC T X vs (.Tuple tgs k pos) (cTup n gs) := by
  obtain ⟨t, h1, s1⟩ := h
  refine ⟨_, pg_tup hc h1 hn hst, fun G F A S H σ ρ d v Q hw hs r ⟨ρ', h2, q⟩ => ?_⟩
  cases r with
  | tup f1 f3 =>
    obtain ⟨c, h2⟩ := ifO_some h2
    exact ⟨_, _, rfl, sqt_mono hw.sub f1.sq, by rw [← f3.length]; exact of_decide_eq_true c, s1 G F A S H σ ρ _ _ Q hw hs f3 ⟨ρ', h2, q⟩⟩
  | _ => cases h2
def cG (T : Tb) (K : PySem.W.Frag) (vs : List Nat) (g : FC) : TG := fun v σ H Q => ∃ G F A S ρ d, Wd (T.g G) K F A S H ∧ Sl K F A ρ σ ∧ Rep K F d v ∧ ∃ ρ', g d ρ = some ρ' ∧ ∀ σ', Sl K F A ρ' σ' → L2.wipe σ' vs = L2.wipe σ vs → Q σ' H
theorem JC.pg {vs : List Nat} {g : FC} (h : JC T X vs tg g) : PG X tg (cG T X.K vs g) := by
  obtain ⟨t, h1, s1⟩ := h
  exact ⟨fun pins s σ H v u Q I r ⟨G, F, A, S, ρ, d, a, b, c, k⟩ => h1.run pins s σ H v u Q I r (s1 G F A S H σ ρ d v Q a b c k)⟩
/-- the tests -/
structure JP (T : Tb) (X : Cx) (Wx : WX) (ifs : List Expr) (f : FT) : Prop where
  ex : ∃ t, PTs X ifs t ∧ SemT T X.K Wx t f
def fYes : FT := fun _ S => .ok true S
theorem jp_nil : JP T X Wx [] fYes := ⟨_, pts_nil, fun G F A S H σ ρ Q hw hs hp => hp F A H true (Evl.Ex.refl _) (Pre.refl _) hw rfl⟩
theorem jp_one (h : JT T X Wx e tc) : JP T X Wx [e] tc := by
  obtain ⟨t, h1, s1⟩ := h
  exact ⟨t, pts_one h1, s1⟩
theorem PTs.weak {es : List Expr} {t u : TT} (h : PTs X es t) (i : ∀ σ H Q, u σ H Q → t σ H Q) : PTs X es u := ⟨fun p s σ H Q I q => h.run p s σ H Q I (i σ H Q q)⟩
theorem JP.pts {es : List Expr} {f : FT} (h : JP T X Wx es f) : PTs X es (cT T X.K Wx f) := by
  obtain ⟨t, h1, h2⟩ := h
  exact PTs.weak h1 fun σ H Q ⟨G, F, A, S, ρ, a, b, c⟩ => h2 G F A S H σ ρ Q a b c
def R.noX {α : Type} : R α → R α
  | .exc _ _ => .bad
  | r => r
def lcB (gg : FC) (t : FT) (f : FE) (ρ : Rho) : D → Sto → R (Option D) := fun d S => match gg d ρ with
  | some ρ2 => (t ρ2 S).noX.bind fun c S1 => (match c with
    | true => (f ρ2 S1).noX.bind fun w S2 => R.lift ((frd S2 w).map some) S2
    | false => .ok none S1)
  | none => .bad
def lcF (n : Nat) (bd : D → Sto → R (Option D)) (wk : Wk) : Nat → Nat → Sto → R (List D)
  | m, i, S => match wk.ls S with
    | none => .bad
    | some ds => match ds[i]? with
      | none => (match decide (ds.length = i) with
        | true => .ok [] S
        | false => .bad)
      | some d => match m with
        | 0 => .bad
        | m + 1 => (bd d S).bind fun o S1 => (lcF n bd wk m (i + 1) (S1.take n)).bind fun r S2 => .ok (o.toList ++ r) S2
def lComp (fi : FI) (vs : List Nat) (gg : FC) (t : FT) (f : FE) : FL := fun ρ S => (fi ρ S).bind fun wk S1 => match (wk.ls S1).bind small with
  | some ds => lcF S1.length (lcB gg t f (wipeR ρ vs)) wk ds.length 0 S1
  | none => .bad
/-- one thing more that stands still -/
theorem Wd.still {K : PySem.W.Frag} {G F H : Hp} {A : List (List Addr)} {S : Sto} {p : Addr} {o : HO} (w : Wd (T.g G) K F A S H) (h : H p = some o) (hF : F p = none) (hG : G p = none) (hA : p ∉ A.flatten) (ho : ∀ ps, o ≠ .tbl ps := by intro ps z; cases z) : Wd (T.g (upd G p o)) K F A S H := by
  refine ⟨w.sub, w.len, w.ok, w.nod, w.there, fun a u e => ?_, fun a ha => ?_, fun a u e => ?_, ⟨w.tb.tabs, w.tb.f, fun q hq => by
    show upd G p o q.1 = none
    rw [upd_ne (w.tb.n2 hq h ho)]
    exact w.tb.g q hq, w.tb.a, w.tb.nf, fun b ps z => by
    have z : upd G p o b = some (.tbl ps) := z
    by_cases e : b = p
    · subst e
      rw [upd_same] at z
      exact ho ps (Option.some.inj z)
    · rw [upd_ne e] at z
      exact w.tb.ng b ps z, w.tb.na⟩⟩
  · by_cases z : a = p
    · subst z
      have e : upd G a o a = some u := e
      rw [upd_same] at e
      rw [h]
      exact e
    · have e : upd G p o a = some u := e
      rw [upd_ne z] at e
      exact w.gh a u e
  · show upd G p o a = none
    rw [upd_ne]
    · exact w.gd a ha
    · rintro rfl
      exact hA ha
  · show upd G p o a = none
    rw [upd_ne]
    · exact w.fg a u e
    · rintro rfl
      rw [hF] at e
      cases e
theorem Wd.unstill {K : PySem.W.Frag} {G F H : Hp} {A : List (List Addr)} {S : Sto} {p : Addr} {o : HO} (w : Wd (T.g (upd G p o)) K F A S H) (hG : G p = none) : Wd (T.g G) K F A S H ∧ H p = some o ∧ F p = none ∧ p ∉ A.flatten := by
  have e : Ex G (upd G p o) := Evl.Ex.new hG
  have back : ∀ a, upd G p o a = none → G a = none := fun a h => Evl.fresh_back e h
  refine ⟨⟨w.sub, w.len, w.ok, w.nod, w.there, e.trans w.gh, fun a ha => back a (w.gd a ha), fun a u h => back a (w.fg a u h), ⟨w.tb.tabs, w.tb.f, fun q hq => back _ (w.tb.g q hq), w.tb.a, w.tb.nf, fun b ps z => w.tb.ng b ps (e b _ z), w.tb.na⟩⟩, w.gh p o upd_same, ?_, fun z => ?_⟩
  · cases h : F p with
    | none => rfl
    | some u =>
      have q : upd G p o p = none := w.fg p u h
      rw [upd_same] at q
      cases q
  · have q : upd G p o p = none := w.gd p z
    rw [upd_same] at q
    cases q
/-- the new list grows -/
theorem Wd.grow {K : PySem.W.Frag} {G F H : Hp} {A : List (List Addr)} {S : Sto} {p : Addr} {o : HO} (w : Wd (T.g G) K F A S H) (hF : F p = none) (hG : G p = none) (hA : p ∉ A.flatten) {o0 : HO} (hH : H p = some o0) (n1 : ∀ ps, o0 ≠ .tbl ps := by intro ps z; cases z) (n2 : ∀ φ, o0 ≠ .ext φ := by intro φ z; cases z) : Wd (T.g G) K F A S (upd H p o) := by
  have ne : ∀ a ∈ A.flatten, a ≠ p := fun a ha z => by rw [z] at ha; exact hA ha
  refine ⟨fun a u e => ?_, w.len, fun k as c h1 h2 => (w.ok k as c h1 h2).more (Evl.Ex.refl F) (fun a ha e => e) (fun a ha _ => ?_), w.nod, fun a ha => ?_, fun a u e => ?_, w.gd, w.fg, ⟨tabs_upd w.tb.tabs hH n1 n2, w.tb.f, w.tb.g, w.tb.a, w.tb.nf, w.tb.ng, fun b hb ps z => by
    rw [upd_ne (ne b hb)] at z
    exact w.tb.na b hb ps z⟩⟩
  · rw [upd_ne]
    · exact w.sub a u e
    · rintro rfl
      rw [hF] at e
      cases e
  · rw [upd_ne (ne a (mem_flat h1 ha))]
  · rw [upd_ne (ne a ha)]
    exact w.there a ha
  · rw [upd_ne]
    · exact w.gh a u e
    · rintro rfl
      have e : G a = some u := e
      rw [hG] at e
      cases e
/-- the semantics of a comprehension's reading -/
theorem sem_lc {wi : TI} {fi : FI} {vs : List Nat} {gg : FC} {K : PySem.W.Frag} (s1 : ∀ G F A S H σ ρ Q, Wd (T.g G) K F A S H → Sl K F A ρ σ → Post (T.g G) K (relI (T.g G) K) F A (fi ρ S) Q (fun c d H' => Wx c d σ H') → wi σ H Q) :
    ∀ G F A S H σ ρ Q, Wd (T.g G) K F A S H → Sl K F A ρ σ → PostL (T.g G) K F A (lComp fi vs gg tc f ρ S) Q (fun c d H' => Wx c d σ H') → tLc wi (cG T K vs gg) (cT T K noW tc) (cE T K noW f) vs σ H Q := by
  intro G F A S H σ ρ Q hw hsl hp
  refine s1 G F A S H σ ρ _ hw hsl (hp.bind fun wk S1 F1 A1 H1 J e1 p1 w1 rI q => ?_)
  intro Dd hD
  cases hl0 : wk.ls S1 with
  | none => rw [hl0] at q; exact q.elim
  | some ds0 =>
  rw [hl0, Option.bind_some] at q
  cases hsm : small ds0 with
  | none => rw [hsm] at q; exact q.elim
  | some ds' =>
    have e0 : ds' = ds0 := by
      unfold small at hsm
      exact (Option.some.inj (ifO_some hsm).2).symm
    subst e0
    rw [hsm] at q
    have hlim : ds'.length ≤ lim := by
      unfold small at hsm
      exact of_decide_eq_true (ifO_some hsm).1
    simp only at q
    rw [← w1.len] at q
    have nF : F1 Dd = none := w1.freshF hD
    have nG : G Dd = none := Evl.fresh_back w1.gh hD
    have nA : Dd ∉ A1.flatten := fun z => by
      have := w1.there Dd z
      rw [hD] at this
      cases this
    refine ⟨fun i m H' => ∃ F' S' acc us, Ex F1 F' ∧ Wd (T.g G) K F' A1 S' H' ∧ F' Dd = none ∧ H' Dd = some (.lst us) ∧ Reps K F' acc us ∧ acc.length ≤ i ∧ i + m = ds'.length ∧
      PostL (T.g G) K F' A1 ((lcF A1.length (lcB gg tc f (wipeR ρ vs)) wk m i S').bind fun r S2 => .ok (acc ++ r) S2) Q (fun c d H' => Wx c d σ H'),
      ⟨ds'.length, F1, S1, [], [], Evl.Ex.refl _, w1.junk hD _, nF, upd_same, .nil, Nat.zero_le _, by simp, ?_⟩, ?_⟩
    · cases h1 : lcF A1.length (lcB gg tc f (wipeR ρ vs)) wk ds'.length 0 S1 with
      | ok r S2 => rw [h1] at q; exact q
      | exc x S2 => rw [h1] at q; exact q
      | bad => rw [h1] at q; exact q
    · rintro i m H' ⟨F', S', acc, us, e', w', nF', hH', hr', hal, him, q'⟩
      unfold lcF at q'
      cases hl : wk.ls S' with
      | none => rw [hl] at q'; exact q'.elim
      | some ds =>
      rw [hl] at q'
      simp only at q'
      obtain ⟨go, stop⟩ := rI G F' A1 S' H' e' (Pre.refl _) w' ds hl i
      cases hd : ds[i]? with
      | none =>
        rw [hd] at q'
        simp only at q'
        cases hz : decide (ds.length = i) with
        | false => rw [hz] at q'; exact q'.elim
        | true =>
          rw [hz] at q'
          simp only [R.bind, List.append_nil] at q'
          exact .inl ⟨stop (of_decide_eq_true hz), q' F' A1 H' Dd us (Evl.Ex.refl _) (Pre.refl _) w' hH' nF' nG nA hr'⟩
      | some d0 =>
        rw [hd] at q'
        simp only at q'
        obtain ⟨gi, _⟩ := go d0 hd
        cases m with
        | zero => exact q'.elim
        | succ m =>
        refine .inr ⟨gi, fun H2 => ∃ F2 S2 acc2 us2, Ex F1 F2 ∧ Wd (T.g G) K F2 A1 S2 H2 ∧ F2 Dd = none ∧ H2 Dd = some (.lst us2) ∧ Reps K F2 acc2 us2 ∧ acc2.length ≤ i + 1 ∧
          PostL (T.g G) K F2 A1 ((lcF A1.length (lcB gg tc f (wipeR ρ vs)) wk m (i + 1) S2).bind fun r S2 => .ok (acc2 ++ r) S2) Q (fun c d H' => Wx c d σ H'), ?_, fun x H'' y => ?_⟩
        · rintro H2 ⟨F2, S2, acc2, us2, a1, a2, a3, a4, a5, a6, a7⟩
          exact ⟨m, Nat.lt_succ_self m, F2, S2, acc2, us2, a1, a2, a3, a4, a5, a6, by omega, a7⟩
        · have w2 := w'.still hH' nF' nG nA
          obtain ⟨go2, _⟩ := rI _ F' A1 S' H' e' (Pre.refl _) w2 ds hl i
          obtain ⟨_, yl⟩ := go2 d0 hd
          obtain ⟨F3, e3, w3, r3⟩ := yl x H'' y
          have sw : Sl K F3 A1 (wipeR ρ vs) (L2.wipe σ vs) := ((hsl.mono e1 p1).mono (e'.trans e3) (Pre.refl _)).wipe vs
          simp only [lcB] at q'
          cases q0 : gg d0 (wipeR ρ vs) with
          | none => rw [q0] at q'; exact q'.elim
          | some ρ2 =>
            rw [q0] at q'
            simp only at q'
            refine ⟨_, F3, A1, S', wipeR ρ vs, d0, w3, sw, r3, ρ2, q0, fun σ' s' hwipe => ⟨hwipe.trans wipe_wipe, ?_⟩⟩
            refine ⟨_, F3, A1, S', ρ2, w3, s', ?_⟩
            cases qt : tc ρ2 S' with
            | bad => rw [qt] at q'; exact q'.elim
            | exc x2 S2 => rw [qt] at q'; exact q'.elim
            | ok b S2 =>
              rw [qt] at q'
              simp only [R.noX, R.bind] at q'
              intro F4 A4 H4 b' e4 p4 w4 rb
              cases rb
              cases b with
              | false =>
                simp only [Bool.false_eq_true, if_false]
                simp only [Option.toList, List.nil_append] at q'
                obtain ⟨w5, h5, f5, a5⟩ := w4.unstill nG
                have w6 := w5.cut A1.length
                rw [p4.cutW] at w6
                refine ⟨F4, S2.take A1.length, acc, us, (e'.trans e3).trans e4, w6, f5, h5, hr'.mono (e3.trans e4), by omega, ?_⟩
                refine PostL.shift (F := F') (A := A1) ?_ (e3.trans e4) (Pre.refl _)
                cases h1 : lcF A1.length (lcB gg tc f (wipeR ρ vs)) wk m (i + 1) (S2.take A1.length) with
                | ok r S3 =>
                  rw [h1] at q'
                  exact q'
                | exc x S3 =>
                  rw [h1] at q'
                  exact q'
                | bad =>
                  rw [h1] at q'
                  exact q'
              | true =>
                simp only [if_true]
                simp only at q'
                refine ⟨_, F4, A4, S2, ρ2, w4, s'.mono e4 p4, ?_⟩
                cases qf : f ρ2 S2 with
                | bad => rw [qf] at q'; exact q'.elim
                | exc x2 S3 => rw [qf] at q'; exact q'.elim
                | ok w S3 =>
                  rw [qf] at q'
                  simp only [R.noX, R.bind] at q'
                  intro F5 A5 H5 v5 e5 p5 w5 r5
                  cases qd : frd S3 w with
                  | none => rw [qd] at q'; exact q'.elim
                  | some d =>
                    rw [qd] at q'
                    simp only [Option.map_some, R.lift, Option.toList] at q'
                    have rd5 := frd_rep w5 r5 qd
                    obtain ⟨w6, h6, f6, a6⟩ := w5.unstill nG
                    refine ⟨us, h6, ?_, ?_⟩
                    · rw [← hr'.length]
                      exact lim_lt (by omega)
                    · have w7 := (w6.grow (o := .lst (us ++ [v5])) f6 nG a6 h6).cut A1.length
                      rw [(p4.trans p5).cutW] at w7
                      refine ⟨F5, S3.take A1.length, acc ++ [d], us ++ [v5], ((e'.trans e3).trans e4).trans e5, w7, f6, upd_same, (hr'.mono ((e3.trans e4).trans e5)).append (.cons rd5 .nil), by rw [List.length_append, List.length_singleton]; omega, ?_⟩
                      refine PostL.shift (F := F') (A := A1) ?_ ((e3.trans e4).trans e5) (Pre.refl _)
                      cases h1 : lcF A1.length (lcB gg tc f (wipeR ρ vs)) wk m (i + 1) (S3.take A1.length) with
                      | ok r S4 =>
                        rw [h1] at q'
                        simp only [R.bind, List.append_assoc]
                        exact q'
                      | exc x S4 =>
                        rw [h1] at q'
                        exact q'
                      | bad =>
                        rw [h1] at q'
                        exact q'
theorem jl_comp {ifs : List Expr} {scope : Scope} {own : List (Str × Nat)} {fi : FI} {gg : FC} (hc : X.calm = true) (hN : X.N.Nodup) (hi : JI T X Wx tg iter fi) (ok : BlkOk X.N X.env.scope scope own)
    (hg : ∀ (s : Shared) (H : Hp) (C : Addr) (cl : List (Str × Addr)) (fp : List Addr), JC T (X.blk s H scope (compEnvC scope cl C X.env) fp) (own.map (·.2)) tg gg)
    (ht : ∀ (s : Shared) (H : Hp) (C : Addr) (cl : List (Str × Addr)) (fp : List Addr), JP T (X.blk s H scope (compEnvC scope cl C X.env) fp) noW ifs tc)
    (he : ∀ (s : Shared) (H : Hp) (C : Addr) (cl : List (Str × Addr)) (fp : List Addr), JE T (X.blk s H scope (compEnvC scope cl C X.env) fp) noW elt f) (hs : ∀ x, foldedSetIterable iter X.env x = pure x := by intro _; rfl) :
    JL T X Wx (.ListComp elt [⟨tg, iter, ifs, 0⟩] scope pos) (lComp fi (own.map (·.2)) gg tc f) := by
  obtain ⟨wi, h1, s1⟩ := hi
  exact ⟨_, pe_lc hc hN h1 ok (fun s H C cl fp => (hg s H C cl fp).pg) (fun s H C cl fp => (ht s H C cl fp).pts) (fun s H C cl fp => (he s H C cl fp).pe) hs, sem_lc s1⟩
/-- name = [..] -/
def sSetL (i : Nat) (c : Bool) (f : FL) : FS := sSet i (match c with
  | true => fCell f
  | false => fFrz f)
end
end Vz
namespace Vz
open PySem PySem.Spec PyProof.Rows L2
/-- a list or a tuple -/
def SqA (K : PySem.W.Frag) (H : Hp) (a : Addr) (xs : List V) : Prop := SqL K H a xs ∨ SqT K H a xs
theorem SqA.mono {K : PySem.W.Frag} {F F' : Hp} {a : Addr} {xs : List V} (e : Ex F F') : SqA K F a xs → SqA K F' a xs
  | .inl h => .inl (sql_mono e h)
  | .inr h => .inr (sqt_mono e h)
/-- its iterator -/
def HIt (h : Heap) (it a : Addr) (i : Nat) : Bool → Prop
  | false => h.IsListIter it a i
  | true => h.IsTupleIter it a i
def HSq (h : Heap) (a : Addr) (its : Array Value) : Bool → Prop
  | false => h.IsList a its
  | true => h.IsTuple a its
def SqB (K : PySem.W.Frag) (H : Hp) (a : Addr) (xs : List V) : Bool → Prop
  | false => SqL K H a xs
  | true => SqT K H a xs
theorem SqB.mono {K : PySem.W.Frag} {F F' : Hp} {a : Addr} {xs : List V} (e : Ex F F') : ∀ {b : Bool}, SqB K F a xs b → SqB K F' a xs b
  | false, h => sql_mono e h
  | true, h => sqt_mono e h
theorem draws_b {prog : Program} {w : World} {A : Around} (hh : A.handled = none) (it t : Addr) (hne : t ≠ it) (its : Array Value) :
    ∀ b : Bool, Draws prog w A it [it, t] its.size (fun i v => its[i]? = some v) (fun i h => HIt h it t i b ∧ HSq h t its b)
  | false => Draws.list hh it t hne its
  | true => Draws.tuple hh it t hne its
def itObj (t : Addr) : Bool → Obj
  | false => ⟨.type "list_iterator", none, .fields #[.ref t, .int 0 0], #[]⟩
  | true => ⟨.type "tuple_iterator", none, .fields #[.ref t, .int 0 0], #[]⟩
theorem begins_b (t : Addr) (its : Array Value) : ∀ b : Bool, Begins (.ref t) (itObj t b) fun h => HSq h t its b
  | false => begins_list t its
  | true => begins_tuple t its
theorem hit_of {h : Heap} {it t : Addr} : ∀ {b : Bool}, h.get? it = some (itObj t b) → HIt h it t 0 b
  | false, e => ⟨_, e, rfl, rfl⟩
  | true, e => ⟨_, e, rfl, rfl⟩
theorem HIt.obj {h : Heap} {it t : Addr} {i : Nat} : ∀ {b : Bool}, HIt h it t i b → ∃ o, h.get? it = some o ∧ ∀ v, o.data ≠ .cell v
  | false, ⟨o, e, _, d⟩ => ⟨o, e, fun v q => by rw [d] at q; cases q⟩
  | true, ⟨o, e, _, d⟩ => ⟨o, e, fun v q => by rw [d] at q; cases q⟩
theorem HIt.at {h h' : Heap} {it t : Addr} {i : Nat} (k : ∀ o, h.get? it = some o → h'.get? it = some o) : ∀ {b : Bool}, HIt h it t i b → HIt h' it t i b
  | false, x => Heap.IsListIter.at x k
  | true, x => Heap.IsTupleIter.at x k
section
variable {X : Cx} {pins : List (Addr × Obj)} {σ : L2.St} {H : Hp} {s : Shared}
theorem inv_b (I : Inv X pins σ H s) {a : Addr} {xs : List V} : ∀ {b : Bool}, SqB X.K H a xs b → ∃ its : List Value, Vals xs its ∧ HSq s.heap a its.toArray b ∧ xs.length ≤ sizeLine
  | false, h => let ⟨its, r, p, z⟩ := I.list h; ⟨its, r, p.isList, z⟩
  | true, h => let ⟨its, r, p, z⟩ := I.tuple h; ⟨its, r, p, z⟩
theorem inj_b (I : Inv X pins σ H s) {a : Addr} {xs ys : List V} : ∀ {b : Bool}, SqB X.K H a xs b → SqB X.K H a ys b → xs = ys
  | false, h, h' => I.list_inj h h'
  | true, h, h' => I.tuple_inj h h'
end
theorem HSq.lt {h : Heap} {a : Addr} {its : Array Value} : ∀ {b : Bool}, HSq h a its b → a < h.objs.size
  | false, ⟨_, e, _⟩ => Heap.lt_size e
  | true, ⟨_, e, _⟩ => Heap.lt_size e

def IteB (K : PySem.W.Frag) (a : Addr) (b : Bool) : It :=
  ⟨fun i H => ∃ (xs : List V) (x : V), SqB K H a xs b ∧ xs[i]? = some x,
   fun i H v H' => ∃ T x, v = .ref T ∧ H T = none ∧ H' = upd H T (.tup [.int (i : Nat), x]) ∧ ∀ xs, SqB K H a xs b → xs[i]? = some x,
   fun i H => ∃ xs : List V, SqB K H a xs b ∧ xs.length = i⟩
theorem turn_enumB {P : Program} {w : World} {K : PySem.W.Frag} {elts : List Expr} {kk : Nat} {tpos : Pos} (b : Bool) (a e it : Addr) :
    Turn P w K (.Tuple elts kk tpos) (IteB K a b) [e, it] e (fun i h => (∃ old, IsEnum h e it ((i : Nat) : Int) old) ∧ HIt h it a i b ∧ e ≠ it ∧ a ≠ it ∧ a ≠ e) where
  mem := by simp
  obj := fun i h st c hc => by
    obtain ⟨⟨old, he⟩, hi, _⟩ := st
    have z : c = e ∨ c = it := by simpa using hc
    rcases z with z | z
    · subst z
      exact ⟨_, he, fun v q => nomatch q⟩
    · subst z
      exact hi.obj
  keep := fun i h h' st k => by
    obtain ⟨⟨old, he⟩, hi, hne⟩ := st
    exact ⟨⟨old, k e (by simp) _ he⟩, hi.at fun o q => k it (by simp) o q, hne⟩
  item := by
    intro X hP hw hK hc i pins s σ H E I hf st hg
    subst hP hw hK
    obtain ⟨⟨old, he⟩, hit, hne, hai, hae⟩ := st
    obtain ⟨xs, x, hq, hx⟩ := hg
    obtain ⟨its, rv, p, hz⟩ := inv_b I hq
    obtain ⟨u, hu, ru⟩ := rv.get hx
    have hil : it < s.heap.objs.size := by
      obtain ⟨o, q, _⟩ := hit.obj
      exact Heap.lt_size q
    have hel : e < s.heap.objs.size := Heap.lt_size he
    have hlt : i < its.toArray.size := by
      have := (List.getElem?_eq_some_iff.mp hu).1
      simpa using this
    refine wpAny_pyNext_enum_itemD (draws_b (A := X.A.in1) (I.ok.hd hc) it a hai its.toArray b) he ⟨hit, p⟩ hlt hne (by simp [hne, Ne.symm hae]) fun v h' tk hv ho st' hT hsz hk => ?_
    have ev : v = u := by
      have h1 : its[i]? = some v := by simpa using hv
      rw [hu] at h1
      exact (Option.some.inj h1).symm
    subst ev
    refine ⟨_, rfl, wpAny_letOwnedTupleGo_enum (s := { s with heap := h', toks := tk + 1 }) ho fun h'' he' sb => ?_⟩
    have hT2 : h''.get? s.heap.objs.size = some { cls := .type "tuple", data := .seq #[.int i tk, v] } := (sb.2 _ (Nat.ne_of_gt hel)).trans hT
    have new : ObjOk X.prog X.w (upd H s.heap.objs.size (.tup [.int (i : Nat), x])) h'' s.heap.objs.size (.tup [.int (i : Nat), x]) :=
      ⟨(by show 2 ≤ sizeLine; exact lim_le (by decide)), [.int i tk, v], .cons ⟨_, rfl⟩ (.cons ru .nil), _, hT2, rfl, _, rfl⟩
    have I1 : Inv X pins σ (upd H s.heap.objs.size (.tup [.int (i : Nat), x])) { s with heap := h'', toks := tk + 1 } :=
      I.turnedNew (ch := [e, it]) (fun c ob hb q => (sb.2 c fun z => hb (by simp [z])).trans (hk c ob (fun z => hb (by simp [z])) (fun z => hb (by simp [z])) q)) hf (Nat.le_refl _) new
    refine ⟨.ref s.heap.objs.size, _, I1, rfl, ⟨_, x, rfl, I.hok.fresh (Nat.le_refl _), rfl, fun ys hy => ?_⟩, ⟨⟨v, ?_⟩, st'.1.at fun o q => (sb.2 it (Ne.symm hne)).trans q, hne, hai, hae⟩, fun c hb => ?_⟩
    · rw [inj_b I hy hq]
      exact hx
    · have e1 : ((i + 1 : Nat) : Int) = (i : Int) + 1 := by omega
      rw [e1]
      exact he'
    · have hb' : c < s.heap.objs.size := by
        have z : c = e ∨ c = it := by simpa using hb
        rcases z with z | z
        · rw [z]; exact hel
        · rw [z]; exact hil
      rw [upd_ne (Nat.ne_of_lt hb')]
      exact (hf c hb).1
  done := by
    intro X hP hw hK hc i pins s σ H E I hf st hg
    subst hP hw hK
    obtain ⟨⟨old, he⟩, hit, hne, hai, hae⟩ := st
    obtain ⟨xs, hq, hx⟩ := hg
    obtain ⟨its, rv, p, hz⟩ := inv_b I hq
    obtain ⟨f0, f1, f2, f3, f4, f5⟩ := hf it (by simp)
    have hl := rv.length
    have hn : its.toArray.size = i := by
      rw [List.size_toArray]
      omega
    refine wpAny_pyNext_enum_endD (draws_b (A := X.A.in1) (I.ok.hd hc) it a hai its.toArray b) he ⟨by rw [hn]; exact hit, p⟩ fun h' eb => ⟨rfl, ?_⟩
    exact I.turned (t' := s.toks) (fun c o hb q => eb c o hb q) f0 f1 f3 f4 f5
  self := fun A i s Q E st h => let ⟨⟨_, he⟩, _⟩ := st; wpAny_pyIter_enum he h
theorem enum_newT (l : Addr) (its : Array Value) : Meets (Builtin.«enumerate.__new__» ⟨[.type "enumerate", .ref l], []⟩) (fun _ R s => s.heap.IsTuple l its ∧
    R (.ok (.ret (.ref (s.heap.push (itObj l true)).objs.size))) { s with heap := (s.heap.push (itObj l true)).push ⟨.type "enumerate", none, .fields #[.none, .bool false, .ref s.heap.objs.size, rawInt 0, .none, .none], #[]⟩ }) :=
  .of_wp fun prog w A R s h => by
    obtain ⟨hp, g, d, tk, os⟩ := s
    obtain ⟨h1, h⟩ := h
    have hsub := sub_enumerate
    obtain ⟨o, ho, oc, n, od⟩ := id h1
    obtain ⟨c, dct, dt, sl⟩ := o
    replace oc : c = .type "tuple" := oc
    replace od : dt = .seq its n := od
    subst oc od
    have hL : Heap.IsTuple (Shared.heap ⟨hp, g, d, tk, os⟩) l its := h1
    wp_walk using wpAny_loadPart' ho
    refine wpAny_stack_any fun st => wpAny_pure ?_
    split
    · rename_i c _ _ _ _ _
      cases (c == Value.type "enumerate")
      · wp_walk using wpAny_loadPart' ho, wpAny_pyIter_tuple hL
        exact ⟨_, rfl, h⟩
      · wp_walk using wpAny_loadPart' ho, wpAny_pyIter_tuple hL
        exact ⟨_, rfl, h⟩
    · wp_walk using wpAny_loadPart' ho, wpAny_pyIter_tuple hL
      exact ⟨_, rfl, h⟩
theorem call_enumT {prog : Program} {w : World} {A : Around} {E : Value → Shared → Prop} {s : Shared} {l : Addr} {its : Array Value} {Q : Value → Shared → Prop} (h1 : s.heap.IsTuple l its)
    (h : ∀ h', IsEnum h' (s.heap.objs.size + 1) s.heap.objs.size 0 .none → HIt h' s.heap.objs.size l 0 true → (∀ b o, s.heap.get? b = some o → h'.get? b = some o) → Q (.ref (s.heap.objs.size + 1)) { s with heap := h' }) :
    wpAny (model prog w) A (call (.type "enumerate") [.ref l]) Q E s := by
  refine callType_new F.called_enumerate (by decide) (F.typeCall_enumerate_1 _) (F.newCall_enumerate_1 _) (fun obj => F.args_object_init_2 obj _) F.entry_enumerate_new (enum_newT l its) ⟨h1, ?_⟩
  have hz : (s.heap.push (itObj l true)).objs.size = s.heap.objs.size + 1 := Heap.size_push ..
  show _ ∧ _
  rw [hz]
  have he : IsEnum ((s.heap.push (itObj l true)).push ⟨.type "enumerate", none, .fields #[.none, .bool false, .ref s.heap.objs.size, rawInt 0, .none, .none], #[]⟩) (s.heap.objs.size + 1) s.heap.objs.size 0 .none := by
    have := Heap.get?_push_size (s.heap.push (itObj l true)) (o := ⟨.type "enumerate", none, .fields #[.none, .bool false, .ref s.heap.objs.size, rawInt 0, .none, .none], #[]⟩) rfl
    rw [hz] at this
    exact this
  exact ⟨⟨_, he, rfl⟩, h _ he (hit_of (Heap.get?_push_of_some _ (Heap.get?_push_size _ rfl))) fun b o x => Heap.get?_push_of_some _ (Heap.get?_push_of_some _ x)⟩
theorem call_enumB {prog : Program} {w : World} {A : Around} {E : Value → Shared → Prop} {s : Shared} {l : Addr} {its : Array Value} {Q : Value → Shared → Prop} : ∀ {b : Bool}, HSq s.heap l its b →
    (∀ h', IsEnum h' (s.heap.objs.size + 1) s.heap.objs.size 0 .none → HIt h' s.heap.objs.size l 0 b → (∀ b o, s.heap.get? b = some o → h'.get? b = some o) → Q (.ref (s.heap.objs.size + 1)) { s with heap := h' }) →
    wpAny (model prog w) A (call (.type "enumerate") [.ref l]) Q E s
  | false, h1, h => call_enumerate_list h1 fun h' he hit _ hk => h h' he hit hk
  | true, h1, h => call_enumT h1 h
def iEnB (K : PySem.W.Frag) (ta : TA) : TI := fun σ H R => ta σ H fun vs H1 => ∃ a xs b, vs = [.ref a] ∧ SqB K H1 a xs b ∧ R (IteB K a b) H1
theorem pi_enB {X : Cx} {e : Expr} {ta : TA} {p pos tpos : Pos} {elts : List Expr} {kk : Nat} (hg : Gl X "enumerate") (hm : X.mg "enumerate" = none) (ha : PA X [e] ta) (hs : starEach [e] X.env = [(false, eval e X.env)] := by rfl) :
    PI X (.Tuple elts kk tpos) (.Call (.Name "enumerate" p) [e] [] pos) (iEnB X.K ta) := by
  refine ⟨fun pins s σ H R I h => ?_⟩
  refine Call_ (ld_blt I hg hm boot_enumerate (PyProof.Rows.callWith_type1 (thn (ha.run pos pins s σ H _ I h) fun us s1 ⟨vs, H1, I1, r1, q1⟩ => ?_) hs rfl))
  obtain ⟨a, xs, b, ex, hq, q⟩ := q1
  subst ex
  cases r1 with
  | cons r rr =>
    cases rr
    cases r
    obtain ⟨its, rv, p', hz⟩ := inv_b I1 hq
    have hal : a < s1.heap.objs.size := p'.lt
    refine call_enumB p' fun h' he hit hk => wpAny_pyIter_enum he ?_
    have I2 : Inv X pins σ H1 { s1 with heap := h' } := I1.kept (t' := s1.toks) hk
    refine ⟨s1.heap.objs.size + 1, [s1.heap.objs.size + 1, s1.heap.objs.size], _, _, H1, rfl, I2, turn_enumB b a (s1.heap.objs.size + 1) s1.heap.objs.size, ⟨⟨.none, he⟩, hit, Nat.succ_ne_self _, Nat.ne_of_lt hal, Nat.ne_of_lt (Nat.lt_succ_of_lt hal)⟩, fun c hb => ?_, q⟩
    have hle : s1.heap.objs.size ≤ c := by
      have z : c = s1.heap.objs.size + 1 ∨ c = s1.heap.objs.size := by simpa using hb
      rcases z with z | z
      · rw [z]; exact Nat.le_add_right _ _
      · rw [z]; exact Nat.le_refl _
    exact I1.fpOk hle (I1.hok.fresh hle)

def ItzB (K : PySem.W.Frag) (a b : Addr) (p q : Bool) : It :=
  ⟨fun i H => ∃ (xs ys : List V) (x y : V), SqB K H a xs p ∧ SqB K H b ys q ∧ xs[i]? = some x ∧ ys[i]? = some y,
   fun i H v H' => ∃ T x y, v = .ref T ∧ H T = none ∧ H' = upd H T (.tup [x, y]) ∧ (∀ xs, SqB K H a xs p → xs[i]? = some x) ∧ ∀ ys, SqB K H b ys q → ys[i]? = some y,
   fun i H => ∃ xs ys : List V, SqB K H a xs p ∧ SqB K H b ys q ∧ i ≤ xs.length ∧ i ≤ ys.length ∧ (i = xs.length ∨ i = ys.length)⟩
theorem sep_of {I a b : Nat} (ha : a < I) (hb : b < I) : ZipSep2 (I + 4) (I + 2) (I + 3) I (I + 1) [I, a] [I + 1, b] := by
  have m : ∀ {x y z : Nat}, x ≠ y → x ≠ z → x ∉ ([y, z] : List Addr) := fun h1 h2 h => by
    rcases List.mem_cons.mp h with h | h
    · exact h1 h
    · exact h2 (List.mem_singleton.mp h)
  have n : ∀ {x y : Nat}, x ≠ y → (x : Addr) ≠ y := fun h => h
  exact ⟨n (by omega), n (by omega), n (by omega), n (by omega), List.mem_cons_self, m (by omega) (by omega), m (by omega) (by omega), n (by omega), List.mem_cons_self, m (by omega) (by omega), m (by omega) (by omega), m (by omega) (by omega), m (by omega) (by omega)⟩
theorem turn_zipB {P : Program} {w : World} {K : PySem.W.Frag} {elts : List Expr} {kk : Nat} {tpos : Pos} (p q : Bool) {a b z TI TO i1 i2 : Addr} (D : ZipSep2 z TI TO i1 i2 [i1, a] [i2, b]) (ha : a ≠ i1) (hb : b ≠ i2) :
    Turn P w K (.Tuple elts kk tpos) (ItzB K a b p q) [z, TI, TO, i1, i2] z (fun i h => IsZip h z TI TO .none ∧ IsTupOf2 h TI (.ref i1) (.ref i2) ∧ (∃ x y, IsTupOf2 h TO x y) ∧ HIt h i1 a i p ∧ HIt h i2 b i q) where
  mem := by simp
  obj := fun i h st c hc => by
    obtain ⟨hz, hTI, ⟨x, y, hTO⟩, h1, h2⟩ := st
    have e' : c = z ∨ c = TI ∨ c = TO ∨ c = i1 ∨ c = i2 := by simpa using hc
    rcases e' with w | w | w | w | w
    · subst w; exact ⟨_, hz, fun v q => nomatch q⟩
    · subst w; exact ⟨_, hTI, fun v q => nomatch q⟩
    · subst w; exact ⟨_, hTO, fun v q => nomatch q⟩
    · subst w; exact h1.obj
    · subst w; exact h2.obj
  keep := fun i h h' st k => by
    obtain ⟨hz, hTI, ⟨x, y, hTO⟩, h1, h2⟩ := st
    exact ⟨k z (by simp) _ hz, k TI (by simp) _ hTI, ⟨x, y, k TO (by simp) _ hTO⟩, h1.at fun o e => k i1 (by simp) o e, h2.at fun o e => k i2 (by simp) o e⟩
  item := by
    intro X hP hw hK hc i pins s σ H E I hf st hg
    subst hP hw hK
    obtain ⟨hz, hTI, ⟨x0, y0, hTO⟩, h1, h2⟩ := st
    obtain ⟨xs, ys, x, y, hqx, hqy, hx, hy⟩ := hg
    obtain ⟨its, rv, p1, _⟩ := inv_b I hqx
    obtain ⟨its2, rv2, p2, _⟩ := inv_b I hqy
    obtain ⟨u, hu, ru⟩ := rv.get hx
    obtain ⟨u2, hu2, ru2⟩ := rv2.get hy
    have hzl : z < s.heap.objs.size := Heap.lt_size hz
    have hl1 : i < its.toArray.size := by simpa using (List.getElem?_eq_some_iff.mp hu).1
    have hl2 : i < its2.toArray.size := by simpa using (List.getElem?_eq_some_iff.mp hu2).1
    have hh := I.ok.hd hc
    refine wpAny_pyNext_zipD2_item D (draws_b (A := X.A.in1) hh i1 a ha its.toArray p) (draws_b (A := X.A.in1) hh i2 b hb its2.toArray q) hz hTI hTO ⟨h1, p1⟩ ⟨h2, p2⟩ hl1 hl2 fun v1 v2 h' tk e1 e2 z' TO' s1' s2' hT hsz hk => ?_
    have ev1 : v1 = u := by
      have h1 : its[i]? = some v1 := by simpa using e1
      rw [hu] at h1
      exact (Option.some.inj h1).symm
    have ev2 : v2 = u2 := by
      have h1 : its2[i]? = some v2 := by simpa using e2
      rw [hu2] at h1
      exact (Option.some.inj h1).symm
    subst ev1 ev2
    refine ⟨_, rfl, wpAny_letOwnedTupleGo_zip (s := { s with heap := h', toks := tk }) z' fun h'' z'' sb => ?_⟩
    have hT2 : h''.get? s.heap.objs.size = some { cls := .type "tuple", data := .seq #[v1, v2] } := (sb.2 _ (Nat.ne_of_gt hzl)).trans hT
    have new : ObjOk X.prog X.w (upd H s.heap.objs.size (.tup [x, y])) h'' s.heap.objs.size (.tup [x, y]) :=
      ⟨(by show 2 ≤ sizeLine; exact lim_le (by decide)), [v1, v2], .cons ru (.cons ru2 .nil), _, hT2, rfl, _, rfl⟩
    have I1 : Inv X pins σ (upd H s.heap.objs.size (.tup [x, y])) { s with heap := h'', toks := tk } :=
      I.turnedNew (ch := [z, TI, TO, i1, i2]) (fun c o hb e => (sb.2 c (fun e' => hb (by simp [e']))).trans (hk c o (fun e' => hb (by simp [e'])) (fun e' => hb (by simp [e'])) (fun e' => hb (by simp [e'])) (fun e' => hb (by simp [e'])) e)) hf (Nat.le_refl _) new
    refine ⟨.ref s.heap.objs.size, _, I1, rfl, ⟨_, x, y, rfl, I.hok.fresh (Nat.le_refl _), rfl, fun l hl => ?_, fun l hl => ?_⟩, ⟨z'', ?_, ⟨v1, v2, ?_⟩, ?_, ?_⟩, fun c hcm => ?_⟩
    · rw [inj_b I hl hqx]
      exact hx
    · rw [inj_b I hl hqy]
      exact hy
    · exact (sb.2 _ D.TIz).trans (hk _ _ D.TIz D.TITO D.TIi1 D.TIi2 hTI)
    · exact (sb.2 _ D.TOz).trans TO'
    · exact s1'.1.at fun o e => (sb.2 _ (Ne.symm D.zi1)).trans e
    · exact s2'.1.at fun o e => (sb.2 _ (Ne.symm D.zi2)).trans e
    · have hlt : c < s.heap.objs.size := by
        have e' : c = z ∨ c = TI ∨ c = TO ∨ c = i1 ∨ c = i2 := by simpa using hcm
        obtain ⟨o1, e1, _⟩ := h1.obj
        obtain ⟨o2, e2, _⟩ := h2.obj
        rcases e' with w | w | w | w | w
        · rw [w]; exact hzl
        · rw [w]; exact Heap.lt_size hTI
        · rw [w]; exact Heap.lt_size hTO
        · rw [w]; exact Heap.lt_size e1
        · rw [w]; exact Heap.lt_size e2
      rw [upd_ne (Nat.ne_of_lt hlt)]
      exact (hf c hcm).1
  done := by
    intro X hP hw hK hc i pins s σ H E I hf st hg
    subst hP hw hK
    obtain ⟨hz, hTI, ⟨x0, y0, hTO⟩, h1, h2⟩ := st
    obtain ⟨xs, ys, hqx, hqy, e1, e2, hend⟩ := hg
    obtain ⟨its, rv, p1, _⟩ := inv_b I hqx
    obtain ⟨its2, rv2, p2, _⟩ := inv_b I hqy
    have l1 := rv.length
    have l2 := rv2.length
    have hh := I.ok.hd hc
    have n1 : its.toArray.size = xs.length := by rw [List.size_toArray]; exact l1.symm
    have n2 : its2.toArray.size = ys.length := by rw [List.size_toArray]; exact l2.symm
    refine wpAny_pyNext_zipD2_end D (draws_b (A := X.A.in1) hh i1 a ha its.toArray p) (draws_b (A := X.A.in1) hh i2 b hb its2.toArray q) hz hTI hTO ⟨h1, p1⟩ ⟨h2, p2⟩ (by rw [n1]; exact e1) (by rw [n2]; exact e2) (by rw [n1, n2]; exact hend) fun h' tk hk => ⟨rfl, ?_⟩
    exact I.turnedL (t' := tk) (ch := [z, TI, TO, i1, i2]) (fun c o hb e => hk c o (fun e' => hb (by simp [e'])) (fun e' => hb (by simp [e'])) (fun e' => hb (by simp [e'])) (fun e' => hb (by simp [e'])) e) hf
  self := fun A i s Q E st h => wpAny_pyIter_zip st.1 h
def iZipB (K : PySem.W.Frag) (ta : TA) : TI := fun σ H R => ta σ H fun vs H1 => ∃ a b xs ys p q, vs = [.ref a, .ref b] ∧ SqB K H1 a xs p ∧ SqB K H1 b ys q ∧ R (ItzB K a b p q) H1
theorem pi_zipB {X : Cx} {e e2 : Expr} {ta : TA} {pp pos tpos : Pos} {elts : List Expr} {kk : Nat} (hg : Gl X "zip") (hm : X.mg "zip" = none) (ha : PA X [e, e2] ta)
    (hs : starEach [e, e2] X.env = (false, eval e X.env) :: starEach [e2] X.env := by rfl) (hpl : (backTo pos (starEach [e2] X.env)).any (·.1) = false := by rfl) :
    PI X (.Tuple elts kk tpos) (.Call (.Name "zip" pp) [e, e2] [] pos) (iZipB X.K ta) := by
  refine ⟨fun pins s σ H R I h => ?_⟩
  refine Call_ (ld_blt I hg hm PyProof.Rows.boot_zip (PyProof.Rows.callWith_type1 (thn (ha.run pos pins s σ H _ I h) fun us s1 ⟨vs, H1, I1, r1, q1⟩ => ?_) hs hpl))
  obtain ⟨a, b, xs, ys, p, q, ex, hqx, hqy, q1⟩ := q1
  subst ex
  cases r1 with
  | cons r rr =>
    cases rr with
    | cons r' rr =>
      cases rr
      cases r
      cases r'
      have fresh5 : ∀ c, c ∈ [s1.heap.objs.size + 4, s1.heap.objs.size + 2, s1.heap.objs.size + 3, s1.heap.objs.size, s1.heap.objs.size + 1] → FpOk X pins H1 c := fun c hcm => by
        have e' : c = s1.heap.objs.size + 4 ∨ c = s1.heap.objs.size + 2 ∨ c = s1.heap.objs.size + 3 ∨ c = s1.heap.objs.size ∨ c = s1.heap.objs.size + 1 := by simpa using hcm
        have hle : s1.heap.objs.size ≤ c := by
          rcases e' with w | w | w | w | w <;> rw [w] <;> first | exact Nat.le_add_right _ _ | exact Nat.le_refl _
        exact I1.fpOk hle (I1.hok.fresh hle)
      obtain ⟨its, rv, p1, _⟩ := inv_b I1 hqx
      obtain ⟨its2, rv2, p2, _⟩ := inv_b I1 hqy
      have la := p1.lt
      have lb := p2.lt
      refine zip_begins2 (begins_b a its.toArray p) (begins_b b its2.toArray q) p1 p2 fun h' hz hTI hTO h1 h2 hsz hk => wpAny_pyIter_zip hz ?_
      have I2 : Inv X pins σ H1 { s1 with heap := h' } := I1.kept (t' := s1.toks) hk
      exact ⟨s1.heap.objs.size + 4, [s1.heap.objs.size + 4, s1.heap.objs.size + 2, s1.heap.objs.size + 3, s1.heap.objs.size, s1.heap.objs.size + 1], _, _, H1, rfl, I2, turn_zipB p q (sep_of la lb) (Nat.ne_of_lt la) (Nat.ne_of_lt (Nat.lt_succ_of_lt lb)), ⟨hz, hTI, ⟨_, _, hTO⟩, hit_of h1, hit_of h2⟩, fresh5, q1⟩

section
variable {T : Tb} {X : Cx} {Wx : WX} {ga : FA}
theorem sqb_of {K : PySem.W.Frag} {F : Hp} {d : D} {v : V} {ds : List D} (r : Rep K F d v) (h : seqOf d = some ds) : ∃ a vs b, v = .ref a ∧ SqB K F a vs b ∧ Reps K F ds vs := by
  cases r with
  | lst h1 r1 =>
    cases h
    exact ⟨_, _, false, rfl, .of h1, r1⟩
  | tup h1 r1 =>
    cases h
    exact ⟨_, _, true, rfl, h1.sq, r1⟩
  | _ => cases h
/-- numbered -/
def nums : Nat → List D → List D
  | _, [] => []
  | i, d :: ds => .tup .key [.int i, d] :: nums (i + 1) ds
theorem nums_get : ∀ (i j : Nat) (ds : List D) (d : D), (nums i ds)[j]? = some d → ∃ e, ds[j]? = some e ∧ d = .tup .key [.int ((i + j : Nat) : Int), e]
  | _, _, [], _, h => by simp [nums] at h
  | i, 0, e :: ds, d, h => by
    simp [nums] at h
    exact ⟨e, rfl, by rw [← h]; simp⟩
  | i, j + 1, e :: ds, d, h => by
    obtain ⟨e', h1, h2⟩ := nums_get (i + 1) j ds d (by simpa [nums] using h)
    refine ⟨e', by simpa using h1, ?_⟩
    rw [h2]
    congr 4
    omega
theorem nums_len : ∀ (i : Nat) (ds : List D), (nums i ds).length = ds.length
  | _, [] => rfl
  | i, d :: ds => congrArg Nat.succ (nums_len (i + 1) ds)
theorem relI_enum {K : PySem.W.Frag} {F : Hp} {A : List (List Addr)} {a : Addr} {vs : List V} {ds : List D} {b : Bool} (h : SqB K F a vs b) (r : Reps K F ds vs) : relI T K F A (.ds (nums 0 ds)) (IteB K a b) := by
  intro G F' A' S' H' e p w ds' z i
  cases z
  have hH : SqB K H' a vs b := (h.mono e).mono w.sub
  refine ⟨fun d hd => ?_, fun hi => ?_⟩
  · obtain ⟨d', h1, rfl⟩ := nums_get 0 i ds d hd
    obtain ⟨v, h2, h3⟩ := r.get h1
    refine ⟨⟨vs, v, hH, h2⟩, fun x H'' ⟨t, y, q1, q2, q3, q4⟩ => ?_⟩
    subst q1 q3
    have := q4 vs hH
    rw [h2] at this
    cases this
    refine ⟨_, w.exNew q2 _, w.new q2 _, .tup (f := .key) upd_same (.cons ?_ (.cons (h3.mono (e.trans (w.exNew q2 _))) .nil))⟩
    rw [Nat.zero_add]
    exact .int _
  · rw [nums_len, r.length] at hi
    exact ⟨vs, hH, hi⟩
/-- arguments as data that stays -/
def frds (S : Sto) : List W → Option (List D)
  | [] => some []
  | w :: ws => (frd S w).bind fun d => (frds S ws).bind fun ds => some (d :: ds)
theorem frds_rep {K : PySem.W.Frag} {F H : Hp} {A : List (List Addr)} {S : Sto} (hw : Wd T K F A S H) : ∀ {ws : List W} {vs : List V} {ds : List D}, RepWs K F A ws vs → frds S ws = some ds → Reps K F ds vs
  | _, _, _, .nil, h => by
    cases h
    exact .nil
  | w :: ws, _, _, .cons r rr, h => by
    simp only [frds] at h
    cases h1 : frd S w with
    | none => rw [h1] at h; cases h
    | some d =>
      cases h2 : frds S ws with
      | none => rw [h1, h2] at h; cases h
      | some r' =>
        rw [h1, h2] at h
        cases h
        exact .cons (frd_rep hw r h1) (frds_rep hw rr h2)
def one {α : Type} (g : D → Option α) : List D → Option α
  | [d] => g d
  | _ => none
def two {α : Type} (g : D → D → Option α) : List D → Option α
  | [d, e] => g d e
  | _ => none
theorem one_some {α : Type} {g : D → Option α} {ds : List D} {a : α} (h : one g ds = some a) : ∃ d, ds = [d] ∧ g d = some a := by
  unfold one at h
  split at h
  · exact ⟨_, rfl, h⟩
  · cases h
theorem two_some {α : Type} {g : D → D → Option α} {ds : List D} {a : α} (h : two g ds = some a) : ∃ d e, ds = [d, e] ∧ g d e = some a := by
  unfold two at h
  split at h
  · exact ⟨_, _, rfl, h⟩
  · cases h
def iFr (g : List D → Option (List D)) (f : FA) : FI := fun ρ S => (f ρ S).bind fun ws S1 => R.lift (((frds S1 ws).bind g).map Wk.ds) S1
def enumD : D → Option (List D) := fun d => (seqOf d).map (nums 0)
def pairs : List D → List D → List D
  | x :: xs, y :: ys => .tup .key [x, y] :: pairs xs ys
  | _, _ => []
def zipD : D → D → Option (List D) := fun d e => (seqOf d).bind fun xs => (seqOf e).map (pairs xs)
theorem ji_enum {elts : List Expr} {kk : Nat} {tpos p pos : Pos} {e : Expr} (hm : X.mg "enumerate" = none) (ha : JA T X Wx [e] ga) (hg : Gl X "enumerate" := by rfl) (hs : starEach [e] X.env = [(false, eval e X.env)] := by rfl) :
    JI T X Wx (.Tuple elts kk tpos) (.Call (.Name "enumerate" p) [e] [] pos) (iFr (one enumD) ga) := by
  obtain ⟨t, h1, s1⟩ := ha
  refine ⟨_, pi_enB hg hm h1 hs, fun G F A S H σ ρ Q hw hs hp => ?_⟩
  refine s1 G F A S H σ ρ _ hw hs (hp.bind fun ws S1 F1 A1 H1 v e1 p1 w1 r1 hp1 => ?_)
  obtain ⟨wk, h2, q⟩ := hp1.lift
  cases h3 : frds S1 ws with
  | none => rw [h3] at h2; cases h2
  | some es =>
    rw [h3, Option.bind_some] at h2
    have rr := frds_rep w1 r1 h3
    cases h0 : one enumD es with
    | none => rw [h0] at h2; cases h2
    | some ds =>
    rw [h0] at h2
    cases h2
    obtain ⟨d, rfl, h4⟩ := one_some h0
    obtain ⟨u, rfl, ru⟩ := rr.one
    unfold enumD at h4
    cases h5 : seqOf d with
    | none => rw [h5] at h4; cases h4
    | some xs =>
      rw [h5] at h4
      cases h4
      obtain ⟨a, vs, b, rfl, hq, rq⟩ := sqb_of ru h5
      exact ⟨a, vs, b, rfl, hq.mono w1.sub, q F1 A1 H1 _ (Evl.Ex.refl _) (Pre.refl _) w1 (relI_enum hq rq)⟩
theorem pairs_get : ∀ (j : Nat) (xs ys : List D) (d : D), (pairs xs ys)[j]? = some d → ∃ x y, xs[j]? = some x ∧ ys[j]? = some y ∧ d = .tup .key [x, y]
  | _, [], _, _, h => by simp [pairs] at h
  | _, _ :: _, [], _, h => by simp [pairs] at h
  | 0, x :: xs, y :: ys, d, h => by
    simp [pairs] at h
    exact ⟨x, y, rfl, rfl, h.symm⟩
  | j + 1, x :: xs, y :: ys, d, h => by
    obtain ⟨x', y', h1, h2, h3⟩ := pairs_get j xs ys d (by simpa [pairs] using h)
    exact ⟨x', y', by simpa using h1, by simpa using h2, h3⟩
theorem pairs_len : ∀ (xs ys : List D), (pairs xs ys).length = min xs.length ys.length
  | [], _ => by simp [pairs]
  | _ :: _, [] => by simp [pairs]
  | x :: xs, y :: ys => by
    simp only [pairs, List.length_cons, pairs_len xs ys]
    omega
theorem relI_zip {K : PySem.W.Frag} {F : Hp} {A : List (List Addr)} {a b : Addr} {vs us : List V} {xs ys : List D} {p q : Bool} (h : SqB K F a vs p) (h' : SqB K F b us q) (r : Reps K F xs vs) (r' : Reps K F ys us) : relI T K F A (.ds (pairs xs ys)) (ItzB K a b p q) := by
  intro G F' A' S' H' e pp w ds' z i
  cases z
  have hH : SqB K H' a vs p := (h.mono e).mono w.sub
  have hH' : SqB K H' b us q := (h'.mono e).mono w.sub
  refine ⟨fun d hd => ?_, fun hi => ?_⟩
  · obtain ⟨x, y, h1, h2, rfl⟩ := pairs_get i xs ys d hd
    obtain ⟨v, h3, h4⟩ := r.get h1
    obtain ⟨u, h5, h6⟩ := r'.get h2
    refine ⟨⟨vs, us, v, u, hH, hH', h3, h5⟩, fun x H'' ⟨t, x', y', q1, q2, q3, q4, q5⟩ => ?_⟩
    subst q1 q3
    have z1 := q4 vs hH
    have z2 := q5 us hH'
    rw [h3] at z1
    rw [h5] at z2
    cases z1
    cases z2
    exact ⟨_, w.exNew q2 _, w.new q2 _, .tup (f := .key) upd_same (.cons (h4.mono (e.trans (w.exNew q2 _))) (.cons (h6.mono (e.trans (w.exNew q2 _))) .nil))⟩
  · rw [pairs_len, r.length, r'.length] at hi
    exact ⟨vs, us, hH, hH', by omega, by omega, by omega⟩
theorem ji_zip {elts : List Expr} {kk : Nat} {tpos p pos : Pos} {e e2 : Expr} (hm : X.mg "zip" = none) (ha : JA T X Wx [e, e2] ga) (hg : Gl X "zip" := by rfl) (hs : starEach [e, e2] X.env = (false, eval e X.env) :: starEach [e2] X.env := by rfl)
    (hpl : (backTo pos (starEach [e2] X.env)).any (·.1) = false := by rfl) : JI T X Wx (.Tuple elts kk tpos) (.Call (.Name "zip" p) [e, e2] [] pos) (iFr (two zipD) ga) := by
  obtain ⟨t, h1, s1⟩ := ha
  refine ⟨_, pi_zipB hg hm h1 hs hpl, fun G F A S H σ ρ Q hw hs hp => ?_⟩
  refine s1 G F A S H σ ρ _ hw hs (hp.bind fun ws S1 F1 A1 H1 v e1 p1 w1 r1 hp1 => ?_)
  obtain ⟨wk, h2, q⟩ := hp1.lift
  cases h3 : frds S1 ws with
  | none => rw [h3] at h2; cases h2
  | some es =>
    rw [h3, Option.bind_some] at h2
    have rr := frds_rep w1 r1 h3
    cases h0 : two zipD es with
    | none => rw [h0] at h2; cases h2
    | some ds =>
    rw [h0] at h2
    cases h2
    obtain ⟨d, d2, rfl, h4⟩ := two_some h0
    obtain ⟨u, u2, rfl, ru, ru2⟩ := rr.two
    unfold zipD at h4
    cases h5 : seqOf d with
    | none => rw [h5] at h4; cases h4
    | some xs =>
      cases h6 : seqOf d2 with
      | none => rw [h5, h6] at h4; cases h4
      | some ys =>
        rw [h5, h6] at h4
        cases h4
        obtain ⟨a, vs, b, rfl, hq, rq⟩ := sqb_of ru h5
        obtain ⟨a2, vs2, b2, rfl, hq2, rq2⟩ := sqb_of ru2 h6
        exact ⟨a, a2, vs, vs2, b, b2, rfl, hq.mono w1.sub, hq2.mono w1.sub, q F1 A1 H1 _ (Evl.Ex.refl _) (Pre.refl _) w1 (relI_zip hq hq2 rq rq2)⟩
end
end Vz
namespace Vz
open PySem PySem.Spec PyProof.Rows L2
section
variable {T : Tb} {X : Cx} {Wx : WX} {a b : Expr} {fa fb : FE} {pos : Pos}

theorem atI_rep {K : PySem.W.Frag} {F : Hp} {ds : List D} {vs : List V} (r : Reps K F ds vs) {i : Int} {d : D} (e : atI ds i = some d) : ∃ v, atI vs i = some v ∧ Rep K F d v := by
  unfold atI at e ⊢
  rw [← r.length]
  cases h : ixN ds.length i with
  | none => rw [h] at e; cases e
  | some j =>
    rw [h] at e
    exact r.get e
def ixD : D → D → Option D
  | .list xs, .int i => atI xs i
  | .tup _ xs, .int i => atI xs i
  | .str z, .int i => ifO (decide (z.length ≤ lim)) ((atI z.cps.toList i).map fun c => .str ⟨#[c]⟩)
  | _, _ => none
theorem l_ix {K : PySem.W.Frag} : OpL T K (rIx K) ixD := by
  intro G F A S H x y dx dy z Q hw rx ry e q
  unfold ixD at e
  split at e
  · cases ry with
    | flat h2 =>
      cases h2
      cases rx with
      | flat h1 => cases h1
      | lst h1 r1 =>
        obtain ⟨v, h3, h4⟩ := atI_rep r1 e
        exact .inl ⟨_, _, _, v, rfl, rfl, .of h1, h3, q F H v (Evl.Ex.refl F) hw h4⟩
  · cases ry with
    | flat h2 =>
      cases h2
      cases rx with
      | flat h1 => cases h1
      | tup f1 h1 r1 =>
        obtain ⟨v, h3, h4⟩ := atI_rep r1 e
        exact .inr (.inl ⟨_, _, _, v, rfl, rfl, h1, h3, q F H v (Evl.Ex.refl F) hw h4⟩)
  · rename_i s i
    obtain ⟨c, e⟩ := ifO_some e
    cases ry with
    | flat h2 =>
      cases h2
      cases rx with
      | flat h1 =>
        cases h1
        cases h3 : atI s.cps.toList i with
        | none => rw [h3] at e; cases e
        | some cp =>
          rw [h3] at e
          cases e
          exact .inr (.inr ⟨_, _, cp, rfl, rfl, lim_le (of_decide_eq_true c), h3, q F H _ (Evl.Ex.refl F) hw (.str _)⟩)
  · cases e
theorem je_ix (ha : JE T X Wx a fa) (hb : JE T X Wx b fb) (hs : PlainIx b := by intro _ _; rfl) : JE T X Wx (.Subscript a b pos) (fBin ixD fa fb) := by
  obtain ⟨ta, h1, s1⟩ := ha
  obtain ⟨tb, h2, s2⟩ := hb
  exact ⟨_, pe_ix ix_seq h1 h2 hs, semE_op s1 s2 l_ix⟩

section
variable {κ : Type} [DecidableEq κ]
def valD : List (κ × D) → κ → Option D
  | [], _ => none
  | (k, d) :: r, x => match decide (k = x) with
    | true => some d
    | false => valD r x
def putD (ps : List (κ × D)) (k : κ) (d : D) : List (κ × D) := match ps.any fun p => decide (p.1 = k) with
  | true => ps.map fun p => if p.1 = k then (p.1, d) else p
  | false => ps ++ [(k, d)]
end
def keyOf : D → Option Key
  | .int i => some (.inl i)
  | .str x => some (.inr x)
  | _ => none
def keysOf : List D → Option (List Key)
  | [] => some []
  | d :: ds => (keyOf d).bind fun k => (keysOf ds).bind fun ks => some (k :: ks)
theorem keyOf_rep {K : PySem.W.Frag} {F H : Hp} {d : D} {v : V} {k : Key} (r : RepU K F H d v) (e : keyOf d = some k) : v = kV k := by
  unfold keyOf at e
  split at e
  · cases e
    exact r.flat_of rfl
  · cases e
    exact r.flat_of rfl
  · cases e
theorem keysOf_rep {K : PySem.W.Frag} {F : Hp} : ∀ {ds : List D} {vs : List V} {ks : List Key}, Reps K F ds vs → keysOf ds = some ks → vs = ks.map kV
  | _, _, _, .nil, e => by
    cases e
    rfl
  | d :: ds, _, _, .cons r rr, e => by
    simp only [keysOf] at e
    cases h1 : keyOf d with
    | none => rw [h1] at e; cases e
    | some k =>
      cases h2 : keysOf ds with
      | none => rw [h1, h2] at e; cases e
      | some ks =>
        rw [h1, h2] at e
        cases e
        rw [keysOf_rep rr h2, keyOf_rep (r.u (Evl.Ex.refl F)) h1]
        rfl
theorem valD_T {K : PySem.W.Frag} {F : Hp} {k : List Key} {d : D} : ∀ {ps : List (List Key × D)} {ks : List (List Key × V)}, RepT K F ps ks → valD ps k = some d → ∃ v, valV ks k = some v ∧ Rep K F d v
  | _, _, .nil, e => by cases e
  | (k', d') :: ps, _, .cons r rr, e => by
    simp only [valD] at e
    cases h : decide (k' = k) with
    | true =>
      rw [h] at e
      cases e
      exact ⟨_, valV_pos (of_decide_eq_true h), r⟩
    | false =>
      rw [h] at e
      obtain ⟨v, h1, h2⟩ := valD_T rr e
      exact ⟨v, by rw [valV_neg (of_decide_eq_false h)]; exact h1, h2⟩
theorem valD_K {K : PySem.W.Frag} {F : Hp} {k : Key} {d : D} : ∀ {ps : List (Key × D)} {ks : List (Key × V)}, RepK K F ps ks → valD ps k = some d → ∃ v, valV ks k = some v ∧ Rep K F d v
  | _, _, .nil, e => by cases e
  | (k', d') :: ps, _, .cons r rr, e => by
    simp only [valD] at e
    cases h : decide (k' = k) with
    | true =>
      rw [h] at e
      cases e
      exact ⟨_, valV_pos (of_decide_eq_true h), r⟩
    | false =>
      rw [h] at e
      obtain ⟨v, h1, h2⟩ := valD_K rr e
      exact ⟨v, by rw [valV_neg (of_decide_eq_false h)]; exact h1, h2⟩
def dgetD : D → D → Option D
  | .dT ps, .tup .key ds => (keysOf ds).bind fun k => valD ps k
  | .dK ps, d => (keyOf d).bind fun k => valD ps k
  | _, _ => none
def rDG : R2 := fun x y H Q => ∃ a v, x = .ref a ∧ DGet H a y (some v) ∧ Q v H
theorem l_dget {K : PySem.W.Frag} : OpL T K rDG dgetD := by
  intro G F A S H x y dx dy z Q hw rx ry e q
  unfold dgetD at e
  split at e
  · rename_i ps ds
    cases h1 : keysOf ds with
    | none => rw [h1] at e; cases e
    | some k =>
      rw [h1, Option.bind_some] at e
      cases rx with
      | flat h => cases h
      | dT h2 r2 =>
        cases ry with
        | flat h => cases h
        | tup f3 h3 r3 =>
          obtain ⟨v, h4, h5⟩ := valD_T r2 e
          have h6 := hw.sub _ _ f3
          rw [keysOf_rep r3 h1] at h6
          exact ⟨_, v, rfl, .inr ⟨_, k, _, .of h2, rfl, h6, h4.symm⟩, q F H v (Evl.Ex.refl F) hw h5⟩
  · rename_i ps
    cases h1 : keyOf dy with
    | none => rw [h1] at e; cases e
    | some k =>
      rw [h1, Option.bind_some] at e
      cases rx with
      | flat h => cases h
      | dK h2 r2 =>
        obtain ⟨v, h4, h5⟩ := valD_K r2 e
        exact ⟨_, v, rfl, .inl ⟨_, k, .of h2, keyOf_rep ry h1, h4.symm⟩, q F H v (Evl.Ex.refl F) hw h5⟩
  · cases e
theorem je_dget (hu : X.A.units + 1 < cLine) (ha : JE T X Wx a fa) (hb : JE T X Wx b fb) (hs : NoSl b := by intro _ _; rfl) : JE T X Wx (.Subscript a b pos) (fBin dgetD fa fb) := by
  obtain ⟨ta, h1, s1⟩ := ha
  obtain ⟨tb, h2, s2⟩ := hb
  exact ⟨_, pe_dget hu h1 h2 hs, semE_op (r := rDG) s1 s2 l_dget⟩
/-- a new dict in a cell -/
def fDictT : FE := fun _ S => .ok (.loc S.length 0) (S ++ [.dT []])
structure JO (T : Tb) (X : Cx) (Wx : WX) (e : Option Expr) (f : Rho → Sto → R (Option Int)) : Prop where
  ex : ∃ t, PO X e t ∧ ∀ G F A S H σ ρ Q, Wd (T.g G) X.K F A S H → Sl X.K F A ρ σ → Post (T.g G) X.K (fun _ _ (x y : Option Int) => x = y) F A (f ρ S) Q (fun c d H' => Wx c d σ H') → t σ H Q
def fNo : Rho → Sto → R (Option Int) := fun _ S => .ok none S
def asI : W → Option Int
  | .dat (.int i) => some i
  | _ => none
def fYesI (f : FE) : Rho → Sto → R (Option Int) := fun ρ S => (f ρ S).bind fun w S1 => R.lift ((asI w).map some) S1
theorem jo_none : JO T X Wx none fNo := ⟨_, po_none, fun G F A S H σ ρ Q hw hs hp => hp F A H none (Evl.Ex.refl _) (Pre.refl _) hw rfl⟩
theorem jo_some (h : JE T X Wx a fa) : JO T X Wx (some a) (fYesI fa) := by
  obtain ⟨t, h1, s1⟩ := h
  refine ⟨_, po_some h1, fun G F A S H σ ρ Q hw hs hp => ?_⟩
  refine s1 G F A S H σ ρ _ hw hs (hp.bind fun w S1 F1 A1 H1 v1 e1 p1 w1 r1 hp1 => ?_)
  obtain ⟨o, h2, q⟩ := hp1.lift
  unfold asI at h2
  split at h2
  · cases h2
    cases r1
    exact ⟨_, rfl, q F1 A1 H1 _ (Evl.Ex.refl _) (Pre.refl _) w1 rfl⟩
  · cases h2
def cutL {α : Type} (xs : List α) (lo hi : Option Int) : List α := (xs.drop (HT.sIx xs.length 0 lo)).take (HT.sIx xs.length xs.length hi - HT.sIx xs.length 0 lo)
def whole (n : Nat) (lo hi : Option Int) : Bool := decide (HT.sIx n 0 lo = 0) && decide (HT.sIx n n hi = n)
def cutD (lo hi : Option Int) : D → Option D
  | .list xs => some (.list (cutL xs lo hi))
  | .tup f xs => some (match whole xs.length lo hi with
    | true => .tup f xs
    | false => .tup .nod (cutL xs lo hi))
  | .str z => ifO (decide (z.length ≤ lim)) (some (.str (cutS z lo hi)))
  | _ => none
theorem Reps.cut {K : PySem.W.Frag} {F : Hp} {ds : List D} {vs : List V} (r : Reps K F ds vs) (lo hi : Option Int) : Reps K F (cutL ds lo hi) (cutV vs lo hi) := by
  unfold cutL cutV
  rw [← r.length]
  exact (r.drop _).take _
theorem whole_iff {n : Nat} {lo hi : Option Int} : whole n lo hi = true ↔ HT.sIx n 0 lo = 0 ∧ HT.sIx n n hi = n := by
  unfold whole
  rw [Bool.and_eq_true_iff, decide_eq_true_iff, decide_eq_true_iff]
/-- t[lo:hi], the new tuple's object known -/
def rSlF (K : PySem.W.Frag) : V → Option Int → Option Int → Hp → VK → Prop := fun x lo hi H Q => ∃ a xs, x = .ref a ∧ SqT K H a xs ∧ (whole xs.length lo hi = true → Q (.ref a) H) ∧ (whole xs.length lo hi = false → NewT H (cutV xs lo hi) Q)
theorem sl_tupF {X : Cx} : SlR X (rSlF X.K) := by
  intro pins s σ H x v vl vu lo hi sl Q I rx hs pl pu h
  obtain ⟨a, xs, rfl, hx, q1, q2⟩ := h
  cases rx
  obtain ⟨its, r, ht, hz⟩ := I.tuple hx
  have hlen : its.toArray.size = xs.length := by
    rw [List.size_toArray]
    exact r.length.symm
  refine ⟨"tuple", _, PyProof.Rows.slot_tuple_getitem.lookup, ht.typeIs, ?_⟩
  cases hw : whole xs.length lo hi with
  | true => exact getItem_tuple_whole ht hs pl pu (by rw [hlen]; exact whole_iff.mp hw) ⟨.ref a, H, I, rfl, q1 hw⟩
  | false =>
    refine HT.getItem_tuple_cut ht hs pl pu (by rw [hlen]; intro z; rw [whole_iff.mpr z] at hw; cases hw) ?_ (by rw [hlen]; exact hz)
    rw [hlen]
    have r2 : Vals (cutV xs lo hi) ((its.toArray.toList.drop (HT.sIx xs.length 0 lo)).take (HT.sIx xs.length xs.length hi - HT.sIx xs.length 0 lo)) := (r.drop (HT.sIx xs.length 0 lo)).take (HT.sIx xs.length xs.length hi - HT.sIx xs.length 0 lo)
    exact ⟨.ref s.heap.objs.size, _, tup_new (t' := s.toks) I r2 (Nat.le_trans (cutV_length xs lo hi) hz), rfl, q2 hw _ _ (I.hok.fresh (Nat.le_refl _)) rfl⟩
def fSl (f : FE) (g h : Rho → Sto → R (Option Int)) : FE := fun ρ S => (f ρ S).bind fun w S1 => (g ρ S1).bind fun lo S2 => (h ρ S2).bind fun hi S3 => R.lift (((rd S3 w).bind (cutD lo hi)).map W.dat) S3
theorem je_slice {lo hi : Option Expr} {gl gh : Rho → Sto → R (Option Int)} {p2 : Pos} (ha : JE T X Wx a fa) (hl : JO T X Wx lo gl) (hh : JO T X Wx hi gh) : JE T X Wx (.Subscript a (.Slice lo hi none p2) pos) (fSl fa gl gh) := by
  obtain ⟨t, h1, s1⟩ := ha
  obtain ⟨tl, h2, s2⟩ := hl
  obtain ⟨th, h3, s3⟩ := hh
  refine ⟨_, pe_slice (SlR.or sl_list (SlR.or sl_tupF sl_str)) h1 h2 h3, fun G F A S H σ ρ Q hw hs hp => ?_⟩
  refine s1 G F A S H σ ρ _ hw hs (hp.bind fun w S1 F1 A1 H1 v1 e1 p1 w1 r1 hp1 => ?_)
  refine s2 G F1 A1 S1 H1 σ ρ _ w1 (hs.mono e1 p1) (hp1.bind fun olo S2 F2 A2 H2 v2 e2 p2 w2 r2 hp2 => ?_)
  cases r2
  refine s3 G F2 A2 S2 H2 σ ρ _ w2 ((hs.mono e1 p1).mono e2 p2) (hp2.bind fun ohi S3 F3 A3 H3 v3 e3 p3 w3 r3 hp3 => ?_)
  cases r3
  obtain ⟨w', h4, q⟩ := hp3.lift
  cases h5 : rd S3 w with
  | none => rw [h5] at h4; cases h4
  | some d =>
    have rr := rd_rep w3 (r1.mono (e2.trans e3) (p2.trans p3)) h5
    rw [h5, Option.bind_some] at h4
    cases d with
    | list xs =>
      cases h4
      cases rr with
      | flat z => cases z
      | lst h6 r6 => exact .inl ⟨_, _, rfl, .of h6, fun p hp => q _ A3 _ _ (w3.exNew hp _) (Pre.refl _) (w3.new hp _) (.lst upd_same ((r6.cut olo ohi).mono (w3.exNew hp _)))⟩
    | tup f xs =>
      cases rr with
      | flat z => cases z
      | tup h6 h7 r6 =>
        refine .inr (.inl ⟨_, _, rfl, h7, fun hwh => ?_, fun hwh => ?_⟩)
        · rw [← r6.length] at hwh
          simp only [cutD, hwh] at h4
          cases h4
          exact q F3 A3 H3 _ (Evl.Ex.refl _) (Pre.refl _) w3 (.tup h6 r6)
        · rw [← r6.length] at hwh
          simp only [cutD, hwh] at h4
          cases h4
          exact fin_newT (fun F' H' v e w r => q F' A3 H' v e (Pre.refl _) w r) w3 (r6.cut olo ohi)
    | str z =>
      simp only [cutD] at h4
      cases h6 : decide (z.length ≤ lim) with
      | false => rw [h6] at h4; cases h4
      | true =>
        rw [h6] at h4
        cases h4
        cases rr with
        | flat h7 =>
          cases h7
          exact .inr (.inr ⟨z, rfl, lim_le (of_decide_eq_true h6), q F3 A3 H3 _ (Evl.Ex.refl _) (Pre.refl _) w3 (.str _)⟩)
    | _ => cases h4

def flats : List D → Option (List V)
  | [] => some []
  | d :: ds => (flatD d).bind fun v => (flats ds).bind fun vs => some (v :: vs)
theorem flats_rep {K : PySem.W.Frag} {F : Hp} : ∀ {ds : List D} {vs us : List V}, Reps K F ds vs → flats ds = some us → vs = us
  | _, _, _, .nil, e => by
    cases e
    rfl
  | d :: ds, _, _, .cons r rr, e => by
    simp only [flats] at e
    cases h1 : flatD d with
    | none => rw [h1] at e; cases e
    | some v =>
      cases h2 : flats ds with
      | none => rw [h1, h2] at e; cases e
      | some vs =>
        rw [h1, h2] at e
        cases e
        rw [flats_rep rr h2, r.flat h1]
theorem flatD_flatV {d : D} {v : V} (h : flatD d = some v) : flatV v = true := by
  cases d with
  | none => cases h; rfl
  | bool _ => cases h; rfl
  | int _ => cases h; rfl
  | str _ => cases h; rfl
  | _ => cases h
theorem flats_all : ∀ {ds : List D} {us : List V}, flats ds = some us → us.all flatV = true
  | [], _, e => by
    cases e
    rfl
  | d :: ds, _, e => by
    simp only [flats] at e
    cases h1 : flatD d with
    | none => rw [h1] at e; cases e
    | some v =>
      cases h2 : flats ds with
      | none => rw [h1, h2] at e; cases e
      | some vs =>
        rw [h1, h2] at e
        cases e
        rw [List.all_cons, flatD_flatV h1, flats_all h2]
        rfl
def inF (x : D) (ys : List D) : Option Bool := (flatD x).bind fun v => (flats ys).bind fun vs => some (inV v vs)
def inD1 (neg : Bool) (x : D) (y : D) : Option D := match seqOf y with
  | some ys => (inF x ys).map fun b => .bool (xor neg b)
  | none => none
/-- among lists, tuples (of any data) -/
def inD2 (neg : Bool) (x : D) (y : D) : Option D := match y with
  | .list ys => ifO (shp x && SeqAt.shaped (D.list ys).py) (some (.bool (xor neg ((pyAll ys).any fun z => PyData.eqv z x.py))))
  | _ => none
def inD (neg : Bool) : D → D → Option D := orD (inD1 neg) (inD2 neg)
theorem l_in1 {K : PySem.W.Frag} (neg : Bool) : OpL T K (rIn K neg) (inD1 neg) := by
  intro G F A S H x y dx dy z Q hw rx ry e q
  unfold inD1 at e
  split at e
  · rename_i ys hy
    unfold inF at e
    cases h1 : flatD dx with
    | none => rw [h1] at e; cases e
    | some v =>
      cases h2 : flats ys with
      | none => rw [h1, h2] at e; cases e
      | some vs =>
        rw [h1, h2] at e
        cases e
        have hx := rx.flat_of h1
        subst hx
        have q' := q F H (.bl (xor neg (inV x vs))) (Evl.Ex.refl F) hw (.bl _)
        have q2 : Q (.bl (if neg = true then !inV x vs else inV x vs)) H := by
          cases neg with
          | true => simpa using q'
          | false => simpa using q'
        cases ry with
        | flat h =>
          cases dy with
          | list _ => cases h
          | tup _ _ => cases h
          | _ => cases hy
        | lst h3 r3 =>
          cases hy
          have := flats_rep r3 h2
          subst this
          exact ⟨_, _, rfl, .inl (.of h3), flatD_flatV h1, flats_all h2, q2⟩
        | tup f3 h3 r3 =>
          cases hy
          have := flats_rep r3 h2
          subst this
          exact ⟨_, _, rfl, .inr h3, flatD_flatV h1, flats_all h2, q2⟩
        | dT _ _ => cases hy
        | dK _ _ => cases hy
  · cases e
def rInDn (K : PySem.W.Frag) : Bool → R2
  | false => rInD K
  | true => rNotInD K
theorem l_in2 {K : PySem.W.Frag} (neg : Bool) : OpL T K (rInDn K neg) (inD2 neg) := by
  intro G F A S H x y dx dy z Q hw rx ry e q
  unfold inD2 at e
  split at e
  · rename_i ys
    obtain ⟨c, e⟩ := ifO_some e
    cases e
    obtain ⟨c1, c2⟩ := Bool.and_eq_true_iff.mp c
    have d1 := rx.dp hw.sub (plain_shaped c1)
    have d2 := ry.dp hw.sub (plain_shaped (d := .list ys) c2)
    have q' := q F H _ (Evl.Ex.refl F) hw (.bl _)
    cases neg with
    | false => exact ⟨dx.py, pyAll ys, d1, d2, c1, c2, by simpa using q'⟩
    | true => exact ⟨dx.py, pyAll ys, d1, d2, c1, c2, by simpa using q'⟩
  · cases e
theorem op_inX (hu : X.A.units + 65 < cLine) : OpR X (compareOp .In) (fun x y H Q => rIn X.K false x y H Q ∨ rInDn X.K false x y H Q) := OpR.or op_in_seq (op_inD hu)
theorem l_in {K : PySem.W.Frag} (neg : Bool) : OpL T K (fun x y H Q => rIn K neg x y H Q ∨ rInDn K neg x y H Q) (inD neg) := (l_in1 neg).or (l_in2 neg)
end
end Vz
namespace Vz
open PySem PySem.Spec PyProof.Rows L2
section
variable {T : Tb} {X : Cx} {Wx : WX} {a b e : Expr} {fa fb fe : FE} {pos : Pos}

theorem Wd.frz {K : PySem.W.Frag} {F H : Hp} {A : List (List Addr)} {S : Sto} {k : Nat} {p : Addr} {o : HO} {d : D} (hw : Wd T K F A S H) (h1 : A[k]? = some [p]) (h2 : H p = some o) (hF : F p = none)
    (hd : ∀ F', Ex F F' → F' p = some o → Rep K F' d (.ref p)) : Wd T K (upd F p o) A (S.set k (.frz d)) H := by
  have hA := mem_flat h1 (a := p) (by simp)
  have eF : Ex F (upd F p o) := Evl.Ex.new hF
  refine ⟨fun a u e => ?_, by rw [List.length_set]; exact hw.len, fun j as c g1 g2 => ?_, hw.nod, hw.there, hw.gh, hw.gd, fun a u e => ?_, ⟨hw.tb.tabs, fun q hq => by rw [upd_ne (hw.tb.n3 hq hA)]; exact hw.tb.f q hq, hw.tb.g, hw.tb.a, fun b ps z => by
    by_cases e : b = p
    · subst e
      rw [upd_same] at z
      exact hw.tb.na b hA ps (h2.trans z)
    · rw [upd_ne e] at z
      exact hw.tb.nf b ps z, hw.tb.ng, hw.tb.na⟩⟩
  · by_cases z : a = p
    · subst z
      rw [upd_same] at e
      rw [h2]
      exact e
    · rw [upd_ne z] at e
      exact hw.sub a u e
  · by_cases hj : k = j
    · subst hj
      rw [h1] at g1
      cases g1
      rw [List.getElem?_set_self (by
        have q := (List.getElem?_eq_some_iff.mp g2).1
        rwa [List.length_set] at q)] at g2
      cases g2
      exact ⟨p, [], rfl, hd _ eF upd_same⟩
    · rw [List.getElem?_set_ne hj] at g2
      refine (hw.ok j as c g1 g2).more eF (fun a ha e => ?_) (fun _ _ _ => rfl)
      rw [upd_ne]
      · exact e
      · rintro rfl
        exact hj (nodup_ix_flat hw.nod h1 g1 (by simp) ha)
  · by_cases z : a = p
    · subst z
      exact hw.gd a hA
    · rw [upd_ne z] at e
      exact hw.fg a u e
def fz (w : W) (S : Sto) : Option (W × Sto) := match w with
  | .loc k 0 => match S[k]? with
    | some (.lst xs) => some (.dat (.list xs), S.set k (.frz (.list xs)))
    | some (.frz d) => some (.dat d, S)
    | some (.dT ps) => some (.dat (.dT ps), S.set k (.frz (.dT ps)))
    | some (.dK ps) => some (.dat (.dK ps), S.set k (.frz (.dK ps)))
    | _ => none
  | .loc _ _ => none
  | w => some (w, S)
theorem fz_ok {K : PySem.W.Frag} {F H : Hp} {A : List (List Addr)} {S S' : Sto} {w w' : W} {v : V} (hw : Wd T K F A S H) (r : RepW K F A w v) (h : fz w S = some (w', S')) : ∃ F', Ex F F' ∧ Wd T K F' A S' H ∧ RepW K F' A w' v := by
  cases w with
  | dat d => cases h; exact ⟨F, Evl.Ex.refl _, hw, r⟩
  | scr ns => cases h; exact ⟨F, Evl.Ex.refl _, hw, r⟩
  | exn x => cases h; exact ⟨F, Evl.Ex.refl _, hw, r⟩
  | loc k j =>
    cases j with
    | succ j => cases h
    | zero =>
      obtain ⟨as, a, h1, h2, rfl⟩ := r
      unfold fz at h
      cases q : S[k]? with
      | none => simp only [q] at h; cases h
      | some c =>
        have ck := hw.ok k as c h1 q
        simp only [q] at h
        cases c with
        | lst xs =>
          cases h
          obtain ⟨p, vs, rfl, c1, c2, c3⟩ := ck
          cases Option.some.inj h2
          have ef : Ex F (upd F a (.lst vs)) := Evl.Ex.new c1
          exact ⟨_, ef, hw.frz h1 c2 c1 fun F' e g => .lst g (c3.mono e), .lst upd_same (c3.mono ef)⟩
        | frz d =>
          cases h
          obtain ⟨p, r, rfl, hr⟩ := ck
          cases Option.some.inj h2
          exact ⟨F, Evl.Ex.refl _, hw, hr⟩
        | dT ps =>
          cases h
          obtain ⟨p, vs, rfl, c1, c2, c3⟩ := ck
          cases Option.some.inj h2
          have ef : Ex F (upd F a (.dT vs)) := Evl.Ex.new c1
          exact ⟨_, ef, hw.frz h1 c2 c1 fun F' e g => .dT g (c3.mono e), .dT upd_same (c3.mono ef)⟩
        | dK ps =>
          cases h
          obtain ⟨p, vs, rfl, c1, c2, c3⟩ := ck
          cases Option.some.inj h2
          have ef : Ex F (upd F a (.dK vs)) := Evl.Ex.new c1
          exact ⟨_, ef, hw.frz h1 c2 c1 fun F' e g => .dK g (c3.mono e), .dK upd_same (c3.mono ef)⟩
        | ll _ => cases h
        | ins _ _ => cases h
def R.of {α : Type} (o : Option (α × Sto)) : R α := match o with
  | some (a, S) => .ok a S
  | none => .bad
def fFz (f : FE) : FE := fun ρ S => (f ρ S).bind fun w S1 => R.of (fz w S1)
/-- any expression: its list is written no more -/
theorem je_fz (h : JE T X Wx e fe) : JE T X Wx e (fFz fe) := by
  obtain ⟨t, h1, s1⟩ := h
  refine ⟨t, h1, fun G F A S H σ ρ Q hw hs hp => ?_⟩
  refine s1 G F A S H σ ρ _ hw hs (hp.bind fun w S1 F1 A1 H1 v e1 p1 w1 r1 hp1 => ?_)
  cases q : fz w S1 with
  | none => rw [q] at hp1; exact hp1.elim
  | some z =>
    obtain ⟨w', S'⟩ := z
    rw [q] at hp1
    obtain ⟨F', e', w2, r2⟩ := fz_ok w1 r1 q
    exact hp1 F' A1 H1 v e' (Pre.refl _) w2 r2

section
variable {K : PySem.W.Frag} {F : Hp}
theorem RepT.any {k : List Key} : ∀ {ps : List (List Key × D)} {ks : List (List Key × V)}, RepT K F ps ks → (ps.any fun p => decide (p.1 = k)) = ks.any fun p => decide (p.1 = k)
  | _, _, .nil => rfl
  | _, _, .cons _ r => by rw [List.any_cons, List.any_cons, RepT.any r]
theorem RepT.mapP {k : List Key} {d : D} {v : V} (h : Rep K F d v) : ∀ {ps : List (List Key × D)} {ks : List (List Key × V)}, RepT K F ps ks → RepT K F (ps.map fun p => if p.1 = k then (p.1, d) else p) (ks.map fun p => if p.1 = k then (p.1, v) else p)
  | _, _, .nil => .nil
  | _, _, .cons (k := k') g r => by
    rw [List.map_cons, List.map_cons]
    by_cases z : k' = k
    · simp only [z, if_true]
      exact .cons h (RepT.mapP h r)
    · simp only [z, if_false]
      exact .cons g (RepT.mapP h r)
theorem RepT.snoc {k : List Key} {d : D} {v : V} (h : Rep K F d v) : ∀ {ps : List (List Key × D)} {ks : List (List Key × V)}, RepT K F ps ks → RepT K F (ps ++ [(k, d)]) (ks ++ [(k, v)])
  | _, _, .nil => .cons h .nil
  | _, _, .cons g r => .cons g (RepT.snoc h r)
theorem RepT.length : ∀ {ps : List (List Key × D)} {ks : List (List Key × V)}, RepT K F ps ks → ps.length = ks.length
  | _, _, .nil => rfl
  | _, _, .cons _ r => congrArg Nat.succ (RepT.length r)
theorem RepT.put {k : List Key} {d : D} {v : V} (h : Rep K F d v) {ps : List (List Key × D)} {ks : List (List Key × V)} (r : RepT K F ps ks) : RepT K F (putD ps k d) (putK ks k v) := by
  unfold putD putK
  rw [r.any]
  cases (ks.any fun p => decide (p.1 = k)) with
  | true => exact r.mapP h
  | false => exact r.snoc h
theorem RepK.any {k : Key} : ∀ {ps : List (Key × D)} {ks : List (Key × V)}, RepK K F ps ks → (ps.any fun p => decide (p.1 = k)) = ks.any fun p => decide (p.1 = k)
  | _, _, .nil => rfl
  | _, _, .cons _ r => by rw [List.any_cons, List.any_cons, RepK.any r]
theorem RepK.mapP {k : Key} {d : D} {v : V} (h : Rep K F d v) : ∀ {ps : List (Key × D)} {ks : List (Key × V)}, RepK K F ps ks → RepK K F (ps.map fun p => if p.1 = k then (p.1, d) else p) (ks.map fun p => if p.1 = k then (p.1, v) else p)
  | _, _, .nil => .nil
  | _, _, .cons (k := k') g r => by
    rw [List.map_cons, List.map_cons]
    by_cases z : k' = k
    · simp only [z, if_true]
      exact .cons h (RepK.mapP h r)
    · simp only [z, if_false]
      exact .cons g (RepK.mapP h r)
theorem RepK.snoc {k : Key} {d : D} {v : V} (h : Rep K F d v) : ∀ {ps : List (Key × D)} {ks : List (Key × V)}, RepK K F ps ks → RepK K F (ps ++ [(k, d)]) (ks ++ [(k, v)])
  | _, _, .nil => .cons h .nil
  | _, _, .cons g r => .cons g (RepK.snoc h r)
theorem RepK.length : ∀ {ps : List (Key × D)} {ks : List (Key × V)}, RepK K F ps ks → ps.length = ks.length
  | _, _, .nil => rfl
  | _, _, .cons _ r => congrArg Nat.succ (RepK.length r)
theorem RepK.put {k : Key} {d : D} {v : V} (h : Rep K F d v) {ps : List (Key × D)} {ks : List (Key × V)} (r : RepK K F ps ks) : RepK K F (putD ps k d) (putK ks k v) := by
  unfold putD putK
  rw [r.any]
  cases (ks.any fun p => decide (p.1 = k)) with
  | true => exact r.mapP h
  | false => exact r.snoc h
end
/-- x[i] = d, x a list or a dict in a cell -/
def putC (c : C) (i : D) (d : D) : Option C := match c with
  | .lst xs => (match i with
    | .int i => (ixN xs.length i).map fun j => .lst (xs.set j d)
    | _ => none)
  | .dT ps => (match i with
    | .tup .key ks => (keysOf ks).bind fun k => ifO (decide (ps.length < lim)) (some (.dT (putD ps k d)))
    | _ => none)
  | .dK ps => (keyOf i).bind fun k => ifO (decide (ps.length < lim)) (some (.dK (putD ps k d)))
  | _ => none
def stB (o : W) (i : W) (w : W) (S : Sto) : Option Sto := match o with
  | .loc k 0 => (S[k]?).bind fun c => (rd S i).bind fun di => (frd S w).bind fun d => (putC c di d).map fun c' => S.set k c'
  | _ => none
theorem pset_or {t u : TSet} (h : PSet X t) (h' : PSet X u) : PSet X (fun o i v H Q => t o i v H Q ∨ u o i v H Q) := by
  intro pins s σ H o i v ov iv w Q I ro ri rv q
  rcases q with q | q
  · exact h pins s σ H o i v ov iv w Q I ro ri rv q
  · exact h' pins s σ H o i v ov iv w Q I ro ri rv q
theorem ob {α β : Type} {o : Option α} {f : α → Option β} {b : β} (h : o.bind f = some b) : ∃ a, o = some a ∧ f a = some b := by
  cases o with
  | none => cases h
  | some a => exact ⟨a, rfl, h⟩
theorem om {α β : Type} {o : Option α} {f : α → β} {b : β} (h : o.map f = some b) : ∃ a, o = some a ∧ b = f a := by
  cases o with
  | none => cases h
  | some a => cases h; exact ⟨a, rfl, rfl⟩
theorem st_ok {K : PySem.W.Frag} {F H : Hp} {A : List (List Addr)} {S S' : Sto} {o i w : W} {x y v : V} {Q : Hp → Prop} (hw : Wd T K F A S H) (rx : RepW K F A o x) (ry : RepW K F A i y) (rv : RepW K F A w v) (h : stB o i w S = some S')
    (q : ∀ H', Wd T K F A S' H' → Q H') : rSetL x y v H Q ∨ rSetD x y v H Q := by
  unfold stB at h
  split at h
  · rename_i k
    obtain ⟨c, h1, h⟩ := ob h
    obtain ⟨di, h2, h⟩ := ob h
    obtain ⟨d, h3, h⟩ := ob h
    obtain ⟨c', h4, rfl⟩ := om h
    obtain ⟨as, p, g1, g2, rfl⟩ := rx
    have ck := hw.ok k as c g1 h1
    have ri := rd_rep hw ry h2
    have rd' := frd_rep hw rv h3
    cases c with
    | lst xs =>
      obtain ⟨p', vs, rfl, c1, c2, c3⟩ := ck
      cases Option.some.inj g2
      simp only [putC] at h4
      split at h4
      · obtain ⟨j, h5, rfl⟩ := om h4
        have e := ri.flat_of rfl
        subst e
        exact .inl ⟨p, vs, _, j, rfl, rfl, c2, by rw [← c3.length]; exact h5, q _ (hw.write g1 (by simp) c1 ⟨p, vs.set j v, rfl, c1, upd_same, c3.set rd' j⟩ c2)⟩
      · cases h4
    | dT ps =>
      obtain ⟨p', ks, rfl, c1, c2, c3⟩ := ck
      cases Option.some.inj g2
      simp only [putC] at h4
      split at h4
      · rename_i kk
        obtain ⟨key, h5, h4⟩ := ob h4
        obtain ⟨c5, h4⟩ := ifO_some h4
        cases h4
        cases ri with
        | flat z => cases z
        | tup f6 h6 r6 =>
          have h7 := hw.sub _ _ f6
          rw [keysOf_rep r6 h5] at h7
          exact .inr ⟨p, _, rfl, .inr ⟨ks, key, _, c2, rfl, h7, by rw [← c3.length]; exact lim_lt (of_decide_eq_true c5), rfl⟩, q _ (hw.write g1 (by simp) c1 ⟨p, _, rfl, c1, upd_same, c3.put rd'⟩ c2)⟩
      · cases h4
    | dK ps =>
      obtain ⟨p', ks, rfl, c1, c2, c3⟩ := ck
      cases Option.some.inj g2
      simp only [putC] at h4
      obtain ⟨key, h5, h4⟩ := ob h4
      obtain ⟨c5, h4⟩ := ifO_some h4
      cases h4
      exact .inr ⟨p, _, rfl, .inl ⟨ks, key, c2, keyOf_rep ri h5, by rw [← c3.length]; exact lim_lt (of_decide_eq_true c5), rfl⟩, q _ (hw.write g1 (by simp) c1 ⟨p, _, rfl, c1, upd_same, c3.put rd'⟩ c2)⟩
    | _ => cases h4
  · cases h
def R.get {α : Type} : R α → Option (α × Sto)
  | .ok a S => some (a, S)
  | _ => none
theorem get_ok {α : Type} {r : R α} {p : α × Sto} (h : r.get = some p) : r = .ok p.1 p.2 := by
  cases r with
  | ok a S => cases h; rfl
  | _ => cases h
def oSub (fo fi : FE) : FG := fun w ρ S => (fo ρ S).get.bind fun p => (fi ρ p.2).get.bind fun q => (stB p.1 q.1 w q.2).map fun S' => (ρ, S')
/-- x[i] as a target -/
theorem jg_sub (hu : X.A.units + 1 < cLine) (ho : JE T X noW a fa) (hi : JE T X noW b fb)
    (hp : ∀ v, assign (.Subscript a b pos) X.env v = (do
      let ov ← holding [v] (eval a X.env)
      let iv ← holding [v, ov] (eval b X.env)
      standAt pos
      holding [v, ov, iv] (setItem ov iv v)
      release [v, ov, iv] []) := by intro _; rfl) : JG T X (.Subscript a b pos) (oSub fa fb) := by
  obtain ⟨ta, h1, s1⟩ := ho
  obtain ⟨tb, h2, s2⟩ := hi
  refine ⟨_, pg_sub h1 h2 (pset_or set_list (set_dict hu)) hp, fun G F A S H σ ρ w v Q hw hs r ⟨ρ', S', h3, q⟩ => ?_⟩
  obtain ⟨p1, g1, h3⟩ := ob h3
  obtain ⟨p2, g2, h3⟩ := ob h3
  obtain ⟨S3, g3, e3⟩ := om h3
  cases e3
  have g1 := get_ok g1
  have g2 := get_ok g2
  refine s1 G F A S H σ ρ _ hw hs ?_
  rw [g1]
  intro F1 A1 H1 o e1 p1' w1 r1
  refine s2 G F1 A1 p1.2 H1 σ ρ _ w1 (hs.mono e1 p1') ?_
  rw [g2]
  intro F2 A2 H2 i e2 p2' w2 r2
  exact st_ok w2 (r1.mono e2 p2') r2 (r.mono (e1.trans e2) (p1'.trans p2')) g3 fun H' w3 => q F2 A2 σ H' (e1.trans e2) (p1'.trans p2') w3 ((hs.mono e1 p1').mono e2 p2')

/-- what a method makes of values (r), of what they stand for (g) -/
def MethL (T : Tb) (K : PySem.W.Frag) (r : V → List V → Hp → VK → Prop) (g : W → List W → Sto → Option (W × Sto)) : Prop :=
  ∀ (G F : Hp) (A : List (List Addr)) (S : Sto) (H : Hp) (x : V) (xs : List V) (w : W) (ws : List W) (w' : W) (S' : Sto) (Q : VK), Wd (T.g G) K F A S H → RepW K F A w x → RepWs K F A ws xs → g w ws S = some (w', S') →
    (∀ F' H' v, Ex F F' → Wd (T.g G) K F' A S' H' → RepW K F' A w' v → Q v H') → r x xs H Q
/-- a list -/
def LstW (w : W) (S : Sto) : Bool := match rd S w with
  | some (.list _) => true
  | _ => false
theorem lstW_ty {K : PySem.W.Frag} {F H : Hp} {A : List (List Addr)} {S : Sto} {w : W} {v : V} (hw : Wd T K F A S H) (r : RepW K F A w v) (h : LstW w S = true) : tyV K "list" v H := by
  unfold LstW at h
  split at h
  · rename_i xs e
    have rr := rd_rep hw r e
    cases rr with
    | flat z => cases z
    | lst h1 r1 => exact .inl ⟨rfl, _, .of h1⟩
  · cases h
def fMeth (g : W → List W → Sto → Option (W × Sto)) (f : FE) (ga : FA) : FE := fun ρ S => (f ρ S).bind fun w S1 => match LstW w S1 with
  | true => (ga ρ S1).bind fun ws S2 => R.of (g w ws S2)
  | false => .bad
variable {es : List Expr} {ga : FA} {name : Str} {apos cpos : Pos} {id : String} {r : V → List V → Hp → VK → Prop} {g : W → List W → Sto → Option (W × Sto)}
theorem semE_meth {t : TE} {ta : TA} (s1 : SemE T X.K Wx t fe) (s2 : SemA T X.K Wx ta ga) (hl : MethL T X.K r g) : SemE T X.K Wx (tBM X.K "list" r t ta) (fMeth g fe ga) := by
  intro G F A S H σ ρ Q hw hs hp
  refine s1 G F A S H σ ρ _ hw hs (hp.bind fun w S1 F1 A1 H1 v1 e1 p1 w1 r1 hp1 => ?_)
  cases hL : LstW w S1 with
  | false => rw [hL] at hp1; exact hp1.elim
  | true =>
    rw [hL] at hp1
    refine ⟨lstW_ty w1 r1 hL, ?_⟩
    refine s2 G F1 A1 S1 H1 σ ρ _ w1 (hs.mono e1 p1) (hp1.bind fun ws S2 F2 A2 H2 v2 e2 p2 w2 r2 hp2 => ?_)
    cases q : g w ws S2 with
    | none => rw [q] at hp2; exact hp2.elim
    | some z =>
      obtain ⟨w', S'⟩ := z
      rw [q] at hp2
      exact hl G F2 A2 S2 H2 v1 v2 w ws w' S' Q w2 (r1.mono e2 p2) r2 q fun F' H' v e w r => hp2 F' A2 H' v e (Pre.refl _) w r
theorem je_meth (slot : Slot "list" name id) (hty : typeOf (.builtin id) = pure (.type "method_descriptor")) (hm : MtR X id r) (hl : MethL T X.K r g) (ho : JE T X Wx a fa) (ha : JA T X Wx (e :: es) ga)
    (hbase : attributeBase a name X.env (eval a X.env) = eval a X.env := by rfl)
    (hfew : ((backTo cpos (starEach (e :: es) X.env)).all (fun x => !x.1) && (backToKw cpos (keywordEach [] X.env)).all (fun x => x.1.isSome) && decide ((e :: es).length + ([] : List Keyword).length + (if ([] : List Keyword).isEmpty then 0 else 1) < 30)) = true := by rfl)
    (hline : (apos.endLine == cpos.line) = true := by rfl) (hs : starEach (e :: es) X.env = (false, eval e X.env) :: starEach es X.env := by rfl) (hplain : (backTo cpos (starEach es X.env)).any (·.1) = false := by rfl) :
    JE T X Wx (.Call (.Attribute a name apos) (e :: es) [] cpos) (fMeth g fa ga) := by
  obtain ⟨t, h1, s1⟩ := ho
  obtain ⟨u, h2, s2⟩ := ha
  exact ⟨_, pe_bm F.plainAttrs_list slot hty hm h1 h2 hbase hfew hline hs hplain, semE_meth s1 s2 hl⟩
def fMeth0 (g : W → List W → Sto → Option (W × Sto)) (f : FE) : FE := fun ρ S => (f ρ S).bind fun w S1 => match LstW w S1 with
  | true => R.of (g w [] S1)
  | false => .bad
/-- a list that a cell is -/
def lstC (S : Sto) : W → Option (Nat × List D)
  | .loc k 0 => match S[k]? with
    | some (.lst xs) => some (k, xs)
    | _ => none
  | _ => none
theorem lstC_rep {K : PySem.W.Frag} {F H : Hp} {A : List (List Addr)} {S : Sto} {w : W} {v : V} {k : Nat} {xs : List D} (hw : Wd T K F A S H) (r : RepW K F A w v) (h : lstC S w = some (k, xs)) :
    ∃ p vs, v = .ref p ∧ H p = some (.lst vs) ∧ Reps K F xs vs ∧ ∀ ys us, Reps K F ys us → Wd T K F A (S.set k (.lst ys)) (upd H p (.lst us)) := by
  unfold lstC at h
  split at h
  · split at h
    · rename_i k' xs' e
      cases h
      obtain ⟨as, p, g1, g2, rfl⟩ := r
      obtain ⟨p', vs, rfl, c1, c2, c3⟩ := hw.ok _ as _ g1 e
      cases Option.some.inj g2
      exact ⟨p, vs, rfl, c2, c3, fun ys us ru => hw.write g1 (by simp) c1 ⟨p, us, rfl, c1, upd_same, ru⟩ c2⟩
    · cases h
  · cases h
def mAppend : W → List W → Sto → Option (W × Sto) := fun w ws S => match ws with
  | [x] => (lstC S w).bind fun p => (frd S x).bind fun d => ifO (decide (p.2.length < lim)) (some (.dat .none, S.set p.1 (.lst (p.2 ++ [d]))))
  | _ => none
theorem m_append {K : PySem.W.Frag} : MethL T K rAppend mAppend := by
  intro G F A S H x xs w ws w' S' Q hw rx rs h q
  unfold mAppend at h
  split at h
  · obtain ⟨⟨k, ys⟩, h1, h⟩ := ob h
    obtain ⟨d, h2, h⟩ := ob h
    obtain ⟨c, h⟩ := ifO_some h
    cases h
    obtain ⟨p, vs, rfl, g1, g2, g3⟩ := lstC_rep hw rx h1
    cases rs with
    | cons r rr =>
      cases rr
      have rd' := frd_rep hw r h2
      exact ⟨p, vs, _, rfl, rfl, g1, by rw [← g2.length]; exact lim_lt (of_decide_eq_true c), q F _ _ (Evl.Ex.refl _) (g3 _ _ (g2.append (.cons rd' .nil))) .non⟩
  · cases h
def mExtend : W → List W → Sto → Option (W × Sto) := fun w ws S => match ws with
  | [x] => (lstC S w).bind fun p => match rd S x with
    | some (.list ds) => ifO (decide (p.2.length + ds.length ≤ lim)) (some (.dat .none, S.set p.1 (.lst (p.2 ++ ds))))
    | _ => none
  | _ => none
theorem m_extend {K : PySem.W.Frag} : MethL T K rExtend mExtend := by
  intro G F A S H x xs w ws w' S' Q hw rx rs h q
  unfold mExtend at h
  split at h
  · obtain ⟨⟨k, ys⟩, h1, h⟩ := ob h
    split at h
    · rename_i ds e
      obtain ⟨c, h⟩ := ifO_some h
      cases h
      obtain ⟨p, vs, rfl, g1, g2, g3⟩ := lstC_rep hw rx h1
      cases rs with
      | cons r rr =>
        cases rr
        have rd' := rd_rep hw r e
        cases rd' with
        | flat z => cases z
        | lst h4 r4 => exact ⟨p, _, vs, _, rfl, rfl, g1, h4, by rw [← g2.length, ← r4.length]; exact lim_le (of_decide_eq_true c), q F _ _ (Evl.Ex.refl _) (g3 _ _ (g2.append r4)) .non⟩
    · cases h
  · cases h
def mPopAt : W → List W → Sto → Option (W × Sto) := fun w ws S => match ws with
  | [x] => (lstC S w).bind fun p => match rd S x with
    | some (.int i) => ifO (decide (i.natAbs < 2 ^ 63)) ((seqIndex? i p.2.length).bind fun j => (p.2[j]?).map fun d => (.dat d, S.set p.1 (.lst (p.2.eraseIdx j))))
    | _ => none
  | _ => none
theorem m_popAt {K : PySem.W.Frag} : MethL T K rPopAt mPopAt := by
  intro G F A S H x xs w ws w' S' Q hw rx rs h q
  unfold mPopAt at h
  split at h
  · obtain ⟨⟨k, ys⟩, h1, h⟩ := ob h
    split at h
    · rename_i i e
      obtain ⟨c, h⟩ := ifO_some h
      have c1 := of_decide_eq_true c
      obtain ⟨j, h2, h⟩ := ob h
      obtain ⟨d, h3, h⟩ := om h
      cases h
      obtain ⟨p, vs, rfl, g1, g2, g3⟩ := lstC_rep hw rx h1
      cases rs with
      | cons r rr =>
        cases rr
        have rd' := rd_rep hw r e
        cases rd'.flat_of rfl
        obtain ⟨v, h4, h5⟩ := g2.get h3
        exact ⟨p, vs, _, j, v, rfl, rfl, g1, by omega, by omega, by rw [← g2.length]; exact h2, h4, q F _ _ (Evl.Ex.refl _) (g3 _ _ (g2.eraseIdx j)) h5⟩
    · cases h
  · cases h
def mInsert : W → List W → Sto → Option (W × Sto) := fun w ws S => match ws with
  | [y, x] => (lstC S w).bind fun p => (frd S x).bind fun d => match rd S y with
    | some (.int i) => ifO (decide (p.2.length < lim) && (decide (0 ≤ i) && decide (i.natAbs < 2 ^ 63))) (some (.dat .none, S.set p.1 (.lst (p.2.take i.toNat ++ [d] ++ p.2.drop i.toNat))))
    | _ => none
  | _ => none
def rInsert : V → List V → Hp → VK → Prop := fun x vs H Q => ∃ (l : Addr) (xs : List V) (i : Int) (y : V), x = .ref l ∧ vs = [.int i, y] ∧ H l = some (.lst xs) ∧ xs.length < sizeLine ∧ 0 ≤ i ∧ i < 2 ^ 63 ∧ Q .non (upd H l (.lst (xs.take i.toNat ++ [y] ++ xs.drop i.toNat)))
theorem m_insert {K : PySem.W.Frag} : MethL T K rInsert mInsert := by
  intro G F A S H x xs w ws w' S' Q hw rx rs h q
  unfold mInsert at h
  split at h
  · obtain ⟨⟨k, ys⟩, h1, h⟩ := ob h
    obtain ⟨d, h2, h⟩ := ob h
    split at h
    · rename_i i e
      obtain ⟨c, h⟩ := ifO_some h
      obtain ⟨c1, c⟩ := Bool.and_eq_true_iff.mp c
      obtain ⟨c2, c3⟩ := Bool.and_eq_true_iff.mp c
      cases h
      obtain ⟨p, vs, rfl, g1, g2, g3⟩ := lstC_rep hw rx h1
      cases rs with
      | cons r rr =>
        cases rr with
        | cons r' rr =>
          cases rr
          cases (rd_rep hw r e).flat_of rfl
          have rd' := frd_rep hw r' h2
          exact ⟨p, vs, i, _, rfl, rfl, g1, by rw [← g2.length]; exact lim_lt (of_decide_eq_true c1), of_decide_eq_true c2, by have c3 := of_decide_eq_true c3; have c2 := of_decide_eq_true c2; omega, q F _ _ (Evl.Ex.refl _) (g3 _ _ (((g2.take _).append (.cons rd' .nil)).append (g2.drop _))) .non⟩
    · cases h
  · cases h
theorem je_append (ho : JE T X Wx a fa) (ha : JA T X Wx [e] ga) (hbase : attributeBase a "append" X.env (eval a X.env) = eval a X.env := by rfl)
    (hline : (apos.endLine == cpos.line) = true := by rfl) (hs : starEach [e] X.env = (false, eval e X.env) :: starEach [] X.env := by rfl)
    (hfew : ((backTo cpos (starEach [e] X.env)).all (fun x => !x.1) && (backToKw cpos (keywordEach [] X.env)).all (fun x => x.1.isSome) && decide ([e].length + ([] : List Keyword).length + (if ([] : List Keyword).isEmpty then 0 else 1) < 30)) = true := by rfl) :
    JE T X Wx (.Call (.Attribute a "append" apos) [e] [] cpos) (fMeth mAppend fa ga) := je_meth F.slot_list_append F.type_list_append mt_append m_append ho ha hbase hfew hline hs rfl
end
end Vz
namespace Vz
open PySem PySem.Spec PyProof.Rows L2
section
variable {T : Tb} {X : Cx} {Wx : WX} {a b e : Expr} {fa fb fe : FE} {pos : Pos} {es : List Expr} {ga : FA}

def tyN (K : PySem.W.Frag) (x : V) (H : Hp) : Prop := ∃ p, x = .ref p ∧ ((∃ o vs, H p = some (.frz o (.tup vs)) ∧ o.dict = none) ∨ ∃ o, K.lookup p = some o ∧ o.cls = .type "tuple" ∧ o.dict = none)
theorem tyN_is {pins : List (Addr × Obj)} {σ : L2.St} {H : Hp} {s : Shared} {x : V} {v : Value} (I : Inv X pins σ H s) (r : RelV x v) (ty : tyN X.K x H) : s.TypeIs v "tuple" ∧ ∀ a, v = .ref a → ∃ ob, s.heap.get? a = some ob ∧ ob.dict = none := by
  obtain ⟨p, rfl, h⟩ := ty
  cases r
  rcases h with ⟨o, vs, h1, h2⟩ | ⟨o, h1, h2, h3⟩
  · obtain ⟨g1, _, its, _, ⟨o', g2, g3, _⟩⟩ := (show ObjOk X.prog X.w H s.heap p (.frz o (.tup vs)) from I.hok p _ h1)
    rw [g1] at g2
    cases g2
    exact ⟨⟨o, g1, g3⟩, fun a e => by cases e; exact ⟨o, g1, h2⟩⟩
  · have g1 := I.kIn p o h1
    exact ⟨⟨o, g1, h2⟩, fun a e => by cases e; exact ⟨o, g1, h3⟩⟩
def tySq (K : PySem.W.Frag) (b : Bool) (x : V) (H : Hp) : Prop := match b with
  | false => tyV K "list" x H
  | true => tyN K x H
def sqTy : Bool → String
  | false => "list"
  | true => "tuple"
theorem tySq_is {pins : List (Addr × Obj)} {σ : L2.St} {H : Hp} {s : Shared} {x : V} {v : Value} (I : Inv X pins σ H s) (r : RelV x v) : ∀ {b : Bool}, tySq X.K b x H → s.TypeIs v (sqTy b) ∧ ∀ a, v = .ref a → ∃ ob, s.heap.get? a = some ob ∧ ob.dict = none
  | false, ty => tyV_is I r ty
  | true, ty => tyN_is I r ty
def tBS (K : PySem.W.Frag) (r : Bool → V → List V → Hp → VK → Prop) (to : TE) (t : TA) : TE := fun σ H Q => to σ H fun x H1 => ∃ b, tySq K b x H1 ∧ t σ H1 fun xs H2 => r b x xs H2 Q
theorem plainSq : ∀ b : Bool, PlainAttrs (sqTy b)
  | false => F.plainAttrs_list
  | true => F.plainAttrs_tuple
theorem pe_bS {o : Expr} {to : TE} {t : TA} {name : Str} {apos cpos : Pos} {id : Bool → String} {r : Bool → V → List V → Hp → VK → Prop} (slot : ∀ b, Slot (sqTy b) name (id b)) (hty : ∀ b, typeOf (.builtin (id b)) = pure (.type "method_descriptor")) (hm : ∀ b, MtR X (id b) (r b)) (ho : PE X o to) (ha : PA X (e :: es) t)
    (hbase : attributeBase o name X.env (eval o X.env) = eval o X.env)
    (hfew : ((backTo cpos (starEach (e :: es) X.env)).all (fun x => !x.1) && (backToKw cpos (keywordEach [] X.env)).all (fun x => x.1.isSome) && decide ((e :: es).length + ([] : List Keyword).length + (if ([] : List Keyword).isEmpty then 0 else 1) < 30)) = true)
    (hline : (apos.endLine == cpos.line) = true) (hs : starEach (e :: es) X.env = (false, eval e X.env) :: starEach es X.env) (hplain : (backTo cpos (starEach es X.env)).any (·.1) = false) :
    PE X (.Call (.Attribute o name apos) (e :: es) [] cpos) (tBS X.K r to t) := by
  refine ⟨fun pins s σ H Q I h => wpAny_Call_method_late hbase hfew hline rfl (thn (ho.run pins s σ H _ I h) fun v s1 ⟨x, H1, I1, r1, b, ty, q1⟩ => ?_)⟩
  obtain ⟨h1, h2⟩ := tySq_is I1 r1 ty
  refine ⟨sqTy b, id b, plainSq b, slot b, hty b, h1, h2, ?_⟩
  have hA := ha.run cpos pins s1 σ H1 _ I1 q1
  rw [hs] at hA ⊢
  refine Calls.callWith_builtin (by show (false || (backTo cpos (starEach es X.env)).any (·.1)) = false; rw [hplain] <;> rfl) (Calls.evalArgs_plain (thn hA fun us s2 ⟨vs, H2, I2, r2, q2⟩ => ?_))
  exact hm b pins s2 σ H2 x vs v us Q I2 r1 r2 q2
def rIxTup (K : PySem.W.Frag) : V → List V → Hp → VK → Prop := fun x xs H Q => ∃ (a : Addr) (ns : List Int) (k : Int), x = .ref a ∧ xs = [.int k] ∧ SqT K H a (ns.map V.int) ∧ k ∈ ns ∧ Q (.int (ns.idxOf k : Nat)) H
theorem mt_ixTup : MtR X "tuple.index" (rIxTup X.K) := by
  intro pins s σ H x xs v us Q I rx rs h
  obtain ⟨a, ns, k, rfl, rfl, hq, hk, q⟩ := h
  cases rx
  obtain ⟨u, rfl, t, rfl⟩ := vals1 rs
  obtain ⟨its, r, pl, hz⟩ := I.tuple hq
  exact PySem.SeqAt.tuple_index_ints (show s.heap.IsTuple a its.toArray from pl) r.ints hk ⟨.int _, H, I.tok _, ⟨_, rfl⟩, q⟩
def rIxSq (K : PySem.W.Frag) : Bool → V → List V → Hp → VK → Prop
  | false => rIndex K
  | true => rIxTup K
def idIx : Bool → String
  | false => "list.index"
  | true => "tuple.index"
theorem mt_ixSq : ∀ b, MtR X (idIx b) (rIxSq X.K b)
  | false => mt_index
  | true => mt_ixTup
def findV (y : V) : List V → Option Nat
  | [] => none
  | z :: zs => match eqV z y with
    | true => some 0
    | false => (findV y zs).map (· + 1)
theorem findV_ok {y : V} : ∀ {zs : List V} {j : Nat}, findV y zs = some j → (∃ z, zs[j]? = some z ∧ eqV z y = true) ∧ ∀ (m : Nat) (z' : V), m < j → zs[m]? = some z' → eqV z' y = false
  | [], _, h => by cases h
  | z :: zs, j, h => by
    unfold findV at h
    cases q : eqV z y with
    | true =>
      rw [q] at h
      cases h
      exact ⟨⟨z, rfl, q⟩, fun m z' hm => absurd hm (Nat.not_lt_zero _)⟩
    | false =>
      rw [q] at h
      obtain ⟨j', h1, rfl⟩ := om h
      obtain ⟨⟨z1, h2, h3⟩, h4⟩ := findV_ok h1
      refine ⟨⟨z1, by simpa using h2, h3⟩, fun m z' hm hz => ?_⟩
      cases m with
      | zero =>
        simp at hz
        subst hz
        exact q
      | succ m => exact h4 m z' (by omega) (by simpa using hz)
def intsOf : List D → Option (List Int)
  | [] => some []
  | .int i :: ds => (intsOf ds).bind fun r => some (i :: r)
  | _ => none
theorem intsOf_rep {K : PySem.W.Frag} {F : Hp} : ∀ {ds : List D} {vs : List V} {ns : List Int}, Reps K F ds vs → intsOf ds = some ns → vs = ns.map V.int
  | _, _, _, .nil, e => by
    cases e
    rfl
  | d :: ds, _, ns, .cons r rr, e => by
    cases d with
    | int i =>
      simp only [intsOf] at e
      obtain ⟨ms, h1, h2⟩ := ob e
      cases h2
      rw [intsOf_rep rr h1, r.flat rfl]
      rfl
    | _ => cases e
def findI (k : Int) : List Int → Option Nat
  | [] => none
  | z :: zs => match decide (z = k) with
    | true => some 0
    | false => (findI k zs).map (· + 1)
theorem findI_ok {k : Int} : ∀ {zs : List Int} {j : Nat}, findI k zs = some j → k ∈ zs ∧ zs.idxOf k = j
  | [], _, h => by cases h
  | z :: zs, j, h => by
    unfold findI at h
    cases q : decide (z = k) with
    | true =>
      rw [q] at h
      cases h
      have := of_decide_eq_true q
      subst this
      exact ⟨by simp, by simp⟩
    | false =>
      rw [q] at h
      obtain ⟨j', h1, rfl⟩ := om h
      obtain ⟨h2, h3⟩ := findI_ok h1
      have hz := of_decide_eq_false q
      refine ⟨List.mem_cons_of_mem _ h2, ?_⟩
      rw [List.idxOf_cons, h3]
      have : (z == k) = false := by simpa using hz
      rw [this]
      rfl
def ixOf (b : Bool) (w d : D) : Option Nat := match b, w with
  | false, .list ds => (flats ds).bind fun vs => (flatD d).bind fun v => findV v vs
  | true, .tup .nod ds => (intsOf ds).bind fun ns => match d with
    | .int k => findI k ns
    | _ => none
  | _, _ => none
def sqB : D → Option Bool
  | .list _ => some false
  | .tup .nod _ => some true
  | _ => none
def fIndex (f : FE) (ga : FA) : FE := fun ρ S => (f ρ S).bind fun w S1 => match (rd S1 w).bind sqB with
  | some b => (ga ρ S1).bind fun ws S2 => R.lift (((rd S2 w).bind fun c => (rds S2 ws).bind (one fun d => ixOf b c d)).map fun j => .dat (.int (j : Nat))) S2
  | none => .bad
theorem tySq_of {K : PySem.W.Frag} {F H : Hp} {d : D} {v : V} {b : Bool} (e : Ex F H) (r : RepU K F H d v) (h : sqB d = some b) : tySq K b v H := by
  cases r with
  | flat z => cases d <;> first | (cases h; done) | (cases z; done)
  | lst h1 r1 => cases h; exact .inl ⟨rfl, _, .of h1⟩
  | tup f1 h1 r1 =>
    rename_i fl _ _ _
    cases fl with
    | nod =>
      cases h
      rcases f1 with ⟨o, g1, g2⟩ | ⟨o, its, n, g1, g2, g3, _⟩
      · exact ⟨_, rfl, .inl ⟨o, _, e _ _ g1, g2⟩⟩
      · exact ⟨_, rfl, .inr ⟨o, g1, g2, g3⟩⟩
    | _ => cases h
  | dT _ _ => cases h
  | dK _ _ => cases h
theorem je_index {apos cpos : Pos} (ho : JE T X Wx a fa) (ha : JA T X Wx [e] ga) (hbase : attributeBase a "index" X.env (eval a X.env) = eval a X.env := by rfl)
    (hfew : ((backTo cpos (starEach [e] X.env)).all (fun x => !x.1) && (backToKw cpos (keywordEach [] X.env)).all (fun x => x.1.isSome) && decide ([e].length + ([] : List Keyword).length + (if ([] : List Keyword).isEmpty then 0 else 1) < 30)) = true := by rfl)
    (hline : (apos.endLine == cpos.line) = true := by rfl) (hs : starEach [e] X.env = (false, eval e X.env) :: starEach [] X.env := by rfl) :
    JE T X Wx (.Call (.Attribute a "index" apos) [e] [] cpos) (fIndex fa ga) := by
  obtain ⟨t, h1, s1⟩ := ho
  obtain ⟨u, h2, s2⟩ := ha
  refine ⟨_, pe_bS (id := idIx) (r := rIxSq X.K) (fun b => by cases b; exact F.slot_list_index; exact F.slot_tuple_index) (fun b => by cases b; exact F.type_list_index; exact F.type_tuple_index) mt_ixSq h1 h2 hbase hfew hline hs rfl, fun G F A S H σ ρ Q hw hs hp => ?_⟩
  refine s1 G F A S H σ ρ _ hw hs (hp.bind fun w S1 F1 A1 H1 v1 e1 p1 w1 r1 hp1 => ?_)
  cases hb : (rd S1 w).bind sqB with
  | none => rw [hb] at hp1; exact hp1.elim
  | some b =>
    rw [hb] at hp1
    obtain ⟨d1, hd1, hb⟩ := ob hb
    refine ⟨b, tySq_of w1.sub (rd_rep w1 r1 hd1) hb, ?_⟩
    refine s2 G F1 A1 S1 H1 σ ρ _ w1 (hs.mono e1 p1) (hp1.bind fun ws S2 F2 A2 H2 v2 e2 p2 w2 r2 hp2 => ?_)
    obtain ⟨w', h3, q⟩ := hp2.lift
    obtain ⟨j, i3, rfl⟩ := om h3
    obtain ⟨c, h4, i4⟩ := ob i3
    obtain ⟨ds, h5, i5⟩ := ob i4
    obtain ⟨d, i6, h6⟩ := one_some i5
    subst i6
    have q' := q F2 A2 H2 (.int (j : Nat)) (Evl.Ex.refl _) (Pre.refl _) w2 (.int _)
    have rc := rd_rep w2 (r1.mono e2 p2) h4
    have ra := rds_rep w2 r2 h5
    cases ra with
    | cons ra rr =>
    cases rr
    unfold ixOf at h6
    split at h6
    · rename_i cs
      obtain ⟨vs, h7, h6⟩ := ob h6
      obtain ⟨v, h8, h6⟩ := ob h6
      obtain ⟨⟨z, g1, g2⟩, g3⟩ := findV_ok h6
      cases rc with
      | flat z => cases z
      | lst h9 r9 =>
        have := flats_rep r9 h7
        subst this
        have := ra.flat_of h8
        subst this
        exact ⟨_, _, _, j, z, rfl, rfl, .of h9, flatD_flatV h8, flats_all h7, g1, g2, g3, q'⟩
    · rename_i cs
      obtain ⟨ns, h7, h6⟩ := ob h6
      split at h6
      · obtain ⟨g1, g2⟩ := findI_ok h6
        cases rc with
        | flat z => cases z
        | tup f9 h9 r9 =>
          have := intsOf_rep r9 h7
          subst this
          cases ra.flat_of rfl
          exact ⟨_, ns, _, rfl, rfl, h9, g1, by rw [g2]; exact q'⟩
      · cases h6
    · cases h6
end
end Vz
namespace Vz
open PySem PySem.Spec PyProof.Rows L2
section
variable {T : Tb} {X : Cx} {Wx : WX} {a b e : Expr} {fa fb fe : FE} {pos p : Pos} {es : List Expr} {ga : FA}
theorem RepU.seq {K : PySem.W.Frag} {F H : Hp} {d : D} {v : V} {ds : List D} (r : RepU K F H d v) (h : seqOf d = some ds) : ∃ p vs, v = .ref p ∧ Reps K F ds vs ∧ (SqL K H p vs ∨ SqT K H p vs) := by
  cases r with
  | flat z => cases d <;> first | (cases h; done) | (cases z; done)
  | lst h1 r1 => cases h; exact ⟨_, _, rfl, r1, .inl (.of h1)⟩
  | tup f1 h1 r1 => cases h; exact ⟨_, _, rfl, r1, .inr h1⟩
  | dT _ _ => cases h
  | dK _ _ => cases h
theorem semL_call {K : PySem.W.Frag} {t : TA} {r : List V → Hp → VK → Prop} {g : List D → Option (List D)} (h : SemA T K Wx t ga) (hr : CallLL T K r g) :
    ∀ G F A S H σ ρ Q, Wd (T.g G) K F A S H → Sl K F A ρ σ → PostL (T.g G) K F A (lCall g ga ρ S) Q (fun c d H' => Wx c d σ H') → tCB r t σ H Q := by
  intro G F A S H σ ρ Q hw hs hp
  refine h G F A S H σ ρ _ hw hs (hp.bind fun ws S1 F1 A1 H1 v1 e1 p1 w1 r1 hp1 => ?_)
  cases h0 : (rds S1 ws).bind g with
  | none => rw [h0] at hp1; exact hp1.elim
  | some z =>
    rw [h0] at hp1
    obtain ⟨ds, h2, h3⟩ := ob h0
    exact hr G F1 A1 S1 H1 v1 ds z Q w1 (rds_rep w1 r1 h2) h3 fun H' p us w' g1 g2 g3 g4 g5 => hp1 F1 A1 H' p us (Evl.Ex.refl _) (Pre.refl _) w' g1 g2 g3 g4 g5
/-- list(x) -/
def listD : List D → Option (List D) := one seqOf
def rListOf (K : PySem.W.Frag) : List V → Hp → VK → Prop := fun xs H Q => ∃ p ys, xs = [.ref p] ∧ (SqL K H p ys ∨ SqT K H p ys) ∧ ∀ l, H l = none → Q (.ref l) (upd H l (.lst ys))
theorem l_list {K : PySem.W.Frag} : CallLL T K (rListOf K) listD := by
  intro G F A S H vs ds z Q hw rs h q
  obtain ⟨d, rfl, h⟩ := one_some h
  cases rs with
  | cons r rr =>
  cases rr
  obtain ⟨p, us, rfl, h3, h4⟩ := r.seq h
  exact ⟨p, us, rfl, h4, fun l hl => q _ l _ (hw.junk hl _) upd_same (hw.freshF hl) (Evl.fresh_back hw.gh hl) (fun m => by have := hw.there l m; rw [hl] at this; cases this) h3⟩
theorem jl_list (hm : X.mg "list" = none) (ha : JA T X Wx [e] ga) (hg : Gl X "list" := by rfl) (he : starEach [e] X.env = (false, eval e X.env) :: starEach [] X.env := by rfl) : JL T X Wx (.Call (.Name "list" p) [e] [] pos) (lCall listD ga) := by
  obtain ⟨t1, h1, s1⟩ := ha
  exact ⟨_, pe_callTy call_list_of hg hm boot_list h1 (by decide) (by decide) he rfl, semL_call s1 l_list⟩
/-- tuple(x) -/
def tupleD : List D → Option D := one fun d => match d with
  | .list xs => some (.tup .nod xs)
  | .tup f xs => some (.tup f xs)
  | _ => none
def rTupOf (K : PySem.W.Frag) : List V → Hp → VK → Prop := fun xs H Q => ∃ p ys, xs = [.ref p] ∧ ((SqL K H p ys ∧ NewT H ys Q) ∨ (SqT K H p ys ∧ Q (.ref p) H))
theorem cr_tupOf : CallR X (.type "tuple") (rTupOf X.K) := by
  intro pins s σ H xs us Q I r h
  obtain ⟨p, ys, rfl, h⟩ := h
  rw [Vals.ref1 r]
  rcases h with ⟨hs, q⟩ | ⟨hs, q⟩
  · obtain ⟨its, rv, pl, hz⟩ := I.list hs
    refine call_tuple_list pl.isList (fun h' hk => ?_) (by rw [List.size_toArray, ← rv.length]; exact hz)
    have I1 : Inv X pins σ H { s with heap := h' } := I.kept (t' := s.toks) hk
    exact ⟨.ref h'.objs.size, _, tup_new (t' := s.toks) I1 rv hz, rfl, q _ _ (I1.hok.fresh (Nat.le_refl _)) rfl⟩
  · obtain ⟨its, rv, pl, hz⟩ := I.tuple hs
    exact call_tuple_tup pl ⟨.ref p, H, I, rfl, q⟩
theorem l_tuple {K : PySem.W.Frag} : CallL T K (rTupOf K) tupleD := by
  intro G F A S H vs ds z Q hw rs h q
  obtain ⟨d, hd, h0⟩ := one_some h
  subst hd
  clear h
  cases rs with
  | cons r rr =>
  cases rr
  have h := h0
  clear h0
  split at h
  · cases h
    cases r with
    | flat z => cases z
    | lst h1 r1 => exact ⟨_, _, rfl, .inl ⟨.of h1, fin_newT q hw r1⟩⟩
  · cases h
    cases r with
    | flat z => cases z
    | tup f1 h1 r1 => exact ⟨_, _, rfl, .inr ⟨h1, q F H _ (Evl.Ex.refl _) hw (.tup f1 r1)⟩⟩
  · cases h
theorem je_tuple (hm : X.mg "tuple" = none) (ha : JA T X Wx [e] ga) (hg : Gl X "tuple" := by rfl) (he : starEach [e] X.env = (false, eval e X.env) :: starEach [] X.env := by rfl) : JE T X Wx (.Call (.Name "tuple" p) [e] [] pos) (fCall tupleD ga) :=
  je_callTy cr_tupOf l_tuple hg hm boot_tuple ha (by decide) (by decide) he rfl
/-- len(x) -/
def lenD : List D → Option D := one fun d => match d with
  | .str z => ifO (decide (z.length ≤ lim)) (some (.int (z.length : Nat)))
  | .list xs => some (.int (xs.length : Nat))
  | .tup _ xs => some (.int (xs.length : Nat))
  | _ => none
theorem l_len {K : PySem.W.Frag} : CallL T K (fun xs H Q => ∃ x n, xs = [x] ∧ LenV K x H n ∧ Q (.int n) H) lenD := by
  intro G F A S H vs ds z Q hw rs h q
  obtain ⟨d, hd, h0⟩ := one_some h
  subst hd
  clear h
  cases rs with
  | cons r rr =>
  cases rr
  have h := h0
  clear h0
  split at h
  · rename_i s
    obtain ⟨c, h⟩ := ifO_some h
    cases h
    cases r.flat_of rfl
    exact ⟨_, _, rfl, ⟨lim_le (of_decide_eq_true c), rfl⟩, q F H _ (Evl.Ex.refl _) hw (.int _)⟩
  · cases h
    cases r with
    | flat z => cases z
    | lst h1 r1 => exact ⟨_, _, rfl, .inl ⟨_, .of h1, rfl⟩, q F H _ (Evl.Ex.refl _) hw (by rw [r1.length]; exact .int _)⟩
  · cases h
    cases r with
    | flat z => cases z
    | tup f1 h1 r1 => exact ⟨_, _, rfl, .inr ⟨_, h1, rfl⟩, q F H _ (Evl.Ex.refl _) hw (by rw [r1.length]; exact .int _)⟩
  · cases h
theorem je_len (hm : X.mg "len" = none) (ha : JA T X Wx [e] ga) (hg : Gl X "len" := by rfl) (he : starEach [e] X.env = (false, eval e X.env) :: starEach [] X.env := by rfl) : JE T X Wx (.Call (.Name "len" p) [e] [] pos) (fCall lenD ga) :=
  je_callB call_len l_len hg hm boot_len ha (by decide) (by decide) he rfl
/-- sum, all, any -/
def boolsOf : List D → Option (List Bool)
  | [] => some []
  | .bool i :: ds => (boolsOf ds).bind fun r => some (i :: r)
  | _ => none
theorem boolsOf_rep {K : PySem.W.Frag} {F : Hp} : ∀ {ds : List D} {vs : List V} {ns : List Bool}, Reps K F ds vs → boolsOf ds = some ns → vs = ns.map V.bl
  | _, _, _, .nil, e => by
    cases e
    rfl
  | d :: ds, _, ns, .cons r rr, e => by
    cases d with
    | bool i =>
      simp only [boolsOf] at e
      obtain ⟨ms, h1, h2⟩ := ob e
      cases h2
      rw [boolsOf_rep rr h1, r.flat rfl]
      rfl
    | _ => cases e
def onL {α : Type} (g : List D → Option α) : D → Option α
  | .list xs => g xs
  | _ => none
theorem onL_rep {α : Type} {K : PySem.W.Frag} {F H : Hp} {g : List D → Option α} {d : D} {v : V} {z : α} (r : RepU K F H d v) (h : onL g d = some z) : ∃ p xs vs, v = .ref p ∧ SqL K H p vs ∧ Reps K F xs vs ∧ g xs = some z := by
  unfold onL at h
  split at h
  · cases r with
    | flat z => cases z
    | lst h1 r1 => exact ⟨_, _, _, rfl, .of h1, r1, h⟩
  · cases h
def allD : List D → Option D := one (onL fun xs => (boolsOf xs).map fun ns => .bool (ns.all id))
theorem l_all {K : PySem.W.Frag} : CallL T K (rAll K) allD := by
  intro G F A S H vs ds z Q hw rs h q
  obtain ⟨d, rfl, h⟩ := one_some h
  cases rs with
  | cons r rr =>
  cases rr
  obtain ⟨p, xs, us, rfl, h1, h2, h3⟩ := onL_rep r h
  obtain ⟨ns, h4, rfl⟩ := om h3
  have := boolsOf_rep h2 h4
  subst this
  exact ⟨p, ns, rfl, h1, q F H _ (Evl.Ex.refl _) hw (.bl _)⟩
theorem je_all (hc : X.calm = true) (hm : X.mg "all" = none) (ha : JA T X Wx [e] ga) (hg : Gl X "all" := by rfl) (he : starEach [e] X.env = (false, eval e X.env) :: starEach [] X.env := by rfl) : JE T X Wx (.Call (.Name "all" p) [e] [] pos) (fCall allD ga) :=
  je_callB (cr_all hc) l_all hg hm boot_all ha (by decide) (by decide) he rfl
def ne1 {α : Type} (f : α → List α → D) : List α → Option D
  | [] => none
  | x :: xs => some (f x xs)
/-- max(i, j), min(i, j), abs, int -/
def max2 : List D → Option D
  | [.int i, .int j] => some (.int (if j > i then j else i))
  | _ => none
def min2 : List D → Option D
  | [.int i, .int j] => some (.int (if j < i then j else i))
  | _ => none
def absD : List D → Option D
  | [.int i] => some (.int (if i < 0 then -i else i))
  | _ => none
def intD : List D → Option D
  | [.int i] => some (.int i)
  | [.bool b] => some (.int (if b then 1 else 0))
  | _ => none
theorem RepUs.one {K : PySem.W.Frag} {F H : Hp} {d : D} {vs : List V} {v : V} (r : RepUs K F H [d] vs) (e : flatD d = some v) : vs = [v] := by
  cases r with
  | cons r rr =>
    cases rr
    rw [r.flat_of e]
theorem RepUs.two {K : PySem.W.Frag} {F H : Hp} {d d2 : D} {vs : List V} {v v2 : V} (r : RepUs K F H [d, d2] vs) (e : flatD d = some v) (e2 : flatD d2 = some v2) : vs = [v, v2] := by
  cases r with
  | cons r rr =>
    rw [RepUs.one rr e2, r.flat_of e]
theorem l_max2 {K : PySem.W.Frag} : CallL T K (fun xs H Q => ∃ i j, xs = [.int i, .int j] ∧ Q (.int (if j > i then j else i)) H) max2 := by
  intro G F A S H vs ds z Q hw rs h q
  unfold max2 at h
  split at h
  · cases h
    exact ⟨_, _, RepUs.two rs rfl rfl, q F H _ (Evl.Ex.refl _) hw (.int _)⟩
  · cases h
theorem l_min2 {K : PySem.W.Frag} : CallL T K (fun xs H Q => ∃ i j, xs = [.int i, .int j] ∧ Q (.int (if j < i then j else i)) H) min2 := by
  intro G F A S H vs ds z Q hw rs h q
  unfold min2 at h
  split at h
  · cases h
    exact ⟨_, _, RepUs.two rs rfl rfl, q F H _ (Evl.Ex.refl _) hw (.int _)⟩
  · cases h
theorem l_abs {K : PySem.W.Frag} : CallL T K (fun xs H Q => ∃ i, xs = [.int i] ∧ Q (.int (if i < 0 then -i else i)) H) absD := by
  intro G F A S H vs ds z Q hw rs h q
  unfold absD at h
  split at h
  · cases h
    exact ⟨_, RepUs.one rs rfl, q F H _ (Evl.Ex.refl _) hw (.int _)⟩
  · cases h
theorem l_int {K : PySem.W.Frag} : CallL T K (fun xs H Q => (∃ i, xs = [.int i] ∧ Q (.int i) H) ∨ ∃ k, xs = [.bl k] ∧ Q (.int (if k then 1 else 0)) H) intD := by
  intro G F A S H vs ds z Q hw rs h q
  unfold intD at h
  split at h
  · cases h
    exact .inl ⟨_, RepUs.one rs rfl, q F H _ (Evl.Ex.refl _) hw (.int _)⟩
  · cases h
    exact .inr ⟨_, RepUs.one rs rfl, q F H _ (Evl.Ex.refl _) hw (.int _)⟩
  · cases h
theorem je_max2 (hc : X.calm = true) (hm : X.mg "max" = none) (ha : JA T X Wx [a, b] ga) (hg : Gl X "max" := by rfl) (he : starEach [a, b] X.env = (false, eval a X.env) :: starEach [b] X.env := by rfl) (hpl : (backTo pos (starEach [b] X.env)).any (·.1) = false := by rfl) : JE T X Wx (.Call (.Name "max" p) [a, b] [] pos) (fCall max2 ga) :=
  je_callB (call_max2 hc) l_max2 hg hm boot_max ha (by decide) (by decide) he hpl
theorem je_min2 (hc : X.calm = true) (hm : X.mg "min" = none) (ha : JA T X Wx [a, b] ga) (hg : Gl X "min" := by rfl) (he : starEach [a, b] X.env = (false, eval a X.env) :: starEach [b] X.env := by rfl) (hpl : (backTo pos (starEach [b] X.env)).any (·.1) = false := by rfl) : JE T X Wx (.Call (.Name "min" p) [a, b] [] pos) (fCall min2 ga) :=
  je_callB (call_min2 hc) l_min2 hg hm boot_min ha (by decide) (by decide) he hpl
theorem je_abs (hm : X.mg "abs" = none) (ha : JA T X Wx [e] ga) (hg : Gl X "abs" := by rfl) (he : starEach [e] X.env = (false, eval e X.env) :: starEach [] X.env := by rfl) : JE T X Wx (.Call (.Name "abs" p) [e] [] pos) (fCall absD ga) :=
  je_callB call_abs l_abs hg hm boot_abs ha (by decide) (by decide) he rfl
theorem je_intC (hm : X.mg "int" = none) (ha : JA T X Wx [e] ga) (hg : Gl X "int" := by rfl) (he : starEach [e] X.env = (false, eval e X.env) :: starEach [] X.env := by rfl) : JE T X Wx (.Call (.Name "int" p) [e] [] pos) (fCall intD ga) :=
  je_callTy call_int1 l_int hg hm boot_int ha (by decide) (by decide) he rfl
/-- -x -/
def fNeg (f : FE) : FE := fun ρ S => (f ρ S).bind fun w S1 => R.lift ((asI w).map fun i => .dat (.int (-i))) S1
theorem je_neg (ha : JE T X Wx a fa) : JE T X Wx (.UnaryOp .USub a pos) (fNeg fa) := by
  obtain ⟨t, h1, s1⟩ := ha
  refine ⟨_, pe_un un_neg h1, fun G F A S H σ ρ Q hw hs hp => ?_⟩
  refine s1 G F A S H σ ρ _ hw hs (hp.bind fun w S1 F1 A1 H1 v1 e1 p1 w1 r1 hp1 => ?_)
  obtain ⟨w', h2, q⟩ := hp1.lift
  obtain ⟨i, h3, rfl⟩ := om h2
  unfold asI at h3
  split at h3
  · cases h3
    cases r1
    exact ⟨_, rfl, q F1 A1 H1 _ (Evl.Ex.refl _) (Pre.refl _) w1 (.int _)⟩
  · cases h3
end
end Vz
namespace Vz
open PySem PySem.Spec PyProof.Rows L2
section
variable {T : Tb} {X : Cx} {Wx : WX} {a b e : Expr} {fa fb fe : FE} {pos p : Pos} {es : List Expr} {ga : FA}
def D.cl : D → String
  | .none => "NoneType"
  | .bool _ => "bool"
  | .int _ => "int"
  | .str _ => "str"
  | .list _ => "list"
  | .tup _ _ => "tuple"
  | .dT _ => "dict"
  | .dK _ => "dict"
theorem RepU.ty {K : PySem.W.Frag} {F H : Hp} {d : D} {v : V} (r : RepU K F H d v) : TyX K H v (.type d.cl) := by
  cases r with
  | flat h =>
    cases d with
    | none => cases h; exact .base .non
    | bool _ => cases h; exact .base (.bl _)
    | int _ => cases h; exact .base (.int _)
    | str _ => cases h; exact .base (.str _)
    | _ => cases h
  | lst h _ => exact .base (.lst h)
  | tup _ h _ =>
    rcases h with (h | ⟨o, h⟩) | ⟨o, its, n, h1, h2, _⟩
    · exact .base (.tup h)
    · exact .fTuple h
    · exact .kTuple h1 h2
  | dT h _ => exact .base (.dT h)
  | dK h _ => exact .base (.dK h)
/-- a built-in class, what it says of data -/
structure Cla (n : String) (g : D → Bool) : Prop where
  kit : ∀ d, kitB d.cl n = some (g d)
def gInt : D → Bool
  | .int _ => true
  | .bool _ => true
  | _ => false
def gBool : D → Bool
  | .bool _ => true
  | _ => false
def gStr : D → Bool
  | .str _ => true
  | _ => false
def gList : D → Bool
  | .list _ => true
  | _ => false
def gTup : D → Bool
  | .tup _ _ => true
  | _ => false
theorem cl_all {n : String} {g : D → Bool} (h1 : kitB "NoneType" n = some (g .none)) (h2 : ∀ b, kitB "bool" n = some (g (.bool b))) (h3 : ∀ b, kitB "int" n = some (g (.int b))) (h4 : ∀ b, kitB "str" n = some (g (.str b))) (h5 : ∀ b, kitB "list" n = some (g (.list b)))
    (h6 : ∀ f b, kitB "tuple" n = some (g (.tup f b))) (h7 : ∀ b, kitB "dict" n = some (g (.dT b))) (h8 : ∀ b, kitB "dict" n = some (g (.dK b))) : Cla n g := ⟨fun d => by
  cases d with
  | none => exact h1
  | bool b => exact h2 b
  | int b => exact h3 b
  | str b => exact h4 b
  | list b => exact h5 b
  | tup f b => exact h6 f b
  | dT b => exact h7 b
  | dK b => exact h8 b⟩
theorem cla_int : Cla "int" gInt := cl_all (by decide +kernel) (fun _ => (by decide +kernel : kitB "bool" "int" = some true)) (fun _ => (by decide +kernel : kitB "int" "int" = some true)) (fun _ => (by decide +kernel : kitB "str" "int" = some false)) (fun _ => (by decide +kernel : kitB "list" "int" = some false)) (fun _ _ => (by decide +kernel : kitB "tuple" "int" = some false)) (fun _ => (by decide +kernel : kitB "dict" "int" = some false)) (fun _ => (by decide +kernel : kitB "dict" "int" = some false))
theorem cla_bool : Cla "bool" gBool := cl_all (by decide +kernel) (fun _ => (by decide +kernel : kitB "bool" "bool" = some true)) (fun _ => (by decide +kernel : kitB "int" "bool" = some false)) (fun _ => (by decide +kernel : kitB "str" "bool" = some false)) (fun _ => (by decide +kernel : kitB "list" "bool" = some false)) (fun _ _ => (by decide +kernel : kitB "tuple" "bool" = some false)) (fun _ => (by decide +kernel : kitB "dict" "bool" = some false)) (fun _ => (by decide +kernel : kitB "dict" "bool" = some false))
theorem cla_str : Cla "str" gStr := cl_all (by decide +kernel) (fun _ => (by decide +kernel : kitB "bool" "str" = some false)) (fun _ => (by decide +kernel : kitB "int" "str" = some false)) (fun _ => (by decide +kernel : kitB "str" "str" = some true)) (fun _ => (by decide +kernel : kitB "list" "str" = some false)) (fun _ _ => (by decide +kernel : kitB "tuple" "str" = some false)) (fun _ => (by decide +kernel : kitB "dict" "str" = some false)) (fun _ => (by decide +kernel : kitB "dict" "str" = some false))
theorem cla_list : Cla "list" gList := cl_all (by decide +kernel) (fun _ => (by decide +kernel : kitB "bool" "list" = some false)) (fun _ => (by decide +kernel : kitB "int" "list" = some false)) (fun _ => (by decide +kernel : kitB "str" "list" = some false)) (fun _ => (by decide +kernel : kitB "list" "list" = some true)) (fun _ _ => (by decide +kernel : kitB "tuple" "list" = some false)) (fun _ => (by decide +kernel : kitB "dict" "list" = some false)) (fun _ => (by decide +kernel : kitB "dict" "list" = some false))
theorem cla_tup : Cla "tuple" gTup := cl_all (by decide +kernel) (fun _ => (by decide +kernel : kitB "bool" "tuple" = some false)) (fun _ => (by decide +kernel : kitB "int" "tuple" = some false)) (fun _ => (by decide +kernel : kitB "str" "tuple" = some false)) (fun _ => (by decide +kernel : kitB "list" "tuple" = some false)) (fun _ _ => (by decide +kernel : kitB "tuple" "tuple" = some true)) (fun _ => (by decide +kernel : kitB "dict" "tuple" = some false)) (fun _ => (by decide +kernel : kitB "dict" "tuple" = some false))
def fIsi (g : D → Bool) (f : FE) : FE := fun ρ S => (f ρ S).bind fun w S1 => R.lift ((rd S1 w).map fun d => .dat (.bool (g d))) S1
theorem je_isi {n : String} {g : D → Bool} {x : Str} {p1 p2 : Pos} (hc : Cla n g) (hb : bootBuiltins x = some (.type n)) (hm : X.mg "isinstance" = none) (hmx : X.mg x = none) (ha : JE T X Wx a fa) (hg : Gl X "isinstance" := by rfl) (hgx : Gl X x := by rfl)
    (hnx : x ≠ "__name__" := by decide) (hdx : (x == ("__debug__" : Str)) = false := by decide)
    (he : starEach [a, .Name x p2] X.env = (false, eval a X.env) :: starEach [.Name x p2] X.env := by rfl) (he2 : starEach [.Name x p2] X.env = (false, eval (.Name x p2) X.env) :: starEach [] X.env := by rfl) (hpl : (backTo pos (starEach [.Name x p2] X.env)).any (·.1) = false := by rfl) :
    JE T X Wx (.Call (.Name "isinstance" p1) [a, .Name x p2] [] pos) (fIsi g fa) := by
  obtain ⟨t, h1, s1⟩ := ha
  have hA : PA X [a, .Name x p2] (tCons t (tCons (tC (.ty n)) tNil)) := pa_cons h1 (pa_cons (pe_bltn hgx hmx hb (show RelV (.ty n) (.type n) from rfl) hnx hdx) pa_nil he2) he
  refine ⟨_, pe_callB call_isi hg hm boot_isinstance hA (by decide) (by decide) he hpl, fun G F A S H σ ρ Q hw hs hp => ?_⟩
  refine s1 G F A S H σ ρ _ hw hs (hp.bind fun w S1 F1 A1 H1 v1 e1 p1 w1 r1 hp1 => ?_)
  obtain ⟨w', h2, q⟩ := hp1.lift
  obtain ⟨d, h3, rfl⟩ := om h2
  have rr := rd_rep w1 r1 h3
  exact ⟨v1, .ty n, _, _, g d, rfl, .ty n, rr.ty, kit_ty (hc.kit d), q F1 A1 H1 _ (Evl.Ex.refl _) (Pre.refl _) w1 (.bl _)⟩
/-- isinstance(x, (c1, c2)) -/
theorem je_isi2 {n n2 : String} {g g2 : D → Bool} {x x2 : Str} {p1 p2 p3 pt : Pos} {kt : Nat} (hc : Cla n g) (hc2 : Cla n2 g2) (hb : bootBuiltins x = some (.type n)) (hb2 : bootBuiltins x2 = some (.type n2)) (hm : X.mg "isinstance" = none) (hmx : X.mg x = none) (hmx2 : X.mg x2 = none) (ha : JE T X Wx a fa)
    (hg : Gl X "isinstance" := by rfl) (hgx : Gl X x := by rfl) (hgx2 : Gl X x2 := by rfl)
    (hnx : x ≠ "__name__" := by decide) (hdx : (x == ("__debug__" : Str)) = false := by decide) (hnx2 : x2 ≠ "__name__" := by decide) (hdx2 : (x2 == ("__debug__" : Str)) = false := by decide)
    (he : starEach [a, .Tuple [.Name x p2, .Name x2 p3] kt pt] X.env = (false, eval a X.env) :: starEach [.Tuple [.Name x p2, .Name x2 p3] kt pt] X.env := by rfl) (he2 : starEach [.Tuple [.Name x p2, .Name x2 p3] kt pt] X.env = (false, eval (.Tuple [.Name x p2, .Name x2 p3] kt pt) X.env) :: starEach [] X.env := by rfl)
    (he3 : starEach [.Name x p2, .Name x2 p3] X.env = (false, eval (.Name x p2) X.env) :: starEach [.Name x2 p3] X.env := by rfl) (he4 : starEach [.Name x2 p3] X.env = (false, eval (.Name x2 p3) X.env) :: starEach [] X.env := by rfl)
    (hpl : (backTo pos (starEach [.Tuple [.Name x p2, .Name x2 p3] kt pt] X.env)).any (·.1) = false := by rfl) :
    JE T X Wx (.Call (.Name "isinstance" p1) [a, .Tuple [.Name x p2, .Name x2 p3] kt pt] [] pos) (fIsi (fun d => g d || g2 d) fa) := by
  obtain ⟨t, h1, s1⟩ := ha
  have hT := pe_tup (x1 := kt) (pos := pt) (pa_cons (pe_bltn hgx hmx hb (show RelV (.ty n) (.type n) from rfl) hnx hdx (pos := p2)) (pa_cons (pe_bltn hgx2 hmx2 hb2 (show RelV (.ty n2) (.type n2) from rfl) hnx2 hdx2 (pos := p3)) pa_nil he4) he3)
  refine ⟨_, pe_callB call_isiT hg hm boot_isinstance (pa_cons h1 (pa_cons hT pa_nil he2) he) (by decide) (by decide) he hpl, fun G F A S H σ ρ Q hw hs hp => ?_⟩
  refine s1 G F A S H σ ρ _ hw hs (hp.bind fun w S1 F1 A1 H1 v1 e1 p1 w1 r1 hp1 => ?_)
  obtain ⟨w', h2, q⟩ := hp1.lift
  obtain ⟨d, h3, rfl⟩ := om h2
  have rr := rd_rep w1 r1 h3
  refine ⟨by show 2 ≤ sizeLine; exact lim_le (by decide), fun pp hpn => ?_⟩
  have w2 := w1.junk hpn (.tup [.ty n, .ty n2])
  have rr2 := rd_rep w2 r1 h3
  refine ⟨v1, pp, _, _, [.type n, .type n2], g d || g2 d, rfl, upd_same, .cons (.ty n) (.cons (.ty n2) .nil), rr2.ty, ?_, q F1 A1 _ _ (Evl.Ex.refl _) (Pre.refl _) w2 (.bl _)⟩
  refine kitAny_cons (kit_ty (hc.kit d)) (fun h => ?_) (fun h => by rw [h]; rfl)
  refine kitAny_cons (kit_ty (hc2.kit d)) (fun h' => ?_) (fun h' => by rw [h, h']; rfl)
  rw [h, h']
  exact kitAny_nil

def fLenS (f : FE) : FE := fun ρ S => (f ρ S).bind fun w S1 => match w with
  | .scr ns => .ok (.dat (.int (ns.length : Nat))) S1
  | _ => .bad
theorem je_lenS (hm : X.mg "len" = none) (ha : JE T X Wx e fe) (hg : Gl X "len" := by rfl) (he : starEach [e] X.env = (false, eval e X.env) :: starEach [] X.env := by rfl) : JE T X Wx (.Call (.Name "len" p) [e] [] pos) (fLenS fe) := by
  obtain ⟨t, h1, s1⟩ := ha
  refine ⟨_, pe_callB call_len hg hm boot_len (pa_cons h1 pa_nil he) (by decide) (by decide) he rfl, fun G F A S H σ ρ Q hw hs hp => ?_⟩
  refine s1 G F A S H σ ρ _ hw hs (hp.bind fun w S1 F1 A1 H1 v1 e1 p1 w1 r1 hp1 => ?_)
  cases w with
  | scr ns =>
    obtain ⟨q, rfl, hq⟩ := r1
    exact ⟨_, _, rfl, .inl ⟨_, sql_mono w1.sub hq, rfl⟩, hp1 F1 A1 H1 _ (Evl.Ex.refl _) (Pre.refl _) w1 (by rw [List.length_map]; exact .int _)⟩
  | _ => exact hp1.elim
def fIxS (f g : FE) : FE := fun ρ S => (f ρ S).bind fun w S1 => (g ρ S1).bind fun i S2 => match w, i with
  | .scr ns, .dat (.int i) => R.lift ((atI ns i).map fun n => .dat (.int n)) S2
  | _, _ => .bad
theorem je_ixS (ha : JE T X Wx a fa) (hb : JE T X Wx b fb) (hs : PlainIx b := by intro _ _; rfl) : JE T X Wx (.Subscript a b pos) (fIxS fa fb) := by
  obtain ⟨ta, h1, s1⟩ := ha
  obtain ⟨tb, h2, s2⟩ := hb
  refine ⟨_, pe_ix ix_list h1 h2 hs, fun G F A S H σ ρ Q hw hs hp => ?_⟩
  refine s1 G F A S H σ ρ _ hw hs (hp.bind fun w S1 F1 A1 H1 v1 e1 p1 w1 r1 hp1 => ?_)
  refine s2 G F1 A1 S1 H1 σ ρ _ w1 (hs.mono e1 p1) (hp1.bind fun i S2 F2 A2 H2 v2 e2 p2 w2 r2 hp2 => ?_)
  split at hp2
  · rename_i ns k
    obtain ⟨w', h3, q⟩ := hp2.lift
    obtain ⟨n, h4, rfl⟩ := om h3
    obtain ⟨pp, rfl, hq⟩ := r1
    cases r2
    refine ⟨pp, _, k, .int n, rfl, rfl, sql_mono (e2.trans w2.sub) hq, ?_, q F2 A2 H2 _ (Evl.Ex.refl _) (Pre.refl _) w2 (.int _)⟩
    unfold atI at h4 ⊢
    rw [List.length_map]
    obtain ⟨j, g1, g2⟩ := ob h4
    rw [g1, Option.bind_some, List.getElem?_map, g2]
    rfl
  · exact hp2.elim

theorem je_eq (hu : X.A.units + 64 < cLine) (ha : JE T X Wx a fa) (hb : JE T X Wx b fb) (hm : behindInMarks .Eq b = false := by rfl) : JE T X Wx (.Compare a [.Eq] [b] pos) (fBin eqD fa fb) := je_cmp (op_eqD hu) l_eqD ha hb hm
theorem je_isnt (ha : JE T X Wx a fa) (hb : JE T X Wx b fb) (hm : behindInMarks .IsNot b = false := by rfl) : JE T X Wx (.Compare a [.IsNot] [b] pos) (fBin isNN fa fb) := je_cmp op_notN l_isNN ha hb hm
theorem je_lt (ha : JE T X Wx a fa) (hb : JE T X Wx b fb) (hm : behindInMarks .Lt b = false := by rfl) : JE T X Wx (.Compare a [.Lt] [b] pos) (fBin ltI fa fb) := je_cmp op_lt l_ltI ha hb hm
theorem je_gt (ha : JE T X Wx a fa) (hb : JE T X Wx b fb) (hm : behindInMarks .Gt b = false := by rfl) : JE T X Wx (.Compare a [.Gt] [b] pos) (fBin gtI fa fb) := je_cmp op_gt l_gtI ha hb hm
theorem je_ge (ha : JE T X Wx a fa) (hb : JE T X Wx b fb) (hm : behindInMarks .GtE b = false := by rfl) : JE T X Wx (.Compare a [.GtE] [b] pos) (fBin geI fa fb) := je_cmp op_ge l_geI ha hb hm
theorem je_in (hu : X.A.units + 65 < cLine) (ha : JE T X Wx a fa) (hb : JE T X Wx b fb) (hm : behindInMarks .In b = false := by rfl) : JE T X Wx (.Compare a [.In] [b] pos) (fBin (inD false) fa fb) := je_cmp (op_inX hu) (l_in false) ha hb hm
end
end Vz
namespace Vz
open PySem PySem.Spec PyProof.Rows L2
theorem hu65 {k : Nat} {A : Around} (r : Room k A) : A.units + 65 < cLine := by have := r.un; omega
theorem hu64 {k : Nat} {A : Around} (r : Room k A) : A.units + 64 < cLine := by have := r.un; omega
theorem hu1 {k : Nat} {A : Around} (r : Room k A) : A.units + 1 < cLine := by have := r.un; omega
/-- the def x keeps its promise f -/
structure Ok (T : Tb) (P : Program) (w : World) (K : PySem.W.Frag) (mg : Str → Option Value) (base : Heap) (k : Nat) (x : Str) (ps : List Str) (f : List W → Sto → R W) : Prop where
  ex : ∃ fd, FnOk P w K mg base (L2.CX P w) k (He.ga K x) fd ps (spV T K ps.length f) ∧ Binds K fd ps [] ∧ ∃ oc od osl, K.lookup (He.ga K x) = some ⟨oc, od, .func fd, osl⟩
  keep : PySem.W.keepIn K (.ref (He.ga K x)) = true
  glo : mg x = some (.ref (He.ga K x))
section
variable {T : Tb} {X : Cx} {Wx : WX} {k n : Nat} {x : Str} {ps : List Str} {g : List W → Sto → R W} {ga : FA} {e : Expr} {es : List Expr} {p pos : Pos}
end
section
variable {T : Tb} {P : Program} {w : World} {K : PySem.W.Frag} {mg : Str → Option Value} {base : Heap} {x qual : Str} {params : Arguments} {body : List Stmt} {scope : Scope}
theorem look_of {f : Addr} {fd : FuncData} {dvs : List V} {kws : List (Str × V)} (F : FunD K x qual params body scope dvs kws f fd) : ∃ oc od osl, K.lookup f = some ⟨oc, od, .func fd, osl⟩ := by
  obtain ⟨oc, od, dV, kV, doc, pm, an, cdv, ct, osl, _, h, _⟩ := F.ex
  exact ⟨oc, od, osl, h⟩
def fBad : List W → Sto → R W := fun _ _ => .bad
theorem ok_bad {ps : List Str} (hF : ∃ fd, FunD K x qual params body scope [] [] (He.ga K x) fd) (hg : mg x = some (.ref (He.ga K x)))
    (hb : ∀ (kV doc pm : Value) (an : Option Addr) (cdv ct : Value) (us : List Value), us.length = ps.length → bindArgs (PySem.W.fnOf x qual params body scope .none kV doc pm an cdv ct) ⟨us, []⟩ = pure (ps.zip us)) (k : Nat) : Ok T P w K mg base k x ps fBad := by
  obtain ⟨fd, F⟩ := hF
  refine ⟨⟨fd, ⟨fun vs H Q E h => ?_, fun A outer s H args us vs Q E hr he hbb hv h => ?_⟩, F.bindsN hb, look_of F⟩, F.kp, hg⟩
  · obtain ⟨G, F, A, S, ws, hn, hw, hr, hp⟩ := h
    rw [← rws_len hr]
    exact hn
  · obtain ⟨G, F, A, S, ws, hn, hw, hr, hp⟩ := h
    exact hp.elim
theorem Ok.mono {j k : Nat} {ps : List Str} {f : List W → Sto → R W} (O : Ok T P w K mg base j x ps f) (h : j ≤ k) : Ok T P w K mg base k x ps f := by
  obtain ⟨⟨fd, h1, h2, h5⟩, h3, h4⟩ := O
  exact ⟨⟨fd, h1.mono h, h2, h5⟩, h3, h4⟩
end
theorem Ok.at_fd {T : Tb} {P : Program} {w : World} {K : PySem.W.Frag} {mg : Str → Option Value} {base : Heap} {k : Nat} {x : Str} {ps : List Str} {f : List W → Sto → R W} {fd : FuncData} (O : Ok T P w K mg base k x ps f) (h : ∃ oc od osl, K.lookup (He.ga K x) = some ⟨oc, od, .func fd, osl⟩) :
    FnOk P w K mg base (L2.CX P w) k (He.ga K x) fd ps (spV T K ps.length f) := by
  obtain ⟨fd', h1, _, oc, od, osl, h2⟩ := O.ex
  obtain ⟨oc', od', osl', h3⟩ := h
  rw [h2] at h3
  cases h3
  exact h1
def CXL : CXT := fun outer H s E u s' => ∃ (P : Program) (w : World), L2.CX P w outer H s E u s'
theorem cxl_end (H : Hp) (s : Shared) (e : Value) (s' : Shared) (h : CXL [] H s (fun _ _ _ => False) e s') : False := by
  obtain ⟨P, w, a, B, H', cls, d, _, _, _, _, _, _, _, h⟩ := h
  exact h
/-- of what stands at the start only lists are looked at -/
def lstsOf (H : Hp) : Hp := fun b => match H b with
  | some (.lst x) => some (.lst x)
  | some (.frz o x) => some (.frz o x)
  | _ => none
theorem lstsOf_sub {H : Hp} : Evl.Ex (lstsOf H) H := fun b u e => by
  unfold lstsOf at e
  split at e
  · rename_i x q
    rw [q]; exact e
  · rename_i o x q
    rw [q]; exact e
  · cases e
theorem lstsOf_nt {H : Hp} (b : Addr) (ps : Array Value) : lstsOf H b ≠ some (.tbl ps) := fun e => by
  unfold lstsOf at e
  split at e
  · cases e
  · cases e
  · cases e
theorem sp_law {T : Tb} {K : PySem.W.Frag} {F : List W → Sto → R W} {H : Hp} {a : Addr} {ns : List Int} (hS : SqL K H a (ns.map V.int)) (hF : ∃ S, F [.scr ns] [] = .ok (.dat (.bool true)) S) (hT : ∀ p ∈ T.tabs, H p.1 = some (.tbl #[])) :
    spV T K 1 F [.ref a] H (fun v _ => v = .bl true) fun _ _ _ => False := by
  obtain ⟨S, hF⟩ := hF
  have hf : ∀ p ∈ T.tabs, lstsOf H p.1 = none := fun p hp => by
    unfold lstsOf
    rw [hT p hp]
  have hs : SqL K (lstsOf H) a (ns.map V.int) := by
    rcases hS with (h | ⟨o, h⟩) | h
    · exact .inl (.inl (by unfold lstsOf; rw [h]))
    · exact .inl (.inr ⟨o, by unfold lstsOf; rw [h]⟩)
    · exact .inr h
  refine ⟨fun _ => none, lstsOf H, [], [], [.scr ns], rfl, ⟨lstsOf_sub, rfl, fun k as c h => by simp at h, by simp, fun a h => by simp at h, (fun _ _ h => nomatch h), fun a h => rfl, fun _ _ _ => rfl,
    ⟨fun p hp => LamX.TabS.nil (hT p hp), hf, fun _ _ => rfl, fun _ _ m => by simp at m, lstsOf_nt, fun _ _ z => (nomatch z), fun _ m => by simp at m⟩⟩, .cons ⟨a, rfl, hs⟩ .nil, ?_⟩
  rw [hF]
  intro F' A' H' v _ _ _ r
  cases r
  rfl
end Vz
namespace Vz
open PySem PySem.Spec PyProof.Rows L2
def bSource : FS := sSeq (sSet 2 (fC (D.int 0)))
  (sSeq (sIf (fB (fBin ltI (fVar 1) (fLenS (fVar 0)))) (sSet 2 (fIxS (fVar 0) (fVar 1))) sNil)
    (sRet (fCell (lDisp (aCons
            (fBin mulD (fCall absD (aCons (fVar 2) aNil)) (fCall intD (aCons (fBin geI (fCall absD (aCons (fVar 2) aNil)) (fBin powI (fC (D.int 10)) (fC (D.int 18)))) aNil)))
            (aCons (fBin modI (fBin mulD (fBin addD (fBin addD (fBin modI (fVar 2) (fC (D.int 2147483563))) (fBin mulD (fC (D.int 88001)) (fVar 1))) (fC (D.int 61))) (fC (D.int 39869))) (fC (D.int 2147483543)))
              (aCons (fC (D.int 0)) aNil)))))))
def absI (c : Int) : Int := if c < 0 then -c else c
def srcA (c : Int) : Int := absI c * (if (decide ((10 : Int) ^ 18 ≤ absI c)) then 1 else 0)
def srcB (c i : Int) : Int := (c % 2147483563 + 88001 * i + 61) * 39869 % 2147483543
def cellAt (ns : List Int) (i : Nat) : Int := ns.getD i 0
theorem mul_01 (i : Int) (b : Bool) : mulD (.int i) (.int (if b then 1 else 0)) = some (.int (i * (if b then 1 else 0))) := by
  have : mulI (.int i) (.int (if b then 1 else 0)) = some (.int (i * (if b then 1 else 0))) := by
    unfold mulI gI
    cases b <;> simp [ifO]
  unfold mulD orD
  rw [this]
theorem mul_c (i : Int) : mulD (.int i) (.int 39869) = some (.int (i * 39869)) := by
  have : mulI (.int i) (.int 39869) = some (.int (i * 39869)) := by
    unfold mulI gI
    simp [ifO]
  unfold mulD orD
  rw [this]
section
variable {fa fb f : FE} {ga : FA} {ρ : Rho} {S S1 S2 : Sto} {w wa wb : W} {ws : List W} {d : D} {ds : List D}
theorem x_bin {g : D → D → Option D} (h1 : fa ρ S = .ok wa S1) (h2 : fb ρ S1 = .ok wb S2) (h3 : rd2 S2 wa wb g = some d) : fBin g fa fb ρ S = .ok (.dat d) S2 := by
  unfold fBin
  rw [h1]
  show R.bind (fb ρ S1) _ = _
  rw [h2]
  show R.lift ((rd2 S2 wa wb g).map W.dat) S2 = _
  rw [h3]
  rfl
theorem x_cons (h1 : fa ρ S = .ok w S1) (h2 : ga ρ S1 = .ok ws S2) : aCons fa ga ρ S = .ok (w :: ws) S2 := by
  unfold aCons
  rw [h1]
  show R.bind (ga ρ S1) _ = _
  rw [h2]
  rfl
theorem x_call {g : List D → Option D} (h1 : ga ρ S = .ok ws S1) (h2 : (rds S1 ws).bind g = some d) : fCall g ga ρ S = .ok (.dat d) S1 := by
  unfold fCall
  rw [h1]
  show R.lift (((rds S1 ws).bind g).map W.dat) S1 = _
  rw [h2]
  rfl
theorem x_disp (h1 : ga ρ S = .ok ws S1) (h2 : (dats ws).bind small = some ds) : lDisp ga ρ S = .ok ds S1 := by
  unfold lDisp
  rw [h1]
  show R.lift ((dats ws).bind small) S1 = _
  rw [h2]
  rfl
theorem x_cell {g : FL} (h1 : g ρ S = .ok ds S1) : fCell g ρ S = .ok (.loc S1.length 0) (S1 ++ [.lst ds]) := by
  unfold fCell
  rw [h1]
  rfl
theorem x_ret (h1 : f ρ S = .ok w S1) : sRet f ρ S = .rt w S1 := by
  unfold sRet
  rw [h1]
  rfl
end
/-- the end of _law_source -/
theorem source_tail (ns : List Int) (i : Nat) (c : Int) :
    (sRet (fCell (lDisp (aCons
            (fBin mulD (fCall absD (aCons (fVar 2) aNil)) (fCall intD (aCons (fBin geI (fCall absD (aCons (fVar 2) aNil)) (fBin powI (fC (D.int 10)) (fC (D.int 18)))) aNil)))
            (aCons (fBin modI (fBin mulD (fBin addD (fBin addD (fBin modI (fVar 2) (fC (D.int 2147483563))) (fBin mulD (fC (D.int 88001)) (fVar 1))) (fC (D.int 61))) (fC (D.int 39869))) (fC (D.int 2147483543)))
              (aCons (fC (D.int 0)) aNil)))))) [some (.scr ns), some (.dat (.int i)), some (.dat (.int c))] [] = .rt (.loc 0 0) [.lst [.int (srcA c), .int (srcB c i), .int 0]] := by
  have e2 : fBin geI (fCall absD (aCons (fVar 2) aNil)) (fBin powI (fC (D.int 10)) (fC (D.int 18))) [some (.scr ns), some (.dat (.int i)), some (.dat (.int c))] [] = .ok (.dat (.bool (decide ((10 : Int) ^ 18 ≤ absI c)))) [] := rfl
  have e1 : fCall absD (aCons (fVar 2) aNil) [some (.scr ns), some (.dat (.int i)), some (.dat (.int c))] [] = .ok (.dat (.int (absI c))) [] := rfl
  have e6 : fBin addD (fBin addD (fBin modI (fVar 2) (fC (D.int 2147483563))) (fBin mulD (fC (D.int 88001)) (fVar 1))) (fC (D.int 61)) [some (.scr ns), some (.dat (.int i)), some (.dat (.int c))] [] = .ok (.dat (.int (c % 2147483563 + 88001 * i + 61))) [] := rfl
  exact x_ret (x_cell (S1 := []) (x_disp (x_cons (x_bin e1 (x_call (x_cons e2 rfl) rfl) (mul_01 _ _)) (x_cons (x_bin (x_bin e6 rfl (mul_c _)) rfl rfl) (x_cons rfl rfl))) rfl))
section
variable {g h : FS} {t : FT} {f : FE} {ρ ρ' : Rho} {S S1 S2 : Sto} {w : W} {r : Out}
theorem x_seq (h1 : g ρ S = .nx ρ' S1) (h2 : h ρ' S1 = r) : sSeq g h ρ S = r := by
  unfold sSeq
  rw [h1]
  exact h2
theorem x_ift (h1 : t ρ S = .ok true S1) (h2 : g ρ S1 = r) : sIf t g h ρ S = r := by
  unfold sIf
  rw [h1]
  exact h2
theorem x_iff (h1 : t ρ S = .ok false S1) (h2 : h ρ S1 = r) : sIf t g h ρ S = r := by
  unfold sIf
  rw [h1]
  exact h2
theorem x_set {i : Nat} (h1 : f ρ S = .ok w S1) : sSet i f ρ S = .nx (ρ.set i (some w)) S1 := by
  unfold sSet
  rw [h1]
  rfl
end
theorem source_eq (ns : List Int) (i : Nat) : runF 3 true bSource [.scr ns, .dat (.int i)] [] = .ok (.loc 0 0) [.lst [.int (srcA (cellAt ns i)), .int (srcB (cellAt ns i) i), .int 0]] := by
  have t1 : fB (fBin ltI (fVar 1) (fLenS (fVar 0))) [some (.scr ns), some (.dat (.int i)), some (.dat (.int 0))] [] = .ok (decide ((i : Int) < (ns.length : Nat))) [] := rfl
  have h1 : bSource [some (.scr ns), some (.dat (.int i)), none] [] = .rt (.loc 0 0) [.lst [.int (srcA (cellAt ns i)), .int (srcB (cellAt ns i) i), .int 0]] := by
    refine x_seq (x_set (w := .dat (.int 0)) (S1 := []) rfl) ?_
    refine x_seq (ρ' := [some (.scr ns), some (.dat (.int i)), some (.dat (.int (cellAt ns i)))]) (S1 := []) ?_ (source_tail ns i (cellAt ns i))
    by_cases h : i < ns.length
    · rw [decide_eq_true (by exact_mod_cast h)] at t1
      refine x_ift t1 ?_
      have : atI ns (i : Int) = some (cellAt ns i) := by
        unfold atI ixN cellAt
        rw [if_pos (Int.natCast_nonneg i), if_pos (by exact_mod_cast h)]
        simp [h]
      refine x_set (w := .dat (.int (cellAt ns i))) (S1 := []) ?_
      show R.lift ((atI ns (i : Int)).map _) [] = _
      rw [this]
      rfl
    · rw [decide_eq_false (by exact_mod_cast h)] at t1
      have : cellAt ns i = 0 := by
        unfold cellAt
        simp [List.getD_eq_getElem?_getD, List.getElem?_eq_none (Nat.le_of_not_lt h)]
      rw [this]
      exact x_iff t1 rfl
  have e : runF 3 true bSource [.scr ns, .dat (.int i)] [] = (bSource [some (.scr ns), some (.dat (.int i)), none] []).fn true 0 := rfl
  rw [e, h1]
  rfl
theorem boolsOf_repl (n : Nat) : boolsOf (List.replicate n (D.bool true)) = some (List.replicate n true) := by
  induction n with
  | zero => rfl
  | succ n ih =>
    rw [List.replicate_succ, List.replicate_succ]
    simp only [boolsOf]
    rw [ih]
    rfl
theorem rng_len {lo : Int} {n : Nat} : (rng lo n).length = n := by
  unfold rng
  rw [List.length_map, List.length_range]
end Vz
namespace Vz
open PySem PySem.Spec PyProof.Rows L2
section
variable {T : Tb} {X : Cx} {Wx : WX} {a b e : Expr} {fa fb fe : FE} {pos p : Pos} {es : List Expr} {ga : FA}
theorem applied_rev {prog : Program} {w : World} {A : Around} {E : Value → Shared → Prop} {s : Shared} {sl : Addr} {vs : Value} {n : Nat} {Q : Int × Int × Nat → Shared → Prop} (hs : s.heap.IsSliceOf sl .none .none vs) (ps : IsPart vs (some (-1)))
    (h : Q ((n : Int) - 1, -1, n) s) : wpAny (model prog w) A (Builtin.Slice.sliceApplied (.ref sl) (pure (n : Int))) Q E s := by
  obtain ⟨os, hos, hcs, hds⟩ := id hs
  unfold Builtin.Slice.sliceApplied Builtin.Slice.sliceFields
  refine wpAny_bind (wpAny_bind (wpAny_field hos hds (x := .none) rfl (wpAny_bind (wpAny_field hos hds (x := .none) rfl (wpAny_bind (wpAny_field hos hds (x := vs) rfl (wpAny_pure ?_)))))))
  refine wpAny_bind (HT.slicePart_ ps ?_)
  show wpAny _ _ (if ((-1 : Int) == 0) = true then _ else _) _ _ s
  rw [if_neg (by decide)]
  refine wpAny_bind (PyProof.Rows.slicePart_none (wpAny_bind (PyProof.Rows.slicePart_none (wpAny_bind (wpAny_pure ?_)))))
  show wpAny _ _ (pure ((n : Int) - 1, (-1 : Int), Builtin.Slice.slicePlaces ((n : Int) - 1) (-1) (-1))) _ _ s
  have e : Builtin.Slice.slicePlaces ((n : Int) - 1) (-1) (-1) = n := by
    unfold Builtin.Slice.slicePlaces
    have h1 : ¬ ((-1 : Int) > 0) := by decide
    simp only [h1, if_false]
    split
    · rw [show (-(-1) : Int) = 1 by decide, Int.ediv_one]
      omega
    · omega
  rw [e]
  exact wpAny_pure h
theorem fm_congr {α β : Type} {f g : α → Option β} : ∀ {l : List α}, (∀ x ∈ l, f x = g x) → l.filterMap f = l.filterMap g
  | [], _ => rfl
  | x :: xs, h => by
    rw [List.filterMap_cons, List.filterMap_cons, h x (by simp), fm_congr fun y hy => h y (List.mem_cons_of_mem _ hy)]
theorem pick_rev (xs : Array Value) : ((List.range xs.size).filterMap fun (m : Nat) => xs[((xs.size : Int) - 1 + (m : Int) * (-1)).toNat]?).toArray = xs.toList.reverse.toArray := by
  have h := PySem.W.krv_pick xs
  unfold slicePick at h
  rw [PySem.W.krv_bounds] at h
  rw [← h]
  congr 1
  show _ = (sliceRange ((xs.size : Int) - 1) (-1) (-1)).filterMap (xs[·]?)
  rw [PySem.W.krv_sliceRange, List.filterMap_map]
  refine fm_congr fun m hm => ?_
  have hm := List.mem_range.mp hm
  show xs[((xs.size : Int) - 1 + (m : Int) * (-1)).toNat]? = xs[xs.size - 1 - m]?
  congr 1
  omega
theorem getItem_tup_rev {prog : Program} {w : World} {A : Around} {E : Value → Shared → Prop} {s : Shared} {t sl : Addr} {items : Array Value} {vs : Value} {Q : Value → Shared → Prop} (ht : IsTup s.heap t items) (hs : s.heap.IsSliceOf sl .none .none vs) (ps : IsPart vs (some (-1)))
    (h : Q (.ref s.heap.objs.size) { s with heap := s.heap.push ⟨.type "tuple", none, .seq items.toList.reverse.toArray 0, #[]⟩ }) (hz : items.size ≤ sizeLine) : wpAny (model prog w) A (getItem (.ref t) (.ref sl)) Q E s := by
  have ok : sizeOk (.seq items.toList.reverse.toArray) := by
    show items.toList.reverse.toArray.size ≤ sizeLine
    rw [List.size_toArray, List.length_reverse, Array.length_toList]
    exact hz
  obtain ⟨os, hos, hcs, hds⟩ := id hs
  have hTs : s.TypeIs (.ref sl) "slice" := ⟨os, hos, hcs⟩
  unfold getItem
  try with_reducible refine wpAny_holding ?_
  first | refine wpAny_bind (wpAny_pure ?_) | skip
  refine wpAny_bind (wpAny_sequenceKey ht.typeIs (by decide) ?_)
  refine wpAny_bind (wpAny_callSpecial?_slot (name := Str.ofString "__getitem__") ht.typeIs PyProof.Rows.slot_tuple_getitem (wpAny_call_entry PyProof.Rows.slot_tuple_getitem ht.typeIs entry_tuple_getitem ?_ (args_tuple_getitem _ _)))
  show wpAny _ _ (Builtin.Tuple.tupleItemsOf (.ref t) >>= _) _ _ s
  refine wpAny_bind (PyProof.Rows.tupleItemsOf_ ht (wpAny_bind (wpAny_typeOf hTs ?_)))
  rw [if_pos (by decide)]
  refine wpAny_bind (applied_rev hs ps ?_)
  show wpAny _ _ (if (((items.size : Int) - 1) == 0 && (-1 : Int) == 1 && items.size == items.size) = true then _ else _) _ _ s
  rw [if_neg (by rw [show ((-1 : Int) == 1) = false by decide, Bool.and_false, Bool.false_and]; decide), pick_rev]
  first
    | exact wpAny_bind (m := Builtin.Tuple.tupleExact _) (wpAny_newObj_type (wpAny_pure ⟨_, rfl, wpAny_pure h⟩) ok)
    | exact wpAny_bind (m := Builtin.Tuple.tupleExact _) (wpAny_newObj_type (wpAny_bind (wpAny_pure (wpAny_pure ⟨_, rfl, wpAny_pure h⟩))) ok)
    | exact wpAny_bind (wpAny_bind (m := Builtin.Tuple.tupleExact _) (wpAny_newObj_type (wpAny_pure (wpAny_pure ⟨_, rfl, wpAny_pure h⟩)) ok))
    | exact wpAny_bind (wpAny_bind (m := Builtin.Tuple.tupleExact _) (wpAny_newObj_type (wpAny_pure ⟨_, rfl, wpAny_pure h⟩) ok))
def tRevA (K : PySem.W.Frag) (te : TE) : TE := fun σ H Q => te σ H fun x H1 => ∃ a xs, x = .ref a ∧ ((SqL K H1 a xs ∧ ∀ p, H1 p = none → Q (.ref p) (upd H1 p (.lst xs.reverse))) ∨ (SqT K H1 a xs ∧ NewT H1 xs.reverse Q))
theorem pe_revA {te : TE} {k : Nat} {p1 p2 p3 : Pos} (he : PE X e te) : PE X (.Subscript e (.Slice none none (some (.UnaryOp .USub (.Constant (.int 1) k p1) p2)) p3) pos) (tRevA X.K te) := by
  refine ⟨fun pins s σ H Q I h => Subscript_ (thn (he.run pins s σ H _ I h) fun v s1 ⟨x, H1, I1, r1, a, xs, ex, q⟩ => ?_)⟩
  subst ex
  cases r1
  have hst : PO X (some (.UnaryOp .USub (.Constant (.int 1) k p1) p2)) (tPart (tUn (rU fun i => .int (-i)) (tC (.int 1)))) := po_some (pe_un un_neg pe_int)
  refine wpAny_Slice (thn (po_none.run pins s1 σ H1 (fun o H2 => o = none ∧ H2 = H1) I1 ⟨rfl, rfl⟩) fun vl s2 ⟨l, H2, I2, pl, el, e2⟩ => ?_)
  subst el e2
  refine thn (po_none.run pins s2 σ H2 (fun o H3 => o = none ∧ H3 = H2) I2 ⟨rfl, rfl⟩) fun vu s3 ⟨u, H3, I3, pu, eu, e3⟩ => ?_
  subst eu e3
  refine thn (hst.run pins s3 σ H3 (fun o H4 => o = some (-1) ∧ H4 = H3) I3 ⟨1, rfl, -1, rfl, rfl, rfl⟩) fun vs s4 ⟨o, H4, I4, ps, eo, e4⟩ => ?_
  subst eo e4
  have I5 : Inv X pins σ H4 { s4 with heap := s4.heap.push ⟨.type "slice", none, .fields #[vl, vu, vs], #[]⟩ } := I4.kept (t' := s4.toks) fun b ob z => Heap.get?_push_of_some _ z
  show wpAny (model X.prog X.w) X.A (subscriptTail e (.Slice none none (some (.UnaryOp .USub (.Constant (.int 1) k p1) p2)) p3) (.ref a) (.ref s4.heap.objs.size)) (EP X pins σ Q) X.xe { s4 with heap := s4.heap.push ⟨.type "slice", none, .fields #[vl, vu, vs], #[]⟩ }
  cases pl
  cases pu
  rcases q with ⟨hx, q⟩ | ⟨hx, q⟩
  · obtain ⟨its, r, ht, hz⟩ := I5.list hx
    have hlen := r.length
    refine tail_any (ops := [.ref a, .ref s4.heap.objs.size]) ht.isList.typeIs (PySem.slot_list_getitem.lookup) ?_ (by with_unfolding_all rfl)
    refine wpAny_getItem_list_slice ht.isList (Heap.IsSliceOf.new _ .none .none vs) .none .none ps (by decide) ?_ (by rw [List.size_toArray]; omega)
    rw [PySem.W.krv_pick]
    exact ⟨.ref _, _, I5.laid (t' := s4.toks) (o := .lst xs.reverse) (fun b ob z => Heap.get?_push_of_some _ z) (Nat.le_refl _) ⟨by rw [List.length_reverse]; exact hz, _, 0, r.reverse, Heap.get?_push_size _ rfl⟩, rfl, q _ (I5.hok.fresh (Nat.le_refl _))⟩
  · obtain ⟨its, r, ht, hz⟩ := I5.tuple hx
    refine tail_any (ops := [.ref a, .ref s4.heap.objs.size]) ht.typeIs (PyProof.Rows.slot_tuple_getitem.lookup) ?_ (by with_unfolding_all rfl)
    refine getItem_tup_rev ht (Heap.IsSliceOf.new _ .none .none vs) ps ?_ (by rw [List.size_toArray, ← r.length]; exact hz)
    exact ⟨.ref _, _, tup_new (t' := s4.toks) I5 r.reverse (by rw [List.length_reverse]; exact hz), rfl, q _ _ (I5.hok.fresh (Nat.le_refl _)) rfl⟩
def revD : D → Option D
  | .list xs => some (.list xs.reverse)
  | .tup _ xs => some (.tup .nod xs.reverse)
  | _ => none
def fRev (f : FE) : FE := fun ρ S => (f ρ S).bind fun w S1 => R.lift (((rd S1 w).bind revD).map W.dat) S1
theorem je_rev {k : Nat} {p1 p2 p3 : Pos} (h : JE T X Wx e fe) : JE T X Wx (.Subscript e (.Slice none none (some (.UnaryOp .USub (.Constant (.int 1) k p1) p2)) p3) pos) (fRev fe) := by
  obtain ⟨t, h1, s1⟩ := h
  refine ⟨_, pe_revA h1, fun G F A S H σ ρ Q hw hs hp => ?_⟩
  refine s1 G F A S H σ ρ _ hw hs (hp.bind fun w S1 F1 A1 H1 v e1 p1 w1 r1 hp1 => ?_)
  obtain ⟨w', h2, q⟩ := hp1.lift
  obtain ⟨z, h3, rfl⟩ := om h2
  obtain ⟨d, h4, h5⟩ := ob h3
  have rr := rd_rep w1 r1 h4
  unfold revD at h5
  split at h5
  · cases h5
    cases rr with
    | flat z => cases z
    | lst g1 g2 => exact ⟨_, _, rfl, .inl ⟨.of g1, fun pp hpn => q _ A1 _ _ (w1.exNew hpn _) (Pre.refl _) (w1.new hpn _) (.lst upd_same (g2.reverse.mono (w1.exNew hpn _)))⟩⟩
  · cases h5
    cases rr with
    | flat z => cases z
    | tup f1 g1 g2 => exact ⟨_, _, rfl, .inr ⟨g1, fin_newT (fun F' H' v e w r => q F' A1 H' v e (Pre.refl _) w r) w1 g2.reverse⟩⟩
  · cases h5
def lRange (f : FA) : FL := fun ρ S => (f ρ S).bind fun ws S1 => R.lift ((dats ws).bind rng1) S1
abbrev Row := Int × List Int
def Row.l (b : Row) : List Int := b.1 :: b.2
def Row.d (b : Row) : D := .tup .any (b.l.map D.int)
end
end Vz
namespace Vz
open PySem PySem.Spec PyProof.Rows L2
section
variable {f : FE} {g : FG} {ρ ρ' : Rho} {S S1 S2 : Sto} {w : W}
theorem x_asg (h1 : f ρ S = .ok w S1) (h2 : g w ρ S1 = some (ρ', S2)) : sAsg f g ρ S = .nx ρ' S2 := by
  unfold sAsg
  rw [h1]
  show (match g w ρ S1 with | some (ρ', S2) => Out.nx ρ' S2 | none => .bad) = _
  rw [h2]
end
def bDraw (self : List W → Sto → R W) : FS := (sSeq (sIf (fB (fBin gtI (fBin ixD (fVar 0) (fC (.int 0))) (fC (.int 0)))) (sSeq (sSet 3 (fBin modI (fBin ixD (fVar 0) (fC (.int 0))) (fVar 1))) (sSeq (sAsg (fBin divI (fBin ixD (fVar 0) (fC (.int 0))) (fVar 1)) (oSub (fVar 0) (fC (.int 0)))) (sRet (fVar 3)))) sNil)
  (sSeq (sIf (fB (fBin gtI (fVar 1) (fBin powI (fC (.int 10)) (fC (.int 7))))) (sRet (fBin modI (fBin addD (fApp 2 self (aCons (fVar 0) (aCons (fBin powI (fC (.int 10)) (fC (.int 7))) aNil))) (fBin mulD (fBin powI (fC (.int 10)) (fC (.int 7))) (fApp 2 self (aCons (fVar 0) (aCons (fBin addD (fBin divI (fVar 1) (fBin powI (fC (.int 10)) (fC (.int 7)))) (fC (.int 1))) aNil))))) (fVar 1))) sNil)
  (sSeq (sAsg (fBin addD (fBin ixD (fVar 0) (fC (.int 2))) (fC (.int 1))) (oSub (fVar 0) (fC (.int 2))))
  (sSeq (sSet 2 (fBin modI (fBin powI (fBin addD (fBin ixD (fVar 0) (fC (.int 1))) (fBin mulD (fC (.int 60013)) (fBin ixD (fVar 0) (fC (.int 2))))) (fC (.int 3))) (fC (.int 2147483579))))
    (sRet (fBin modI (fBin divI (fBin modI (fBin addD (fBin mulD (fVar 2) (fBin addD (fBin modI (fVar 2) (fC (.int 40009))) (fC (.int 13)))) (fBin mulD (fBin ixD (fVar 0) (fC (.int 2))) (fC (.int 7459)))) (fC (.int 2147483647))) (fC (.int 32))) (fVar 1)))))))
/-- the cell of a source -/
def srcC (a b c : Int) : C := .lst [.int a, .int b, .int c]
def onceI (b c : Int) : Int := (b + 60013 * c) ^ 3 % 2147483579
def mixI (b c n : Int) : Int := (onceI b c * (onceI b c % 40009 + 13) + c * 7459) % 2147483647 / 32 % n
theorem gI_ok {C : Int → Int → Bool} {f : Int → Int → D} {i j : Int} (h : C i j = true) : gI C f (.int i) (.int j) = some (f i j) := by
  show ifO (C i j) (some (f i j)) = _
  rw [h]
  rfl
theorem mul_guard {i j : Int} (h : (-(2 ^ 64) < i ∧ i < 2 ^ 64) ∨ (-(2 ^ 64) < j ∧ j < 2 ^ 64)) : mulD (.int i) (.int j) = some (.int (i * j)) := by
  have : mulI (.int i) (.int j) = some (.int (i * j)) := by
    refine gI_ok ?_
    rcases h with ⟨h1, h2⟩ | ⟨h1, h2⟩
    · rw [decide_eq_true (show i.natAbs < 2 ^ 64 by omega)]
      rfl
    · rw [decide_eq_true (show j.natAbs < 2 ^ 64 by omega), Bool.or_true]
  unfold mulD orD
  rw [this]
theorem mod_guard {i j : Int} (h : 0 < j) : modI (.int i) (.int j) = some (.int (i % j)) := gI_ok (decide_eq_true h)
theorem div_guard {i j : Int} (h : 0 < j) (h2 : j ≤ 10 ^ 7) : divI (.int i) (.int j) = some (.int (i / j)) := by
  have : j.natAbs.log2 < 9000 := by
    have h3 : j.natAbs ≤ 10 ^ 7 := by omega
    have h4 : j.natAbs ≠ 0 := by omega
    have h5 : j.natAbs.log2 < 24 := (Nat.log2_lt h4).mpr (Nat.lt_of_le_of_lt h3 (by decide))
    omega
  refine gI_ok ?_
  rw [decide_eq_true h, decide_eq_true this]
  rfl
theorem pow_guard {i : Int} (h : i.natAbs < 2 ^ 64) : powI (.int i) (.int 3) = some (.int (i ^ 3)) := by
  refine gI_ok ?_
  rw [decide_eq_true h]
  rfl
theorem draw_old {self : List W → Sto → R W} {a b c n : Int} {rest : Sto} (ha : 0 < a) (hn : 0 < n) (hn2 : n ≤ 10 ^ 7) :
    runF 4 false (bDraw self) [.loc 0 0, .dat (.int n)] (srcC a b c :: rest) = .ok (.dat (.int (a % n))) (srcC (a / n) b c :: rest) := by
  have e : bDraw self [some (.loc 0 0), some (.dat (.int n)), none, none] (srcC a b c :: rest) = .rt (.dat (.int (a % n))) (srcC (a / n) b c :: rest) := by
    have t1 : fB (fBin gtI (fBin ixD (fVar 0) (fC (.int 0))) (fC (.int 0))) [some (.loc 0 0), some (.dat (.int n)), none, none] (srcC a b c :: rest) = .ok true (srcC a b c :: rest) := by
      show R.bind (R.ok (W.dat (.bool (decide (0 < a)))) _) _ = _
      rw [decide_eq_true ha]
      rfl
    have h0 : ∀ ρ : Rho, ρ[0]? = some (some (.loc 0 0)) → fBin ixD (fVar 0) (fC (.int 0)) ρ (srcC a b c :: rest) = .ok (.dat (.int a)) (srcC a b c :: rest) := fun ρ h => by
      refine x_bin (wa := .loc 0 0) (S1 := srcC a b c :: rest) ?_ rfl rfl
      unfold fVar
      rw [h]
    have hx : sIf (fB (fBin gtI (fBin ixD (fVar 0) (fC (.int 0))) (fC (.int 0)))) (sSeq (sSet 3 (fBin modI (fBin ixD (fVar 0) (fC (.int 0))) (fVar 1))) (sSeq (sAsg (fBin divI (fBin ixD (fVar 0) (fC (.int 0))) (fVar 1)) (oSub (fVar 0) (fC (.int 0)))) (sRet (fVar 3)))) sNil [some (.loc 0 0), some (.dat (.int n)), none, none] (srcC a b c :: rest) = .rt (.dat (.int (a % n))) (srcC (a / n) b c :: rest) := by
      refine x_ift t1 (x_seq (x_set (x_bin (h0 _ rfl) rfl (mod_guard hn))) ?_)
      exact x_seq (x_asg (x_bin (h0 _ rfl) rfl (div_guard hn hn2)) rfl) rfl
    unfold bDraw
    unfold sSeq at hx ⊢
    rw [hx]
    rfl
  have r : runF 4 false (bDraw self) [.loc 0 0, .dat (.int n)] (srcC a b c :: rest) = (bDraw self [some (.loc 0 0), some (.dat (.int n)), none, none] (srcC a b c :: rest)).fn false (rest.length + 1) := rfl
  rw [r, e]
  show R.ok _ ((srcC (a / n) b c :: rest).take (rest.length + 1)) = _
  rw [List.take_succ_cons, List.take_length]
theorem x_bin' {fa fb : FE} {ρ : Rho} {S : Sto} {x y d : D} {g : D → D → Option D} (h1 : fa ρ S = .ok (.dat x) S) (h2 : fb ρ S = .ok (.dat y) S) (h3 : g x y = some d) : fBin g fa fb ρ S = .ok (.dat d) S := x_bin h1 h2 h3
theorem draw_new {self : List W → Sto → R W} {a b c n : Int} {rest : Sto} (ha : ¬ 0 < a) (hb : 0 ≤ b) (hb2 : b < 2 ^ 31) (hc : 0 ≤ c) (hc2 : c < 2 ^ 40) (hn : 0 < n) (hn2 : n ≤ 10 ^ 7) :
    runF 4 false (bDraw self) [.loc 0 0, .dat (.int n)] (srcC a b c :: rest) = .ok (.dat (.int (mixI b (c + 1) n))) (srcC a b (c + 1) :: rest) := by
  have e : bDraw self [some (.loc 0 0), some (.dat (.int n)), none, none] (srcC a b c :: rest) = .rt (.dat (.int (mixI b (c + 1) n))) (srcC a b (c + 1) :: rest) := by
    have t1 : fB (fBin gtI (fBin ixD (fVar 0) (fC (.int 0))) (fC (.int 0))) [some (.loc 0 0), some (.dat (.int n)), none, none] (srcC a b c :: rest) = .ok false (srcC a b c :: rest) := by
      show R.bind (R.ok (W.dat (.bool (decide (0 < a)))) _) _ = _
      rw [decide_eq_false ha]
      rfl
    have t2 : fB (fBin gtI (fVar 1) (fBin powI (fC (.int 10)) (fC (.int 7)))) [some (.loc 0 0), some (.dat (.int n)), none, none] (srcC a b c :: rest) = .ok false (srcC a b c :: rest) := by
      show R.bind (R.ok (W.dat (.bool (decide ((10 : Int) ^ 7 < n)))) _) _ = _
      rw [decide_eq_false (by omega)]
      rfl
    have ho : 0 ≤ onceI b (c + 1) ∧ onceI b (c + 1) < 2147483579 := ⟨Int.emod_nonneg _ (by decide), Int.emod_lt_of_pos _ (by decide)⟩
    refine x_seq (x_iff t1 rfl) (x_seq (x_iff t2 rfl) (x_seq (x_asg (S1 := srcC a b c :: rest) (w := .dat (.int (c + 1))) rfl rfl) (x_seq (x_set (w := .dat (.int (onceI b (c + 1)))) (S1 := srcC a b (c + 1) :: rest) ?_) ?_)))
    · refine x_bin' (x := .int ((b + 60013 * (c + 1)) ^ 3)) (x_bin' (x := .int (b + 60013 * (c + 1))) (y := .int 3) (x_bin' (x := .int b) (y := .int (60013 * (c + 1))) rfl (x_bin' (x := .int 60013) (y := .int (c + 1)) rfl rfl rfl) rfl) rfl (pow_guard (by omega))) rfl rfl
    · refine x_ret (x_bin' (y := .int n) (x_bin' (y := .int 32) (x_bin' (x := .int (onceI b (c + 1) * (onceI b (c + 1) % 40009 + 13) + (c + 1) * 7459)) (y := .int 2147483647) (x_bin' (x := .int (onceI b (c + 1) * (onceI b (c + 1) % 40009 + 13))) (y := .int ((c + 1) * 7459)) (x_bin' (x := .int (onceI b (c + 1))) (y := .int (onceI b (c + 1) % 40009 + 13)) rfl rfl (mul_guard (.inl (by omega)))) (x_bin' (x := .int (c + 1)) (y := .int 7459) rfl rfl (mul_guard (.inr (by omega)))) rfl) rfl rfl) rfl rfl) rfl (mod_guard hn))
  have r : runF 4 false (bDraw self) [.loc 0 0, .dat (.int n)] (srcC a b c :: rest) = (bDraw self [some (.loc 0 0), some (.dat (.int n)), none, none] (srcC a b c :: rest)).fn false (rest.length + 1) := rfl
  rw [r, e]
  show R.ok _ ((srcC a b (c + 1) :: rest).take (rest.length + 1)) = _
  rw [List.take_succ_cons, List.take_length]
/-- a source that may be drawn from m times more -/
def SrcOk (m : Nat) : C → Prop := fun x => ∃ a b c : Int, x = srcC a b c ∧ 0 ≤ b ∧ b < 2 ^ 31 ∧ 0 ≤ c ∧ c + m < 2 ^ 40
theorem draw_ok {self : List W → Sto → R W} {m : Nat} {x : C} {n : Int} {rest : Sto} (h : SrcOk (m + 1) x) (hn : 0 < n) (hn2 : n ≤ 10 ^ 7) :
    ∃ r y, runF 4 false (bDraw self) [.loc 0 0, .dat (.int n)] (x :: rest) = .ok (.dat (.int r)) (y :: rest) ∧ 0 ≤ r ∧ r < n ∧ SrcOk m y := by
  obtain ⟨a, b, c, rfl, h1, h2, h3, h4⟩ := h
  by_cases ha : 0 < a
  · exact ⟨_, _, draw_old ha hn hn2, Int.emod_nonneg _ (by omega), Int.emod_lt_of_pos _ hn, a / n, b, c, rfl, h1, h2, h3, by omega⟩
  · exact ⟨_, _, draw_new ha h1 h2 h3 (by omega) hn hn2, Int.emod_nonneg _ (by omega), Int.emod_lt_of_pos _ hn, a, b, c + 1, rfl, h1, h2, by omega, by omega⟩
end Vz
namespace Vz
open PySem PySem.Spec PyProof.Rows L2
theorem pyAll_ints : ∀ xs : List Int, pyAll (xs.map D.int) = xs.map PyData.int
  | [] => rfl
  | x :: xs => by
    show _ :: pyAll (xs.map D.int) = _
    rw [pyAll_ints xs]
    rfl
theorem canLay_ints : ∀ xs : List Int, PyData.canLayAll0 (xs.map PyData.int) = true
  | [] => rfl
  | x :: xs => by
    show (true && PyData.canLayAll0 (xs.map PyData.int)) = true
    rw [canLay_ints xs]
    rfl
theorem shp_ints (xs : List Int) : shp (.list (xs.map D.int)) = true := by
  unfold shp SeqAt.shaped
  show (PyData.canLayAll0 (pyAll (xs.map D.int)) && decide (PyData.depthAll (pyAll (xs.map D.int)) + 1 ≤ 64)) = true
  rw [pyAll_ints, canLay_ints, PySem.W.depth_ints]
  rfl
theorem ne_nil (xs : List Int) : neD (.list (xs.map D.int)) (.list []) = some (.bool (!xs.isEmpty)) := by
  unfold neD
  rw [shp_ints, show shp (.list []) = true from shp_ints []]
  cases xs <;> rfl
theorem erase_map {α β : Type} (f : α → β) : ∀ (xs : List α) (i : Nat), (xs.map f).eraseIdx i = (xs.eraseIdx i).map f
  | [], _ => rfl
  | _ :: _, 0 => rfl
  | x :: xs, i + 1 => by
    show f x :: (xs.map f).eraseIdx i = _
    rw [erase_map f xs i]
    rfl
theorem erase_perm {α : Type} : ∀ (xs : List α) (i : Nat) (v : α), xs[i]? = some v → (v :: xs.eraseIdx i).Perm xs
  | [], _, _, h => by simp at h
  | x :: xs, 0, v, h => by
    simp at h
    subst h
    exact .refl _
  | x :: xs, i + 1, v, h => by
    have := erase_perm xs i v (by simpa using h)
    exact (List.Perm.swap x v _).trans (this.cons x)
def bShuf (draw : List W → Sto → R W) : FS := (sSeq (sPar 2 3 (aCons (fCell (lCall listD (aCons (fVar 1) aNil))) (aCons (fCell (lDisp aNil)) aNil))) (sSeq (sWhile 100 (fB (fBin neD (fVar 2) (fFrz (lDisp aNil)))) (sExpr (fMeth mAppend (fVar 3) (aCons (fMeth mPopAt (fVar 2) (aCons (fApp 2 draw (aCons (fVar 0) (aCons (fCall lenD (aCons (fVar 2) aNil)) aNil))) aNil)) aNil)))) (sRet (fVar 3))))
theorem at_mid {rest : Sto} {x p q : C} : (x :: (rest ++ [p, q]))[rest.length + 1]? = some p := by
  rw [List.getElem?_cons_succ, List.getElem?_append_right (Nat.le_refl _), Nat.sub_self]
  rfl
theorem at_end {rest : Sto} {x p q : C} : (x :: (rest ++ [p, q]))[rest.length + 2]? = some q := by
  rw [List.getElem?_cons_succ, List.getElem?_append_right (by omega), show rest.length + 1 - rest.length = 1 by omega]
  rfl
theorem set_mid {rest : Sto} {x p q p' : C} : (x :: (rest ++ [p, q])).set (rest.length + 1) p' = x :: (rest ++ [p', q]) := by
  rw [List.set_cons_succ, List.set_append_right _ _ (Nat.le_refl _), Nat.sub_self]
  rfl
theorem set_end {rest : Sto} {x p q q' : C} : (x :: (rest ++ [p, q])).set (rest.length + 2) q' = x :: (rest ++ [p, q']) := by
  rw [List.set_cons_succ, List.set_append_right _ _ (by omega), show rest.length + 1 - rest.length = 1 by omega]
  rfl
section
variable {draw : List W → Sto → R W} {rest : Sto} {d : D}
def rhoS (rest : Sto) (d : D) : Rho := [some (.loc 0 0), some (.dat d), some (.loc (rest.length + 1) 0), some (.loc (rest.length + 2) 0)]
theorem shuf_test (x : C) (xs acc : List Int) : fB (fBin neD (fVar 2) (fFrz (lDisp aNil))) (rhoS rest d) (x :: (rest ++ [.lst (xs.map D.int), .lst (acc.map D.int)])) = .ok (!xs.isEmpty) (x :: (rest ++ [.lst (xs.map D.int), .lst (acc.map D.int)])) := by
  have : fBin neD (fVar 2) (fFrz (lDisp aNil)) (rhoS rest d) (x :: (rest ++ [.lst (xs.map D.int), .lst (acc.map D.int)])) = .ok (.dat (.bool (!xs.isEmpty))) (x :: (rest ++ [.lst (xs.map D.int), .lst (acc.map D.int)])) := by
    refine x_bin (wa := .loc (rest.length + 1) 0) (wb := .dat (.list [])) rfl rfl ?_
    have : rd (x :: (rest ++ [.lst (xs.map D.int), .lst (acc.map D.int)])) (.loc (rest.length + 1) 0) = some (.list (xs.map D.int)) := by
      simp only [rd, at_mid]
    unfold rd2
    rw [this]
    exact ne_nil xs
  unfold fB
  rw [this]
  rfl
theorem x_meth {g : W → List W → Sto → Option (W × Sto)} {f : FE} {ga : FA} {ρ : Rho} {S S1 S2 S' : Sto} {w w' : W} {ws : List W} (h1 : f ρ S = .ok w S1) (hL : LstW w S1 = true) (h2 : ga ρ S1 = .ok ws S2) (h3 : g w ws S2 = some (w', S')) : fMeth g f ga ρ S = .ok w' S' := by
  unfold fMeth
  rw [h1]
  show (match LstW w S1 with | true => (ga ρ S1).bind fun ws S2 => R.of (g w ws S2) | false => R.bad) = _
  rw [hL]
  show R.bind (ga ρ S1) _ = _
  rw [h2]
  show R.of (g w ws S2) = _
  rw [h3]
  rfl
theorem x_app {n : Nat} {F : List W → Sto → R W} {ga : FA} {ρ : Rho} {S S1 : Sto} {ws : List W} {r : R W} (h1 : ga ρ S = .ok ws S1) (hn : ws.length = n) (h2 : F ws S1 = r) : fApp n F ga ρ S = r := by
  unfold fApp
  rw [h1]
  show (match decide (ws.length = n) with | true => F ws S1 | false => R.bad) = _
  rw [decide_eq_true hn]
  exact h2
theorem x_expr {f : FE} {ρ : Rho} {S S1 : Sto} {w : W} (h1 : f ρ S = .ok w S1) : sExpr f ρ S = .nx ρ S1 := by
  unfold sExpr
  rw [h1]
  rfl
def DrawOk (draw : List W → Sto → R W) : Prop := ∀ (m : Nat) (x : C) (n : Int) (rest : Sto), SrcOk (m + 1) x → 0 < n → n ≤ 10 ^ 7 → ∃ r y, draw [.loc 0 0, .dat (.int n)] (x :: rest) = .ok (.dat (.int r)) (y :: rest) ∧ 0 ≤ r ∧ r < n ∧ SrcOk m y
theorem lst_mid {x : C} {xs : List D} {q : C} : lstC (x :: (rest ++ [.lst xs, q])) (.loc (rest.length + 1) 0) = some (rest.length + 1, xs) := by
  unfold lstC
  simp only [at_mid]
theorem lst_end {x : C} {xs : List D} {p : C} : lstC (x :: (rest ++ [p, .lst xs])) (.loc (rest.length + 2) 0) = some (rest.length + 2, xs) := by
  unfold lstC
  simp only [at_end]
theorem lstW_mid {x : C} {xs : List D} {q : C} : LstW (.loc (rest.length + 1) 0) (x :: (rest ++ [.lst xs, q])) = true := by
  unfold LstW
  simp only [rd, at_mid]
theorem lstW_end {x : C} {xs : List D} {p : C} : LstW (.loc (rest.length + 2) 0) (x :: (rest ++ [p, .lst xs])) = true := by
  unfold LstW
  simp only [rd, at_end]
theorem shuf_turn (hd : DrawOk draw) {m : Nat} {x : C} {xs acc : List Int} (hx : SrcOk (m + 1) x) (h0 : xs ≠ []) (hl : xs.length + acc.length ≤ 1000) :
    ∃ r y v, xs[r]? = some v ∧ SrcOk m y ∧ sExpr (fMeth mAppend (fVar 3) (aCons (fMeth mPopAt (fVar 2) (aCons (fApp 2 draw (aCons (fVar 0) (aCons (fCall lenD (aCons (fVar 2) aNil)) aNil))) aNil)) aNil)) (rhoS rest d) (x :: (rest ++ [.lst (xs.map D.int), .lst (acc.map D.int)])) =
      .nx (rhoS rest d) (y :: (rest ++ [.lst ((xs.eraseIdx r).map D.int), .lst ((acc ++ [v]).map D.int)])) := by
  have hpos : 0 < xs.length := List.length_pos_iff.mpr h0
  obtain ⟨r, y, h1, h2, h3, h4⟩ := hd m x (xs.length : Nat) (rest ++ [.lst (xs.map D.int), .lst (acc.map D.int)]) hx (by omega) (by omega)
  have hr : r.toNat < xs.length := by omega
  refine ⟨r.toNat, y, xs[r.toNat], List.getElem?_eq_getElem hr, h4, ?_⟩
  have e1 : fCall lenD (aCons (fVar 2) aNil) (rhoS rest d) (x :: (rest ++ [.lst (xs.map D.int), .lst (acc.map D.int)])) = .ok (.dat (.int (xs.length : Nat))) (x :: (rest ++ [.lst (xs.map D.int), .lst (acc.map D.int)])) := by
    refine x_call (ws := [.loc (rest.length + 1) 0]) rfl ?_
    have : rd (x :: (rest ++ [.lst (xs.map D.int), .lst (acc.map D.int)])) (.loc (rest.length + 1) 0) = some (.list (xs.map D.int)) := by
      simp only [rd, at_mid]
    simp only [rds, this, Option.bind_some]
    show some (D.int ((xs.map D.int).length : Nat)) = _
    rw [List.length_map]
  have e2 : fApp 2 draw (aCons (fVar 0) (aCons (fCall lenD (aCons (fVar 2) aNil)) aNil)) (rhoS rest d) (x :: (rest ++ [.lst (xs.map D.int), .lst (acc.map D.int)])) = .ok (.dat (.int r)) (y :: (rest ++ [.lst (xs.map D.int), .lst (acc.map D.int)])) :=
    x_app (x_cons (w := .loc 0 0) rfl (x_cons e1 rfl)) rfl h1
  have e3 : mPopAt (.loc (rest.length + 1) 0) [.dat (.int r)] (y :: (rest ++ [.lst (xs.map D.int), .lst (acc.map D.int)])) = some (.dat (.int xs[r.toNat]), y :: (rest ++ [.lst ((xs.eraseIdx r.toNat).map D.int), .lst (acc.map D.int)])) := by
    unfold mPopAt
    simp only [lst_mid, Option.bind_some, rd]
    have g1 : decide (r.natAbs < 2 ^ 63) = true := decide_eq_true (by omega)
    have g2 : seqIndex? r (xs.map D.int).length = some r.toNat := by
      rw [List.length_map]
      exact (ixN_seq (by unfold ixN; rw [if_pos h2, if_pos h3])).1
    rw [g1, g2]
    show (Option.map _ ((xs.map D.int)[r.toNat]?)) = _
    rw [List.getElem?_map, List.getElem?_eq_getElem hr]
    show some (W.dat (.int xs[r.toNat]), (y :: (rest ++ [.lst (xs.map D.int), .lst (acc.map D.int)])).set (rest.length + 1) (.lst ((xs.map D.int).eraseIdx r.toNat))) = _
    rw [set_mid, erase_map]
  have e4 : fMeth mPopAt (fVar 2) (aCons (fApp 2 draw (aCons (fVar 0) (aCons (fCall lenD (aCons (fVar 2) aNil)) aNil))) aNil) (rhoS rest d) (x :: (rest ++ [.lst (xs.map D.int), .lst (acc.map D.int)])) = .ok (.dat (.int xs[r.toNat])) (y :: (rest ++ [.lst ((xs.eraseIdx r.toNat).map D.int), .lst (acc.map D.int)])) :=
    x_meth (w := .loc (rest.length + 1) 0) rfl lstW_mid (x_cons e2 rfl) e3
  refine x_expr (w := .dat .none) (x_meth (w := .loc (rest.length + 2) 0) rfl lstW_end (x_cons e4 rfl) ?_)
  unfold mAppend
  simp only [lst_end, Option.bind_some, frd]
  have g3 : decide ((acc.map D.int).length < lim) = true := by
    rw [List.length_map]
    exact decide_eq_true (by unfold lim; omega)
  rw [g3]
  show some (W.dat .none, (y :: (rest ++ [.lst ((xs.eraseIdx r.toNat).map D.int), .lst (acc.map D.int)])).set (rest.length + 2) (.lst (acc.map D.int ++ [.int xs[r.toNat]]))) = _
  rw [set_end, List.map_append]
  rfl
theorem cut_rho : cutR (rest.length + 3) (rhoS rest d) = rhoS rest d := by
  unfold cutR rhoS
  simp only [List.map, cutW, ifO, decide_eq_true (show (0 : Nat) < rest.length + 3 by omega), decide_eq_true (show rest.length + 1 < rest.length + 3 by omega), decide_eq_true (show rest.length + 2 < rest.length + 3 by omega)]
theorem take_all {x p q : C} : (x :: (rest ++ [p, q])).take (rest.length + 3) = x :: (rest ++ [p, q]) := by
  refine List.take_of_length_le ?_
  simp
theorem shuf_loop (hd : DrawOk draw) : ∀ (k m : Nat) (x : C) (xs acc : List Int), SrcOk (m + xs.length) x → xs.length < k → xs.length + acc.length ≤ 1000 →
    ∃ (ys : List Int) (y : C), ys.Perm (acc ++ xs) ∧ SrcOk m y ∧ whileF (rest.length + 3) (fB (fBin neD (fVar 2) (fFrz (lDisp aNil)))) (sExpr (fMeth mAppend (fVar 3) (aCons (fMeth mPopAt (fVar 2) (aCons (fApp 2 draw (aCons (fVar 0) (aCons (fCall lenD (aCons (fVar 2) aNil)) aNil))) aNil)) aNil))) k (rhoS rest d) (x :: (rest ++ [.lst (xs.map D.int), .lst (acc.map D.int)])) =
      .nx (rhoS rest d) (y :: (rest ++ [.lst [], .lst (ys.map D.int)]))
  | 0, _, _, _, _, _, h, _ => by omega
  | k + 1, m, x, xs, acc, hx, hk, hl => by
    unfold whileF
    rw [shuf_test x xs acc]
    cases xs with
    | nil => exact ⟨acc, x, by simp, hx, rfl⟩
    | cons z zs =>
      obtain ⟨r, y, v, h1, h2, h3⟩ := shuf_turn (d := d) hd (m := m + zs.length) (acc := acc) (xs := z :: zs) hx (by simp) hl
      have hlen : ((z :: zs).eraseIdx r).length = zs.length := by
        rw [List.length_eraseIdx, if_pos (List.getElem?_eq_some_iff.mp h1).1]
        simp
      obtain ⟨ys, y2, g1, g2, g3⟩ := shuf_loop hd k m y ((z :: zs).eraseIdx r) (acc ++ [v]) (by rw [hlen]; exact h2) (by rw [hlen]; simp at hk; omega) (by rw [hlen, List.length_append, List.length_singleton]; simp at hl; omega)
      refine ⟨ys, y2, g1.trans ?_, g2, ?_⟩
      · rw [List.append_assoc]
        exact (erase_perm _ _ _ h1).append_left acc
      · show (match sExpr _ (rhoS rest d) (x :: (rest ++ [.lst ((z :: zs).map D.int), .lst (acc.map D.int)])) with
          | .nx ρ' S' => whileF (rest.length + 3) _ _ k (cutR (rest.length + 3) ρ') (S'.take (rest.length + 3))
          | .ct ρ' S' => whileF (rest.length + 3) _ _ k (cutR (rest.length + 3) ρ') (S'.take (rest.length + 3))
          | .bk ρ' S' => Out.nx (cutR (rest.length + 3) ρ') (S'.take (rest.length + 3))
          | r => r) = _
        rw [h3]
        simp only [cut_rho, take_all]
        exact g3
theorem x_par {i j : Nat} {f : FA} {ρ : Rho} {S S1 : Sto} {v w : W} (h : f ρ S = .ok [v, w] S1) : sPar i j f ρ S = .nx ((ρ.set i (some v)).set j (some w)) S1 := by
  unfold sPar
  rw [h]
  rfl
theorem shuf_ok (hd : DrawOk draw) {m : Nat} {x : C} {xs : List Int} (hs : seqOf d = some (xs.map D.int)) (hx : SrcOk (m + xs.length) x) (hl : xs.length ≤ 99) :
    ∃ (ys : List Int) (y : C), ys.Perm xs ∧ SrcOk m y ∧ runF 4 false (bShuf draw) [.loc 0 0, .dat d] (x :: rest) = .ok (.dat (.list (ys.map D.int))) (y :: rest) := by
  obtain ⟨ys, y, h1, h2, h3⟩ := shuf_loop (rest := rest) (d := d) hd 100 m x xs [] hx (by omega) (by simp; omega)
  refine ⟨ys, y, by simpa using h1, h2, ?_⟩
  have e1 : sPar 2 3 (aCons (fCell (lCall listD (aCons (fVar 1) aNil))) (aCons (fCell (lDisp aNil)) aNil)) [some (.loc 0 0), some (.dat d), none, none] (x :: rest) = .nx (rhoS rest d) (x :: (rest ++ [.lst (xs.map D.int), .lst []])) := by
    have a1 : lCall listD (aCons (fVar 1) aNil) [some (.loc 0 0), some (.dat d), none, none] (x :: rest) = .ok (xs.map D.int) (x :: rest) := by
      show R.lift (((rds (x :: rest) [.dat d]).bind listD)) (x :: rest) = _
      show R.lift (seqOf d) (x :: rest) = _
      rw [hs]
      rfl
    have a2 : fCell (lCall listD (aCons (fVar 1) aNil)) [some (.loc 0 0), some (.dat d), none, none] (x :: rest) = .ok (.loc (rest.length + 1) 0) (x :: (rest ++ [.lst (xs.map D.int)])) := x_cell a1
    have a3 : fCell (lDisp aNil) [some (.loc 0 0), some (.dat d), none, none] (x :: (rest ++ [.lst (xs.map D.int)])) = .ok (.loc (rest.length + 2) 0) (x :: (rest ++ [.lst (xs.map D.int), .lst []])) := by
      have := x_cell (g := lDisp aNil) (ρ := [some (.loc 0 0), some (.dat d), none, none]) (S := x :: (rest ++ [.lst (xs.map D.int)])) (S1 := x :: (rest ++ [.lst (xs.map D.int)])) (ds := []) rfl
      rw [this]
      simp
    exact x_par (x_cons a2 (x_cons a3 rfl))
  have e2 : sWhile 100 (fB (fBin neD (fVar 2) (fFrz (lDisp aNil)))) (sExpr (fMeth mAppend (fVar 3) (aCons (fMeth mPopAt (fVar 2) (aCons (fApp 2 draw (aCons (fVar 0) (aCons (fCall lenD (aCons (fVar 2) aNil)) aNil))) aNil)) aNil))) (rhoS rest d) (x :: (rest ++ [.lst (xs.map D.int), .lst []])) = .nx (rhoS rest d) (y :: (rest ++ [.lst [], .lst (ys.map D.int)])) := by
    unfold sWhile
    have : (x :: (rest ++ [C.lst (xs.map D.int), .lst []])).length = rest.length + 3 := by simp
    rw [this]
    exact h3
  have e : bShuf draw [some (.loc 0 0), some (.dat d), none, none] (x :: rest) = .rt (.loc (rest.length + 2) 0) (y :: (rest ++ [.lst [], .lst (ys.map D.int)])) :=
    x_seq e1 (x_seq e2 (x_ret rfl))
  have r : runF 4 false (bShuf draw) [.loc 0 0, .dat d] (x :: rest) = (bShuf draw [some (.loc 0 0), some (.dat d), none, none] (x :: rest)).fn false (rest.length + 1) := rfl
  rw [r, e]
  show retV false (rest.length + 1) (.loc (rest.length + 2) 0) _ = _
  unfold retV
  simp only [decide_eq_false (show ¬ rest.length + 2 < rest.length + 1 by omega), at_end]
  rw [List.take_succ_cons, List.take_left]
end
end Vz
namespace Vz
open PySem PySem.Spec PyProof.Rows L2
def forL (n : Nat) (bd : D → Rho → Sto → Out) : List D → Rho → Sto → Out
  | [], ρ, S => .nx ρ S
  | d :: ds, ρ, S => match bd d ρ S with
    | .nx ρ' S' => forL n bd ds (cutR n ρ') (S'.take n)
    | .ct ρ' S' => forL n bd ds (cutR n ρ') (S'.take n)
    | .bk ρ' S' => .nx (cutR n ρ') (S'.take n)
    | r => r
theorem forF_list {n : Nat} {bd : D → Rho → Sto → Out} {xs : List D} : ∀ (m i : Nat) (ρ : Rho) (S : Sto), i + m = xs.length → forF n bd (.ds xs) m i ρ S = forL n bd (xs.drop i) ρ S
  | 0, i, ρ, S, h => by
    have hi : i = xs.length := by omega
    subst hi
    unfold forF
    have : xs[xs.length]? = none := List.getElem?_eq_none (Nat.le_refl _)
    simp only [Wk.ls, this]
    rw [List.drop_length]
    rfl
  | m + 1, i, ρ, S, h => by
    have hi : i < xs.length := by omega
    unfold forF
    simp only [Wk.ls, List.getElem?_eq_getElem hi]
    rw [List.drop_eq_getElem_cons hi]
    unfold forL
    cases bd xs[i] ρ S with
    | nx ρ' S' => exact forF_list m (i + 1) _ _ (by omega)
    | ct ρ' S' => exact forF_list m (i + 1) _ _ (by omega)
    | bk _ _ => rfl
    | rt _ _ => rfl
    | exc _ _ _ => rfl
    | bad => rfl
theorem x_for {fi : FI} {gg : FG} {g : FS} {ρ : Rho} {S S1 : Sto} {xs : List D} (h : fi ρ S = .ok (.ds xs) S1) : sFor fi gg g ρ S = forL S1.length (bodyF gg g) xs ρ S1 := by
  unfold sFor
  rw [h]
  show forF S1.length (bodyF gg g) (.ds xs) xs.length 0 ρ S1 = _
  rw [forF_list xs.length 0 ρ S1 (Nat.zero_add _), List.drop_zero]
/-- the same for comprehensions -/
def lcL (n : Nat) (bd : D → Sto → R (Option D)) : List D → Sto → R (List D)
  | [], S => .ok [] S
  | d :: ds, S => (bd d S).bind fun o S1 => (lcL n bd ds (S1.take n)).bind fun r S2 => .ok (o.toList ++ r) S2
theorem lcF_list {n : Nat} {bd : D → Sto → R (Option D)} {xs : List D} : ∀ (m i : Nat) (S : Sto), i + m = xs.length → lcF n bd (.ds xs) m i S = lcL n bd (xs.drop i) S
  | 0, i, S, h => by
    have hi : i = xs.length := by omega
    subst hi
    unfold lcF
    have : xs[xs.length]? = none := List.getElem?_eq_none (Nat.le_refl _)
    simp only [Wk.ls, this]
    rw [List.drop_length]
    rfl
  | m + 1, i, S, h => by
    have hi : i < xs.length := by omega
    unfold lcF
    simp only [Wk.ls, List.getElem?_eq_getElem hi]
    rw [List.drop_eq_getElem_cons hi]
    unfold lcL
    cases bd xs[i] S with
    | ok o S1 =>
      show R.bind (lcF n bd (.ds xs) m (i + 1) (S1.take n)) _ = _
      rw [lcF_list m (i + 1) _ (by omega)]
      rfl
    | exc _ _ => rfl
    | bad => rfl
section
variable {xs : List Int} {t : D} {S : Sto}
theorem ints_intsOf : ∀ xs : List Int, intsOf (xs.map D.int) = some xs
  | [] => rfl
  | x :: xs => by
    show (intsOf (xs.map D.int)).bind _ = _
    rw [ints_intsOf xs]
    rfl
end
end Vz
namespace Vz
open PySem PySem.Spec PyProof.Rows L2
section
variable {S T : Sto} {k : Nat} {c : C}
theorem at_app0 : (S ++ T)[S.length]? = T[0]? := by
  rw [List.getElem?_append_right (Nat.le_refl _), Nat.sub_self]
theorem at_appk : (S ++ T)[S.length + k]? = T[k]? := by
  rw [List.getElem?_append_right (Nat.le_add_right _ _), Nat.add_sub_cancel_left]
theorem set_app0 : (S ++ T).set S.length c = S ++ T.set 0 c := by
  rw [List.set_append_right _ _ (Nat.le_refl _), Nat.sub_self]
theorem set_appk : (S ++ T).set (S.length + k) c = S ++ T.set k c := by
  rw [List.set_append_right _ _ (Nat.le_add_right _ _), Nat.add_sub_cancel_left]
theorem take_app0 : (S ++ T).take S.length = S := List.take_left
theorem take_appk : (S ++ T).take (S.length + k) = S ++ T.take k := by
  rw [List.take_append, List.take_of_length_le (Nat.le_add_right _ _), Nat.add_sub_cancel_left]
theorem at_one : S[S.length]? = none := List.getElem?_eq_none (Nat.le_refl _)
theorem set_one : S.set S.length c = S := List.set_eq_of_length_le (Nat.le_refl _)
theorem take_one : S.take S.length = S := List.take_length
end
section
variable {n : Nat} {bd : D → Rho → Sto → Out} {α : Type} {enc : α → D}
end
/-- a loop by places -/
theorem forL_ix {n : Nat} {bd : D → Rho → Sto → Out} {α : Type} {enc : α → D} {I : Nat → Rho → Sto → Prop} : ∀ {xs : List α} {ρ : Rho} {S : Sto} (k : Nat), (∀ i a, xs[i]? = some a → ∀ ρ S, I (k + i) ρ S → ∃ ρ' S', bd (enc a) ρ S = .nx ρ' S' ∧ I (k + i + 1) (cutR n ρ') (S'.take n)) → I k ρ S →
    ∃ ρ' S', forL n bd (xs.map enc) ρ S = .nx ρ' S' ∧ I (k + xs.length) ρ' S'
  | [], ρ, S, k, _, h => ⟨ρ, S, rfl, h⟩
  | a :: xs, ρ, S, k, hs, h => by
    obtain ⟨ρ', S', e, h'⟩ := hs 0 a rfl ρ S h
    obtain ⟨ρ2, S2, e2, h2⟩ := forL_ix (xs := xs) (I := I) (k + 1) (fun i b hb ρ S hI => by
      have := hs (i + 1) b (by rw [List.getElem?_cons_succ]; exact hb) ρ S (by rw [Nat.add_assoc, Nat.add_comm 1] at hI; exact hI)
      obtain ⟨ρ3, S3, e3, h3⟩ := this
      exact ⟨ρ3, S3, e3, by rw [show k + 1 + i + 1 = k + (i + 1) + 1 by omega]; exact h3⟩) h'
    refine ⟨ρ2, S2, ?_, by rw [show k + (a :: xs).length = k + 1 + xs.length by simp; omega]; exact h2⟩
    show (match bd (enc a) ρ S with | .nx ρ' S' => forL n bd (xs.map enc) (cutR n ρ') (S'.take n) | .ct ρ' S' => forL n bd (xs.map enc) (cutR n ρ') (S'.take n) | .bk ρ' S' => .nx (cutR n ρ') (S'.take n) | r => r) = _
    rw [e]
    exact e2
/-- a for statement, then the rest -/
theorem c_for {fi : FI} {gg : FG} {g h : FS} {ρ : Rho} {S S1 : Sto} {r : Out} {α : Type} {enc : α → D} {xs : List α} (I : Nat → Rho → Sto → Prop) (hi : fi ρ S = .ok (.ds (xs.map enc)) S1) (h0 : I 0 ρ S1)
    (hs : ∀ i a, xs[i]? = some a → ∀ ρ S, I i ρ S → ∃ ρ' S', bodyF gg g (enc a) ρ S = .nx ρ' S' ∧ I (i + 1) (cutR S1.length ρ') (S'.take S1.length)) (hk : ∀ ρ' S', I xs.length ρ' S' → h ρ' S' = r) : sSeq (sFor fi gg g) h ρ S = r := by
  obtain ⟨ρ', S', e, h'⟩ := forL_ix (n := S1.length) (bd := bodyF gg g) (enc := enc) (I := I) (xs := xs) (ρ := ρ) (S := S1) 0 (fun i a ha ρ S hI => by
    rw [Nat.zero_add] at hI ⊢
    exact hs i a ha ρ S hI) h0
  rw [Nat.zero_add] at h'
  exact x_seq ((x_for hi).trans e) (hk ρ' S' h')
theorem range_at {n i a : Nat} (h : (List.range n)[i]? = some a) : a = i ∧ i < n := by
  obtain ⟨h1, h2⟩ := List.getElem?_eq_some_iff.mp h
  rw [List.getElem_range] at h2
  rw [List.length_range] at h1
  exact ⟨h2.symm, h1⟩
theorem lcL_fm {n : Nat} {bd : D → Sto → R (Option D)} {α : Type} {enc : α → D} {g : α → Option D} {S : Sto} (hn : S.length = n) : ∀ {xs : List α}, (∀ a, a ∈ xs → ∃ T, bd (enc a) S = .ok (g a) (S ++ T)) → lcL n bd (xs.map enc) S = .ok (xs.filterMap g) S
  | [], _ => rfl
  | a :: xs, h => by
    obtain ⟨T, e⟩ := h a (List.mem_cons_self ..)
    show R.bind (bd (enc a) S) _ = _
    rw [e]
    show R.bind (lcL n bd (xs.map enc) ((S ++ T).take n)) _ = _
    rw [← hn, List.take_left]
    have := lcL_fm (g := g) (enc := enc) rfl (xs := xs) (fun b hb => h b (List.mem_cons_of_mem _ hb))
    rw [this]
    show R.ok _ _ = _
    rw [List.filterMap_cons]
    cases g a <;> rfl
theorem x_comp {fi : FI} {vs : List Nat} {gg : FC} {t : FT} {f : FE} {ρ : Rho} {S S1 : Sto} {α : Type} {enc : α → D} {g : α → Option D} {xs : List α} (h : fi ρ S = .ok (.ds (xs.map enc)) S1) (hl : xs.length ≤ lim)
    (hb : ∀ a, a ∈ xs → ∃ T, lcB gg t f (wipeR ρ vs) (enc a) S1 = .ok (g a) (S1 ++ T)) : lComp fi vs gg t f ρ S = .ok (xs.filterMap g) S1 := by
  unfold lComp
  rw [h]
  show (match (some (xs.map enc)).bind small with | some ds => lcF S1.length (lcB gg t f (wipeR ρ vs)) (.ds (xs.map enc)) ds.length 0 S1 | none => .bad) = _
  have : small (xs.map enc) = some (xs.map enc) := by
    unfold small
    rw [List.length_map, decide_eq_true hl]
    rfl
  rw [Option.bind_some, this]
  show lcF S1.length (lcB gg t f (wipeR ρ vs)) (.ds (xs.map enc)) (xs.map enc).length 0 S1 = _
  rw [lcF_list _ 0 S1 (Nat.zero_add _), List.drop_zero]
  exact lcL_fm rfl hb
/-- without an if -/
theorem x_compM {fi : FI} {vs : List Nat} {gg : FC} {f : FE} {ρ : Rho} {S S1 : Sto} {α : Type} {enc : α → D} {g : α → D} {xs : List α} (h : fi ρ S = .ok (.ds (xs.map enc)) S1) (hl : xs.length ≤ lim)
    (hb : ∀ a, a ∈ xs → ∃ T, lcB gg fYes f (wipeR ρ vs) (enc a) S1 = .ok (some (g a)) (S1 ++ T)) : lComp fi vs gg fYes f ρ S = .ok (xs.map g) S1 := by
  rw [x_comp (g := fun a => some (g a)) h hl hb]
  congr 1
  induction xs with
  | nil => rfl
  | cons a xs ih => rw [List.filterMap_cons]; simp
/-- .. that keeps some -/
theorem x_compF {fi : FI} {vs : List Nat} {gg : FC} {t : FT} {f : FE} {ρ : Rho} {S S1 : Sto} {α : Type} {enc : α → D} {p : α → Bool} {g : α → D} {xs : List α} (h : fi ρ S = .ok (.ds (xs.map enc)) S1) (hl : xs.length ≤ lim)
    (hb : ∀ a, a ∈ xs → ∃ T, lcB gg t f (wipeR ρ vs) (enc a) S1 = .ok (if p a then some (g a) else none) (S1 ++ T)) : lComp fi vs gg t f ρ S = .ok ((xs.filter p).map g) S1 := by
  rw [x_comp (g := fun a => if p a then some (g a) else none) h hl hb]
  congr 1
  clear h hl hb
  induction xs with
  | nil => rfl
  | cons a xs ih =>
    rw [List.filterMap_cons, List.filter_cons]
    by_cases hp : p a = true
    · simp only [hp, if_true, List.map_cons, ih]
    · simp only [hp, if_false, ih, Bool.false_eq_true]
theorem x_frz {g : FL} {ρ : Rho} {S S1 : Sto} {ds : List D} (h1 : g ρ S = .ok ds S1) : fFrz g ρ S = .ok (.dat (.list ds)) S1 := by
  unfold fFrz
  rw [h1]
  rfl
theorem run_dat {m : Nat} {c : Bool} {fb : FS} {ws : List W} {S T : Sto} {d : D} (h : fb (ws.map some ++ List.replicate (m - ws.length) none) S = .rt (.dat d) (S ++ T)) : runF m c fb ws S = .ok (.dat d) S := by
  unfold runF
  rw [h]
  show retV c S.length (.dat d) (S ++ T) = _
  show R.ok (W.dat d) ((S ++ T).take S.length) = _
  rw [List.take_left]
theorem addD_ii (i j : Int) : addD (.int i) (.int j) = some (.int (i + j)) := rfl
theorem subI_ii (i j : Int) : subI (.int i) (.int j) = some (.int (i - j)) := rfl
theorem ltI_ii (i j : Int) : ltI (.int i) (.int j) = some (.bool (decide (i < j))) := rfl
theorem leI_ii (i j : Int) : leI (.int i) (.int j) = some (.bool (decide (i ≤ j))) := rfl
theorem gtI_ii (i j : Int) : gtI (.int i) (.int j) = some (.bool (decide (j < i))) := rfl
theorem geI_ii (i j : Int) : geI (.int i) (.int j) = some (.bool (decide (j ≤ i))) := rfl
theorem eqD_ii (i j : Int) : eqD (.int i) (.int j) = some (.bool (decide (i = j))) := by
  unfold eqD
  rw [show shp (.int i) = true from rfl, show shp (.int j) = true from rfl]
  show some (D.bool (i == j)) = _
  congr 2
theorem isN_non : isN .none .none = some (.bool true) := rfl
theorem isN_int (i : Int) : isN (.int i) .none = some (.bool false) := rfl
theorem isN_str (i : Str) : isN (.str i) .none = some (.bool false) := rfl
theorem mulD_r {i j : Int} (h : -(2 ^ 64) < j ∧ j < 2 ^ 64) : mulD (.int i) (.int j) = some (.int (i * j)) := mul_guard (.inr h)
theorem iargs_rng1 {f : FA} {ρ : Rho} {S S1 : Sto} {n : Nat} (h : f ρ S = .ok [.dat (.int (n : Int))] S1) (hn : n ≤ 1000000) : iArgs rng1 f ρ S = .ok (.ds ((List.range n).map fun (i : Nat) => .int (i : Int))) S1 := by
  unfold iArgs
  rw [h]
  show R.lift ((rng1 [.int (n : Int)]).map Wk.ds) S1 = _
  unfold rng1
  have : decide ((n : Int).natAbs ≤ 1000000) = true := decide_eq_true (by omega)
  simp only [this]
  show R.ok (Wk.ds (rng 0 n)) S1 = _
  unfold rng
  simp
end Vz
namespace Vz
open PySem PySem.Spec PyProof.Rows L2
def b_marks_of : FS := (sSeq (sSet 2 (fCell (lDisp aNil))) (sSeq (sFor (iSeq (fVar 1)) (oName 3) (sIf (fB (fBin isN (fVar 3) (fC .none))) (sExpr (fMeth mAppend (fVar 2) (aCons (fNeg (fC (.int 1))) aNil))) (sExpr (fMeth mAppend (fVar 2) (aCons (fIf (fB (fBin eqD (fVar 3) (fC (.str "?")))) (fC .none) (fIndex (fVar 0) (aCons (fVar 3) aNil))) aNil))))) (sRet (fVar 2))))
def F_marks_of : List W → Sto → R W := runF 4 false b_marks_of
def b__law_source : FS := (sSeq (sSet 2 (fC (.int 0))) (sSeq (sIf (fB (fBin ltI (fVar 1) (fLenS (fVar 0)))) (sSet 2 (fIxS (fVar 0) (fVar 1))) sNil) (sRet (fCell (lDisp (aCons (fBin mulD (fCall absD (aCons (fVar 2) aNil)) (fCall intD (aCons (fBin geI (fCall absD (aCons (fVar 2) aNil)) (fBin powI (fC (.int 10)) (fC (.int 18)))) aNil))) (aCons (fBin modI (fBin mulD (fBin addD (fBin addD (fBin modI (fVar 2) (fC (.int 2147483563))) (fBin mulD (fC (.int 88001)) (fVar 1))) (fC (.int 61))) (fC (.int 39869))) (fC (.int 2147483543))) (aCons (fC (.int 0)) aNil))))))))
def F__law_source : List W → Sto → R W := runF 3 true b__law_source
def b__law_draw (self : List W → Sto → R W) : FS := (sSeq (sIf (fB (fBin gtI (fBin ixD (fVar 0) (fC (.int 0))) (fC (.int 0)))) (sSeq (sSet 3 (fBin modI (fBin ixD (fVar 0) (fC (.int 0))) (fVar 1))) (sSeq (sAsg (fBin divI (fBin ixD (fVar 0) (fC (.int 0))) (fVar 1)) (oSub (fVar 0) (fC (.int 0)))) (sRet (fVar 3)))) sNil) (sSeq (sIf (fB (fBin gtI (fVar 1) (fBin powI (fC (.int 10)) (fC (.int 7))))) (sRet (fBin modI (fBin addD (fApp 2 self (aCons (fVar 0) (aCons (fBin powI (fC (.int 10)) (fC (.int 7))) aNil))) (fBin mulD (fBin powI (fC (.int 10)) (fC (.int 7))) (fApp 2 self (aCons (fVar 0) (aCons (fBin addD (fBin divI (fVar 1) (fBin powI (fC (.int 10)) (fC (.int 7)))) (fC (.int 1))) aNil))))) (fVar 1))) sNil) (sSeq (sAsg (fBin addD (fBin ixD (fVar 0) (fC (.int 2))) (fC (.int 1))) (oSub (fVar 0) (fC (.int 2)))) (sSeq (sSet 2 (fBin modI (fBin powI (fBin addD (fBin ixD (fVar 0) (fC (.int 1))) (fBin mulD (fC (.int 60013)) (fBin ixD (fVar 0) (fC (.int 2))))) (fC (.int 3))) (fC (.int 2147483579)))) (sRet (fBin modI (fBin divI (fBin modI (fBin addD (fBin mulD (fVar 2) (fBin addD (fBin modI (fVar 2) (fC (.int 40009))) (fC (.int 13)))) (fBin mulD (fBin ixD (fVar 0) (fC (.int 2))) (fC (.int 7459)))) (fC (.int 2147483647))) (fC (.int 32))) (fVar 1)))))))
def F__law_draw : Nat → List W → Sto → R W
  | 0 => fBad
  | n + 1 => runF 4 false (b__law_draw (F__law_draw n))
def b__law_equal (self : List W → Sto → R W) : FS := (sSeq (sIf (fB (fIsi (fun d => gList d || gTup d) (fVar 1))) (sSeq (sIf (fOr (fB (fBin neD (fIsi gList (fVar 0)) (fIsi gList (fVar 1)))) (fB (fBin neD (fIsi gTup (fVar 0)) (fIsi gTup (fVar 1))))) (sRet (fC (.bool false))) sNil) (sRet (fAndV (fBin eqD (fCall lenD (aCons (fVar 0) aNil)) (fCall lenD (aCons (fVar 1) aNil))) (fCall allD (aCons (fFrz (lComp (iFr (two zipD) (aCons (fVar 0) (aCons (fVar 1) aNil))) [2, 3] (cTup 2 (cnCons 2 (cnCons 3 cnNil))) fYes (fApp 2 self (aCons (fVar 2) (aCons (fVar 3) aNil))))) aNil))))) sNil) (sSeq (sIf (fOr (fB (fBin isN (fVar 1) (fC .none))) (fB (fIsi gStr (fVar 1)))) (sRet (fAndV (fBin eqD (fVar 0) (fVar 1)) (fBin eqD (fIsi gStr (fVar 0)) (fIsi gStr (fVar 1))))) sNil) (sRet (fAndV (fIsi gInt (fVar 0)) (fAndV (fBin eqD (fIsi gBool (fVar 0)) (fIsi gBool (fVar 1))) (fBin eqD (fVar 0) (fVar 1)))))))
def F__law_equal : Nat → List W → Sto → R W
  | 0 => fBad
  | n + 1 => runF 4 false (b__law_equal (F__law_equal n))
def B__law_shuffled (c__law_draw : List W → Sto → R W) : FS := (sSeq (sPar 2 3 (aCons (fCell (lCall listD (aCons (fVar 1) aNil))) (aCons (fCell (lDisp aNil)) aNil))) (sSeq (sWhile 100 (fB (fBin neD (fVar 2) (fFrz (lDisp aNil)))) (sExpr (fMeth mAppend (fVar 3) (aCons (fMeth mPopAt (fVar 2) (aCons (fApp 2 c__law_draw (aCons (fVar 0) (aCons (fCall lenD (aCons (fVar 2) aNil)) aNil))) aNil)) aNil)))) (sRet (fVar 3))))
def b__law_shuffled : FS := B__law_shuffled (F__law_draw 3)
def F__law_shuffled : List W → Sto → R W := runF 4 false b__law_shuffled
end Vz
namespace Vz
open PySem PySem.Spec PyProof.Rows L2
section
variable {S : Sto}
def chI (m : Int) : Nat → Int
  | 0 => 1
  | k + 1 => chI m k * (m - (k : Int)) / ((k : Int) + 1)
abbrev Mark := Option Int
def encM : Mark → D
  | none => .none
  | some k => .int k
def canB (m : Mark) (f : Int) : Bool := match m with
  | none => true
  | some k => decide (k = f - 1)
theorem ixD_get {ms : List Mark} {p : Nat} (hp : p < ms.length) : ixD (.list (ms.map encM)) (.int (p : Int)) = some (encM (ms.getD p none)) := by
  show atI (ms.map encM) (p : Int) = _
  unfold atI ixN
  rw [if_pos (Int.natCast_nonneg p), if_pos (by rw [List.length_map]; exact_mod_cast hp)]
  simp [List.getD_eq_getElem?_getD, hp]
def gSum (ms : List Mark) (rows : List (List Int)) (l f : Nat) : Int :=
  (((List.range l).filter fun p => canB (ms.getD (f + p) none) (f : Int)).map fun p => chI ((l - 1 : Nat) : Int) p * (rows.getD p []).getD f 0 * (rows.getD (l - 1 - p) []).getD (f + p + 1) 0).sum
def gRow (ms : List Mark) (rows : List (List Int)) (l : Nat) : List Int := (List.range (ms.length + 1 - l)).map fun f => gSum ms rows l f
def gRows (ms : List Mark) : Nat → List (List Int)
  | 0 => [List.replicate (ms.length + 1) 1]
  | l + 1 => gRows ms l ++ [gRow ms (gRows ms l) (l + 1)]
/-- how many orders the gap of length l at f has -/
def gap (ms : List Mark) (l f : Nat) : Int := ((gRows ms l).getD l []).getD f 0
theorem valD_put {κ : Type} [DecidableEq κ] {k k' : κ} {d : D} : ∀ ps : List (κ × D), valD (putD ps k d) k' = if k = k' then some d else valD ps k' := by
  have app : ∀ (ps : List (κ × D)) , valD (ps ++ [(k, d)]) k' = match valD ps k' with | some x => some x | none => if k = k' then some d else none := by
    intro ps
    induction ps with
    | nil =>
      show (match decide (k = k') with | true => some d | false => valD [] k') = _
      by_cases h : k = k'
      · simp [h, valD]
      · simp [h, valD]
    | cons p ps ih =>
      obtain ⟨a, b⟩ := p
      show (match decide (a = k') with | true => some b | false => valD (ps ++ [(k, d)]) k') = match (match decide (a = k') with | true => some b | false => valD ps k') with | some x => some x | none => _
      by_cases h : a = k'
      · simp [h]
      · simp only [h, decide_false]
        exact ih
  have mp : ∀ (ps : List (κ × D)), valD (ps.map fun p => if p.1 = k then (p.1, d) else p) k' = if k = k' then (valD ps k').map (fun _ => d) else valD ps k' := by
    intro ps
    induction ps with
    | nil =>
      show none = _
      split <;> rfl
    | cons p ps ih =>
      obtain ⟨a, b⟩ := p
      by_cases hk : a = k
      · subst hk
        simp only [List.map_cons, if_true]
        show (match decide (a = k') with | true => some d | false => valD _ k') = _
        by_cases h : a = k'
        · simp [h, valD]
        · simp only [h, decide_false, if_false] at ih ⊢
          rw [ih]
          show _ = (match decide (a = k') with | true => some b | false => valD ps k')
          simp [h]
      · simp only [List.map_cons, hk, if_false]
        show (match decide (a = k') with | true => some b | false => valD _ k') = _
        by_cases h : a = k'
        · subst h
          have : ¬ k = a := fun z => hk z.symm
          simp [this, valD]
        · simp only [h, decide_false]
          rw [ih]
          by_cases h2 : k = k'
          · simp [h2, valD, h]
          · simp [h2, valD, h]
  have key : ∀ (ps : List (κ × D)), (ps.any fun p => decide (p.1 = k)) = (valD ps k).isSome := by
    intro ps
    induction ps with
    | nil => rfl
    | cons p ps ih =>
      obtain ⟨a, b⟩ := p
      rw [List.any_cons, ih]
      show _ = (match decide (a = k) with | true => some b | false => valD ps k).isSome
      by_cases h : a = k <;> simp [h]
  intro ps
  unfold putD
  have hk := key ps
  cases hv : (ps.any fun p => decide (p.1 = k)) with
  | true =>
    rw [hv] at hk
    show valD (ps.map fun p => if p.1 = k then (p.1, d) else p) k' = _
    rw [mp]
    by_cases h : k = k'
    · subst h
      rw [if_pos rfl, if_pos rfl]
      cases hx : valD ps k with
      | none => rw [hx] at hk; cases hk
      | some _ => rfl
    · rw [if_neg h, if_neg h]
  | false =>
    rw [hv] at hk
    show valD (ps ++ [(k, d)]) k' = _
    rw [app]
    by_cases h : k = k'
    · subst h
      cases hx : valD ps k with
      | none => rfl
      | some _ => rw [hx] at hk; cases hk
    · rw [if_neg h, if_neg h]
      cases valD ps k' <;> rfl
def GapOk (ms : List Mark) (l f : Nat) (ps : List (List Key × D)) : Prop := ∀ f' e' : Nat, f' ≤ e' → e' ≤ ms.length → (e' - f' < l ∨ (e' - f' = l ∧ f' < f)) → valD ps [.inl (f' : Int), .inl (e' : Int)] = some (.int (gap ms (e' - f') f'))
theorem GapOk.put {ms : List Mark} {l f : Nat} {ps : List (List Key × D)} (h : GapOk ms l f ps) : GapOk ms l (f + 1) (putD ps [.inl (f : Int), .inl ((f + l : Nat) : Int)] (.int (gap ms l f))) := by
  intro f' e' h1 h2 h3
  rw [valD_put]
  by_cases hk : f' = f ∧ e' = f + l
  · obtain ⟨rfl, rfl⟩ := hk
    rw [if_pos rfl, Nat.add_sub_cancel_left]
  · rw [if_neg (by
      intro z
      simp only [List.cons.injEq, Sum.inl.injEq, and_true] at z
      omega)]
    exact h f' e' h1 h2 (by omega)
theorem intsOf_map : ∀ xs : List Int, intsOf (xs.map D.int) = some xs := ints_intsOf
end
end Vz
namespace Vz
open PySem PySem.Spec PyProof.Rows L2
inductive Anc where
  | front | unk | it (k : Int)
  deriving DecidableEq
def encA : Anc → D
  | .front => .none
  | .unk => .str "?"
  | .it k => .int k
def markA (xs : List Int) : Anc → Mark
  | .front => some (-1)
  | .unk => none
  | .it k => some (xs.idxOf k : Nat)
/-- its item is there -/
def Anc.inn (xs : List Int) : Anc → Prop
  | .it k => k ∈ xs
  | _ => True
section
variable {S : Sto} {xs : List Int} {t : D} {as : List Anc}
abbrev tupI (xs : List Int) : D := .tup .nod (xs.map D.int)
end
end Vz
namespace Vz
open PySem PySem.Spec PyProof.Rows L2
mutual
/-- no dicts, no long lists -/
def okD : D → Bool
  | .none => true
  | .bool _ => true
  | .int _ => true
  | .str x => PyData.strOk x
  | .list xs => okDs xs && decide (xs.length ≤ lim)
  | .tup _ xs => okDs xs && decide (xs.length ≤ lim)
  | .dT _ => false
  | .dK _ => false
def okDs : List D → Bool
  | [] => true
  | x :: xs => okD x && okDs xs
end
mutual
def dep : D → Nat
  | .list xs => deps xs + 1
  | .tup _ xs => deps xs + 1
  | _ => 0
def deps : List D → Nat
  | [] => 0
  | x :: xs => max (dep x) (deps xs)
end
mutual
/-- equal, with the same kinds -/
def eqT : D → D → Bool
  | .list xs, .list ys => eqTs xs ys
  | .tup _ xs, .tup _ ys => eqTs xs ys
  | .none, .none => true
  | .str x, .str y => x == y
  | .int i, .int j => i == j
  | .bool a, .bool b => a == b
  | _, _ => false
def eqTs : List D → List D → Bool
  | [], [] => true
  | x :: xs, y :: ys => eqT x y && eqTs xs ys
  | _, _ => false
end
mutual
theorem canLay_ok : ∀ {d : D}, okD d = true → d.py.canLay0 = true
  | .none, _ => rfl
  | .bool _, _ => rfl
  | .int _, _ => rfl
  | .str x, h => h
  | .list xs, h => canLays_ok (Bool.and_eq_true_iff.mp h).1
  | .tup _ xs, h => canLays_ok (Bool.and_eq_true_iff.mp h).1
theorem canLays_ok : ∀ {ds : List D}, okDs ds = true → PyData.canLayAll0 (pyAll ds) = true
  | [], _ => rfl
  | x :: xs, h => by
    obtain ⟨h1, h2⟩ := Bool.and_eq_true_iff.mp h
    show (x.py.canLay0 && PyData.canLayAll0 (pyAll xs)) = true
    rw [canLay_ok h1, canLays_ok h2]
    rfl
end
mutual
theorem depth_ok : ∀ (d : D), okD d = true → d.py.depth = dep d
  | .none, _ => rfl
  | .bool _, _ => rfl
  | .int _, _ => rfl
  | .str x, h => rfl
  | .list xs, h => by
    show PyData.depthAll (pyAll xs) + 1 = _
    rw [depths_ok xs (Bool.and_eq_true_iff.mp h).1]
    rfl
  | .tup _ xs, h => by
    show PyData.depthAll (pyAll xs) + 1 = _
    rw [depths_ok xs (Bool.and_eq_true_iff.mp h).1]
    rfl
theorem depths_ok : ∀ (ds : List D), okDs ds = true → PyData.depthAll (pyAll ds) = deps ds
  | [], _ => rfl
  | x :: xs, h => by
    obtain ⟨h1, h2⟩ := Bool.and_eq_true_iff.mp h
    show max x.py.depth (PyData.depthAll (pyAll xs)) = _
    rw [depth_ok x h1, depths_ok xs h2]
    rfl
end
theorem shp_ok {d : D} (h : okD d = true) (h2 : dep d ≤ 64) : shp d = true := by
  unfold shp SeqAt.shaped
  rw [canLay_ok h, depth_ok d h]
  simpa using h2
theorem okDs_mem : ∀ {ds : List D} {d : D}, okDs ds = true → d ∈ ds → okD d = true
  | x :: xs, d, h, m => by
    obtain ⟨h1, h2⟩ := Bool.and_eq_true_iff.mp h
    rcases List.mem_cons.mp m with e | e
    · rw [e]; exact h1
    · exact okDs_mem h2 e
theorem deps_mem : ∀ {ds : List D} {d : D}, d ∈ ds → dep d ≤ deps ds
  | x :: xs, d, m => by
    show _ ≤ max (dep x) (deps xs)
    rcases List.mem_cons.mp m with e | e
    · rw [e]; exact Nat.le_max_left ..
    · exact Nat.le_trans (deps_mem e) (Nat.le_max_right ..)
theorem eqTs_zip : ∀ (xs ys : List D), eqTs xs ys = (decide (xs.length = ys.length) && ((xs.zip ys).map fun p => eqT p.1 p.2).all id)
  | [], [] => rfl
  | [], y :: ys => by simp [eqTs]
  | x :: xs, [] => by simp [eqTs]
  | x :: xs, y :: ys => by
    simp only [eqTs, eqTs_zip xs ys, List.zip_cons_cons, List.map_cons, List.all_cons, List.length_cons, Nat.add_right_cancel_iff, id]
    cases eqT x y <;> simp
theorem pairs_zip : ∀ (xs ys : List D), pairs xs ys = (xs.zip ys).map fun p => .tup .key [p.1, p.2]
  | [], _ => by simp [pairs]
  | _ :: _, [] => by simp [pairs]
  | x :: xs, y :: ys => by
    simp only [pairs, pairs_zip xs ys, List.zip_cons_cons, List.map_cons]
theorem boolsOf_map : ∀ bs : List Bool, boolsOf (bs.map D.bool) = some bs
  | [] => rfl
  | b :: bs => by
    show (boolsOf (bs.map D.bool)).bind _ = _
    rw [boolsOf_map bs]
    rfl
theorem neD_bb (a b : Bool) : neD (.bool a) (.bool b) = some (.bool (a != b)) := rfl
theorem eqD_bb (a b : Bool) : eqD (.bool a) (.bool b) = some (.bool (a == b)) := rfl
theorem eqD_of {x y : D} (h1 : shp x = true) (h2 : shp y = true) : eqD x y = some (.bool (PyData.eqv x.py y.py)) := by
  unfold eqD
  rw [h1, h2]
  rfl
theorem neD_of {x y : D} (h1 : shp x = true) (h2 : shp y = true) : neD x y = some (.bool (!PyData.eqv x.py y.py)) := by
  unfold neD
  rw [h1, h2]
  rfl
theorem isN_of (x : D) : isN x .none = some (.bool (match x with | .none => true | _ => false)) := by
  cases x <;> rfl
theorem gB_b (b : Bool) : gBool (.bool b) = true := rfl
theorem gB_i (b : Int) : gBool (.int b) = false := rfl
theorem b_tf : (true != false) = true := rfl
theorem b_ft : (false != true) = true := rfl
section
variable {S : Sto}
theorem leq_seq {k : Nat} {x y : D} {xs ys : List D} (hx : okDs xs = true) (hlx : xs.length ≤ lim) (hly : ys.length ≤ lim) (sx : seqOf x = some xs) (sy : seqOf y = some ys) (lx : lenD [x] = some (.int (xs.length : Nat))) (ly : lenD [y] = some (.int (ys.length : Nat)))
    (ih : ∀ p ∈ xs.zip ys, F__law_equal k [.dat p.1, .dat p.2] S = .ok (.dat (.bool (eqT p.1 p.2))) S) :
    fAndV (fBin eqD (fCall lenD (aCons (fVar 0) aNil)) (fCall lenD (aCons (fVar 1) aNil))) (fCall allD (aCons (fFrz (lComp (iFr (two zipD) (aCons (fVar 0) (aCons (fVar 1) aNil))) [2, 3] (cTup 2 (cnCons 2 (cnCons 3 cnNil))) fYes (fApp 2 (F__law_equal k) (aCons (fVar 2) (aCons (fVar 3) aNil))))) aNil)) [some (.dat x), some (.dat y), none, none] S = .ok (.dat (.bool (eqTs xs ys))) S := by
  have hz : iFr (two zipD) (aCons (fVar 0) (aCons (fVar 1) aNil)) [some (.dat x), some (.dat y), none, none] S = .ok (.ds ((xs.zip ys).map fun p => .tup .key [p.1, p.2])) S := by
    have : zipD x y = some (pairs xs ys) := by
      unfold zipD
      rw [sx, sy]
      rfl
    simp only [sSeq, sSet, sIf, sRet, sRetN, sExpr, sNil, sPass, sAug, sPar, sAsg, sBreak, sCont, sSetL, Out.andThen, R.then, R.bind, R.lift, R.of, R.get, R.noX, fVar, fC, fBin, fB, asB, fAnd, fOr, fNot, fV, fAndV, fOrV, fNotV, fIf, fChain, aNil, aCons, rds, rd2, rd, frd, frds, dats, fTup, fTupK, fFrz, fCell, lDisp, lCat, fCall, lCall, fNo, fYesI, asI, fSl, fFz, fz, fMeth, fMeth0, LstW, lstC, fIndex, fIsi, fNeg, fRev, lRange, fApp, fYes, oName, onNil, onCons, oTup, oSub, stB, cName, cnNil, cnCons, cTup, wipeR, one, two, onL, ne1, bodyF, lcB, iSeq, iArgs, iFr, walk, Wk.ls, seqOf, ifO, cond, cutW, List.getElem?_cons_zero, List.getElem?_cons_succ, List.getElem?_nil, List.take_succ_cons, List.take_zero, List.take_nil, Nat.zero_add, List.set_cons_zero, List.set_cons_succ, List.set_nil, List.map_cons, List.map_nil, List.length_cons, List.length_nil, Option.map_some, Option.map_none, Option.bind_some, Option.bind_none, at_app0, at_appk, set_app0, set_appk, take_app0, take_appk, at_one, set_one, take_one, List.append_assoc, List.cons_append, List.nil_append, List.append_nil, Bool.not_true, Bool.not_false, Bool.and_true, Bool.true_and, Bool.or_true, Bool.true_or, Bool.false_or, Bool.or_false, Bool.and_false, Bool.false_and, decide_true, decide_false, if_true, if_false, ite_true, ite_false, this, pairs_zip]
  have hc := x_compM (vs := [2, 3]) (gg := cTup 2 (cnCons 2 (cnCons 3 cnNil))) (f := fApp 2 (F__law_equal k) (aCons (fVar 2) (aCons (fVar 3) aNil))) (g := fun p => .bool (eqT p.1 p.2)) hz (by
    rw [List.length_zip]
    exact Nat.le_trans (Nat.min_le_left ..) hlx) fun p hp => ⟨[], by
      have := ih p hp
      simp only [sSeq, sSet, sIf, sRet, sRetN, sExpr, sNil, sPass, sAug, sPar, sAsg, sBreak, sCont, sSetL, Out.andThen, R.then, R.bind, R.lift, R.of, R.get, R.noX, fVar, fC, fBin, fB, asB, fAnd, fOr, fNot, fV, fAndV, fOrV, fNotV, fIf, fChain, aNil, aCons, rds, rd2, rd, frd, frds, dats, fTup, fTupK, fFrz, fCell, lDisp, lCat, fCall, lCall, fNo, fYesI, asI, fSl, fFz, fz, fMeth, fMeth0, LstW, lstC, fIndex, fIsi, fNeg, fRev, lRange, fApp, fYes, oName, onNil, onCons, oTup, oSub, stB, cName, cnNil, cnCons, cTup, wipeR, one, two, onL, ne1, bodyF, lcB, iSeq, iArgs, iFr, walk, Wk.ls, seqOf, ifO, cond, cutW, List.getElem?_cons_zero, List.getElem?_cons_succ, List.getElem?_nil, List.take_succ_cons, List.take_zero, List.take_nil, Nat.zero_add, List.set_cons_zero, List.set_cons_succ, List.set_nil, List.map_cons, List.map_nil, List.length_cons, List.length_nil, Option.map_some, Option.map_none, Option.bind_some, Option.bind_none, at_app0, at_appk, set_app0, set_appk, take_app0, take_appk, at_one, set_one, take_one, List.append_assoc, List.cons_append, List.nil_append, List.append_nil, Bool.not_true, Bool.not_false, Bool.and_true, Bool.true_and, Bool.or_true, Bool.true_or, Bool.false_or, Bool.or_false, Bool.and_false, Bool.false_and, decide_true, decide_false, if_true, if_false, ite_true, ite_false, this]⟩
  have hc2 : ((xs.zip ys).map fun p => D.bool (eqT p.1 p.2)) = ((xs.zip ys).map fun p => eqT p.1 p.2).map D.bool := by
    rw [List.map_map]
    rfl
  rw [hc2] at hc
  rw [eqTs_zip]
  have hlen : decide (((xs.length : Nat) : Int) = ((ys.length : Nat) : Int)) = decide (xs.length = ys.length) := by
    by_cases h : xs.length = ys.length
    · rw [decide_eq_true h, decide_eq_true (by omega)]
    · rw [decide_eq_false h, decide_eq_false (by omega)]
  simp only [sSeq, sSet, sIf, sRet, sRetN, sExpr, sNil, sPass, sAug, sPar, sAsg, sBreak, sCont, sSetL, Out.andThen, R.then, R.bind, R.lift, R.of, R.get, R.noX, fVar, fC, fBin, fB, asB, fAnd, fOr, fNot, fV, fAndV, fOrV, fNotV, fIf, fChain, aNil, aCons, rds, rd2, rd, frd, frds, dats, fTup, fTupK, fFrz, fCell, lDisp, lCat, fCall, lCall, fNo, fYesI, asI, fSl, fFz, fz, fMeth, fMeth0, LstW, lstC, fIndex, fIsi, fNeg, fRev, lRange, fApp, fYes, oName, onNil, onCons, oTup, oSub, stB, cName, cnNil, cnCons, cTup, wipeR, one, two, onL, ne1, bodyF, lcB, iSeq, iArgs, iFr, walk, Wk.ls, seqOf, ifO, cond, cutW, List.getElem?_cons_zero, List.getElem?_cons_succ, List.getElem?_nil, List.take_succ_cons, List.take_zero, List.take_nil, Nat.zero_add, List.set_cons_zero, List.set_cons_succ, List.set_nil, List.map_cons, List.map_nil, List.length_cons, List.length_nil, Option.map_some, Option.map_none, Option.bind_some, Option.bind_none, at_app0, at_appk, set_app0, set_appk, take_app0, take_appk, at_one, set_one, take_one, List.append_assoc, List.cons_append, List.nil_append, List.append_nil, Bool.not_true, Bool.not_false, Bool.and_true, Bool.true_and, Bool.or_true, Bool.true_or, Bool.false_or, Bool.or_false, Bool.and_false, Bool.false_and, decide_true, decide_false, if_true, if_false, ite_true, ite_false, lx, ly, eqD_ii, hc, hlen]
  cases decide (xs.length = ys.length) with
  | false => simp only [sSeq, sSet, sIf, sRet, sRetN, sExpr, sNil, sPass, sAug, sPar, sAsg, sBreak, sCont, sSetL, Out.andThen, R.then, R.bind, R.lift, R.of, R.get, R.noX, fVar, fC, fBin, fB, asB, fAnd, fOr, fNot, fV, fAndV, fOrV, fNotV, fIf, fChain, aNil, aCons, rds, rd2, rd, frd, frds, dats, fTup, fTupK, fFrz, fCell, lDisp, lCat, fCall, lCall, fNo, fYesI, asI, fSl, fFz, fz, fMeth, fMeth0, LstW, lstC, fIndex, fIsi, fNeg, fRev, lRange, fApp, fYes, oName, onNil, onCons, oTup, oSub, stB, cName, cnNil, cnCons, cTup, wipeR, one, two, onL, ne1, bodyF, lcB, iSeq, iArgs, iFr, walk, Wk.ls, seqOf, ifO, cond, cutW, List.getElem?_cons_zero, List.getElem?_cons_succ, List.getElem?_nil, List.take_succ_cons, List.take_zero, List.take_nil, Nat.zero_add, List.set_cons_zero, List.set_cons_succ, List.set_nil, List.map_cons, List.map_nil, List.length_cons, List.length_nil, Option.map_some, Option.map_none, Option.bind_some, Option.bind_none, at_app0, at_appk, set_app0, set_appk, take_app0, take_appk, at_one, set_one, take_one, List.append_assoc, List.cons_append, List.nil_append, List.append_nil, Bool.not_true, Bool.not_false, Bool.and_true, Bool.true_and, Bool.or_true, Bool.true_or, Bool.false_or, Bool.or_false, Bool.and_false, Bool.false_and, decide_true, decide_false, if_true, if_false, ite_true, ite_false]
  | true => simp only [sSeq, sSet, sIf, sRet, sRetN, sExpr, sNil, sPass, sAug, sPar, sAsg, sBreak, sCont, sSetL, Out.andThen, R.then, R.bind, R.lift, R.of, R.get, R.noX, fVar, fC, fBin, fB, asB, fAnd, fOr, fNot, fV, fAndV, fOrV, fNotV, fIf, fChain, aNil, aCons, rds, rd2, rd, frd, frds, dats, fTup, fTupK, fFrz, fCell, lDisp, lCat, fCall, lCall, fNo, fYesI, asI, fSl, fFz, fz, fMeth, fMeth0, LstW, lstC, fIndex, fIsi, fNeg, fRev, lRange, fApp, fYes, oName, onNil, onCons, oTup, oSub, stB, cName, cnNil, cnCons, cTup, wipeR, one, two, onL, ne1, bodyF, lcB, iSeq, iArgs, iFr, walk, Wk.ls, seqOf, ifO, cond, cutW, List.getElem?_cons_zero, List.getElem?_cons_succ, List.getElem?_nil, List.take_succ_cons, List.take_zero, List.take_nil, Nat.zero_add, List.set_cons_zero, List.set_cons_succ, List.set_nil, List.map_cons, List.map_nil, List.length_cons, List.length_nil, Option.map_some, Option.map_none, Option.bind_some, Option.bind_none, at_app0, at_appk, set_app0, set_appk, take_app0, take_appk, at_one, set_one, take_one, List.append_assoc, List.cons_append, List.nil_append, List.append_nil, Bool.not_true, Bool.not_false, Bool.and_true, Bool.true_and, Bool.or_true, Bool.true_or, Bool.false_or, Bool.or_false, Bool.and_false, Bool.false_and, decide_true, decide_false, if_true, if_false, ite_true, ite_false, allD, boolsOf_map]
theorem eqv_flat {x y : D} (hy : dep y = 0) (oy : okD y = true) : eqT x y = (match y with
    | .none => PyData.eqv x.py y.py && (gStr x == false)
    | .str _ => PyData.eqv x.py y.py && (gStr x == true)
    | y => gInt x && ((gBool x == gBool y) && PyData.eqv x.py y.py)) := by
  cases y with
  | none => cases x <;> simp [eqT, D.py, PyData.eqv, gStr]
  | str s => cases x <;> simp [eqT, D.py, PyData.eqv, gStr]
  | bool b => cases x <;> simp [eqT, D.py, PyData.eqv, gInt, gBool]
  | int i => cases x <;> simp [eqT, D.py, PyData.eqv, gInt, gBool]
  | list _ => simp [dep] at hy
  | tup _ _ => simp [dep] at hy
  | dT _ => cases oy
  | dK _ => cases oy
theorem leq_flat {k : Nat} {x y : D} (hx : okD x = true) (hy : okD y = true) (dx : dep x ≤ 60) (dy : dep y = 0) : F__law_equal (k + 1) [.dat x, .dat y] S = .ok (.dat (.bool (eqT x y))) S := by
  have e1 := eqD_of (shp_ok hx (by omega)) (shp_ok (d := y) hy (by omega))
  rw [eqv_flat dy hy]
  refine run_dat (T := []) ?_
  cases y with
  | none =>
    simp only [b__law_equal, sSeq, sSet, sIf, sRet, sRetN, sExpr, sNil, sPass, sAug, sPar, sAsg, sBreak, sCont, sSetL, Out.andThen, R.then, R.bind, R.lift, R.of, R.get, R.noX, fVar, fC, fBin, fB, asB, fAnd, fOr, fNot, fV, fAndV, fOrV, fNotV, fIf, fChain, aNil, aCons, rds, rd2, rd, frd, frds, dats, fTup, fTupK, fFrz, fCell, lDisp, lCat, fCall, lCall, fNo, fYesI, asI, fSl, fFz, fz, fMeth, fMeth0, LstW, lstC, fIndex, fIsi, fNeg, fRev, lRange, fApp, fYes, oName, onNil, onCons, oTup, oSub, stB, cName, cnNil, cnCons, cTup, wipeR, one, two, onL, ne1, bodyF, lcB, iSeq, iArgs, iFr, walk, Wk.ls, seqOf, ifO, cond, cutW, List.getElem?_cons_zero, List.getElem?_cons_succ, List.getElem?_nil, List.take_succ_cons, List.take_zero, List.take_nil, Nat.zero_add, List.set_cons_zero, List.set_cons_succ, List.set_nil, List.map_cons, List.map_nil, List.length_cons, List.length_nil, Option.map_some, Option.map_none, Option.bind_some, Option.bind_none, at_app0, at_appk, set_app0, set_appk, take_app0, take_appk, at_one, set_one, take_one, List.append_assoc, List.cons_append, List.nil_append, List.append_nil, Bool.not_true, Bool.not_false, Bool.and_true, Bool.true_and, Bool.or_true, Bool.true_or, Bool.false_or, Bool.or_false, Bool.and_false, Bool.false_and, decide_true, decide_false, if_true, if_false, ite_true, ite_false, List.replicate, gList, gTup, gStr, isN_non, e1, eqD_bb]
    cases PyData.eqv x.py D.none.py <;> simp only [sSeq, sSet, sIf, sRet, sRetN, sExpr, sNil, sPass, sAug, sPar, sAsg, sBreak, sCont, sSetL, Out.andThen, R.then, R.bind, R.lift, R.of, R.get, R.noX, fVar, fC, fBin, fB, asB, fAnd, fOr, fNot, fV, fAndV, fOrV, fNotV, fIf, fChain, aNil, aCons, rds, rd2, rd, frd, frds, dats, fTup, fTupK, fFrz, fCell, lDisp, lCat, fCall, lCall, fNo, fYesI, asI, fSl, fFz, fz, fMeth, fMeth0, LstW, lstC, fIndex, fIsi, fNeg, fRev, lRange, fApp, fYes, oName, onNil, onCons, oTup, oSub, stB, cName, cnNil, cnCons, cTup, wipeR, one, two, onL, ne1, bodyF, lcB, iSeq, iArgs, iFr, walk, Wk.ls, seqOf, ifO, cond, cutW, List.getElem?_cons_zero, List.getElem?_cons_succ, List.getElem?_nil, List.take_succ_cons, List.take_zero, List.take_nil, Nat.zero_add, List.set_cons_zero, List.set_cons_succ, List.set_nil, List.map_cons, List.map_nil, List.length_cons, List.length_nil, Option.map_some, Option.map_none, Option.bind_some, Option.bind_none, at_app0, at_appk, set_app0, set_appk, take_app0, take_appk, at_one, set_one, take_one, List.append_assoc, List.cons_append, List.nil_append, List.append_nil, Bool.not_true, Bool.not_false, Bool.and_true, Bool.true_and, Bool.or_true, Bool.true_or, Bool.false_or, Bool.or_false, Bool.and_false, Bool.false_and, decide_true, decide_false, if_true, if_false, ite_true, ite_false]
  | str s =>
    simp only [b__law_equal, sSeq, sSet, sIf, sRet, sRetN, sExpr, sNil, sPass, sAug, sPar, sAsg, sBreak, sCont, sSetL, Out.andThen, R.then, R.bind, R.lift, R.of, R.get, R.noX, fVar, fC, fBin, fB, asB, fAnd, fOr, fNot, fV, fAndV, fOrV, fNotV, fIf, fChain, aNil, aCons, rds, rd2, rd, frd, frds, dats, fTup, fTupK, fFrz, fCell, lDisp, lCat, fCall, lCall, fNo, fYesI, asI, fSl, fFz, fz, fMeth, fMeth0, LstW, lstC, fIndex, fIsi, fNeg, fRev, lRange, fApp, fYes, oName, onNil, onCons, oTup, oSub, stB, cName, cnNil, cnCons, cTup, wipeR, one, two, onL, ne1, bodyF, lcB, iSeq, iArgs, iFr, walk, Wk.ls, seqOf, ifO, cond, cutW, List.getElem?_cons_zero, List.getElem?_cons_succ, List.getElem?_nil, List.take_succ_cons, List.take_zero, List.take_nil, Nat.zero_add, List.set_cons_zero, List.set_cons_succ, List.set_nil, List.map_cons, List.map_nil, List.length_cons, List.length_nil, Option.map_some, Option.map_none, Option.bind_some, Option.bind_none, at_app0, at_appk, set_app0, set_appk, take_app0, take_appk, at_one, set_one, take_one, List.append_assoc, List.cons_append, List.nil_append, List.append_nil, Bool.not_true, Bool.not_false, Bool.and_true, Bool.true_and, Bool.or_true, Bool.true_or, Bool.false_or, Bool.or_false, Bool.and_false, Bool.false_and, decide_true, decide_false, if_true, if_false, ite_true, ite_false, List.replicate, gList, gTup, gStr, isN_str, e1, eqD_bb]
    cases PyData.eqv x.py (D.str s).py <;> simp only [sSeq, sSet, sIf, sRet, sRetN, sExpr, sNil, sPass, sAug, sPar, sAsg, sBreak, sCont, sSetL, Out.andThen, R.then, R.bind, R.lift, R.of, R.get, R.noX, fVar, fC, fBin, fB, asB, fAnd, fOr, fNot, fV, fAndV, fOrV, fNotV, fIf, fChain, aNil, aCons, rds, rd2, rd, frd, frds, dats, fTup, fTupK, fFrz, fCell, lDisp, lCat, fCall, lCall, fNo, fYesI, asI, fSl, fFz, fz, fMeth, fMeth0, LstW, lstC, fIndex, fIsi, fNeg, fRev, lRange, fApp, fYes, oName, onNil, onCons, oTup, oSub, stB, cName, cnNil, cnCons, cTup, wipeR, one, two, onL, ne1, bodyF, lcB, iSeq, iArgs, iFr, walk, Wk.ls, seqOf, ifO, cond, cutW, List.getElem?_cons_zero, List.getElem?_cons_succ, List.getElem?_nil, List.take_succ_cons, List.take_zero, List.take_nil, Nat.zero_add, List.set_cons_zero, List.set_cons_succ, List.set_nil, List.map_cons, List.map_nil, List.length_cons, List.length_nil, Option.map_some, Option.map_none, Option.bind_some, Option.bind_none, at_app0, at_appk, set_app0, set_appk, take_app0, take_appk, at_one, set_one, take_one, List.append_assoc, List.cons_append, List.nil_append, List.append_nil, Bool.not_true, Bool.not_false, Bool.and_true, Bool.true_and, Bool.or_true, Bool.true_or, Bool.false_or, Bool.or_false, Bool.and_false, Bool.false_and, decide_true, decide_false, if_true, if_false, ite_true, ite_false]
  | bool b =>
    have := isN_of (.bool b)
    simp only [b__law_equal, sSeq, sSet, sIf, sRet, sRetN, sExpr, sNil, sPass, sAug, sPar, sAsg, sBreak, sCont, sSetL, Out.andThen, R.then, R.bind, R.lift, R.of, R.get, R.noX, fVar, fC, fBin, fB, asB, fAnd, fOr, fNot, fV, fAndV, fOrV, fNotV, fIf, fChain, aNil, aCons, rds, rd2, rd, frd, frds, dats, fTup, fTupK, fFrz, fCell, lDisp, lCat, fCall, lCall, fNo, fYesI, asI, fSl, fFz, fz, fMeth, fMeth0, LstW, lstC, fIndex, fIsi, fNeg, fRev, lRange, fApp, fYes, oName, onNil, onCons, oTup, oSub, stB, cName, cnNil, cnCons, cTup, wipeR, one, two, onL, ne1, bodyF, lcB, iSeq, iArgs, iFr, walk, Wk.ls, seqOf, ifO, cond, cutW, List.getElem?_cons_zero, List.getElem?_cons_succ, List.getElem?_nil, List.take_succ_cons, List.take_zero, List.take_nil, Nat.zero_add, List.set_cons_zero, List.set_cons_succ, List.set_nil, List.map_cons, List.map_nil, List.length_cons, List.length_nil, Option.map_some, Option.map_none, Option.bind_some, Option.bind_none, at_app0, at_appk, set_app0, set_appk, take_app0, take_appk, at_one, set_one, take_one, List.append_assoc, List.cons_append, List.nil_append, List.append_nil, Bool.not_true, Bool.not_false, Bool.and_true, Bool.true_and, Bool.or_true, Bool.true_or, Bool.false_or, Bool.or_false, Bool.and_false, Bool.false_and, decide_true, decide_false, if_true, if_false, ite_true, ite_false, List.replicate, gList, gTup, gStr, this, e1, eqD_bb, gB_b]
    cases gInt x <;> simp only [sSeq, sSet, sIf, sRet, sRetN, sExpr, sNil, sPass, sAug, sPar, sAsg, sBreak, sCont, sSetL, Out.andThen, R.then, R.bind, R.lift, R.of, R.get, R.noX, fVar, fC, fBin, fB, asB, fAnd, fOr, fNot, fV, fAndV, fOrV, fNotV, fIf, fChain, aNil, aCons, rds, rd2, rd, frd, frds, dats, fTup, fTupK, fFrz, fCell, lDisp, lCat, fCall, lCall, fNo, fYesI, asI, fSl, fFz, fz, fMeth, fMeth0, LstW, lstC, fIndex, fIsi, fNeg, fRev, lRange, fApp, fYes, oName, onNil, onCons, oTup, oSub, stB, cName, cnNil, cnCons, cTup, wipeR, one, two, onL, ne1, bodyF, lcB, iSeq, iArgs, iFr, walk, Wk.ls, seqOf, ifO, cond, cutW, List.getElem?_cons_zero, List.getElem?_cons_succ, List.getElem?_nil, List.take_succ_cons, List.take_zero, List.take_nil, Nat.zero_add, List.set_cons_zero, List.set_cons_succ, List.set_nil, List.map_cons, List.map_nil, List.length_cons, List.length_nil, Option.map_some, Option.map_none, Option.bind_some, Option.bind_none, at_app0, at_appk, set_app0, set_appk, take_app0, take_appk, at_one, set_one, take_one, List.append_assoc, List.cons_append, List.nil_append, List.append_nil, Bool.not_true, Bool.not_false, Bool.and_true, Bool.true_and, Bool.or_true, Bool.true_or, Bool.false_or, Bool.or_false, Bool.and_false, Bool.false_and, decide_true, decide_false, if_true, if_false, ite_true, ite_false]
    cases (gBool x == true) <;> simp only [sSeq, sSet, sIf, sRet, sRetN, sExpr, sNil, sPass, sAug, sPar, sAsg, sBreak, sCont, sSetL, Out.andThen, R.then, R.bind, R.lift, R.of, R.get, R.noX, fVar, fC, fBin, fB, asB, fAnd, fOr, fNot, fV, fAndV, fOrV, fNotV, fIf, fChain, aNil, aCons, rds, rd2, rd, frd, frds, dats, fTup, fTupK, fFrz, fCell, lDisp, lCat, fCall, lCall, fNo, fYesI, asI, fSl, fFz, fz, fMeth, fMeth0, LstW, lstC, fIndex, fIsi, fNeg, fRev, lRange, fApp, fYes, oName, onNil, onCons, oTup, oSub, stB, cName, cnNil, cnCons, cTup, wipeR, one, two, onL, ne1, bodyF, lcB, iSeq, iArgs, iFr, walk, Wk.ls, seqOf, ifO, cond, cutW, List.getElem?_cons_zero, List.getElem?_cons_succ, List.getElem?_nil, List.take_succ_cons, List.take_zero, List.take_nil, Nat.zero_add, List.set_cons_zero, List.set_cons_succ, List.set_nil, List.map_cons, List.map_nil, List.length_cons, List.length_nil, Option.map_some, Option.map_none, Option.bind_some, Option.bind_none, at_app0, at_appk, set_app0, set_appk, take_app0, take_appk, at_one, set_one, take_one, List.append_assoc, List.cons_append, List.nil_append, List.append_nil, Bool.not_true, Bool.not_false, Bool.and_true, Bool.true_and, Bool.or_true, Bool.true_or, Bool.false_or, Bool.or_false, Bool.and_false, Bool.false_and, decide_true, decide_false, if_true, if_false, ite_true, ite_false]
  | int i =>
    simp only [b__law_equal, sSeq, sSet, sIf, sRet, sRetN, sExpr, sNil, sPass, sAug, sPar, sAsg, sBreak, sCont, sSetL, Out.andThen, R.then, R.bind, R.lift, R.of, R.get, R.noX, fVar, fC, fBin, fB, asB, fAnd, fOr, fNot, fV, fAndV, fOrV, fNotV, fIf, fChain, aNil, aCons, rds, rd2, rd, frd, frds, dats, fTup, fTupK, fFrz, fCell, lDisp, lCat, fCall, lCall, fNo, fYesI, asI, fSl, fFz, fz, fMeth, fMeth0, LstW, lstC, fIndex, fIsi, fNeg, fRev, lRange, fApp, fYes, oName, onNil, onCons, oTup, oSub, stB, cName, cnNil, cnCons, cTup, wipeR, one, two, onL, ne1, bodyF, lcB, iSeq, iArgs, iFr, walk, Wk.ls, seqOf, ifO, cond, cutW, List.getElem?_cons_zero, List.getElem?_cons_succ, List.getElem?_nil, List.take_succ_cons, List.take_zero, List.take_nil, Nat.zero_add, List.set_cons_zero, List.set_cons_succ, List.set_nil, List.map_cons, List.map_nil, List.length_cons, List.length_nil, Option.map_some, Option.map_none, Option.bind_some, Option.bind_none, at_app0, at_appk, set_app0, set_appk, take_app0, take_appk, at_one, set_one, take_one, List.append_assoc, List.cons_append, List.nil_append, List.append_nil, Bool.not_true, Bool.not_false, Bool.and_true, Bool.true_and, Bool.or_true, Bool.true_or, Bool.false_or, Bool.or_false, Bool.and_false, Bool.false_and, decide_true, decide_false, if_true, if_false, ite_true, ite_false, List.replicate, gList, gTup, gStr, isN_int, e1, eqD_bb, gB_i]
    cases gInt x <;> simp only [sSeq, sSet, sIf, sRet, sRetN, sExpr, sNil, sPass, sAug, sPar, sAsg, sBreak, sCont, sSetL, Out.andThen, R.then, R.bind, R.lift, R.of, R.get, R.noX, fVar, fC, fBin, fB, asB, fAnd, fOr, fNot, fV, fAndV, fOrV, fNotV, fIf, fChain, aNil, aCons, rds, rd2, rd, frd, frds, dats, fTup, fTupK, fFrz, fCell, lDisp, lCat, fCall, lCall, fNo, fYesI, asI, fSl, fFz, fz, fMeth, fMeth0, LstW, lstC, fIndex, fIsi, fNeg, fRev, lRange, fApp, fYes, oName, onNil, onCons, oTup, oSub, stB, cName, cnNil, cnCons, cTup, wipeR, one, two, onL, ne1, bodyF, lcB, iSeq, iArgs, iFr, walk, Wk.ls, seqOf, ifO, cond, cutW, List.getElem?_cons_zero, List.getElem?_cons_succ, List.getElem?_nil, List.take_succ_cons, List.take_zero, List.take_nil, Nat.zero_add, List.set_cons_zero, List.set_cons_succ, List.set_nil, List.map_cons, List.map_nil, List.length_cons, List.length_nil, Option.map_some, Option.map_none, Option.bind_some, Option.bind_none, at_app0, at_appk, set_app0, set_appk, take_app0, take_appk, at_one, set_one, take_one, List.append_assoc, List.cons_append, List.nil_append, List.append_nil, Bool.not_true, Bool.not_false, Bool.and_true, Bool.true_and, Bool.or_true, Bool.true_or, Bool.false_or, Bool.or_false, Bool.and_false, Bool.false_and, decide_true, decide_false, if_true, if_false, ite_true, ite_false]
    cases (gBool x == false) <;> simp only [sSeq, sSet, sIf, sRet, sRetN, sExpr, sNil, sPass, sAug, sPar, sAsg, sBreak, sCont, sSetL, Out.andThen, R.then, R.bind, R.lift, R.of, R.get, R.noX, fVar, fC, fBin, fB, asB, fAnd, fOr, fNot, fV, fAndV, fOrV, fNotV, fIf, fChain, aNil, aCons, rds, rd2, rd, frd, frds, dats, fTup, fTupK, fFrz, fCell, lDisp, lCat, fCall, lCall, fNo, fYesI, asI, fSl, fFz, fz, fMeth, fMeth0, LstW, lstC, fIndex, fIsi, fNeg, fRev, lRange, fApp, fYes, oName, onNil, onCons, oTup, oSub, stB, cName, cnNil, cnCons, cTup, wipeR, one, two, onL, ne1, bodyF, lcB, iSeq, iArgs, iFr, walk, Wk.ls, seqOf, ifO, cond, cutW, List.getElem?_cons_zero, List.getElem?_cons_succ, List.getElem?_nil, List.take_succ_cons, List.take_zero, List.take_nil, Nat.zero_add, List.set_cons_zero, List.set_cons_succ, List.set_nil, List.map_cons, List.map_nil, List.length_cons, List.length_nil, Option.map_some, Option.map_none, Option.bind_some, Option.bind_none, at_app0, at_appk, set_app0, set_appk, take_app0, take_appk, at_one, set_one, take_one, List.append_assoc, List.cons_append, List.nil_append, List.append_nil, Bool.not_true, Bool.not_false, Bool.and_true, Bool.true_and, Bool.or_true, Bool.true_or, Bool.false_or, Bool.or_false, Bool.and_false, Bool.false_and, decide_true, decide_false, if_true, if_false, ite_true, ite_false]
  | list _ => simp [dep] at dy
  | tup _ _ => simp [dep] at dy
  | dT _ => cases hy
  | dK _ => cases hy
theorem leq_ok : ∀ (k : Nat) (x y : D), okD x = true → okD y = true → dep x ≤ 60 → dep y < k → F__law_equal k [.dat x, .dat y] S = .ok (.dat (.bool (eqT x y))) S
  | 0, _, _, _, _, _, h => by omega
  | k + 1, x, y, hx, hy, dx, dy => by
    by_cases d0 : dep y = 0
    · exact leq_flat hx hy dx d0
    · cases y with
      | list ys =>
        obtain ⟨hys, ly⟩ := Bool.and_eq_true_iff.mp hy
        have ly := of_decide_eq_true ly
        refine run_dat (T := []) ?_
        cases x with
        | list xs =>
          obtain ⟨hxs, lx⟩ := Bool.and_eq_true_iff.mp hx
          have lx := of_decide_eq_true lx
          have := leq_seq (S := S) (k := k) (x := .list xs) (y := .list ys) hxs lx ly rfl rfl rfl rfl fun p hp => by
            have m := List.of_mem_zip (a := p.1) (b := p.2) hp
            have m1 := deps_mem m.1
            have m2 := deps_mem m.2
            simp only [dep] at dx dy
            exact leq_ok k p.1 p.2 (okDs_mem hxs m.1) (okDs_mem hys m.2) (by omega) (by omega)
          simp only [b__law_equal, sSeq, sIf, fOr, fIsi, fB, fVar, fBin, List.replicate, List.map_cons, List.map_nil, List.length_cons, List.length_nil, List.cons_append, List.nil_append, List.getElem?_cons_zero, List.getElem?_cons_succ, R.bind, R.lift, rd, rd2, Option.map_some, Option.bind_some, asB, R.then, Out.andThen, gList, gTup, Bool.or_true, Bool.true_or, Bool.or_false, neD_bb, sNil, sRet]
          simp only [bne_self_eq_false, asB, sRet] at this ⊢
          show (R.then (fAndV _ _ [some (.dat (.list xs)), some (.dat (.list ys)), none, none] S) _ _ : Out).andThen _ = _
          rw [this]
          simp only [eqT, sSeq, sSet, sIf, sRet, sRetN, sExpr, sNil, sPass, sAug, sPar, sAsg, sBreak, sCont, sSetL, Out.andThen, R.then, R.bind, R.lift, R.of, R.get, R.noX, fVar, fC, fBin, fB, asB, fAnd, fOr, fNot, fV, fAndV, fOrV, fNotV, fIf, fChain, aNil, aCons, rds, rd2, rd, frd, frds, dats, fTup, fTupK, fFrz, fCell, lDisp, lCat, fCall, lCall, fNo, fYesI, asI, fSl, fFz, fz, fMeth, fMeth0, LstW, lstC, fIndex, fIsi, fNeg, fRev, lRange, fApp, fYes, oName, onNil, onCons, oTup, oSub, stB, cName, cnNil, cnCons, cTup, wipeR, one, two, onL, ne1, bodyF, lcB, iSeq, iArgs, iFr, walk, Wk.ls, seqOf, ifO, cond, cutW, List.getElem?_cons_zero, List.getElem?_cons_succ, List.getElem?_nil, List.take_succ_cons, List.take_zero, List.take_nil, Nat.zero_add, List.set_cons_zero, List.set_cons_succ, List.set_nil, List.map_cons, List.map_nil, List.length_cons, List.length_nil, Option.map_some, Option.map_none, Option.bind_some, Option.bind_none, at_app0, at_appk, set_app0, set_appk, take_app0, take_appk, at_one, set_one, take_one, List.append_assoc, List.cons_append, List.nil_append, List.append_nil, Bool.not_true, Bool.not_false, Bool.and_true, Bool.true_and, Bool.or_true, Bool.true_or, Bool.false_or, Bool.or_false, Bool.and_false, Bool.false_and, decide_true, decide_false, if_true, if_false, ite_true, ite_false]
        | _ => simp only [b__law_equal, sSeq, sSet, sIf, sRet, sRetN, sExpr, sNil, sPass, sAug, sPar, sAsg, sBreak, sCont, sSetL, Out.andThen, R.then, R.bind, R.lift, R.of, R.get, R.noX, fVar, fC, fBin, fB, asB, fAnd, fOr, fNot, fV, fAndV, fOrV, fNotV, fIf, fChain, aNil, aCons, rds, rd2, rd, frd, frds, dats, fTup, fTupK, fFrz, fCell, lDisp, lCat, fCall, lCall, fNo, fYesI, asI, fSl, fFz, fz, fMeth, fMeth0, LstW, lstC, fIndex, fIsi, fNeg, fRev, lRange, fApp, fYes, oName, onNil, onCons, oTup, oSub, stB, cName, cnNil, cnCons, cTup, wipeR, one, two, onL, ne1, bodyF, lcB, iSeq, iArgs, iFr, walk, Wk.ls, seqOf, ifO, cond, cutW, List.getElem?_cons_zero, List.getElem?_cons_succ, List.getElem?_nil, List.take_succ_cons, List.take_zero, List.take_nil, Nat.zero_add, List.set_cons_zero, List.set_cons_succ, List.set_nil, List.map_cons, List.map_nil, List.length_cons, List.length_nil, Option.map_some, Option.map_none, Option.bind_some, Option.bind_none, at_app0, at_appk, set_app0, set_appk, take_app0, take_appk, at_one, set_one, take_one, List.append_assoc, List.cons_append, List.nil_append, List.append_nil, Bool.not_true, Bool.not_false, Bool.and_true, Bool.true_and, Bool.or_true, Bool.true_or, Bool.false_or, Bool.or_false, Bool.and_false, Bool.false_and, decide_true, decide_false, if_true, if_false, ite_true, ite_false, List.replicate, gList, gTup, neD_bb, eqT, bne_self_eq_false, b_tf, b_ft]
      | tup f ys =>
        obtain ⟨hys, ly⟩ := Bool.and_eq_true_iff.mp hy
        have ly := of_decide_eq_true ly
        refine run_dat (T := []) ?_
        cases x with
        | tup g xs =>
          obtain ⟨hxs, lx⟩ := Bool.and_eq_true_iff.mp hx
          have lx := of_decide_eq_true lx
          have := leq_seq (S := S) (k := k) (x := .tup g xs) (y := .tup f ys) hxs lx ly rfl rfl rfl rfl fun p hp => by
            have m := List.of_mem_zip (a := p.1) (b := p.2) hp
            have m1 := deps_mem m.1
            have m2 := deps_mem m.2
            simp only [dep] at dx dy
            exact leq_ok k p.1 p.2 (okDs_mem hxs m.1) (okDs_mem hys m.2) (by omega) (by omega)
          simp only [b__law_equal, sSeq, sIf, fOr, fIsi, fB, fVar, fBin, List.replicate, List.map_cons, List.map_nil, List.length_cons, List.length_nil, List.cons_append, List.nil_append, List.getElem?_cons_zero, List.getElem?_cons_succ, R.bind, R.lift, rd, rd2, Option.map_some, Option.bind_some, asB, R.then, Out.andThen, gList, gTup, Bool.or_true, Bool.true_or, Bool.or_false, neD_bb, sNil, sRet]
          simp only [bne_self_eq_false, asB, sRet] at this ⊢
          show (R.then (fAndV _ _ [some (.dat (.tup g xs)), some (.dat (.tup f ys)), none, none] S) _ _ : Out).andThen _ = _
          rw [this]
          simp only [eqT, sSeq, sSet, sIf, sRet, sRetN, sExpr, sNil, sPass, sAug, sPar, sAsg, sBreak, sCont, sSetL, Out.andThen, R.then, R.bind, R.lift, R.of, R.get, R.noX, fVar, fC, fBin, fB, asB, fAnd, fOr, fNot, fV, fAndV, fOrV, fNotV, fIf, fChain, aNil, aCons, rds, rd2, rd, frd, frds, dats, fTup, fTupK, fFrz, fCell, lDisp, lCat, fCall, lCall, fNo, fYesI, asI, fSl, fFz, fz, fMeth, fMeth0, LstW, lstC, fIndex, fIsi, fNeg, fRev, lRange, fApp, fYes, oName, onNil, onCons, oTup, oSub, stB, cName, cnNil, cnCons, cTup, wipeR, one, two, onL, ne1, bodyF, lcB, iSeq, iArgs, iFr, walk, Wk.ls, seqOf, ifO, cond, cutW, List.getElem?_cons_zero, List.getElem?_cons_succ, List.getElem?_nil, List.take_succ_cons, List.take_zero, List.take_nil, Nat.zero_add, List.set_cons_zero, List.set_cons_succ, List.set_nil, List.map_cons, List.map_nil, List.length_cons, List.length_nil, Option.map_some, Option.map_none, Option.bind_some, Option.bind_none, at_app0, at_appk, set_app0, set_appk, take_app0, take_appk, at_one, set_one, take_one, List.append_assoc, List.cons_append, List.nil_append, List.append_nil, Bool.not_true, Bool.not_false, Bool.and_true, Bool.true_and, Bool.or_true, Bool.true_or, Bool.false_or, Bool.or_false, Bool.and_false, Bool.false_and, decide_true, decide_false, if_true, if_false, ite_true, ite_false]
        | _ => simp only [b__law_equal, sSeq, sSet, sIf, sRet, sRetN, sExpr, sNil, sPass, sAug, sPar, sAsg, sBreak, sCont, sSetL, Out.andThen, R.then, R.bind, R.lift, R.of, R.get, R.noX, fVar, fC, fBin, fB, asB, fAnd, fOr, fNot, fV, fAndV, fOrV, fNotV, fIf, fChain, aNil, aCons, rds, rd2, rd, frd, frds, dats, fTup, fTupK, fFrz, fCell, lDisp, lCat, fCall, lCall, fNo, fYesI, asI, fSl, fFz, fz, fMeth, fMeth0, LstW, lstC, fIndex, fIsi, fNeg, fRev, lRange, fApp, fYes, oName, onNil, onCons, oTup, oSub, stB, cName, cnNil, cnCons, cTup, wipeR, one, two, onL, ne1, bodyF, lcB, iSeq, iArgs, iFr, walk, Wk.ls, seqOf, ifO, cond, cutW, List.getElem?_cons_zero, List.getElem?_cons_succ, List.getElem?_nil, List.take_succ_cons, List.take_zero, List.take_nil, Nat.zero_add, List.set_cons_zero, List.set_cons_succ, List.set_nil, List.map_cons, List.map_nil, List.length_cons, List.length_nil, Option.map_some, Option.map_none, Option.bind_some, Option.bind_none, at_app0, at_appk, set_app0, set_appk, take_app0, take_appk, at_one, set_one, take_one, List.append_assoc, List.cons_append, List.nil_append, List.append_nil, Bool.not_true, Bool.not_false, Bool.and_true, Bool.true_and, Bool.or_true, Bool.true_or, Bool.false_or, Bool.or_false, Bool.and_false, Bool.false_and, decide_true, decide_false, if_true, if_false, ite_true, ite_false, List.replicate, gList, gTup, neD_bb, eqT, bne_self_eq_false, b_tf, b_ft]
      | _ => simp [dep] at d0
end
end Vz
namespace Vz
open PySem PySem.Spec PyProof.Rows L2
theorem draw_okU {self : List W → Sto → R W} {m : Nat} {x : C} {n : Int} (h : SrcOk (m + 1) x) (hn : 0 < n) (hn2 : n ≤ 10 ^ 7) :
    ∃ r y, (∀ rest, runF 4 false (bDraw self) [.loc 0 0, .dat (.int n)] (x :: rest) = .ok (.dat (.int r)) (y :: rest)) ∧ 0 ≤ r ∧ r < n ∧ SrcOk m y := by
  obtain ⟨a, b, c, rfl, h1, h2, h3, h4⟩ := h
  by_cases ha : 0 < a
  · exact ⟨_, _, fun rest => draw_old ha hn hn2, Int.emod_nonneg _ (by omega), Int.emod_lt_of_pos _ hn, a / n, b, c, rfl, h1, h2, h3, by omega⟩
  · exact ⟨_, _, fun rest => draw_new ha h1 h2 h3 (by omega) hn hn2, Int.emod_nonneg _ (by omega), Int.emod_lt_of_pos _ hn, a, b, c + 1, rfl, h1, h2, by omega, by omega⟩
theorem run_dat' {m : Nat} {c : Bool} {fb : FS} {ws : List W} {S S' : Sto} {d : D} (h : fb (ws.map some ++ List.replicate (m - ws.length) none) S = .rt (.dat d) S') : runF m c fb ws S = .ok (.dat d) (S'.take S.length) := by
  unfold runF
  rw [h]
  rfl
theorem cut_nod {xs : List D} {lo hi : Option Int} : cutD lo hi (.tup .nod xs) = some (.tup .nod (cutL xs lo hi)) := by
  show some (match whole xs.length lo hi with | true => D.tup .nod xs | false => D.tup .nod (cutL xs lo hi)) = _
  cases h : whole xs.length lo hi with
  | false => rfl
  | true =>
    obtain ⟨h1, h2⟩ := Bool.and_eq_true_iff.mp h
    have h1 := of_decide_eq_true h1
    have h2 := of_decide_eq_true h2
    unfold cutL
    rw [h1, h2]
    simp
theorem six_nat (n d k : Nat) : HT.sIx n d (some (k : Int)) = min k n := HT.sIx_nat n d k
theorem cut_take {α : Type} {xs : List α} {k : Nat} : cutL xs none (some (k : Int)) = xs.take k := by
  unfold cutL
  rw [six_nat]
  simp [HT.sIx]
end Vz
namespace Vz
open PySem PySem.Spec PyProof.Rows L2
theorem div_guardB {i j : Int} (h : 0 < j) (h2 : j ≤ 10 ^ 10) : divI (.int i) (.int j) = some (.int (i / j)) := by
  have : j.natAbs.log2 < 9000 := by
    have h3 : j.natAbs ≤ 10 ^ 10 := by omega
    have h4 : j.natAbs ≠ 0 := by omega
    have h5 : j.natAbs.log2 < 40 := (Nat.log2_lt h4).mpr (Nat.lt_of_le_of_lt h3 (by decide))
    omega
  refine gI_ok ?_
  rw [decide_eq_true h, decide_eq_true this]
  rfl
theorem SrcOk.less {m k : Nat} {x : C} (h : SrcOk m x) (hk : k ≤ m) : SrcOk k x := by
  obtain ⟨a, b, c, q, q1, q2, q3, q4⟩ := h
  exact ⟨a, b, c, q, q1, q2, q3, by omega⟩
theorem draw_oldB {self : List W → Sto → R W} {a b c n : Int} {rest : Sto} (ha : 0 < a) (hn : 0 < n) (hn2 : n ≤ 10 ^ 10) :
    runF 4 false (bDraw self) [.loc 0 0, .dat (.int n)] (srcC a b c :: rest) = .ok (.dat (.int (a % n))) (srcC (a / n) b c :: rest) := by
  suffices e : bDraw self [some (.loc 0 0), some (.dat (.int n)), none, none] (srcC a b c :: rest) = .rt (.dat (.int (a % n))) (srcC (a / n) b c :: rest) by
    have r := run_dat' (m := 4) (c := false) (fb := bDraw self) (ws := [.loc 0 0, .dat (.int n)]) e
    simpa using r
  have t1 : gtI (.int a) (.int 0) = some (.bool true) := congrArg (fun b => some (D.bool b)) (decide_eq_true ha)
  have i0 : ∀ z : Int, ixD (.list [.int z, .int b, .int c]) (.int 0) = some (.int z) := fun _ => rfl
  have m1 := mod_guard (i := a) hn
  have d1 := div_guardB (i := a) hn hn2
  have q : ∀ u : Int, putC (.lst [.int a, .int b, .int c]) (.int 0) (.int u) = some (.lst [.int u, .int b, .int c]) := fun _ => rfl
  generalize a / n = u at d1 ⊢
  generalize a % n = v at m1 ⊢
  unfold srcC
  unfold bDraw
  simp only [sSeq, sSet, sIf, sRet, sRetN, sExpr, sNil, sPass, sAug, sPar, sAsg, sBreak, sCont, sSetL, Out.andThen, R.then, R.bind, R.lift, R.of, R.get, R.noX, fVar, fC, fBin, fB, asB, fAnd, fOr, fNot, fV, fAndV, fOrV, fNotV, fIf, fChain, aNil, aCons, rds, rd2, rd, frd, frds, dats, fTup, fTupK, fFrz, fCell, lDisp, lCat, fCall, lCall, fNo, fYesI, asI, fSl, fFz, fz, fMeth, fMeth0, LstW, lstC, fIndex, fIsi, fNeg, fRev, lRange, fApp, fYes, oName, onNil, onCons, oTup, oSub, stB, cName, cnNil, cnCons, cTup, wipeR, one, two, onL, ne1, bodyF, lcB, iSeq, iArgs, iFr, walk, Wk.ls, seqOf, ifO, cond, cutW, List.getElem?_cons_zero, List.getElem?_cons_succ, List.getElem?_nil, List.take_succ_cons, List.take_zero, List.take_nil, Nat.zero_add, List.set_cons_zero, List.set_cons_succ, List.set_nil, List.map_cons, List.map_nil, List.length_cons, List.length_nil, Option.map_some, Option.map_none, Option.bind_some, Option.bind_none, at_app0, at_appk, set_app0, set_appk, take_app0, take_appk, at_one, set_one, take_one, List.append_assoc, List.cons_append, List.nil_append, List.append_nil, Bool.not_true, Bool.not_false, Bool.and_true, Bool.true_and, Bool.or_true, Bool.true_or, Bool.false_or, Bool.or_false, Bool.and_false, Bool.false_and, decide_true, decide_false, if_true, if_false, ite_true, ite_false, List.getElem?_cons_zero, List.getElem?_cons_succ, List.set_cons_zero, List.set_cons_succ, i0, t1, m1, d1, q, Option.bind_some, Option.map_some]
/-- a draw, whatever stands behind the source -/
def DrawU (G : List W → Sto → R W) (x : C) (n : Int) (r : Int) (y : C) : Prop := ∀ rest, G [.loc 0 0, .dat (.int n)] (x :: rest) = .ok (.dat (.int r)) (y :: rest)
theorem draw_mid {G : List W → Sto → R W} {a b c n r1 r2 : Int} {y z : C} (ha : ¬ 0 < a) (hn : 10 ^ 7 < n) (h1 : DrawU G (srcC a b c) (10 ^ 7) r1 y) (h2 : DrawU G y (n / 10 ^ 7 + 1) r2 z) (hr : 0 ≤ r2 ∧ r2 < 2 ^ 60) :
    DrawU (runF 4 false (bDraw G)) (srcC a b c) n ((r1 + 10 ^ 7 * r2) % n) z := by
  intro rest
  suffices e : bDraw G [some (.loc 0 0), some (.dat (.int n)), none, none] (srcC a b c :: rest) = .rt (.dat (.int ((r1 + 10 ^ 7 * r2) % n))) (z :: rest) by
    have r := run_dat' (m := 4) (c := false) (fb := bDraw G) (ws := [.loc 0 0, .dat (.int n)]) e
    simpa using r
  have t1 : gtI (.int a) (.int 0) = some (.bool false) := congrArg (fun b => some (D.bool b)) (decide_eq_false ha)
  have i0 : ixD (.list [.int a, .int b, .int c]) (.int 0) = some (.int a) := rfl
  have p1 : powI (.int 10) (.int 7) = some (.int (10 ^ 7)) := rfl
  have t2 : gtI (.int n) (.int (10 ^ 7)) = some (.bool true) := congrArg (fun b => some (D.bool b)) (decide_eq_true (by omega))
  have d1 : divI (.int n) (.int (10 ^ 7)) = some (.int (n / 10 ^ 7)) := div_guard (by decide) (by decide)
  have a1 : addD (.int (n / 10 ^ 7)) (.int 1) = some (.int (n / 10 ^ 7 + 1)) := rfl
  have m1 : mulD (.int (10 ^ 7)) (.int r2) = some (.int (10 ^ 7 * r2)) := mul_guard (.inr ⟨by omega, by omega⟩)
  have a2 : addD (.int r1) (.int (10 ^ 7 * r2)) = some (.int (r1 + 10 ^ 7 * r2)) := rfl
  have m2 : modI (.int (r1 + 10 ^ 7 * r2)) (.int n) = some (.int ((r1 + 10 ^ 7 * r2) % n)) := mod_guard (by omega)
  have g1 := h1 rest
  have g2 := h2 rest
  generalize n / 10 ^ 7 + 1 = n2 at a1 g2
  generalize n / 10 ^ 7 = n1 at d1 a1
  generalize (r1 + 10 ^ 7 * r2) % n = v at m2 ⊢
  generalize r1 + 10 ^ 7 * r2 = v2 at a2 m2
  generalize (10 : Int) ^ 7 * r2 = v3 at m1 a2
  generalize (10 : Int) ^ 7 = M at p1 t2 d1 m1 g1
  unfold srcC at g1 ⊢
  unfold bDraw
  simp only [sSeq, sSet, sIf, sRet, sRetN, sExpr, sNil, sPass, sAug, sPar, sAsg, sBreak, sCont, sSetL, Out.andThen, R.then, R.bind, R.lift, R.of, R.get, R.noX, fVar, fC, fBin, fB, asB, fAnd, fOr, fNot, fV, fAndV, fOrV, fNotV, fIf, fChain, aNil, aCons, rds, rd2, rd, frd, frds, dats, fTup, fTupK, fFrz, fCell, lDisp, lCat, fCall, lCall, fNo, fYesI, asI, fSl, fFz, fz, fMeth, fMeth0, LstW, lstC, fIndex, fIsi, fNeg, fRev, lRange, fApp, fYes, oName, onNil, onCons, oTup, oSub, stB, cName, cnNil, cnCons, cTup, wipeR, one, two, onL, ne1, bodyF, lcB, iSeq, iArgs, iFr, walk, Wk.ls, seqOf, ifO, cond, cutW, List.getElem?_cons_zero, List.getElem?_cons_succ, List.getElem?_nil, List.take_succ_cons, List.take_zero, List.take_nil, Nat.zero_add, List.set_cons_zero, List.set_cons_succ, List.set_nil, List.map_cons, List.map_nil, List.length_cons, List.length_nil, Option.map_some, Option.map_none, Option.bind_some, Option.bind_none, at_app0, at_appk, set_app0, set_appk, take_app0, take_appk, at_one, set_one, take_one, List.append_assoc, List.cons_append, List.nil_append, List.append_nil, Bool.not_true, Bool.not_false, Bool.and_true, Bool.true_and, Bool.or_true, Bool.true_or, Bool.false_or, Bool.or_false, Bool.and_false, Bool.false_and, decide_true, decide_false, if_true, if_false, ite_true, ite_false, List.getElem?_cons_zero, List.getElem?_cons_succ, List.set_cons_zero, List.set_cons_succ, List.length_cons, List.length_nil, Nat.reduceAdd, decide_true, i0, t1, p1, t2, d1, a1, g1, g2, m1, a2, m2, Option.bind_some, Option.map_some]
theorem draw_big {self : List W → Sto → R W} {m : Nat} {x : C} {n : Int} (h : SrcOk (m + 2) x) (hn : 0 < n) (hn2 : n ≤ 10 ^ 10) :
    ∃ r y, DrawU (runF 4 false (bDraw (runF 4 false (bDraw self)))) x n r y ∧ 0 ≤ r ∧ r < n ∧ SrcOk m y := by
  by_cases h7 : n ≤ 10 ^ 7
  · obtain ⟨r, y, e, h1, h2, h3⟩ := draw_okU (self := runF 4 false (bDraw self)) (m := m + 1) h hn h7
    exact ⟨r, y, e, h1, h2, h3.less (by omega)⟩
  · obtain ⟨a, b, c, rfl, q1, q2, q3, q4⟩ := id h
    by_cases ha : 0 < a
    · exact ⟨_, _, fun rest => draw_oldB ha hn hn2, Int.emod_nonneg _ (by omega), Int.emod_lt_of_pos _ hn, a / n, b, c, rfl, q1, q2, q3, by omega⟩
    · obtain ⟨r1, y, e1, b1, b2, hy⟩ := draw_okU (self := self) (n := 10 ^ 7) (m := m + 1) h (by decide) (by decide)
      have hq : 0 < n / 10 ^ 7 + 1 := by omega
      obtain ⟨r2, z, e2, b3, b4, hz⟩ := draw_okU (self := self) (n := n / 10 ^ 7 + 1) (m := m) hy hq (by omega)
      exact ⟨_, z, draw_mid ha (by omega) e1 e2 ⟨b3, by omega⟩, Int.emod_nonneg _ (by omega), Int.emod_lt_of_pos _ hn, hz⟩
end Vz
namespace Vz
open PySem PySem.Spec PyProof.Rows L2
theorem nodup_le {α : Type} [DecidableEq α] : ∀ {l xs : List α}, l.Nodup → (∀ a ∈ l, a ∈ xs) → l.length ≤ xs.length
  | [], xs, _, _ => Nat.zero_le _
  | a :: l, xs, h, m => by
    obtain ⟨h1, h2⟩ := List.nodup_cons.mp h
    have ma := m a (List.mem_cons_self ..)
    have ih := nodup_le (xs := xs.erase a) h2 fun b hb => by
      have ne : b ≠ a := fun z => h1 (by rw [← z]; exact hb)
      exact (List.mem_erase_of_ne ne).mpr (m b (List.mem_cons_of_mem _ hb))
    have hp : 0 < xs.length := List.length_pos_of_mem ma
    rw [List.length_erase_of_mem ma] at ih
    simp only [List.length_cons]
    omega
def probe (w : Int) : Nat → Int → Int
  | 0, p => p
  | i + 1, p => probe w i ((p + 1) % w)
theorem mod_two {w z : Int} (h0 : 0 ≤ z) (h : z < 2 * w) : z % w = if z < w then z else z - w := by
  by_cases hz : z < w
  · rw [if_pos hz]
    exact Int.emod_eq_of_lt h0 hz
  · rw [if_neg hz]
    have : z = (z - w) + w := by omega
    rw [this, Int.add_emod_right]
    rw [Int.emod_eq_of_lt (by omega) (by omega)]
    omega
theorem probe_eq {w : Int} : ∀ (i : Nat) (p : Int), 0 ≤ p → p < w → (i : Int) < w → probe w i p = if p + i < w then p + i else p + i - w
  | 0, p, h0, h1, _ => by
    show p = _
    rw [if_pos (by omega)]
    omega
  | i + 1, p, h0, h1, hi => by
    show probe w i ((p + 1) % w) = _
    have e := mod_two (w := w) (z := p + 1) (by omega) (by omega)
    by_cases hp : p + 1 < w
    · rw [if_pos hp] at e
      rw [e, probe_eq i (p + 1) (by omega) hp (by omega)]
      by_cases hq : p + 1 + (i : Int) < w
      · rw [if_pos hq, if_pos (by omega)]; omega
      · rw [if_neg hq, if_neg (by omega)]; omega
    · rw [if_neg hp] at e
      rw [e, probe_eq i (p + 1 - w) (by omega) (by omega) (by omega)]
      rw [if_pos (by omega), if_neg (by omega)]; omega
theorem probe_rng {w : Int} {i : Nat} {p : Int} (h0 : 0 ≤ p) (h1 : p < w) (hi : (i : Int) < w) : 0 ≤ probe w i p ∧ probe w i p < w := by
  rw [probe_eq i p h0 h1 hi]
  split <;> omega
/-- one that is free is met -/
theorem probe_free {w : Int} {p : Int} {xs : List Int} (h0 : 0 ≤ p) (h1 : p < w) (hk : (xs.length : Int) < w) : ∃ j, j ≤ xs.length ∧ probe w j p ∉ xs ∧ ∀ i, i < j → probe w i p ∈ xs := by
  have ex : ∃ j, j ≤ xs.length ∧ probe w j p ∉ xs := by
    refine Classical.byContradiction fun hn => ?_
    have all : ∀ j, j ≤ xs.length → probe w j p ∈ xs := fun j hj => Classical.byContradiction fun z => hn ⟨j, hj, z⟩
    have nd : ((List.range (xs.length + 1)).map fun i => probe w i p).Nodup := by
      rw [List.nodup_iff_pairwise_ne, List.pairwise_map]
      have := List.nodup_range (n := xs.length + 1)
      rw [List.nodup_iff_pairwise_ne] at this
      refine List.Pairwise.imp_of_mem ?_ this
      intro a b ha hb ne e
      have ha' := List.mem_range.mp ha
      have hb' := List.mem_range.mp hb
      rw [probe_eq a p h0 h1 (by omega), probe_eq b p h0 h1 (by omega)] at e
      refine ne ?_
      split at e <;> split at e <;> omega
    have := nodup_le nd fun z hz => by
      obtain ⟨i, hi, rfl⟩ := List.mem_map.mp hz
      exact all i (by have := List.mem_range.mp hi; omega)
    rw [List.length_map, List.length_range] at this
    omega
  -- the least one
  have least : ∀ n, (∃ j, j ≤ n ∧ probe w j p ∉ xs) → ∃ j, j ≤ n ∧ probe w j p ∉ xs ∧ ∀ i, i < j → probe w i p ∈ xs := by
    intro n
    induction n with
    | zero =>
      rintro ⟨j, hj, h⟩
      exact ⟨j, hj, h, fun i hi => by omega⟩
    | succ n ih =>
      rintro ⟨j, hj, h⟩
      by_cases hb : ∃ j, j ≤ n ∧ probe w j p ∉ xs
      · obtain ⟨j, h1, h2, h3⟩ := ih hb
        exact ⟨j, by omega, h2, h3⟩
      · refine ⟨j, hj, h, fun i hi => Classical.byContradiction fun z => hb ⟨i, by omega, z⟩⟩
  exact least _ ex
section
variable {rest : Sto} {y c c' : C}
theorem aU : (y :: (rest ++ [c]))[rest.length + 1]? = some c := by simp
theorem sU : (y :: (rest ++ [c])).set (rest.length + 1) c' = y :: (rest ++ [c']) := by simp
theorem tU : (y :: (rest ++ [c])).take (rest.length + 2) = y :: (rest ++ [c]) := List.take_of_length_le (by simp)
theorem lU : (y :: (rest ++ [c])).length = rest.length + 2 := by simp
end
def bStrandW : FT := fB (fBin (inD false) (fVar 6) (fVar 4))
def bStrandS : FS := sSet 6 (fBin modI (fBin addD (fVar 6) (fC (.int 1))) (fVar 3))
def rhoT (rest : Sto) (m s w : Int) (t : Option W) (p : Int) : Rho := [some (.loc 0 0), some (.dat (.int m)), some (.dat (.int s)), some (.dat (.int w)), some (.loc (rest.length + 1) 0), t, some (.dat (.int p))]
theorem flats_ints : ∀ xs : List Int, flats (xs.map D.int) = some (xs.map V.int)
  | [] => rfl
  | x :: xs => by
    show (flatD (.int x)).bind _ = _
    rw [show flatD (.int x) = some (V.int x) from rfl, Option.bind_some, flats_ints xs]
    rfl
theorem inV_ints {p : Int} : ∀ xs : List Int, inV (.int p) (xs.map V.int) = decide (p ∈ xs)
  | [] => by simp [inV]
  | x :: xs => by
    have ih := inV_ints (p := p) xs
    unfold inV at ih ⊢
    rw [List.map_cons, List.any_cons, ih]
    by_cases h : x = p
    · subst h
      simp [eqV]
    · have h' : ¬ p = x := fun z => h z.symm
      simp [eqV, h, h']
theorem inD_seq {neg : Bool} {p : Int} {xs : List Int} {d : D} (h : seqOf d = some (xs.map D.int)) : inD neg (.int p) d = some (.bool (xor neg (decide (p ∈ xs)))) := by
  unfold inD orD inD1
  rw [h]
  show (match (inF (.int p) (xs.map D.int)).map fun b => D.bool (xor neg b) with
    | some z => some z
    | none => _) = _
  unfold inF
  rw [show flatD (.int p) = some (V.int p) from rfl, Option.bind_some, flats_ints, Option.bind_some, inV_ints]
  rfl
theorem inD_ints {p : Int} {xs : List Int} : inD false (.int p) (.list (xs.map D.int)) = some (.bool (decide (p ∈ xs))) := by
  rw [inD_seq (xs := xs) rfl, Bool.false_xor]
theorem cutT {rest : Sto} {m s w p : Int} {tt : Int} : cutR (rest.length + 2) (rhoT rest m s w (some (.dat (.int tt))) p) = rhoT rest m s w (some (.dat (.int tt))) p := by
  unfold cutR rhoT
  simp only [List.map, cutW, ifO, decide_eq_true (show (0 : Nat) < rest.length + 2 by omega), decide_eq_true (show rest.length + 1 < rest.length + 2 by omega)]
theorem probe_run {rest : Sto} {m s w : Int} {tt : Int} {y : C} {xs : List Int} (hw : 0 < w) : ∀ (j k : Nat) (p : Int), j < k → (∀ i, i < j → probe w i p ∈ xs) → probe w j p ∉ xs →
    whileF (rest.length + 2) bStrandW bStrandS k (rhoT rest m s w (some (.dat (.int tt))) p) (y :: (rest ++ [.lst (xs.map D.int)])) = .nx (rhoT rest m s w (some (.dat (.int tt))) (probe w j p)) (y :: (rest ++ [.lst (xs.map D.int)])) := by
  have test : ∀ p : Int, bStrandW (rhoT rest m s w (some (.dat (.int tt))) p) (y :: (rest ++ [.lst (xs.map D.int)])) = .ok (decide (p ∈ xs)) (y :: (rest ++ [.lst (xs.map D.int)])) := fun p => by
    have a1 := inD_ints (p := p) (xs := xs)
    have a2 : rd (y :: (rest ++ [.lst (xs.map D.int)])) (.loc (rest.length + 1) 0) = some (.list (xs.map D.int)) := by
      simp only [rd, aU]
    unfold bStrandW rhoT
    generalize (y :: (rest ++ [C.lst (xs.map D.int)])) = SS at a2 ⊢
    have a3 : fBin (inD false) (fVar 6) (fVar 4) [some (.loc 0 0), some (.dat (.int m)), some (.dat (.int s)), some (.dat (.int w)), some (.loc (rest.length + 1) 0), some (.dat (.int tt)), some (.dat (.int p))] SS = .ok (.dat (.bool (decide (p ∈ xs)))) SS := by
      refine x_bin (wa := .dat (.int p)) (wb := .loc (rest.length + 1) 0) (S1 := SS) (S2 := SS) rfl rfl ?_
      unfold rd2
      rw [a2]
      show (some (D.int p)).bind _ = _
      rw [Option.bind_some, Option.bind_some, a1]
    show R.bind (fBin (inD false) (fVar 6) (fVar 4) _ SS) _ = _
    rw [a3]
    rfl
  intro j
  induction j with
  | zero =>
    intro k p hk _ hn
    obtain ⟨k, rfl⟩ : ∃ k', k = k' + 1 := ⟨k - 1, by omega⟩
    have hn : p ∉ xs := hn
    unfold whileF
    rw [test p, decide_eq_false hn]
    rfl
  | succ j ih =>
    intro k p hk hi hn
    obtain ⟨k, rfl⟩ : ∃ k', k = k' + 1 := ⟨k - 1, by omega⟩
    have h0 : p ∈ xs := hi 0 (by omega)
    have step : bStrandS (rhoT rest m s w (some (.dat (.int tt))) p) (y :: (rest ++ [.lst (xs.map D.int)])) = .nx (rhoT rest m s w (some (.dat (.int tt))) ((p + 1) % w)) (y :: (rest ++ [.lst (xs.map D.int)])) := by
      have m1 := mod_guard (i := p + 1) hw
      generalize (y :: (rest ++ [C.lst (xs.map D.int)])) = SS
      unfold bStrandS rhoT
      exact x_set (x_bin' (x := .int (p + 1)) (y := .int w) (x_bin' (x := .int p) (y := .int 1) rfl rfl rfl) rfl m1)
    unfold whileF
    rw [test p, decide_eq_true h0]
    show (match bStrandS _ _ with
      | .nx ρ' S' => whileF (rest.length + 2) _ _ k (cutR (rest.length + 2) ρ') (S'.take (rest.length + 2))
      | .ct ρ' S' => whileF (rest.length + 2) _ _ k (cutR (rest.length + 2) ρ') (S'.take (rest.length + 2))
      | .bk ρ' S' => Out.nx (cutR (rest.length + 2) ρ') (S'.take (rest.length + 2))
      | r => r) = _
    rw [step]
    simp only [cutT, tU]
    exact ih k ((p + 1) % w) (by omega) (fun i hi' => hi (i + 1) (by omega)) hn
end Vz
namespace Vz
open PySem PySem.Spec PyProof.Rows L2
def bTurn (G : List W → Sto → R W) : FS := (sSeq (sSet 6 (fApp 2 G (aCons (fVar 0) (aCons (fVar 3) aNil)))) (sSeq (sWhile 100 bStrandW bStrandS) (sExpr (fMeth mAppend (fVar 4) (aCons (fVar 6) aNil)))))
def bStrand (G : List W → Sto → R W) : FS := (sSeq (sSet 2 (fApp 2 G (aCons (fVar 0) (aCons (fBin addD (fVar 1) (fC (.int 1))) aNil)))) (sSeq (sSet 3 (fIf (fB (fBin gtI (fApp 2 G (aCons (fVar 0) (aCons (fC (.int 4)) aNil))) (fC (.int 0)))) (fBin addD (fVar 2) (fApp 2 G (aCons (fVar 0) (aCons (fC (.int 4)) aNil)))) (fBin powI (fC (.int 10)) (fC (.int 9))))) (sSeq (sSet 4 (fCell (lDisp aNil))) (sSeq (sFor (iArgs rng1 (aCons (fVar 2) aNil)) (oName 5) (bTurn G)) (sRet (fCall tupleD (aCons (fVar 4) aNil)))))))
/-- draws of a source, whatever stands behind it -/
def DrawB (G : List W → Sto → R W) : Prop := ∀ (m : Nat) (x : C) (n : Int), SrcOk (m + 2) x → 0 < n → n ≤ 10 ^ 10 → ∃ r y, DrawU G x n r y ∧ 0 ≤ r ∧ r < n ∧ SrcOk m y
theorem drawB_of {self : List W → Sto → R W} : DrawB (runF 4 false (bDraw (runF 4 false (bDraw self)))) := fun _ _ _ h h1 h2 => draw_big h h1 h2
/-- a slot that is free or holds data -/
def DatO : Option W → Prop := fun o => o = none ∨ ∃ d, o = some (.dat d)
def rhoU (rest : Sto) (m s w : Int) (t p : Option W) : Rho := [some (.loc 0 0), some (.dat (.int m)), some (.dat (.int s)), some (.dat (.int w)), some (.loc (rest.length + 1) 0), t, p]
theorem cutU {rest : Sto} {m s w : Int} {t p : Option W} (ht : DatO t) (hp : DatO p) : cutR (rest.length + 2) (rhoU rest m s w t p) = rhoU rest m s w t p := by
  unfold cutR rhoU
  rcases ht with rfl | ⟨d, rfl⟩ <;> rcases hp with rfl | ⟨e, rfl⟩ <;>
    simp only [List.map, cutW, ifO, decide_eq_true (show (0 : Nat) < rest.length + 2 by omega), decide_eq_true (show rest.length + 1 < rest.length + 2 by omega)]
theorem turn_ok {G : List W → Sto → R W} (hG : DrawB G) {k : Nat} {y : C} {xs : List Int} {w : Int} (hy : SrcOk (k + 2) y) (hw : (xs.length : Int) < w) (hw2 : w ≤ 10 ^ 10) (hl : xs.length ≤ 50) :
    ∃ v z, v ∉ xs ∧ 0 ≤ v ∧ v < w ∧ SrcOk k z ∧ ∀ rest m s t p i, bodyF (oName 5) (bTurn G) (.int i) (rhoU rest m s w t p) (y :: (rest ++ [.lst (xs.map D.int)])) = .nx (rhoU rest m s w (some (.dat (.int i))) (some (.dat (.int v)))) (z :: (rest ++ [.lst ((xs ++ [v]).map D.int)])) := by
  obtain ⟨r, z, h1, h2, h3, h4⟩ := hG k y w hy (by omega) hw2
  obtain ⟨j, j1, j2, j3⟩ := probe_free (xs := xs) h2 h3 hw
  have hv := probe_rng (i := j) h2 h3 (by omega)
  refine ⟨probe w j r, z, j2, hv.1, hv.2, h4, fun rest m s t p i => ?_⟩
  show bTurn G [some (.loc 0 0), some (.dat (.int m)), some (.dat (.int s)), some (.dat (.int w)), some (.loc (rest.length + 1) 0), some (.dat (.int i)), p] (y :: (rest ++ [.lst (xs.map D.int)])) = _
  unfold bTurn
  refine x_seq (ρ' := rhoT rest m s w (some (.dat (.int i))) r) (S1 := z :: (rest ++ [.lst (xs.map D.int)])) ?_ (x_seq (ρ' := rhoT rest m s w (some (.dat (.int i))) (probe w j r)) (S1 := z :: (rest ++ [.lst (xs.map D.int)])) ?_ ?_)
  · exact x_set (x_app (x_cons (w := .loc 0 0) rfl (x_cons (w := .dat (.int w)) rfl rfl)) rfl (h1 _))
  · unfold sWhile
    rw [lU]
    exact probe_run (by omega) j 100 r (by omega) j3 j2
  · refine x_expr (w := .dat .none) (x_meth (w := .loc (rest.length + 1) 0) (ws := [.dat (.int (probe w j r))]) rfl ?_ (x_cons rfl rfl) ?_)
    · unfold LstW
      simp only [rd, aU]
    · unfold mAppend
      have e1 : lstC (z :: (rest ++ [.lst (xs.map D.int)])) (.loc (rest.length + 1) 0) = some (rest.length + 1, xs.map D.int) := by
        unfold lstC
        simp only [aU]
      have g3 : decide ((xs.map D.int).length < lim) = true := by
        rw [List.length_map]
        exact decide_eq_true (by unfold lim; omega)
      simp only [e1, Option.bind_some, frd, g3, ifO, sU, List.map_append, List.map_cons, List.map_nil]
theorem strand_loop {G : List W → Sto → R W} (hG : DrawB G) {w : Int} (hw2 : w ≤ 10 ^ 10) {k : Nat} : ∀ (ds : List Int) (y : C) (xs : List Int), SrcOk (k + 2 * ds.length) y → xs.Nodup → (∀ i ∈ xs, 0 ≤ i ∧ i < w) → (xs.length + ds.length : Nat) ≤ w → xs.length + ds.length ≤ 50 →
    ∃ (xs' : List Int) (y' : C), xs'.Nodup ∧ xs'.length = xs.length + ds.length ∧ (∀ i ∈ xs', 0 ≤ i ∧ i < w) ∧ SrcOk k y' ∧ ∀ rest m s t p, DatO t → DatO p → ∃ t' p', forL (rest.length + 2) (bodyF (oName 5) (bTurn G)) (ds.map D.int) (rhoU rest m s w t p) (y :: (rest ++ [.lst (xs.map D.int)])) = .nx (rhoU rest m s w t' p') (y' :: (rest ++ [.lst (xs'.map D.int)]))
  | [], y, xs, hy, nd, rg, _, _ => ⟨xs, y, nd, rfl, rg, hy, fun rest m s t p _ _ => ⟨t, p, rfl⟩⟩
  | d :: ds, y, xs, hy, nd, rg, hl, h50 => by
    simp only [List.length_cons] at hl h50 hy
    obtain ⟨v, z, v1, v2, v3, hz, e⟩ := turn_ok hG (k := k + 2 * ds.length) (y := y) (xs := xs) (w := w) (by rw [show k + 2 * ds.length + 2 = k + 2 * (ds.length + 1) by omega]; exact hy) (by omega) hw2 (by omega)
    obtain ⟨xs', y', g1, g2, g3, g4, g5⟩ := strand_loop hG hw2 (k := k) ds z (xs ++ [v]) hz (by
      rw [List.nodup_append]
      exact ⟨nd, by simp, fun a ha b hb q => v1 (by
        rcases List.mem_singleton.mp hb with rfl
        rw [← q]; exact ha)⟩) (fun i hi => by
        rcases List.mem_append.mp hi with hi | hi
        · exact rg i hi
        · rcases List.mem_singleton.mp hi with rfl
          exact ⟨v2, v3⟩) (by rw [List.length_append, List.length_singleton]; omega) (by rw [List.length_append, List.length_singleton]; omega)
    refine ⟨xs', y', g1, by rw [g2, List.length_append, List.length_singleton, List.length_cons]; omega, g3, g4, fun rest m s t p ht hp => ?_⟩
    obtain ⟨t', p', q⟩ := g5 rest m s (some (.dat (.int d))) (some (.dat (.int v))) (.inr ⟨_, rfl⟩) (.inr ⟨_, rfl⟩)
    refine ⟨t', p', ?_⟩
    show (match bodyF (oName 5) (bTurn G) (.int d) (rhoU rest m s w t p) (y :: (rest ++ [.lst (xs.map D.int)])) with | .nx ρ' S' => forL (rest.length + 2) (bodyF (oName 5) (bTurn G)) (ds.map D.int) (cutR (rest.length + 2) ρ') (S'.take (rest.length + 2)) | .ct ρ' S' => forL (rest.length + 2) (bodyF (oName 5) (bTurn G)) (ds.map D.int) (cutR (rest.length + 2) ρ') (S'.take (rest.length + 2)) | .bk ρ' S' => .nx (cutR (rest.length + 2) ρ') (S'.take (rest.length + 2)) | r => r) = _
    rw [e rest m s t p d]
    simp only [cutU (.inr ⟨_, rfl⟩) (.inr ⟨_, rfl⟩), tU]
    exact q
/-- the items of a list: different, not below 0 -/
theorem strand_ok {G : List W → Sto → R W} (hG : DrawB G) {x : C} {m most : Nat} (hx : SrcOk (m + 60) x) (hm : most ≤ 20) : ∃ (xs : List Int) (y : C), xs.Nodup ∧ xs.length ≤ most ∧ (∀ i ∈ xs, 0 ≤ i ∧ i < 10 ^ 10) ∧ SrcOk m y ∧
    ∀ rest, runF 7 false (bStrand G) [.loc 0 0, .dat (.int (most : Nat))] (x :: rest) = .ok (.dat (.tup .nod (xs.map D.int))) (y :: rest) := by
  obtain ⟨r, y1, h1, h2, h3, h4⟩ := hG (m + 58) x ((most : Nat) + 1) hx (by omega) (by omega)
  obtain ⟨n, rfl⟩ : ∃ n : Nat, r = (n : Int) := ⟨r.toNat, by omega⟩
  obtain ⟨q1, y2, d1, d2, d3, d4⟩ := hG (m + 56) y1 4 h4 (by decide) (by decide)
  -- the width
  obtain ⟨w, y3, w1, w2, w3, w4⟩ : ∃ (w : Int) (y3 : C), (n : Int) ≤ w ∧ w ≤ 10 ^ 10 ∧ SrcOk (m + 54) y3 ∧ ∀ rest, sSet 3 (fIf (fB (fBin gtI (fApp 2 G (aCons (fVar 0) (aCons (fC (.int 4)) aNil))) (fC (.int 0)))) (fBin addD (fVar 2) (fApp 2 G (aCons (fVar 0) (aCons (fC (.int 4)) aNil)))) (fBin powI (fC (.int 10)) (fC (.int 9)))) [some (.loc 0 0), some (.dat (.int (most : Nat))), some (.dat (.int (n : Nat))), none, none, none, none] (y1 :: rest) =
      .nx [some (.loc 0 0), some (.dat (.int (most : Nat))), some (.dat (.int (n : Nat))), some (.dat (.int w)), none, none, none] (y3 :: rest) := by
    by_cases hq : 0 < q1
    · obtain ⟨q2, y3, e1, e2, e3, e4⟩ := hG (m + 54) y2 4 d4 (by decide) (by decide)
      refine ⟨n + q2, y3, by omega, by omega, e4, fun rest => ?_⟩
      have t1 : gtI (.int q1) (.int 0) = some (.bool true) := congrArg (fun b => some (D.bool b)) (decide_eq_true hq)
      have g1 := d1 rest
      have g2 := e1 rest
      have a1 := addD_ii (n : Int) q2
      generalize (n : Int) + q2 = v at a1 ⊢
      generalize ((n : Nat) : Int) = n' at a1 ⊢
      simp only [sSeq, sSet, sIf, sRet, sRetN, sExpr, sNil, sPass, sAug, sPar, sAsg, sBreak, sCont, sSetL, Out.andThen, R.then, R.bind, R.lift, R.of, R.get, R.noX, fVar, fC, fBin, fB, asB, fAnd, fOr, fNot, fV, fAndV, fOrV, fNotV, fIf, fChain, aNil, aCons, rds, rd2, rd, frd, frds, dats, fTup, fTupK, fFrz, fCell, lDisp, lCat, fCall, lCall, fNo, fYesI, asI, fSl, fFz, fz, fMeth, fMeth0, LstW, lstC, fIndex, fIsi, fNeg, fRev, lRange, fApp, fYes, oName, onNil, onCons, oTup, oSub, stB, cName, cnNil, cnCons, cTup, wipeR, one, two, onL, ne1, bodyF, lcB, iSeq, iArgs, iFr, walk, Wk.ls, seqOf, ifO, cond, cutW, List.getElem?_cons_zero, List.getElem?_cons_succ, List.getElem?_nil, List.take_succ_cons, List.take_zero, List.take_nil, Nat.zero_add, List.set_cons_zero, List.set_cons_succ, List.set_nil, List.map_cons, List.map_nil, List.length_cons, List.length_nil, Option.map_some, Option.map_none, Option.bind_some, Option.bind_none, at_app0, at_appk, set_app0, set_appk, take_app0, take_appk, at_one, set_one, take_one, List.append_assoc, List.cons_append, List.nil_append, List.append_nil, Bool.not_true, Bool.not_false, Bool.and_true, Bool.true_and, Bool.or_true, Bool.true_or, Bool.false_or, Bool.or_false, Bool.and_false, Bool.false_and, decide_true, decide_false, if_true, if_false, ite_true, ite_false, List.getElem?_cons_zero, List.getElem?_cons_succ, List.set_cons_zero, List.set_cons_succ, List.length_cons, List.length_nil, Nat.reduceAdd, decide_true, t1, g1, g2, a1, Option.bind_some, Option.map_some]
    · refine ⟨10 ^ 9, y2, by omega, by decide, d4.less (by omega), fun rest => ?_⟩
      have t1 : gtI (.int q1) (.int 0) = some (.bool false) := congrArg (fun b => some (D.bool b)) (decide_eq_false hq)
      have g1 := d1 rest
      have p1 : powI (.int 10) (.int 9) = some (.int (10 ^ 9)) := rfl
      generalize (10 : Int) ^ 9 = v at p1 ⊢
      generalize ((n : Nat) : Int) = n'
      simp only [sSeq, sSet, sIf, sRet, sRetN, sExpr, sNil, sPass, sAug, sPar, sAsg, sBreak, sCont, sSetL, Out.andThen, R.then, R.bind, R.lift, R.of, R.get, R.noX, fVar, fC, fBin, fB, asB, fAnd, fOr, fNot, fV, fAndV, fOrV, fNotV, fIf, fChain, aNil, aCons, rds, rd2, rd, frd, frds, dats, fTup, fTupK, fFrz, fCell, lDisp, lCat, fCall, lCall, fNo, fYesI, asI, fSl, fFz, fz, fMeth, fMeth0, LstW, lstC, fIndex, fIsi, fNeg, fRev, lRange, fApp, fYes, oName, onNil, onCons, oTup, oSub, stB, cName, cnNil, cnCons, cTup, wipeR, one, two, onL, ne1, bodyF, lcB, iSeq, iArgs, iFr, walk, Wk.ls, seqOf, ifO, cond, cutW, List.getElem?_cons_zero, List.getElem?_cons_succ, List.getElem?_nil, List.take_succ_cons, List.take_zero, List.take_nil, Nat.zero_add, List.set_cons_zero, List.set_cons_succ, List.set_nil, List.map_cons, List.map_nil, List.length_cons, List.length_nil, Option.map_some, Option.map_none, Option.bind_some, Option.bind_none, at_app0, at_appk, set_app0, set_appk, take_app0, take_appk, at_one, set_one, take_one, List.append_assoc, List.cons_append, List.nil_append, List.append_nil, Bool.not_true, Bool.not_false, Bool.and_true, Bool.true_and, Bool.or_true, Bool.true_or, Bool.false_or, Bool.or_false, Bool.and_false, Bool.false_and, decide_true, decide_false, if_true, if_false, ite_true, ite_false, List.getElem?_cons_zero, List.getElem?_cons_succ, List.set_cons_zero, List.set_cons_succ, List.length_cons, List.length_nil, Nat.reduceAdd, decide_true, t1, g1, p1, Option.bind_some, Option.map_some]
  obtain ⟨xs, y4, f1, f2, f3, f4, f5⟩ := strand_loop hG (w := w) w2 (k := m) ((List.range n).map fun (i : Nat) => (i : Int)) y3 [] (w3.less (by simp; omega)) (by simp) (fun i hi => nomatch hi) (by simp; omega) (by simp; omega)
  refine ⟨xs, y4, f1, by rw [f2]; simp; omega, fun i hi => by have := f3 i hi; omega, f4, fun rest => ?_⟩
  obtain ⟨t', p', e⟩ := f5 rest (most : Nat) n none none (.inl rfl) (.inl rfl)
  have body : bStrand G [some (.loc 0 0), some (.dat (.int (most : Nat))), none, none, none, none, none] (x :: rest) = .rt (.dat (.tup .nod (xs.map D.int))) (y4 :: (rest ++ [.lst (xs.map D.int)])) := by
    unfold bStrand
    refine x_seq (ρ' := [some (.loc 0 0), some (.dat (.int (most : Nat))), some (.dat (.int (n : Nat))), none, none, none, none]) (S1 := y1 :: rest) ?_ (x_seq (w4 rest) (x_seq (ρ' := rhoU rest (most : Nat) n w none none) (S1 := y3 :: (rest ++ [.lst []])) ?_ (x_seq (ρ' := rhoU rest (most : Nat) n w t' p') (S1 := y4 :: (rest ++ [.lst (xs.map D.int)])) ?_ ?_)))
    · exact x_set (x_app (x_cons (w := .loc 0 0) rfl (x_cons (w := .dat (.int ((most : Nat) + 1))) rfl rfl)) rfl (h1 _))
    · refine x_set (w := .loc (rest.length + 1) 0) ?_
      show R.ok (W.loc (y3 :: rest).length 0) ((y3 :: rest) ++ [C.lst []]) = _
      rfl
    · refine (x_for (iargs_rng1 (n := n) (S1 := y3 :: (rest ++ [.lst []])) rfl (by omega))).trans ?_
      rw [lU]
      have em : ((List.range n).map fun (i : Nat) => (D.int (i : Int))) = ((List.range n).map fun (i : Nat) => (i : Int)).map D.int := by
        rw [List.map_map]; rfl
      rw [em]
      exact e
    · refine x_ret (x_call (ws := [.loc (rest.length + 1) 0]) (S1 := y4 :: (rest ++ [.lst (xs.map D.int)])) rfl ?_)
      have a2 : rd (y4 :: (rest ++ [.lst (xs.map D.int)])) (.loc (rest.length + 1) 0) = some (.list (xs.map D.int)) := by
        simp only [rd, aU]
      simp only [rds, a2, Option.bind_some]
      rfl
  have r := run_dat' (m := 7) (c := false) (fb := bStrand G) (ws := [.loc 0 0, .dat (.int (most : Nat))]) body
  rw [r]
  simp
end Vz
namespace Vz
open PySem PySem.Spec PyProof.Rows L2
/-- for index in range(max(1, min(m, len(script)))): s = source(script, index); if not all([holds(s) for turn in range(t)]): return False; then True -/
def bLawF (m t : Nat) (Fs Fh : List W → Sto → R W) : FS := (sSeq (sFor (iArgs rng1 (aCons (fCall max2 (aCons (fC (.int 1)) (aCons (fCall min2 (aCons (fC (.int m)) (aCons (fLenS (fVar 0)) aNil))) aNil))) aNil)) (oName 1) (sSeq (sSet 2 (fApp 2 Fs (aCons (fVar 0) (aCons (fVar 1) aNil))))
  (sIf (fNot (fB (fCall allD (aCons (fFrz (lComp (iArgs rng1 (aCons (fC (.int t)) aNil)) [3] (cName 3) fYes (fApp 1 Fh (aCons (fVar 2) aNil)))) aNil)))) (sRet (fC (.bool false))) sNil))) (sRet (fC (.bool true))))
/-- holds, asked of a source that may be drawn from q times more -/
def HoldsQ (q : Nat) (Fh : List W → Sto → R W) : Prop := ∀ (k : Nat) (x : C), SrcOk (k + q) x → ∃ y, SrcOk k y ∧ Fh [.loc 0 0] [x] = .ok (.dat (.bool true)) [y]
theorem turns_ok {q : Nat} {Fh : List W → Sto → R W} (h : HoldsQ q Fh) {s o1 : Option W} {k : Nat} : ∀ (ds : List D) (x : C), SrcOk (k + q * ds.length) x → ∃ y, SrcOk k y ∧ lcL 1 (lcB (cName 3) fYes (fApp 1 Fh (aCons (fVar 2) aNil)) [s, o1, some (.loc 0 0), none]) ds [x] = .ok (List.replicate ds.length (.bool true)) [y]
  | [], x, hx => ⟨x, hx, rfl⟩
  | d :: ds, x, hx => by
    obtain ⟨y, h1, h2⟩ := h (k + q * ds.length) x (by rw [show k + q * ds.length + q = k + q * (ds.length + 1) by rw [Nat.mul_add]; omega]; exact hx)
    obtain ⟨z, h3, h4⟩ := turns_ok h (s := s) (o1 := o1) ds y h1
    refine ⟨z, h3, ?_⟩
    have e : lcB (cName 3) fYes (fApp 1 Fh (aCons (fVar 2) aNil)) [s, o1, some (.loc 0 0), none] d [x] = .ok (some (.bool true)) [y] := by
      have e5 : fApp 1 Fh (aCons (fVar 2) aNil) [s, o1, some (.loc 0 0), some (.dat d)] [x] = .ok (.dat (.bool true)) [y] := by
        show Fh [.loc 0 0] [x] = _
        exact h2
      show R.bind (R.noX (fApp 1 Fh (aCons (fVar 2) aNil) [s, o1, some (.loc 0 0), some (.dat d)] [x])) _ = _
      rw [e5]
      rfl
    show R.bind (lcB (cName 3) fYes (fApp 1 Fh (aCons (fVar 2) aNil)) [s, o1, some (.loc 0 0), none] d [x]) _ = _
    rw [e]
    show R.bind (lcL 1 _ ds [y]) _ = _
    rw [h4]
    rfl
theorem law_for (m t q : Nat) (Fs Fh : List W → Sto → R W) (ns : List Int) (hm : m ≤ 100) (ht : t ≤ 1000) (c : Nat → C) (hs : ∀ i : Nat, Fs [.scr ns, .dat (.int i)] [] = .ok (.loc 0 0) [c i]) (hc : ∀ i, SrcOk (q * t) (c i)) (hh : HoldsQ q Fh) :
    runF 4 false (bLawF m t Fs Fh) [.scr ns] [] = .ok (.dat (.bool true)) [] := by
  obtain ⟨n, hn, hn2⟩ : ∃ n : Nat, (if (if ((ns.length : Nat) : Int) < (m : Int) then ((ns.length : Nat) : Int) else (m : Int)) > 1 then (if ((ns.length : Nat) : Int) < (m : Int) then ((ns.length : Nat) : Int) else (m : Int)) else 1) = (n : Int) ∧ n ≤ 100 := by
    by_cases h1 : ((ns.length : Nat) : Int) < (m : Int)
    · rw [if_pos h1]
      by_cases h2 : ((ns.length : Nat) : Int) > 1
      · exact ⟨ns.length, if_pos h2, by omega⟩
      · exact ⟨1, if_neg h2, by omega⟩
    · rw [if_neg h1]
      by_cases h2 : (m : Int) > 1
      · exact ⟨m, if_pos h2, by omega⟩
      · exact ⟨1, if_neg h2, by omega⟩
  have e1 : fCall max2 (aCons (fC (.int 1)) (aCons (fCall min2 (aCons (fC (.int m)) (aCons (fLenS (fVar 0)) aNil))) aNil)) [some (.scr ns), none, none, none] [] = .ok (.dat (.int (n : Int))) [] := by
    rw [← hn]
    rfl
  have body : bLawF m t Fs Fh [some (.scr ns), none, none, none] [] = .rt (.dat (.bool true)) [] := by
    unfold bLawF
    refine c_for (enc := fun (i : Nat) => D.int (i : Int)) (xs := List.range n) (S1 := []) (fun i ρ S => S = [] ∧ ∃ o1 o2 o3, ρ = [some (.scr ns), o1, o2, o3]) (iargs_rng1 (x_cons e1 (rfl : aNil _ _ = .ok [] [])) (by omega)) ⟨rfl, _, _, _, rfl⟩ (fun i a ha ρ S hI => ?_) (fun ρ S hI => ?_)
    · obtain ⟨rfl, o1, o2, o3, rfl⟩ := hI
      obtain ⟨y, hy, e2⟩ := turns_ok hh (s := some (.scr ns)) (o1 := some (.dat (.int (a : Int)))) (k := 0) (rng 0 t) (c a) (by rw [rng_len, Nat.zero_add]; exact hc a)
      rw [rng_len] at e2
      have e3 : lComp (iArgs rng1 (aCons (fC (.int t)) aNil)) [3] (cName 3) fYes (fApp 1 Fh (aCons (fVar 2) aNil)) [some (.scr ns), some (.dat (.int (a : Int))), some (.loc 0 0), o3] [c a] = .ok (List.replicate t (.bool true)) [y] := by
        unfold lComp
        have r1 : iArgs rng1 (aCons (fC (.int t)) aNil) [some (.scr ns), some (.dat (.int (a : Int))), some (.loc 0 0), o3] [c a] = .ok (.ds (rng 0 t)) [c a] := by
          show R.lift ((rng1 [.int (t : Int)]).map Wk.ds) [c a] = _
          unfold rng1
          have : decide ((t : Int).natAbs ≤ 1000000) = true := decide_eq_true (by omega)
          simp only [this]
          rfl
        rw [r1]
        show (match ((Wk.ds (rng 0 t)).ls [c a]).bind small with | some ds => _ | none => _) = _
        have : ((Wk.ds (rng 0 t)).ls [c a]).bind small = some (rng 0 t) := by
          show small (rng 0 t) = _
          unfold small
          rw [rng_len, decide_eq_true (Nat.le_trans ht (by decide))]
          rfl
        rw [this]
        show lcF 1 _ (.ds (rng 0 t)) (rng 0 t).length 0 [c a] = _
        rw [lcF_list _ 0 _ (Nat.zero_add _), List.drop_zero]
        exact e2
      have e4 : fCall allD (aCons (fFrz (lComp (iArgs rng1 (aCons (fC (.int t)) aNil)) [3] (cName 3) fYes (fApp 1 Fh (aCons (fVar 2) aNil)))) aNil) [some (.scr ns), some (.dat (.int (a : Int))), some (.loc 0 0), o3] [c a] = .ok (.dat (.bool true)) [y] := by
        refine x_call (ws := [.dat (.list (List.replicate t (.bool true)))]) (S1 := [y]) (x_cons (S1 := [y]) (x_frz e3) rfl) ?_
        show (boolsOf (List.replicate t (D.bool true))).map _ = _
        rw [boolsOf_repl]
        simp
      refine ⟨[some (.scr ns), some (.dat (.int (a : Int))), some (.loc 0 0), o3], [y], ?_, by simp, some (.dat (.int (a : Int))), none, cutR 0 [o3] |>.head!, ?_⟩
      · show sSeq _ _ [some (.scr ns), some (.dat (.int (a : Int))), o2, o3] [] = _
        refine x_seq (ρ' := [some (.scr ns), some (.dat (.int (a : Int))), some (.loc 0 0), o3]) (S1 := [c a]) ?_ ?_
        · refine x_set (w := .loc 0 0) ?_
          show Fs [.scr ns, .dat (.int (a : Int))] [] = _
          exact hs a
        · refine x_iff (S1 := [y]) ?_ rfl
          unfold fNot fB
          rw [e4]
          rfl
      · rfl
    · obtain ⟨rfl, o1, o2, o3, rfl⟩ := hI
      rfl
  have e : runF 4 false (bLawF m t Fs Fh) [.scr ns] [] = (bLawF m t Fs Fh [some (.scr ns), none, none, none] []).fn false 0 := rfl
  rw [e, body]
  rfl
end Vz
namespace Vz
open PySem PySem.Spec PyProof.Rows L2
/-- no list's or tuple's text is under way -/
abbrev Free (A : Around) : Prop := A.guards = some []
/-- FnOk's promise, for callers that are Free -/
structure FnK (P : Program) (w : World) (K : PySem.W.Frag) (mg : Str → Option Value) (base : Heap) (CX : CXT) (k : Nat) (f : Addr) (fd : FuncData) (ps : List Str) (sp : Sp) : Prop where
  len : ∀ ws G R X, sp ws G R X → ws.length = ps.length
  go : ∀ (B : Around) (out : List PySem.Env) (t : Shared) (G : Hp) (as : Args) (bs : List Value) (ws : List V) (R : VK) (X : XK), Room k B → Free B → Env0 P w K mg base B out t G → BindsTo t fd as (ps.zip bs) → Vals ws bs → sp ws G R X →
    codeAny (model P w) B (.call (.ref f) as) (CR CX out P w G t R X) t
section
variable {P : Program} {w : World} {K : PySem.W.Frag} {mg : Str → Option Value} {base : Heap} {CX : CXT} {j k : Nat} {f : Addr} {fd : FuncData} {ps : List Str} {sp : Sp}
theorem FnK.of (F : FnOk P w K mg base CX k f fd ps sp) : FnK P w K mg base CX k f fd ps sp := ⟨F.len, fun B out t G as bs ws R X hr _ => F.run B out t G as bs ws R X hr⟩
theorem FnK.mono (F : FnK P w K mg base CX j f fd ps sp) (h : j ≤ k) : FnK P w K mg base CX k f fd ps sp := ⟨F.len, fun B out t G as bs ws R X hr => F.go B out t G as bs ws R X (hr.mono h)⟩
/-- a def of the text, by its body -/
theorem fnK_of {name qual : Str} {params : Arguments} {body : List Stmt} {scope : Scope} {dV kV doc pm cdv ct oc : Value} {an od : Option Addr} {osl : Array (Option Value)} {N : List Str}
    (hl : K.lookup f = some ⟨oc, od, .func (PySem.W.fnOf name qual params body scope dV kV doc pm an cdv ct), osl⟩) (hc : PySem.W.codeIn K cdv qual = true) (S : FnScope N ps scope) (hn : ∀ ws G R X, sp ws G R X → ws.length = ps.length)
    (hbd : ∀ (B : Around) (out : List PySem.Env) (t : Shared) (G : Hp) (ws : List V) (R : VK) (X : XK), Room k (B.deeper (envOfC qual scope t.heap.objs.size f cdv)) → Free B → sp ws G R X →
      ∃ u, PSs (cxOf CX P w K mg base N qual scope f cdv B out t G X) body u ∧ u { nx := fun _ G' => R .non G', rt := R } (start N ws) G) :
    FnK P w K mg base CX (k + 1) f (PySem.W.fnOf name qual params body scope dV kV doc pm an cdv ct) ps sp := by
  refine ⟨hn, fun B out t G as bs ws R X hr hfree e0 hb r hsp => ?_⟩
  have hlen := hn _ _ _ _ hsp
  have kin : K.In t.heap := e0.mod.kin.keeps fun b o q => (e0.bs b o q).1
  have nol : t.heap.NoLimit := e0.mod.nolimit.keeps fun b o q => (e0.bs b o q).1
  have kinds : ∀ q ∈ ps.zip bs, scope.names.lookup q.1 = some .local ∨ (scope.names.lookup q.1 = some .cell ∧ ((cellsFrom (t.heap.objs.size + 1) scope.names []).lookup q.1).isSome = true) := by
    intro q hq
    rcases S.par q.1 (List.of_mem_zip (a := q.1) (b := q.2) hq).1 with z | z
    · exact .inl z
    · exact .inr ⟨z, PySem.W.cellsFrom_some _ _ _ (.inl z)⟩
  refine codeAny_call_function hr.depth (kin _ _ hl) rfl S.co S.gen rfl (PySem.W.codeRec_of kin hc) (hb _ _ _ _ ?_)
  refine wpAny_newFunctionEnv_cells S.kind kinds fun env henv t1 x => ?_
  subst henv
  refine ⟨nol.keeps x.toInCall.keep, codeAny_func ?_⟩
  obtain ⟨u, hu, hq⟩ := hbd B out t G ws R X (hr.deeper _) hfree hsp
  have J0 : Inv (cxOf CX P w K mg base N qual scope f cdv B out t G X) [] (start N ws) G t1 := inv_start S hr.hd e0 hlen r x
  refine wpAny_mono (hu.run [] t1 (start N ws) G _ J0 hq) (fun fl t' hs => ?_) fun _ _ hs => hs
  have done : ∀ {τ : L2.St} {G' : Hp} {v : V} {z : Value}, Inv (cxOf CX P w K mg base N qual scope f cdv B out t G X) [] τ G' t' → RelV v z → R v G' → CE out P w G t R z t' :=
    fun {τ G' v z} J rv q => ⟨v, G', J.os, J.bare, J.base, J.hok, rv, q⟩
  cases fl with
  | ret z =>
    obtain ⟨v, τ, G', J, rv, q⟩ := hs
    exact done J rv q
  | next =>
    obtain ⟨τ, G', J, q⟩ := hs
    exact done (v := V.non) (z := Value.none) J rfl q
  | brk =>
    obtain ⟨_, _, _, q⟩ := hs
    exact q.elim
  | cont =>
    obtain ⟨_, _, _, q⟩ := hs
    exact q.elim
end
section
variable {X : Cx} {CX : CXT} {k : Nat} {f : Addr} {fd : FuncData} {ps ks : List Str} {sp : Sp} {E : L2.St → XK} {x : Str} {p pos : Pos} {e : Expr} {es : List Expr} {t tk : TA} {kws : List Keyword}
/-- the callee runs; g puts the values in the parameters' order -/
theorem goK {pins : List (Addr × Obj)} {σ : L2.St} {H : Hp} {s : Shared} {Q : VK} {us as bs : List Value} {vs : List V} (F : FnK X.prog X.w X.K X.mg X.base CX k f fd ps sp) (hr : Room k X.A) (hf : Free X.A) (hx : PassesAt CX X σ (E σ)) (I : Inv X pins σ H s)
    (hb : bs.length = ps.length → BindsTo s fd ⟨us, ks.zip as⟩ (ps.zip bs)) (r : Vals vs bs) (h : sp vs H Q (E σ)) : wpAny (model X.prog X.w) X.A (call (.ref f) us (ks.zip as)) (EP X pins σ Q) X.xe s := by
  have hl : bs.length = ps.length := r.length.symm.trans (F.len _ _ _ _ h)
  refine wpAny_call (codeAny_mono (F.go X.A X.stack s H ⟨us, ks.zip as⟩ bs vs Q (E σ) hr hf I.env0 (hb hl) r h) fun z s' hq => ?_)
  match z, hq with
  | .error er, hq => exact hx pins H s er s' I hq
  | .ok (.ret u), hq => exact I.after hq
  | .ok .next, hq => exact hq.elim
  | .ok .brk, hq => exact hq.elim
  | .ok .cont, hq => exact hq.elim
def tCallQ (sp : Sp) (E : L2.St → XK) (t : TA) : TE := fun σ H Q => t σ H fun vs H1 => sp vs H1 Q (E σ)
theorem pe_callQ (F : FnK X.prog X.w X.K X.mg X.base CX k f fd ps sp) (hr : Room k X.A) (hf : Free X.A) (hg : Gl X x) (hm : X.mg x = some (.ref f)) (hk : PySem.W.keepIn X.K (.ref f) = true) (hb : Binds X.K fd ps []) (hx : ∀ σ, PassesAt CX X σ (E σ)) (ha : PA X (e :: es) t)
    (hdb : (x == ("__debug__" : Str)) = false := by decide) (he : starEach (e :: es) X.env = (false, eval e X.env) :: starEach es X.env := by rfl) (hpl : (backTo pos (starEach es X.env)).any (·.1) = false := by rfl) : PE X (.Call (.Name x p) (e :: es) [] pos) (tCallQ sp E t) := by
  refine ⟨fun pins s σ H Q I h => wpAny_Call_Name_kw (ld_glob I hg hm ?_ hdb)⟩
  refine PySem.W.callWith_K (h₀ := X.base) I.ok.mod.kin hk (thn (ha.run pos pins s σ H _ I h) ?_) he hpl
  rintro us s1 ⟨vs, H1, I1, r, q⟩
  refine ⟨I1.kIn, goK (ks := []) (as := []) F hr hf (hx σ) I1 (fun hl => ?_) r q⟩
  have b := hb s1 us I1.kIn (by simpa using hl)
  simpa using b
/-- f(k = e, ..), keywords alone; gV, g: their values in the parameters' order -/
theorem pe_callQK {g : List Value → List Value} {gV : List V → List V} (F : FnK X.prog X.w X.K X.mg X.base CX k f fd ps sp) (hr : Room k X.A) (hf : Free X.A) (hg : Gl X x) (hm : X.mg x = some (.ref f)) (hk : PySem.W.keepIn X.K (.ref f) = true)
    (hb : ∀ (s : Shared) (as : List Value), X.K.In s.heap → (g as).length = ps.length → BindsTo s fd ⟨[], ks.zip as⟩ (ps.zip (g as))) (hrel : ∀ {vs : List V} {us : List Value}, Vals vs us → Vals (gV vs) (g us)) (hx : ∀ σ, PassesAt CX X σ (E σ)) (hkw : PK X kws tk)
    (hall : (backToKw pos (keywordEach kws X.env)).all (·.1.isSome) = true := by rfl) (hks : (backToKw pos (keywordEach kws X.env)).filterMap (·.1) = ks := by rfl)
    (hdb : (x == ("__debug__" : Str)) = false := by decide) (hpl : ((backTo pos (starEach [] X.env)).any (·.1) || (backToKw pos (keywordEach kws X.env)).any (·.1.isNone)) = false := by rfl) :
    PE X (.Call (.Name x p) [] kws pos) (fun σ H Q => tk σ H fun vs H1 => sp (gV vs) H1 Q (E σ)) := by
  refine ⟨fun pins s σ H Q I h => wpAny_Call_Name_kw (ld_glob I hg hm ?_ hdb)⟩
  refine PySem.W.callWith_KW0 (h₀ := X.base) I.ok.mod.kin hk hall (thn (hkw.run pos pins s σ H _ I h) ?_) hpl
  rintro as s1 ⟨vs, H1, I1, r, q⟩
  refine ⟨I1.kIn, ?_⟩
  rw [hks]
  exact goK (us := []) F hr hf (hx σ) I1 (fun hl => hb s1 as I1.kIn hl) (hrel r) q
end
/-- repr(x), x plain data -/
theorem call_reprD {X : Cx} (hf : Free X.A) (hu : X.A.units + 66 < cLine) : CallR X (.builtin "repr") (fun xs H Q => ∃ (a : Addr) (d : PyData), xs = [.ref a] ∧ Dp X.K H (.ref a) d ∧ SeqAt.shaped d = true ∧ d.showable = true ∧ d.shown.length ≤ sizeLine ∧ Q (.str d.shown) H) := by
  intro pins s σ H xs us Q I r h
  obtain ⟨a, d, rfl, hd, sh, sw, hz, q⟩ := h
  obtain ⟨u, rfl, ru⟩ := vals1 r
  obtain rfl : u = Value.ref a := ru
  obtain ⟨as, hr⟩ := Dp.reads I d _ _ hd rfl
  have h1 := SeqAt.depth_of_shaped sh
  refine PySem.repr_of_reads' hr sw (fun z => ?_) hf (by omega) (fun _ _ e => e) (fun h' v tk kp => ⟨.str d.shown, H, ?_, ⟨v, rfl⟩, q⟩) hz
  · rw [PyData.hasDict_of_canLay d (SeqAt.canLay_of_shaped sh)] at z
    cases z
  · exact I.kept kp
/-- repr of data -/
def reprD : List D → Option D := one fun d => match d with
  | .list xs => ifO (shp (.list xs) && ((D.list xs).py.showable && decide ((D.list xs).py.shown.length ≤ lim))) (some (.str (D.list xs).py.shown))
  | .tup f xs => ifO (shp (.tup f xs) && ((D.tup f xs).py.showable && decide ((D.tup f xs).py.shown.length ≤ lim))) (some (.str (D.tup f xs).py.shown))
  | .int i => ifO (decide (i.natAbs.log2 < 1920)) (some (.str (toString i)))
  | _ => none
def rReprX (K : PySem.W.Frag) : List V → Hp → VK → Prop := fun xs H Q => (∃ (a : Addr) (d : PyData), xs = [.ref a] ∧ Dp K H (.ref a) d ∧ SeqAt.shaped d = true ∧ d.showable = true ∧ d.shown.length ≤ sizeLine ∧ Q (.str d.shown) H) ∨ (∃ i, xs = [.int i] ∧ i.natAbs.log2 < 1920 ∧ Q (.str (toString i)) H)
theorem call_reprX {X : Cx} (hf : Free X.A) (hu : X.A.units + 66 < cLine) : CallR X (.builtin "repr") (rReprX X.K) := by
  intro pins s σ H xs us Q I r h
  rcases h with h | h
  · exact call_reprD hf hu pins s σ H xs us Q I r h
  · obtain ⟨i, rfl, hz, q⟩ := h
    obtain ⟨u, rfl, t, rfl⟩ := vals1 r
    exact PySem.P.repr_of_int hz ⟨.str _, H, I.tok _, ⟨_, rfl⟩, q⟩
theorem boot_repr : bootBuiltins "repr" = some (.builtin "repr") := by kernel_rfl
section
variable {T : Tb} {X : Cx} {Wx : WX} {k : Nat} {ga : FA} {e : Expr} {es : List Expr} {p pos : Pos}
end
section
variable {P : Program} {w : World} {K : PySem.W.Frag} {mg mb : Str → Option Value} {CX : CXT} {k : Nat} {fa a : Addr} {fd : FuncData} {x : Str} {sp : Sp} {t : Shared} {us : List Value} {ns : List Int}
def LawEnd (t : Shared) (r : Result) (t' : Shared) : Prop := r = .ok (.ret (.bool true)) ∧ OldK t.heap t'.heap ∧ t'.os = t.os ∧ AllBare t'.gens
/-- from a heap in which the script alone is tracked, if anything -/
theorem law_from {H : Hp} (kin : K.In t.heap) (gns : t.heap.Ns mainGlobals mg) (bns : t.heap.Ns builtinsNs mb) (bok : ∀ x : Str, x ≠ "__name__" → mb x = bootBuiltins x) (nol : t.heap.NoLimit) (ng : t.gens = #[])
    (hs : t.heap.get? a = some { cls := .type "list", data := .seq us.toArray }) (hr : Room k callerA) (F : ∀ base : Heap, K.In base → base.Ns mainGlobals mg → FnK P w K mg base CX k fa fd [x] sp) (hbind : ∀ (s : Shared) (u : Value), BindsTo s fd ⟨[u], []⟩ [(x, u)])
    (hcx : ∀ H e s', CX [] H t (fun _ _ _ => False) e s' → False) (only : Only H) (hok : HOk P w H t.heap) (here : ∀ b, H b ≠ none → b = a) (nok : H a ≠ none → K.lookup a = none) (hsp : sp [.ref a] H (fun v _ => v = .bl true) fun _ _ _ => False) :
    codeAny (model P w) callerA (.call (.ref fa) ⟨[.ref a], []⟩) (LawEnd t) t := by
  have isA : ∀ {b : Addr} {u : HO}, H b = some u → b = a := fun {b u} q => here b fun z => by
    rw [q] at z
    cases z
  have tb : ∀ {b : Addr} {o : Obj}, t.heap.get? b = some o → H b = none → (hidT t.heap H).get? b = some o := fun q n => hidT_get q n
  have dct : ∀ {b : Addr} {o : Obj} {es : Array DictEntry} {ep : Nat}, t.heap.get? b = some o → o.data = .dict es ep → H b = none := by
    intro b o es ep q d
    cases z : H b with
    | none => rfl
    | some u =>
      rw [isA z, hs] at q
      cases q
      exact nomatch (show Data.seq us.toArray _ = Data.dict es ep from d)
  have nsb : ∀ {b : Addr} {m : Str → Option Value}, t.heap.Ns b m → (hidT t.heap H).Ns b m := by
    rintro b m ⟨o, es, ep, q, d, r⟩
    exact ⟨o, es, ep, tb q (dct q d), d, r⟩
  have kb : K.In (hidT t.heap H) := by
    intro b o q
    refine tb (kin b o q) ?_
    cases z : H b with
    | none => rfl
    | some u =>
      have e := isA z
      rw [e] at z q
      rw [nok (by rw [z]; exact nofun)] at q
      cases q
  have hm : Mod K mg (hidT t.heap H) := ⟨kb, nsb gns, ⟨mb, nsb bns, bok⟩, let ⟨m, h1, h2⟩ := nol; ⟨m, nsb h1, h2⟩⟩
  have none0 : ∀ b : Addr, b ∉ ([] : List Addr) := fun b z => nomatch z
  have e0 : Env0 P w K mg (hidT t.heap H) callerA [] t H := ⟨rfl, hm, fun b o q => of_hidT q, Nat.le_of_eq (hidT_size _ _), trivial, fun b z => (none0 b z).elim, hok, .of_eq ng⟩
  refine codeAny_mono ((F _ kb (nsb gns)).go callerA [] t H ⟨[.ref a], []⟩ [.ref a] [.ref a] _ _ hr rfl e0 (hbind t (.ref a)) (.cons rfl .nil) hsp) fun r t' h => ?_
  match r, h with
  | .error e, h => exact (hcx H e t' h).elim
  | .ok .next, h => exact h.elim
  | .ok .brk, h => exact h.elim
  | .ok .cont, h => exact h.elim
  | .ok (.ret u), h =>
    obtain ⟨v, H', os, bare, un, hok', ru, q⟩ := h
    cases (show v = V.bl true from q)
    obtain rfl : u = Value.bool true := ru
    refine ⟨rfl, OldK.of_keep fun b o e => ?_, os, bare⟩
    rcases only b with z | ⟨ob, xs, z⟩
    · exact un.keep b o e z (none0 b) (none0 b)
    · have e1 := (hok b _ z).1
      have e2 := (hok' b _ (un.frzs b ob _ z)).1
      rw [e] at e1
      cases e1
      exact e2
theorem law_callK (kin : K.In t.heap) (gns : t.heap.Ns mainGlobals mg) (bns : t.heap.Ns builtinsNs mb) (bok : ∀ x : Str, x ≠ "__name__" → mb x = bootBuiltins x) (nol : t.heap.NoLimit) (ng : t.gens = #[])
    (hs : t.heap.get? a = some { cls := .type "list", data := .seq us.toArray }) (hi : IntsAre us ns) (hl : ns.length ≤ sizeLine) (hr : Room k callerA) (F : ∀ base : Heap, K.In base → base.Ns mainGlobals mg → FnK P w K mg base CX k fa fd [x] sp)
    (hbind : ∀ (s : Shared) (u : Value), BindsTo s fd ⟨[u], []⟩ [(x, u)]) (hcx : ∀ H e s', CX [] H t (fun _ _ _ => False) e s' → False) (hsp : ∀ H : Hp, Only H → SqL K H a (ns.map V.int) → sp [.ref a] H (fun v _ => v = .bl true) fun _ _ _ => False) :
    codeAny (model P w) callerA (.call (.ref fa) ⟨[.ref a], []⟩) (LawEnd t) t := by
  have rv := vals_ints hi
  have go := fun {H : Hp} (only : Only H) => law_from (H := H) kin gns bns bok nol ng hs hr F hbind hcx only
  cases hk : K.lookup a with
  | some o =>
    have e := kin a o hk
    rw [hs] at e
    cases e
    have only : Only (fun _ => none) := fun _ => .inl rfl
    refine go only (fun b u z => nomatch (show (none : Option HO) = some u from z)) (fun b z => (z rfl).elim) (fun z => (z rfl).elim) (hsp _ only (.inr ⟨_, us.toArray, _, hk, rfl, rfl, rfl, ?_, by simpa using rv⟩))
    rw [List.size_toArray, hi.length]
    exact hl
  | none =>
    let H : Hp := fun b => if b = a then some (.frz { cls := .type "list", data := .seq us.toArray } (.lst (ns.map V.int))) else none
    have Ha : ∀ b, b = a → H b = some (.frz { cls := .type "list", data := .seq us.toArray } (.lst (ns.map V.int))) := fun b hb => if_pos hb
    have Hn : ∀ b, b ≠ a → H b = none := fun b hb => if_neg hb
    have only : Only H := fun b => by
      by_cases hb : b = a
      · exact .inr ⟨_, _, Ha b hb⟩
      · exact .inl (Hn b hb)
    refine go only (fun b u z => ?_) (fun b z => ?_) (fun _ => hk) (hsp H only (.inl (.inr ⟨_, Ha a rfl⟩)))
    · by_cases hb : b = a
      · rw [Ha b hb] at z
        cases z
        subst hb
        exact ⟨hs, by rw [List.length_map]; exact hl, us, _, rv, hs⟩
      · rw [Hn b hb] at z
        cases z
    · by_cases hb : b = a
      · exact hb
      · exact (z (Hn b hb)).elim
end
theorem walk_K {l : PySem.W.OpenLaw} {n k : Nat} {q : Program} {loose : List Str} {XP : (Str → Option Value) → Heap → Prop} {YP : World → Heap → Prop} {d : DefRec} {CX : CXT} {x : Str} (hn : l.most = some n) (hn2 : n ≤ sizeLine) (hdf : d.params.defaults = []) (hr : Room k callerA)
    (F : ∀ (w : World) (mg : Str → Option Value) (fa : Addr) (h : Heap), YP w h → h.Ns mainGlobals mg → mg d.name = some (.ref fa) → ∃ (K : PySem.W.Frag) (fd : FuncData) (sp : Sp), K.In h ∧ (∀ (s : Shared) (u : Value), BindsTo s fd ⟨[u], []⟩ [(x, u)]) ∧
        (∀ (H : Hp) (a : Addr) (ns : List Int), ns.length ≤ n → Only H → SqL K H a (ns.map V.int) → sp [.ref a] H (fun v _ => v = .bl true) fun _ _ _ => False) ∧ ∀ base : Heap, K.In base → base.Ns mainGlobals mg → FnK l.prog w K mg base CX k fa fd [x] sp)
    (hcx : ∀ (H : Hp) (s : Shared) (e : Value) (s' : Shared), CX [] H s (fun _ _ _ => False) e s' → False) : PySem.W.WalkO q loose XP YP l.row.toRowW d [] (fun f vs => PySem.call f vs) := by
  refine Att.attach_call hn hdf fun w s0 t mg mb fa o pm cd doc a us ns G Y _ _ _ hmg hs hints hlen hg => ?_
  obtain ⟨K, fd, sp, kin, hb, hsp, hF⟩ := F w mg fa _ Y G.T.g hmg
  exact law_callK kin G.T.g G.T.b G.T.builtins G.T.nolimit hg hs hints (Nat.le_trans hlen hn2) hr hF hb (fun H e s' => hcx H t e s') fun H hO hS => hsp H a ns hlen hO hS
end Vz
namespace Vz
open PySem PySem.Spec PyProof.Rows L2
/-- the def x keeps its promise f -/
structure OkK (T : Tb) (P : Program) (w : World) (K : PySem.W.Frag) (mg : Str → Option Value) (base : Heap) (k : Nat) (x : Str) (ps : List Str) (f : List W → Sto → R W) : Prop where
  ex : ∃ fd, FnK P w K mg base (L2.CX P w) k (He.ga K x) fd ps (spV T K ps.length f) ∧ Binds K fd ps [] ∧ ∃ oc od osl, K.lookup (He.ga K x) = some ⟨oc, od, .func fd, osl⟩
  keep : PySem.W.keepIn K (.ref (He.ga K x)) = true
  glo : mg x = some (.ref (He.ga K x))
section
variable {T : Tb} {X : Cx} {Wx : WX} {k n : Nat} {x : Str} {ps ks : List Str} {g : List W → Sto → R W} {ga : FA} {e : Expr} {es : List Expr} {p pos : Pos} {kws : List Keyword}
theorem semE_appQ {K : PySem.W.Frag} {t : TA} (h : SemA T K Wx t ga) : SemE T K Wx (tCallQ (spV T K n g) (WE Wx) t) (fApp n g ga) := semE_app h
theorem je_apK (O : OkK T X.prog X.w X.K X.mg X.base k x ps g) (hr : Room k X.A) (hf : Free X.A) (tk : Takes X Wx) (ha : JA T X Wx (e :: es) ga) (hg : Gl X x := by rfl)
    (hdb : (x == ("__debug__" : Str)) = false := by decide) (he : starEach (e :: es) X.env = (false, eval e X.env) :: starEach es X.env := by rfl) (hpl : (backTo pos (starEach es X.env)).any (·.1) = false := by rfl) (hn : ps.length = n := by rfl) :
    JE T X Wx (.Call (.Name x p) (e :: es) [] pos) (fApp n g ga) := by
  subst hn
  obtain ⟨fd, h1, h2, _⟩ := O.ex
  obtain ⟨t, a1, s1⟩ := ha
  exact ⟨_, pe_callQ h1 hr hf hg O.glo O.keep h2 (fun σ => passAt tk σ) a1 hdb he hpl, semE_appQ s1⟩
/-- the values of keywords -/
structure JK (T : Tb) (X : Cx) (Wx : WX) (kws : List Keyword) (f : FA) : Prop where
  ex : ∃ t, PK X kws t ∧ SemA T X.K Wx t f
theorem jk_nil : JK T X Wx [] aNil := ⟨tNil, pk_nil, fun G F A S H σ ρ Q hw hs hp => hp F A H [] (Evl.Ex.refl _) (Pre.refl _) hw .nil⟩
theorem jk_cons {fa : FE} {nm : Option Str} {kp : Pos} (h1 : JE T X Wx e fa) (h2 : JK T X Wx kws ga) : JK T X Wx (⟨nm, e, kp⟩ :: kws) (aCons fa ga) := by
  obtain ⟨t, a1, s1⟩ := h1
  obtain ⟨u, a2, s2⟩ := h2
  refine ⟨_, pk_cons a1 a2, fun G F A S H σ ρ Q hw hs hp => ?_⟩
  refine s1 G F A S H σ ρ _ hw hs (hp.bind fun w S' F' A' H' v e1 p1 w1 r1 hp1 => ?_)
  refine s2 G F' A' S' H' σ ρ _ w1 (hs.mono e1 p1) (hp1.bind fun ws S2 F2 A2 H2 vs e2 p2 w2 r2 hp2 => ?_)
  exact hp2 F2 A2 H2 _ (Evl.Ex.refl _) (Pre.refl _) w2 (.cons (r1.mono e2 p2) r2)
/-- in the parameters' order -/
def reord {α : Type} (d : α) (ix : List Nat) (xs : List α) : List α := match decide (xs.length = ix.length) with
  | true => ix.map fun i => xs.getD i d
  | false => []
theorem reord_vals {ix : List Nat} {vs : List V} {us : List Value} (r : Vals vs us) : Vals (reord .non ix vs) (reord .none ix us) := by
  unfold reord
  rw [r.length]
  cases decide (us.length = ix.length) with
  | false => exact .nil
  | true =>
    have one : ∀ i, RelV (vs.getD i .non) (us.getD i .none) := fun i => by
      rw [List.getD_eq_getElem?_getD, List.getD_eq_getElem?_getD]
      by_cases hi : i < vs.length
      · obtain ⟨u, hu, ru⟩ := r.get (List.getElem?_eq_getElem hi)
        rw [hu, List.getElem?_eq_getElem hi]
        exact ru
      · rw [List.getElem?_eq_none (by omega), List.getElem?_eq_none (by rw [← r.length]; omega)]
        rfl
    show Vals (ix.map fun i => vs.getD i .non) (ix.map fun i => us.getD i .none)
    clear r
    induction ix with
    | nil => exact .nil
    | cons i ix ih => exact .cons (one i) ih
theorem paired_map {α β γ : Type} {R : α → β → Prop} {f : γ → α} {g : γ → β} (h : ∀ i, R (f i) (g i)) : ∀ ix : List γ, Paired R (ix.map f) (ix.map g)
  | [] => .nil
  | i :: ix => .cons (h i) (paired_map h ix)
/-- a call with keywords alone -/
def fAppK (n : Nat) (ix : List Nat) (g : List W → Sto → R W) (f : FA) : FE := fun ρ S => (f ρ S).bind fun ws S1 => match decide (ws.length = n) with
  | true => g (reord (.dat .none) ix ws) S1
  | false => .bad
theorem je_kwK {qual : Str} {params : Arguments} {body : List Stmt} {scope : Scope} {ix : List Nat} (O : OkK T X.prog X.w X.K X.mg X.base k x ps g) (hF : ∃ fd, FunD X.K x qual params body scope [] [] (He.ga X.K x) fd) (hr : Room k X.A) (hf : Free X.A) (tk : Takes X Wx) (ha : JK T X Wx kws ga)
    (hb : ∀ (kV doc pm : Value) (an : Option Addr) (cdv ct : Value) (as : List Value), as.length = ix.length → bindArgs (PySem.W.fnOf x qual params body scope .none kV doc pm an cdv ct) ⟨[], ks.zip as⟩ = pure (ps.zip (ix.map fun i => as.getD i .none))) (hn : ix.length = ps.length := by rfl) (hn0 : ps.length = n := by rfl) (hpos : 0 < n := by decide)
    (hg : Gl X x := by rfl) (hall : (backToKw pos (keywordEach kws X.env)).all (·.1.isSome) = true := by rfl) (hks : (backToKw pos (keywordEach kws X.env)).filterMap (·.1) = ks := by rfl)
    (hdb : (x == ("__debug__" : Str)) = false := by decide) (hpl : ((backTo pos (starEach [] X.env)).any (·.1) || (backToKw pos (keywordEach kws X.env)).any (·.1.isNone)) = false := by rfl) :
    JE T X Wx (.Call (.Name x p) [] kws pos) (fAppK n ix g ga) := by
  subst hn0
  obtain ⟨fd, h1, h2, oc, od, osl, hl⟩ := O.ex
  obtain ⟨fd', F⟩ := hF
  obtain ⟨oc', od', dV, kV, doc, pm, an, cdv, ct, osl', rfl, hl', _, dv, _⟩ := F.ex
  rw [hl] at hl'
  cases hl'
  have hd : dV = .none := by
    rcases dv with ⟨_, h⟩ | ⟨h, _⟩
    · exact h
    · exact (h rfl).elim
  subst hd
  obtain ⟨t, a1, s1⟩ := ha
  refine ⟨_, pe_callQK (g := reord .none ix) (gV := reord .non ix) h1 hr hf hg O.glo O.keep (fun s as _ hlen => ?_) reord_vals (fun σ => passAt tk σ) a1 hall hks hdb hpl, ?_⟩
  · unfold reord at hlen ⊢
    cases hq : decide (as.length = ix.length) with
    | false =>
      rw [hq] at hlen
      simp at hlen
      omega
    | true =>
      have q := of_decide_eq_true hq
      exact .of_eq (hb kV doc pm an cdv ct as q)
  · intro G F A S H σ ρ Q hw hs hp
    refine s1 G F A S H σ ρ _ hw hs (hp.bind fun ws S1 F1 A1 H1 vs e1 p1 w1 r1 hp1 => ?_)
    have hlw := rws_len r1
    cases hq : decide (ws.length = ps.length) with
    | false => rw [hq] at hp1; exact hp1.elim
    | true =>
      rw [hq] at hp1
      have hlen := of_decide_eq_true hq
      refine ⟨G, F1, A1, S1, reord (.dat .none) ix ws, ?_, w1, ?_, hp1⟩
      · unfold reord
        rw [decide_eq_true (by omega)]
        simp [hn]
      · unfold reord
        rw [decide_eq_true (show ws.length = ix.length by omega), decide_eq_true (show vs.length = ix.length by omega)]
        have one : ∀ i, RepW X.K F1 A1 (ws.getD i (.dat .none)) (vs.getD i .non) := fun i => by
          rw [List.getD_eq_getElem?_getD, List.getD_eq_getElem?_getD]
          by_cases hi : i < ws.length
          · obtain ⟨u, hu, ru⟩ := prd_get r1 (List.getElem?_eq_getElem hi)
            rw [hu, List.getElem?_eq_getElem hi]
            exact ru
          · rw [List.getElem?_eq_none (by omega), List.getElem?_eq_none (by omega)]
            exact .non
        exact paired_map one ix
theorem ok_defK {P : Program} {w : World} {K : PySem.W.Frag} {mg : Str → Option Value} {base : Heap} {qual : Str} {params : Arguments} {body : List Stmt} {scope : Scope} {N : List Str} {g : FS} (c : Bool) (hF : ∃ fd, FunD K x qual params body scope [] [] (He.ga K x) fd) (hg : mg x = some (.ref (He.ga K x))) (S : FnScope N ps scope)
    (hb : ∀ (kV doc pm : Value) (an : Option Addr) (cdv ct : Value) (us : List Value), us.length = ps.length → bindArgs (PySem.W.fnOf x qual params body scope .none kV doc pm an cdv ct) ⟨us, []⟩ = pure (ps.zip us))
    (h : ∀ (cdv : Value) (A : Around) (outer : List PySem.Env) (s : Shared) (H : Hp) (E : XK), Room k (A.deeper (envOfC qual scope s.heap.objs.size (He.ga K x) cdv)) → Free (A.deeper (envOfC qual scope s.heap.objs.size (He.ga K x) cdv)) → Takes (cxOf (L2.CX P w) P w K mg base N qual scope (He.ga K x) cdv A outer s H E) (fun cls d _ H' => E cls d H') →
      PassesOwn (model P w) (cxOf (L2.CX P w) P w K mg base N qual scope (He.ga K x) cdv A outer s H E).A (cxOf (L2.CX P w) P w K mg base N qual scope (He.ga K x) cdv A outer s H E).env (cxOf (L2.CX P w) P w K mg base N qual scope (He.ga K x) cdv A outer s H E).xe →
      JB T (cxOf (L2.CX P w) P w K mg base N qual scope (He.ga K x) cdv A outer s H E) (fun cls d _ H' => E cls d H') body g) :
    OkK T P w K mg base (k + 1) x ps (runF N.length c g) := by
  obtain ⟨fd, F⟩ := hF
  refine ⟨⟨fd, ?_, F.bindsN hb, look_of F⟩, F.kp, hg⟩
  obtain ⟨oc, od, dV, kV, doc, pm, an, cdv, ct, osl, rfl, hl, hc, _, _⟩ := F.ex
  refine fnK_of hl hc S (fun vs H Q E hsp => ?_) fun A outer s H vs Q E hr hf hsp => ?_
  · obtain ⟨G, F, A, S, ws, hn, hw, hr, hp⟩ := hsp
    rw [← rws_len hr]
    exact hn
  · obtain ⟨t, h1, s1⟩ := (h cdv A outer s H E hr hf (L2.takes_of rfl rfl rfl rfl) (L2.passes_of rfl)).ex
    exact ⟨t, h1, semF s1 hsp⟩
end
section
variable {T : Tb} {P : Program} {w : World} {K : PySem.W.Frag} {mg : Str → Option Value} {base : Heap} {k : Nat} {x : Str} {ps : List Str} {f : List W → Sto → R W}
theorem okK_bad {qual : Str} {params : Arguments} {body : List Stmt} {scope : Scope} (hF : ∃ fd, FunD K x qual params body scope [] [] (He.ga K x) fd) (hg : mg x = some (.ref (He.ga K x)))
    (hb : ∀ (kV doc pm : Value) (an : Option Addr) (cdv ct : Value) (us : List Value), us.length = ps.length → bindArgs (PySem.W.fnOf x qual params body scope .none kV doc pm an cdv ct) ⟨us, []⟩ = pure (ps.zip us)) (k : Nat) : OkK T P w K mg base k x ps fBad := by
  obtain ⟨⟨fd, h1, h2⟩, h3, h4⟩ := ok_bad (T := T) (P := P) (w := w) (base := base) hF hg hb k
  exact ⟨⟨fd, .of h1, h2⟩, h3, h4⟩
theorem OkK.mono {j k : Nat} (O : OkK T P w K mg base j x ps f) (h : j ≤ k) : OkK T P w K mg base k x ps f := by
  obtain ⟨⟨fd, h1, h2, h5⟩, h3, h4⟩ := O
  exact ⟨⟨fd, h1.mono h, h2, h5⟩, h3, h4⟩
theorem OkK.at_fd {fd : FuncData} (O : OkK T P w K mg base k x ps f) (h : ∃ oc od osl, K.lookup (He.ga K x) = some ⟨oc, od, .func fd, osl⟩) : FnK P w K mg base (L2.CX P w) k (He.ga K x) fd ps (spV T K ps.length f) := by
  obtain ⟨fd', h1, _, oc, od, osl, h2⟩ := O.ex
  obtain ⟨oc', od', osl', h3⟩ := h
  rw [h2] at h3
  cases h3
  exact h1
theorem fnK_cxl {f : Addr} {fd : FuncData} {sp : Sp} (F : FnK P w K mg base (L2.CX P w) k f fd ps sp) : FnK P w K mg base CXL k f fd ps sp :=
  ⟨F.len, fun A outer s H args us vs Q E hr hf he hb hv hs => codeAny_mono (F.go A outer s H args us vs Q E hr hf he hb hv hs) fun r s' h => by
    match r, h with
    | .ok .next, h => exact h
    | .ok .brk, h => exact h
    | .ok .cont, h => exact h
    | .ok (.ret _), h => exact h
    | .error e, h => exact ⟨P, w, h⟩⟩
end
def pairsK : List D → Option (List (Key × D))
  | [] => some []
  | .tup _ [kd, d] :: ds => (keyOf kd).bind fun k => (pairsK ds).bind fun ps => some ((k, d) :: ps)
  | _ => none
def mergeD (ps : List (Key × D)) : List (Key × D) := ps.foldl (fun acc p => putD acc p.1 p.2) []
def dictPD : List D → Option D := one (onL fun xs => (pairsK xs).map fun ps => .dK (mergeD ps))
def rDictP (K : PySem.W.Frag) : List V → Hp → VK → Prop := fun xs H Q => ∃ (a : Addr) (ps : List Addr) (kvs : List (Key × V)), xs = [.ref a] ∧ SqL K H a (ps.map V.ref) ∧ Paired (fun p kv => SqT K H p [kV kv.1, kv.2]) ps kvs ∧ ∀ p, H p = none → Q (.ref p) (upd H p (.dK (mergeK [] kvs)))
section
variable {K : PySem.W.Frag} {F H : Hp}
theorem key_rep {d : D} {k : Key} {v : V} (h : Rep K F d v) (e : keyOf d = some k) : v = kV k := by
  cases h with
  | int i => cases e; rfl
  | str x => cases e; rfl
  | _ => cases e
theorem pairsK_rep (e : Ex F H) : ∀ {ds : List D} {vs : List V} {ps : List (Key × D)}, Reps K F ds vs → pairsK ds = some ps → ∃ (as : List Addr) (kvs : List (Key × V)), vs = as.map V.ref ∧ Paired (fun p kv => SqT K H p [kV kv.1, kv.2]) as kvs ∧ RepK K F ps kvs
  | [], _, _, .nil, h => by
    cases h
    exact ⟨[], [], rfl, .nil, .nil⟩
  | .tup f [kd, d] :: ds, _, _, .cons h1 h2, h => by
    simp only [pairsK] at h
    obtain ⟨k, hk, h⟩ := ob h
    obtain ⟨ps, hp, h⟩ := ob h
    cases h
    obtain ⟨as, kvs, rfl, g2, g3⟩ := pairsK_rep e h2 hp
    cases h1 with
    | tup h1 r1 =>
      obtain ⟨u, v, rfl, ru, rv⟩ := r1.two
      cases key_rep ru hk
      exact ⟨_ :: as, (k, v) :: kvs, rfl, .cons (sqt_mono e h1.sq) g2, .cons rv g3⟩
theorem merge_rep : ∀ {ps : List (Key × D)} {kvs : List (Key × V)} {qs : List (Key × D)} {ms : List (Key × V)}, RepK K F ps kvs → RepK K F qs ms → RepK K F (ps.foldl (fun acc p => putD acc p.1 p.2) qs) (kvs.foldl (fun acc p => putK acc p.1 p.2) ms)
  | [], _, _, _, h, q => by
    cases h
    exact q
  | (k0, d0) :: ps, kvs, qs, ms, h, q => by
    cases h with
    | cons h r =>
      have := merge_rep r (RepK.put (k := k0) h q)
      exact this
end
theorem l_dictP {T : Tb} {K : PySem.W.Frag} : CallL T K (rDictP K) dictPD := by
  intro G F A S H vs ds z Q hw rs h q
  obtain ⟨d, hd, h0⟩ := one_some h
  subst hd
  clear h
  cases rs with
  | cons r rr =>
  cases rr
  cases d with
  | list xs =>
    obtain ⟨ps, h1, rfl⟩ := om h0
    cases r with
    | flat z => cases z
    | lst h2 r2 =>
      obtain ⟨as, kvs, rfl, g2, g3⟩ := pairsK_rep hw.sub r2 h1
      refine ⟨_, as, kvs, rfl, .of h2, g2, fun p hp => ?_⟩
      exact fin_new q hw hp fun F' e h => .dK h ((merge_rep g3 .nil).mono e)
  | _ => cases h0
theorem boot_dict : bootBuiltins "dict" = some (.type "dict") := by kernel_rfl
section
variable {T : Tb} {X : Cx} {Wx : WX} {ga : FA} {e : Expr} {p pos : Pos}
theorem je_dictP (hc : X.calm = true) (hm : X.mg "dict" = none) (ha : JA T X Wx [e] ga) (hg : Gl X "dict" := by rfl) (he : starEach [e] X.env = (false, eval e X.env) :: starEach [] X.env := by rfl) : JE T X Wx (.Call (.Name "dict" p) [e] [] pos) (fCall dictPD ga) :=
  je_callTy (call_dictP hc) l_dictP hg hm boot_dict ha (by decide) (by decide) he rfl
end
end Vz
namespace Vz
open PySem PySem.Spec PyProof.Rows L2
section
variable {T : Tb} {X : Cx} {Wx : WX} {a b : Expr} {fa fb : FE} {pos : Pos}
end
end Vz
namespace Vz
open PySem PySem.Spec PyProof.Rows L2
open PySem.W PySem.Calls PySem.HandSPX Builtin Builtin.ObjectAttr in
/-- what is known of a built-in exception class -/
structure BaseF (B newId initId : String) (bm : List Value) : Prop where
  ex : ExcBaseFacts B newId initId bm
  st : ∀ self, refuseLoop self "__setattr__" bm = pure ()
  ob : bm.contains (.type "object") = true
  typ : typeOf (.type B) = pure (.type "type")
section
open PySem.W PySem.Calls PySem.HandSPX Builtin Builtin.ObjectAttr
variable {prog : Program} {w : World} {A : Around} {R : Result → Shared → Prop} {hp : Heap} {g : Array GenState} {d : Drawn} {t : Nat} {os : OsState}
end
/-- what the written part says of an own exception class -/
structure OeC (K : PySem.W.Frag) (C : Addr) (newId : String) (bm : List Value) : Prop where
  cls : ∃ nm q N bs sn sub ab col dd k0 k1 k2 k3 k5, K.lookup C = some (excClassObj nm q C N bs bm true sn sub ab col dd k0 k1 k2 k3 k5 newId)
  sa : PySem.W.findIn K (.ref C) "__setattr__" = some (some (.builtin "object.__setattr__"))
  exC : PySem.W.subIn K (.ref C) (.type "BaseException") = some true
  tyC : PySem.W.typeIn K (.ref C) = some (.type "type")
  kC : PySem.W.keepIn K (.ref C) = true
section
variable {X : Cx} {pins : List (Addr × Obj)} {σ : L2.St} {H : Hp} {s : Shared} {a C dx : Addr} {f : Str} {y : V} {u : Value} {Q : Unit → Shared → Prop} {E : Value → Shared → Prop} {A : Around} {B newId initId : String} {bm : List Value}
end
section
variable {X : Cx} {o e : Expr} {es : List Expr} {to te : TE} {ta : TA} {f : Str} {p p' p1 p2 pos : Pos} {B newId initId : String} {bm : List Value} {nB : Str}
end
end Vz
namespace Vz
open PySem PySem.Spec PyProof.Rows L2
/-- what is asked of a class: its name, its base's __new__, its mro behind itself, its fields, and names: is an object of the first an instance of the second? -/
structure XcD where
  c : Str
  newId : String
  bm : List Value
  fs : List Str
def XcD.at_ (K : PySem.W.Frag) (x : XcD) : Addr := He.ga K x.c
def clsOk (C : Addr) (newId : String) (bm : List Value) : Option Obj → Bool
  | some ⟨.type "type", _, .cls cd, sl⟩ => (match sl.toList with
    | [_, _, _, _, some (.builtin n), _] => cd.mro == .ref C :: bm && (cd.hasDict && (!cd.hasDel && n == newId))
    | _ => false)
  | _ => false
def XcD.ok (K : PySem.W.Frag) (x : XcD) : Bool :=
  clsOk (x.at_ K) x.newId x.bm (K.lookup (x.at_ K)) && (He.eqO (PySem.W.findIn K (.ref (x.at_ K)) "__setattr__") (some (some (.builtin "object.__setattr__"))) && (decide (PySem.W.subIn K (.ref (x.at_ K)) (.type "BaseException") = some true) &&
    (decide (PySem.W.typeIn K (.ref (x.at_ K)) = some (.type "type")) && (PySem.W.keepIn K (.ref (x.at_ K)) && (He.eqO (PySem.W.findIn K (.ref (x.at_ K)) "__init__") (some (some (.ref (He.ma K (x.at_ K) "__init__")))) &&
      (decide (PySem.W.typeIn K (.ref (He.ma K (x.at_ K) "__init__")) = some (.type "function")) && x.fs.all fun f => He.eqO (PySem.W.findIn K (.ref (x.at_ K)) f) (some none)))))))
/-- what XcD.ok tells -/
structure XcSays (K : PySem.W.Frag) (x : XcD) : Prop where
  oe : OeC K (He.ga K x.c) x.newId x.bm
  ini : PySem.W.findIn K (.ref (He.ga K x.c)) "__init__" = some (some (.ref (He.ma K (He.ga K x.c) "__init__")))
  fun_ : PySem.W.typeIn K (.ref (He.ma K (He.ga K x.c) "__init__")) = some (.type "function")
  noat : ∀ f ∈ x.fs, PySem.W.findIn K (.ref (He.ga K x.c)) f = some none
theorem xc_says {K : PySem.W.Frag} {x : XcD} (h : x.ok K = true) : XcSays K x := by
  obtain ⟨h1, h⟩ := Bool.and_eq_true_iff.mp h
  obtain ⟨h2, h⟩ := Bool.and_eq_true_iff.mp h
  obtain ⟨h3, h⟩ := Bool.and_eq_true_iff.mp h
  obtain ⟨h4, h⟩ := Bool.and_eq_true_iff.mp h
  obtain ⟨h5, h⟩ := Bool.and_eq_true_iff.mp h
  obtain ⟨h6, h⟩ := Bool.and_eq_true_iff.mp h
  obtain ⟨h7, h8⟩ := Bool.and_eq_true_iff.mp h
  refine ⟨⟨?_, He.eqO_ok h2, of_decide_eq_true h3, of_decide_eq_true h4, h5⟩, He.eqO_ok h6, of_decide_eq_true h7, fun f hf => He.eqO_ok (List.all_eq_true.mp h8 f hf)⟩
  show ∃ nm q N bs sn sub ab col dd k0 k1 k2 k3 k5, K.lookup (x.at_ K) = _
  unfold clsOk at h1
  split at h1
  · rename_i dd cd sl ho
    split at h1
    · rename_i k0 k1 k2 k3 n k5 hs
      simp only [Bool.and_eq_true, beq_iff_eq, Bool.not_eq_true'] at h1
      obtain ⟨hm, hd, hdel, rfl⟩ := h1
      obtain ⟨nm, bs, mro, ns, qn, hdt, sn, sub, ab, col, del⟩ := cd
      dsimp only at hm hd hdel
      subst hm hd hdel
      obtain ⟨l⟩ := sl
      dsimp only at hs
      subst hs
      exact ⟨nm, qn, ns, bs, sn, sub, ab, col, dd, k0, k1, k2, k3, k5, ho⟩
    · cases h1
  · cases h1
/-- what is looked at behind the top, with classes; ck: what else is asked -/
abbrev AlX : Type := Bool × He.AlD
def obsX (xs : List XcD) (ck : PySem.W.Frag → Bool) (fa : List He.Fa) (fn : List He.DefD) (K : PySem.W.Frag) : AlX := ((xs.all fun x => x.ok K) && ck K, He.obsD fa fn K)
def obsXG (n : Nat) (xs : List XcD) (ck : PySem.W.Frag → Bool) (fa : List He.Fa) (fn : List He.DefD) (g : Addr → Option Obj) : AlX := obsX xs ck fa fn (He.frG g (He.asD g n))
def SaysX (xs : List XcD) (ck : PySem.W.Frag → Bool) (fa : List He.Fa) (fn : List He.DefD) (K : PySem.W.Frag) : Prop := obsX xs ck fa fn K = (true, He.valD fn)
def hookX (n : Nat) (xs : List XcD) (ck : PySem.W.Frag → Bool) (fa : List He.Fa) (fn : List He.DefD) : PySem.W.Hook where
  α := AlX
  obs := fun s => obsXG n xs ck fa fn s.heap.get?
  val := fun _ => (true, He.valD fn)
  says := fun _ h => ∃ K : PySem.W.Frag, K.In h ∧ SaysX xs ck fa fn K
  of := fun _ _ e => ⟨_, He.frG_in, e⟩
  keeps := fun _ _ _ ⟨K, hK, c⟩ k => ⟨K, PySem.W.Frag.In.keeps hK k, c⟩
theorem obsXG_eq {n : Nat} {xs : List XcD} {ck : PySem.W.Frag → Bool} {fa : List He.Fa} {fn : List He.DefD} {g : Addr → Option Obj} {s : Shared} (h : ∀ a, g a = s.heap.get? a) : obsXG n xs ck fa fn g = (hookX n xs ck fa fn).obs s := by
  obtain rfl : g = s.heap.get? := funext h
  rfl
section
variable {xs : List XcD} {ck : PySem.W.Frag → Bool} {fa : List He.Fa} {fn : List He.DefD} {K : PySem.W.Frag}
theorem SaysX.d (c : SaysX xs ck fa fn K) : He.SaysD fa fn K := congrArg Prod.snd c
theorem SaysX.asked (c : SaysX xs ck fa fn K) : ck K = true := (Bool.and_eq_true_iff.mp (congrArg Prod.fst c)).2
theorem SaysX.x (c : SaysX xs ck fa fn K) (i : Nat) {x : XcD} (h : xs[i]? = some x := by rfl) : XcSays K x := by
  have c1 : (xs.all fun x => x.ok K) = true := (Bool.and_eq_true_iff.mp (congrArg Prod.fst c)).1
  exact xc_says (List.all_eq_true.mp c1 x (List.mem_of_getElem? h))
end
end Vz
namespace Vz
open PySem PySem.Spec PyProof.Rows L2
abbrev selfS : Str := "self"
/-- what an __init__ does with an exception that is being made -/
def spIn (C : Addr) : List Str → Sp
  | [] => fun vs H Q _ => ∃ a, vs = [V.ref a] ∧ H a = some (exo a C none) ∧ Q .non H
  | [f] => fun vs H Q _ => ∃ a y, vs = [V.ref a, y] ∧ H a = some (exo a C none) ∧ ∀ dx, H dx = none → dx ≠ a → Q .non (upd (upd H dx (exd dx [(f, y)])) a (exo a C (some dx)))
  | _ => fun _ _ _ _ => False
/-- an own exception class c with the fields fs -/
structure Xc (P : Program) (w : World) (K : PySem.W.Frag) (mg : Str → Option Value) (base : Heap) (k : Nat) (c : Str) (fs : List Str) : Prop where
  glo : mg c = some (.ref (He.ga K c))
  ex : ∃ (B newId initId : String) (bm : List Value) (fI : Addr) (fd : FuncData), BaseF B newId initId bm ∧ OeC K (He.ga K c) newId bm ∧ PySem.W.findIn K (.ref (He.ga K c)) "__init__" = some (some (.ref fI)) ∧ PySem.W.typeIn K (.ref fI) = some (.type "function") ∧
    FnOk P w K mg base (L2.CX P w) k fI fd (selfS :: fs) (spIn (He.ga K c) fs) ∧ Binds K fd (selfS :: fs) []
section
variable {X : Cx} {C fI : Addr} {k : Nat} {fd : FuncData} {ps : List Str} {sp : Sp} {B newId initId : String} {bm : List Value} {x : Str} {e : Expr} {es : List Expr} {ta : TA} {p pos : Pos}
end
/-- raise c(e) -/
def sRaise1 (c f : Str) (g : FA) : FS := fun ρ S => (g ρ S).then ρ fun ws S1 => match ws with
  | [.dat d] => .exc ⟨c, [(f, d)]⟩ ρ S1
  | _ => .bad
def sRaise0 (c : Str) : FS := fun ρ S => .exc ⟨c, []⟩ ρ S
section
variable {T : Tb} {X : Cx} {Wx : WX} {k : Nat} {c f : Str} {e : Expr} {g : FA} {p pos pos' : Pos}
end
end Vz
namespace Vz
open PySem PySem.Spec PyProof.Rows L2
def tieD : Option Int → D
  | none => .none
  | some i => .int i
inductive PutR where
  | ok (xs : List Int) (ts : List (Option Int))
  | dup (i : Int)
  | mis (i : Int)
theorem findI_none {k : Int} : ∀ {zs : List Int}, findI k zs = none → k ∉ zs
  | [], _ => by simp
  | z :: zs, h => by
    unfold findI at h
    cases q : decide (z = k) with
    | true => rw [q] at h; cases h
    | false =>
      rw [q] at h
      have h' : findI k zs = none := by
        cases r : findI k zs with
        | none => rfl
        | some j => rw [r] at h; cases h
      have ih := findI_none h'
      have hz := of_decide_eq_false q
      intro m
      rcases List.mem_cons.mp m with m | m
      · exact hz m.symm
      · exact ih m
end Vz
namespace Vz
open PySem PySem.Spec PyProof.Rows L2
section
variable {M : Model} {K : PySem.W.Frag}
end
section
variable {X : Cx} {Q : Value → Shared → Prop} {E : Value → Shared → Prop} {A : Around}
/-- (A, B, ..) of a clause: names of the module's own -/
def NamesL (X : Cx) : List (Str × Pos) → List Value → Prop
  | [], [] => True
  | (x, _) :: r, c :: cs => Gl X x ∧ (x == ("__debug__" : Str)) = false ∧ X.mg x = some c ∧ NamesL X r cs
  | _, _ => False
theorem NamesL.suite {a : Addr} {pn : List (Addr × Obj)} : ∀ {ns : List (Str × Pos)} {cs : List Value}, NamesL X ns cs → NamesL (X.suite a pn) ns cs
  | [], [], _ => trivial
  | (x, p) :: ns, c :: cs, ⟨h1, h2, h3, h4⟩ => ⟨h1, h2, h3, NamesL.suite h4⟩
end
section
open PySem.HandSPX
end
section
variable {X : Cx} {pins : List (Addr × Obj)} {σ : L2.St} {H : Hp} {s : Shared}
/-- an exception that is held becomes a tracked object -/
theorem Inv.hold {a : Addr} {oe : Obj} {us : Array Value} {ca : Addr} {d : Option Addr} (I : Inv X pins σ H s) (ha : s.heap.get? a = some oe) (hc : oe.cls = .ref ca) (hd : oe.dict = d) (hf : oe.data = .fields us) (na : H a = none) (n0 : X.s_0.heap.get? a = none) (nL : a ≠ X.env.locals) (nC : ∀ x c, X.env.cells.lookup x = some c → c ≠ a) (np : ∀ p ∈ X.pn ++ pins, p.1 ≠ a) :
    Inv X pins σ (upd H a (exnHO a ca d)) s := by
  have n0' : ∀ {b : Addr} {o : Obj}, X.s_0.heap.get? b = some o → b ≠ a := fun {b o} q z => by
    rw [z, n0] at q
    cases q
  refine ⟨I.ok, I.os, I.bare, ⟨I.base.keep, I.base.slot, fun b o q n hx => ?_, I.base.there, fun b xs q => ?_, fun b o u q => ?_, fun b ps q => ?_⟩, I.loc, I.cell, ?_, fun x c q => ?_, fun p hp => ?_, fun b u q => ?_, I.len⟩
  · rw [upd_ne (n0' q)]
    exact I.base.free b o q n hx
  · have z := I.base.tups b xs q
    rw [upd_ne (ne_of_none z na)]
    exact z
  · have z := I.base.frzs b o u q
    rw [upd_ne (ne_of_none z na)]
    exact z
  · obtain ⟨m, z⟩ := I.base.tbls b ps q
    exact ⟨m, by rw [upd_ne (ne_of_none z na)]; exact z⟩
  · rw [upd_ne (Ne.symm nL)]
    exact I.free
  · rw [upd_ne (nC x c q)]
    exact I.freeC x c q
  · obtain ⟨h1, h2, h3, h4, h5⟩ := I.pin p hp
    exact ⟨h1, by rw [upd_ne (np p hp)]; exact h2, h3, h4, h5⟩
  · by_cases hb : b = a
    · subst hb
      rw [upd_same] at q
      cases q
      exact ⟨⟨oe, us, ha, hc, hd, hf⟩, ⟨oe, ha⟩, fun h1 h2 ⟨o, v, q1, q2⟩ k => ⟨o, v, k o q1, q2⟩⟩
    · rw [upd_ne hb] at q
      refine (I.hok b u q).stay (fun c v _ y => y) (fun c hc => ?_) fun c xs hc => ?_
      · rw [upd_ne (ne_of_none hc na)]
        exact hc
      · rw [upd_ne (ne_of_none hc na)]
        exact hc
end
section
variable {X : Cx} {n : Str} {cs : List Value} {i kk : Nat} {body suite : List Stmt} {b₀ : Stmt} {ns : List (Str × Pos)} {pos pos' tpos : Pos} {tb : WX → TS} {ts : Addr → TS} {Wout : WX}
end
end Vz
namespace Vz
open PySem PySem.Spec PyProof.Rows L2
theorem Sl.drop1 {K : PySem.W.Frag} {F : Hp} {A : List (List Addr)} {ρ : Rho} {σ : L2.St} (h : Sl K F A ρ σ) (i : Nat) : Sl K F A (ρ.set i none) (σ.set i none) := by
  refine ⟨by rw [List.length_set, List.length_set]; exact h.len, fun j w' q => ?_⟩
  by_cases hj : i = j
  · subst hj
    have hi : i < ρ.length := by
      have q' := (List.getElem?_eq_some_iff.mp q).1
      rwa [List.length_set] at q'
    rw [List.getElem?_set_self hi] at q
    cases q
  · rw [List.getElem?_set_ne hj] at q
    obtain ⟨v', h1, h2⟩ := h.at_ j w' q
    exact ⟨v', by rw [List.getElem?_set_ne hj]; exact h1, h2⟩
/-- behind the suite the name is gone -/
def Out.drop1 (i : Nat) : Out → Out
  | .nx ρ S => .nx (ρ.set i none) S
  | .bk ρ S => .bk (ρ.set i none) S
  | .ct ρ S => .ct (ρ.set i none) S
  | .rt w S => .rt w S
  | _ => .bad
/-- L: the classes that are known; cl: those of the clause -/
def sTry (L cl : List Str) (i : Nat) (gb gs : FS) : FS := fun ρ S => match gb ρ S with
  | .exc x ρ1 S1 => (match L.contains x.cls with
    | true => (match cl.contains x.cls with
      | true => (gs (ρ1.set i (some (.exn x))) S1).drop1 i
      | false => .exc x ρ1 S1)
    | false => .bad)
  | r => r
/-- what the written part says of the package's exceptions: L their names, B built-in classes, tb: which of them are above which -/
structure ExT (K : PySem.W.Frag) (L : List Str) (B : List String) (tb : Str → String → Bool) (fl : List Str) : Prop where
  c : ∀ x ∈ L, ExcC K (He.ga K x)
  fld : ∀ x ∈ L, ∀ f ∈ fl, PySem.W.findIn K (.ref (He.ga K x)) f = some none
  exm : ∀ x ∈ L, ∀ y ∈ L, PySem.W.exmOne K (.ref (He.ga K x)) (.ref (He.ga K y)) = some (x == y)
  isi : ∀ x ∈ L, ∀ y ∈ L, PySem.W.kitOne K (.ref (He.ga K x)) (.ref (He.ga K y)) = some (x == y)
  bas : ∀ x ∈ L, ∀ b ∈ B, PySem.W.kitOne K (.ref (He.ga K x)) (.type b) = some (tb x b)
theorem ExT.any {K : PySem.W.Frag} {L : List Str} {B : List String} {tb : Str → String → Bool} {fl : List Str} (E : ExT K L B tb fl) {x : Str} (hx : x ∈ L) : ∀ {cl : List Str}, (∀ y ∈ cl, y ∈ L) → PySem.W.exmAny K (.ref (He.ga K x)) (cl.map fun y => .ref (He.ga K y)) = some (cl.contains x)
  | [], _ => rfl
  | y :: cl, h => by
    have e := E.exm x hx y (h y (by simp))
    have r := ExT.any E hx (fun z hz => h z (List.mem_cons_of_mem _ hz))
    show (match PySem.W.exmOne K (.ref (He.ga K x)) (.ref (He.ga K y)), PySem.W.exmAny K (.ref (He.ga K x)) (cl.map fun y => .ref (He.ga K y)) with
      | some b, some d => some (b || d)
      | _, _ => none) = _
    rw [e, r, List.contains_cons]
section
variable {T : Tb} {X : Cx} {Wx : WX} {L : List Str} {B : List String} {tb : Str → String → Bool} {fl : List Str}
def isNoW : W → Bool
  | .dat .none => true
  | _ => false
def fIsN (f : FE) : FE := fun ρ S => (f ρ S).bind fun w S1 => .ok (.dat (.bool (isNoW w))) S1
def fIsNN (f : FE) : FE := fun ρ S => (f ρ S).bind fun w S1 => .ok (.dat (.bool (!isNoW w))) S1
variable {a : Expr} {fa : FE} {pos pc : Pos} {j : Nat}
end
section
variable {X : Cx}
/-- the object that is held, with its dict -/
def HeldO (H : Hp) (a C : Addr) (d : Option Addr) : Prop := H a = some (exnHO a C d) ∧ (d = none ∨ ∃ dd vfs, d = some dd ∧ H dd = some (.xd vfs))
end
theorem ExnAt.held {K : PySem.W.Frag} {F H : Hp} {x : Exn} {a : Addr} (e : Ex F H) (h : ExnAt K F x a) : ∃ d, HeldO H a (He.ga K x.cls) d := by
  obtain ⟨d, h1, h2⟩ := h
  refine ⟨d, e _ _ h1, ?_⟩
  rcases h2 with ⟨_, h2⟩ | ⟨dd, vfs, h3, h4, _⟩
  · exact .inl h2
  · exact .inr ⟨dd, vfs, h3, e _ _ h4⟩
section
variable {T : Tb} {X : Cx} {Wx : WX} {L : List Str} {B : List String} {tb : Str → String → Bool} {fl : List Str} {a : Expr} {fa : FE} {pos : Pos}
/-- isinstance(x, C), x a held exception -/
def fIsX (L : List Str) (g : Str → Bool) (f : FE) : FE := fun ρ S => (f ρ S).bind fun w S1 => match w with
  | .exn x => (match L.contains x.cls with
    | true => .ok (.dat (.bool (g x.cls))) S1
    | false => .bad)
  | _ => .bad
def fXf (L : List Str) (n : Str) (f : FE) : FE := fun ρ S => (f ρ S).bind fun w S1 => match w with
  | .exn x => (match L.contains x.cls with
    | true => R.lift ((x.fs.lookup n).map W.dat) S1
    | false => .bad)
  | _ => .bad
end
end Vz
namespace Vz
open PySem PySem.Spec PyProof.Rows L2
def excB (K : PySem.W.Frag) (C : Addr) : Bool :=
  He.eqO (PySem.W.findIn K (.ref C) "__getattribute__") (some (some (.builtin "BaseException.__getattribute__"))) && (He.eqO (PySem.W.findIn K (.ref C) "__getattr__") (some none) && (decide (PySem.W.subIn K (.ref C) (.type "BaseException") = some true) &&
    (PySem.W.hasDictIn K C && (He.eqO (PySem.W.findIn K (.ref C) "__class__") (some (some (.builtin "object.__class__"))) && (He.eqO (PySem.W.specialIn K (.builtin "object.__class__") "__get__") (some (some (.builtin "getset_descriptor.__get__"))) &&
      (decide (PySem.W.takesIn K (.builtin "object.__class__") = some true) && decide (PySem.W.mroIn K C (.type "object") = some true)))))))
/-- a row: x the name, its bases' names -/
def rowB (K : PySem.W.Frag) (L : List Str) (B : List String) (tb : Str → String → Bool) (fl : List Str) (x : Str) : Bool :=
  excB K (He.ga K x) && ((fl.all fun f => He.eqO (PySem.W.findIn K (.ref (He.ga K x)) f) (some none)) && ((L.all fun y => decide (PySem.W.exmOne K (.ref (He.ga K x)) (.ref (He.ga K y)) = some (x == y))) &&
    ((L.all fun y => decide (PySem.W.kitOne K (.ref (He.ga K x)) (.ref (He.ga K y)) = some (x == y))) && (B.all fun b => decide (PySem.W.kitOne K (.ref (He.ga K x)) (.type b) = some (tb x b))))))
def extB (L : List Str) (B : List String) (tb : Str → String → Bool) (fl : List Str) (K : PySem.W.Frag) : Bool := L.all fun x => rowB K L B tb fl x
/-- the built-in classes above a package's exception -/
def tbP (x : Str) (b : String) : Bool := match b with
  | "ValueError" => (["Duplicate", "Misfit", "Impossible", "NotLast", "BadText", "BadLine"] : List Str).contains x
  | "LookupError" => (["Missing", "NoItem", "NoOrder", "NoState"] : List Str).contains x
  | "RuntimeError" => (["NoWay"] : List Str).contains x
  | "OverflowError" => (["TooMany", "Full"] : List Str).contains x
  | "ArithmeticError" => (["TooMany", "Full"] : List Str).contains x
  | "Exception" => true
  | _ => false
end Vz
namespace Vz
open PySem PySem.Spec PyProof.Rows L2
/-- a list that is a field: the cell, the field's place, the class, the fields, the field -/
structure FldAt where
  k : Nat
  j : Nat
  cl : Str
  fs : List (Str × List D)
  f : Str
  xs : List D
/-- the store with the field's list anew -/
def FldAt.put (p : FldAt) (ys : List D) (S : Sto) : Sto := S.set p.k (.ins p.cl (p.fs.set p.j (p.f, ys)))
abbrev FieldP (K : PySem.W.Frag) (F H : Hp) (p : Str × List D) (b : Addr) : Prop := F b = none ∧ ∃ vs, H b = some (.lst vs) ∧ Reps K F p.2 vs
section
variable {T : Tb} {K : PySem.W.Frag} {F H : Hp}
theorem fld_far {p : Addr} {o : HO} : ∀ {fs : List (Str × List D)} {bs : List Addr}, p ∉ bs → Paired (FieldP K F H) fs bs → Paired (FieldP K F (upd H p o)) fs bs
  | _, _, _, .nil => .nil
  | _, _, n, .cons ⟨h1, vs, h2, h3⟩ r => .cons ⟨h1, vs, by rw [upd_ne (fun z => n (by rw [z]; exact List.mem_cons_self ..))]; exact h2, h3⟩ (fld_far (fun z => n (List.mem_cons_of_mem _ z)) r)
end
/-- what the written part says of an own class: its fields' names, its methods' names -/
structure InC (K : PySem.W.Frag) (c : Str) (fl ml : List Str) : Prop where
  cl : Cls K (He.ga K c)
  no : ∀ f ∈ fl, NoAttr K (He.ga K c) f
  me : ∀ m ∈ ml, Meth K (He.ga K c) m (He.ma K (He.ga K c) m)
/-- the place of a field -/
def fix_ (f : Str) : List (Str × List D) → Option Nat
  | [] => none
  | p :: r => match decide (p.1 = f) with
    | true => some 0
    | false => (fix_ f r).map (· + 1)
section
variable {T : Tb} {X : Cx} {Wx : WX} {a e : Expr} {es : List Expr} {fa : FE} {ga : FA} {pos p apos : Pos} {c : Str} {fl ml : List Str}
end
end Vz
namespace Vz
open PySem PySem.Spec PyProof.Rows L2
section
variable {X : Cx} {CX : CXT} {k : Nat} {f C : Addr} {fd : FuncData} {ps ks : List Str} {sp : Sp} {E : L2.St → XK} {m : Str} {pos apos : Pos} {e o : Expr} {es : List Expr} {t tk : TA} {ta : TE} {kws : List Keyword} {dvs : List V} {ds : List Value}
end
/-- the method m of the class c keeps its promise f; dv: its defaults -/
structure OkM (T : Tb) (P : Program) (w : World) (K : PySem.W.Frag) (mg : Str → Option Value) (base : Heap) (k : Nat) (c m : Str) (ps : List Str) (dv : List D) (f : List W → Sto → R W) : Prop where
  ex : ∃ fd, FnK P w K mg base (L2.CX P w) k (He.ma K (He.ga K c) m) fd ps (spV T K ps.length f) ∧ Binds K fd ps [] ∧ (∃ vs ds, dv.map flatD = vs.map some ∧ Vals vs ds ∧ Binds K fd ps ds) ∧ ∃ oc od osl, K.lookup (He.ma K (He.ga K c) m) = some ⟨oc, od, .func fd, osl⟩
  cl : Cls K (He.ga K c)
  me : Meth K (He.ga K c) m (He.ma K (He.ga K c) m)
section
variable {T : Tb} {X : Cx} {Wx : WX} {a e : Expr} {es : List Expr} {fa : FE} {ga : FA} {pos p apos : Pos} {c m : Str} {k n : Nat} {ps : List Str} {dv : List D} {g : List W → Sto → R W}
end
end Vz
namespace Vz
open PySem PySem.Spec PyProof.Rows L2
abbrev TR := (V → L2.St → Hp → Prop) → L2.St → Hp → Prop
structure PRr (X : Cx) (body : List Stmt) (t : TR) : Prop where
  run : ∀ (pins : List (Addr × Obj)) (s : Shared) (σ : L2.St) (H : Hp) (D : V → L2.St → Hp → Prop) (Q : Flow → Shared → Prop), Inv X pins σ H s → t D σ H → (∀ u v s' σ' H', Inv X pins σ' H' s' → RelV v u → D v σ' H' → Q (.ret u) s') →
    wpAny (model X.prog X.w) X.A (execs body X.env) Q X.xe s
section
variable {X : Cx} {e : Expr} {te : TE} {st : Stmt} {body : List Stmt} {t1 : TS} {t2 : TR} {rp : Pos}
end
inductive OutR where
  | rt (w : W) (ρ : Rho) (S : Sto)
  | exc (x : Exn) (ρ : Rho) (S : Sto)
  | bad
abbrev FR := Rho → Sto → OutR
def PostR (T : Tb) (K : PySem.W.Frag) (F : Hp) (A : List (List Addr)) (r : OutR) (D : V → L2.St → Hp → Prop) (Wx : WX) : Prop :=
  match r with
  | .rt w ρ S => ∀ F' A' H' σ v, Ex F F' → Pre A A' → Wd T K F' A' S H' → Sl K F' A' ρ σ → RepW K F' A' w v → D v σ H'
  | .exc x ρ S => ∀ F' A' H' σ cls d, Ex F F' → Pre A A' → Wd T K F' A' S H' → Sl K F' A' ρ σ → RepX T K F' x cls d → Wx cls d σ H'
  | .bad => False
def SemR (T : Tb) (K : PySem.W.Frag) (Wx : WX) (t : TR) (f : FR) : Prop := ∀ G F A S H σ ρ D, Wd (T.g G) K F A S H → Sl K F A ρ σ → PostR (T.g G) K F A (f ρ S) D Wx → t D σ H
structure JR (T : Tb) (X : Cx) (Wx : WX) (body : List Stmt) (f : FR) : Prop where
  ex : ∃ t, PRr X body t ∧ SemR T X.K Wx t f
theorem PostR.shift {T : Tb} {K : PySem.W.Frag} {F F' : Hp} {A A' : List (List Addr)} {r : OutR} {D : V → L2.St → Hp → Prop} {Wx : WX} (h : PostR T K F A r D Wx) (e : Ex F F') (p : Pre A A') : PostR T K F' A' r D Wx := by
  cases r with
  | rt w ρ S => exact fun F2 A2 H2 σ v e2 p2 => h F2 A2 H2 σ v (e.trans e2) (p.trans p2)
  | exc x ρ S => exact fun F2 A2 H2 σ c d e2 p2 => h F2 A2 H2 σ c d (e.trans e2) (p.trans p2)
  | bad => exact h
section
variable {T : Tb} {X : Cx} {Wx : WX} {e : Expr} {f : FE} {st : Stmt} {g : FS} {gr : FR} {body : List Stmt} {rp pos : Pos}
theorem RepX.mono {K : PySem.W.Frag} {F F' : Hp} {x : Exn} {cls : Value} {d : Option Addr} (h : RepX T K F x cls d) (e : Ex F F') : RepX T K F' x cls d := by
  obtain ⟨ca, h1, h2, h3⟩ := h
  refine ⟨ca, h1, h2, ?_⟩
  rcases h3 with h3 | ⟨dd, vfs, h3, h4, h5⟩
  · exact .inl h3
  · exact .inr ⟨dd, vfs, h3, e _ _ h4, Paired.mapP h5 fun _ _ q => ⟨q.1, q.2.mono e⟩⟩
end
end Vz
namespace Vz
open PySem PySem.Spec PyProof.Rows L2
/-- an instance that is under way: at x, its dict dx, its lists bs; no cell yet -/
structure Ini (T : Tb) (K : PySem.W.Frag) (F : Hp) (A : List (List Addr)) (S : Sto) (H G : Hp) (x dx ca : Addr) (fs : List (Str × List D)) (bs : List Addr) : Prop where
  w : Wd (T.g G) K F A S H
  nd : (x :: dx :: bs).Nodup
  hx : H x = some (.ins ca dx ((fs.map (·.1)).zip (bs.map V.ref)))
  hdx : H dx = some (.own x)
  f : ∀ b ∈ x :: dx :: bs, F b = none ∧ G b = none ∧ b ∉ A.flatten
  p : Paired (FieldP K F H) fs bs
section
variable {T : Tb} {K : PySem.W.Frag} {F H G : Hp} {A : List (List Addr)} {S : Sto} {x dx ca : Addr} {fs : List (Str × List D)} {bs : List Addr}
theorem Wd.lessG {G' : Hp} (e : Ex G G') (w : Wd (T.g G') K F A S H) : Wd (T.g G) K F A S H :=
  ⟨w.sub, w.len, w.ok, w.nod, w.there, e.trans w.gh, fun a ha => Evl.fresh_back e (w.gd a ha), fun a u h => Evl.fresh_back e (w.fg a u h), ⟨w.tb.tabs, w.tb.f, fun q hq => Evl.fresh_back e (w.tb.g q hq), w.tb.a, w.tb.nf, fun b ps z => w.tb.ng b ps (e b _ z), w.tb.na⟩⟩
theorem still_all : ∀ {as : List Addr} {G : Hp}, Wd (T.g G) K F A S H → as.Nodup → (∀ b ∈ as, (∃ o, H b = some o ∧ ∀ ps, o ≠ .tbl ps) ∧ F b = none ∧ G b = none ∧ b ∉ A.flatten) → ∃ G', Wd (T.g G') K F A S H ∧ Ex G G' ∧ ∀ b ∈ as, G' b = H b
  | [], G, w, _, _ => ⟨G, w, Evl.Ex.refl G, fun b hb => nomatch hb⟩
  | a :: as, G, w, nd, h => by
    obtain ⟨n1, n2⟩ := List.nodup_cons.mp nd
    obtain ⟨h1, h2, h3, h4⟩ := h a (List.mem_cons_self ..)
    obtain ⟨o, ho, hn⟩ := h1
    have w1 := w.still ho h2 h3 h4 hn
    obtain ⟨G', w', e', q⟩ := still_all (as := as) w1 n2 fun b hb => by
      obtain ⟨k1, k2, k3, k4⟩ := h b (List.mem_cons_of_mem _ hb)
      refine ⟨k1, k2, ?_, k4⟩
      rw [upd_ne (fun z => n1 (by rw [← z]; exact hb))]
      exact k3
    refine ⟨G', w', (Evl.Ex.new h3).trans e', fun b hb => ?_⟩
    rcases List.mem_cons.mp hb with z | hb
    · rw [z, e' a o upd_same, ho]
    · exact q b hb
theorem fld_some : ∀ {fs : List (Str × List D)} {bs : List Addr}, Paired (FieldP K F H) fs bs → ∀ b ∈ bs, (H b).isSome
  | _, _, .nil, b, hb => nomatch hb
  | _, _, .cons ⟨_, vs, h, _⟩ r, b, hb => by
    rcases List.mem_cons.mp hb with z | hb
    · rw [z, h]; rfl
    · exact fld_some r b hb
theorem fld_not : ∀ {fs : List (Str × List D)} {bs : List Addr}, Paired (FieldP K F H) fs bs → ∀ b ∈ bs, ∃ o, H b = some o ∧ ∀ ps, o ≠ .tbl ps
  | _, _, .nil, b, hb => nomatch hb
  | _, _, .cons ⟨_, vs, h, _⟩ r, b, hb => by
    rcases List.mem_cons.mp hb with z | hb
    · exact ⟨_, by rw [z]; exact h, fun _ z => by cases z⟩
    · exact fld_not r b hb
theorem Ini.isN (I : Ini T K F A S H G x dx ca fs bs) : ∀ b ∈ x :: dx :: bs, ∃ o, H b = some o ∧ ∀ ps, o ≠ .tbl ps := fun b hb => by
  rcases List.mem_cons.mp hb with z | hb
  · exact ⟨_, by rw [z]; exact I.hx, fun _ z => by cases z⟩
  · rcases List.mem_cons.mp hb with z | hb
    · exact ⟨_, by rw [z]; exact I.hdx, fun _ z => by cases z⟩
    · exact fld_not I.p b hb
theorem Ini.noT (I : Ini T K F A S H G x dx ca fs bs) : ∀ b ∈ x :: dx :: bs, ∀ ps, H b ≠ some (.tbl ps) := fun b m ps z => by
  obtain ⟨o, h1, h2⟩ := I.isN _ m
  rw [h1] at z
  exact h2 ps (Option.some.inj z)
theorem Ini.isS (I : Ini T K F A S H G x dx ca fs bs) : ∀ b ∈ x :: dx :: bs, (H b).isSome := fun b hb => by
  rcases List.mem_cons.mp hb with z | hb
  · rw [z, I.hx]; rfl
  · rcases List.mem_cons.mp hb with z | hb
    · rw [z, I.hdx]; rfl
    · exact fld_some I.p b hb
theorem Ini.start (w : Wd (T.g G) K F A S H) (hx : H x = none) (hdx : H dx = none) (ne : dx ≠ x) : Ini T K F A S (upd (upd H dx (.own x)) x (.ins ca dx [])) G x dx ca [] [] := by
  have hx' : upd H dx (.own x) x = none := by rw [upd_ne (Ne.symm ne)]; exact hx
  refine ⟨(w.junk hdx _).junk hx' _, by simp [Ne.symm ne], upd_same, by rw [upd_ne ne]; exact upd_same, fun b hb => ?_, .nil⟩
  have hb' : H b = none := by
    rcases List.mem_cons.mp hb with z | hb
    · rw [z]; exact hx
    · rcases List.mem_cons.mp hb with z | hb
      · rw [z]; exact hdx
      · cases hb
  refine ⟨w.freshF hb', Evl.fresh_back w.gh hb', fun z => ?_⟩
  have := w.there b z
  rw [hb'] at this
  cases this
theorem fld_mono {F2 H2 : Hp} (e : Ex F F2) : ∀ {fs : List (Str × List D)} {bs : List Addr}, (∀ b ∈ bs, F2 b = none ∧ H2 b = H b) → Paired (FieldP K F H) fs bs → Paired (FieldP K F2 H2) fs bs
  | _, _, _, .nil => .nil
  | _, _, h, .cons ⟨h1, vs, h2, h3⟩ r => .cons ⟨(h _ (List.mem_cons_self ..)).1, vs, by rw [(h _ (List.mem_cons_self ..)).2]; exact h2, h3.mono e⟩ (fld_mono e (fun b hb => h b (List.mem_cons_of_mem _ hb)) r)
/-- something else is evaluated meanwhile -/
theorem Ini.hold (I : Ini T K F A S H G x dx ca fs bs) : ∃ G', Wd (T.g G') K F A S H ∧ Ex G G' ∧ (∀ b ∈ x :: dx :: bs, (G' b).isSome) ∧
    ∀ F2 A2 S2 H2, Ex F F2 → Wd (T.g G') K F2 A2 S2 H2 → Ini T K F2 A2 S2 H2 G x dx ca fs bs := by
  obtain ⟨G', w', e', q⟩ := still_all I.w I.nd fun b hb => ⟨I.isN b hb, I.f b hb⟩
  have so : ∀ b ∈ x :: dx :: bs, (G' b).isSome := fun b hb => by rw [q b hb]; exact I.isS b hb
  refine ⟨G', w', e', so, fun F2 A2 S2 H2 e2 w2 => ?_⟩
  have eq : ∀ b ∈ x :: dx :: bs, H2 b = H b := fun b hb => by
    obtain ⟨o, ho⟩ := Option.isSome_iff_exists.mp (so b hb)
    rw [w2.gh b o ho, ← q b hb, ho]
  have fr : ∀ b ∈ x :: dx :: bs, F2 b = none ∧ G b = none ∧ b ∉ A2.flatten := fun b hb => by
    obtain ⟨o, ho⟩ := Option.isSome_iff_exists.mp (so b hb)
    have ho : (T.g G').G b = some o := ho
    refine ⟨?_, (I.f b hb).2.1, fun z => ?_⟩
    · cases h : F2 b with
      | none => rfl
      | some u =>
        have z := w2.fg b u h
        rw [ho] at z
        cases z
    · have z := w2.gd b z
      rw [ho] at z
      cases z
  refine ⟨w2.lessG e', I.nd, by rw [eq x (by simp)]; exact I.hx, by rw [eq dx (by simp)]; exact I.hdx, fr, fld_mono e2 (fun b hb => ?_) I.p⟩
  have hb' : b ∈ x :: dx :: bs := List.mem_cons_of_mem _ (List.mem_cons_of_mem _ hb)
  exact ⟨(fr b hb').1, eq b hb'⟩
theorem Ini.adopt {c : Str} (I : Ini T K F A S H G x dx ca fs bs) (hT : T.cls c = some ca) : Wd (T.g G) K F (A ++ [x :: dx :: bs]) (S ++ [.ins c fs]) H := by
  refine I.w.adoptM I.nd (fun b hb => (I.f b hb).2.2) I.isS (fun b hb => (I.f b hb).2.1) ?_ I.noT
  exact ⟨x, dx, bs, ca, rfl, hT, (I.f x (by simp)).1, (I.f dx (by simp)).1, I.hdx, I.hx, I.p⟩
end
structure JIni (T : Tb) (X : Cx) (ca : Addr) (sts : List Stmt) (fs fs' : List (Str × List D)) : Prop where
  ex : ∃ t, PSs X sts t ∧ ∀ G F A S H σ x dx bs D, σ[0]? = some (some (V.ref x)) → Ini T X.K F A S H G x dx ca fs bs → (∀ F' H' bs', Ex F F' → Ini T X.K F' A S H' G x dx ca fs' bs' → D.nx σ H') → t D σ H
section
variable {T : Tb} {X : Cx} {ca : Addr} {sts : List Stmt} {fs fs' : List (Str × List D)} {e : Expr} {fl : FL} {ds : List D} {f : Str} {pv pa pos : Pos}
end
section
variable {T : Tb} {X : Cx} {Wx : WX} {c : Str} {fs0 : List (Str × List D)} {k : Nat} {fd : FuncData} {p pos : Pos}
end
end Vz
namespace Vz
open PySem PySem.Spec PyProof.Rows L2
section
variable {X : Cx} {CX : CXT} {k : Nat} {f C : Addr} {fd : FuncData} {ps : List Str} {sp : Sp}
end
end Vz
namespace Vz
open PySem PySem.Spec PyProof.Rows L2
section
variable {T : Tb} {X : Cx} {Wx : WX} {a e : Expr} {fa : FE} {ga : FA} {p pos : Pos} {c : Str} {k : Nat} {g : List W → Sto → R W}
def itemsOf : D → Option (List D)
  | .list ds => some ds
  | .tup .nod ds => some ds
  | _ => none
def cntOf (w d : D) : Option Nat := (itemsOf w).bind fun ds => (flats ds).bind fun vs => (flatD d).map fun v => vs.countP fun z => eqV z v
def fCount (f : FE) (ga : FA) : FE := fun ρ S => (f ρ S).bind fun w S1 => match (rd S1 w).bind sqB with
  | some b => (ga ρ S1).bind fun ws S2 => R.lift (((rd S2 w).bind fun c => (rds S2 ws).bind (one fun d => (match sqB c with
    | some b' => (match decide (b' = b) with
      | true => cntOf c d
      | false => none)
    | none => none))).map fun j => .dat (.int (j : Nat))) S2
  | none => .bad
/-- the parts, from the left -/
structure JPs (T : Tb) (X : Cx) (Wx : WX) (es : List Expr) (f : Str → Rho → Sto → R Str) : Prop where
  ex : ∃ ts, PJ X es ts ∧ ∀ acc G F A S H σ ρ (Q : Str → Hp → Prop), Wd (T.g G) X.K F A S H → Sl X.K F A ρ σ → Post (T.g G) X.K (fun _ _ (a b : Str) => a = b) F A (f acc ρ S) Q (fun c d H' => Wx c d σ H') → tJs ts acc σ H Q
variable {es : List Expr} {g1 : Str → Rho → Sto → R Str} {x : Str} {j : Nat}
end
end Vz
namespace Vz
open PySem PySem.Spec PyProof.Rows L2
theorem putF_old {f : Str} {ds : List D} {p : Addr} : ∀ {fs : List (Str × List D)} {bs : List Addr} {j : Nat}, bs.length = fs.length → fix_ f fs = some j → putF f (.ref p) ((fs.map (·.1)).zip (bs.map V.ref)) = ((fs.set j (f, ds)).map (·.1)).zip ((bs.set j p).map V.ref)
  | [], _, _, _, h => by cases h
  | _ :: _, [], _, hl, _ => by cases hl
  | (g, xs) :: fs, b :: bs, j, hl, h => by
    unfold fix_ at h
    dsimp only at h
    cases hd : decide (g = f) with
    | true =>
      rw [hd] at h
      cases h
      have hg := of_decide_eq_true hd
      subst hg
      simp [putF]
    | false =>
      rw [hd] at h
      obtain ⟨j', h', rfl⟩ := om h
      have hg := of_decide_eq_false hd
      have ih := putF_old (ds := ds) (p := p) (by simpa using hl) h'
      simp only [List.map_cons, List.zip_cons_cons, List.set_cons_succ]
      unfold putF
      rw [if_neg hg, ih]
theorem nodup_set {p : Addr} : ∀ {bs : List Addr} {j : Nat}, bs.Nodup → p ∉ bs → (bs.set j p).Nodup
  | [], _, _, _ => by simp
  | b :: bs, 0, h, n => by
    obtain ⟨h1, h2⟩ := List.nodup_cons.mp h
    exact List.nodup_cons.mpr ⟨fun z => n (List.mem_cons_of_mem _ z), h2⟩
  | b :: bs, j + 1, h, n => by
    obtain ⟨h1, h2⟩ := List.nodup_cons.mp h
    refine List.nodup_cons.mpr ⟨fun z => ?_, nodup_set h2 fun z => n (List.mem_cons_of_mem _ z)⟩
    rcases List.mem_or_eq_of_mem_set z with z | z
    · exact h1 z
    · exact n (by rw [z]; exact List.mem_cons_self ..)
section
variable {T : Tb} {K : PySem.W.Frag} {F H G : Hp} {A : List (List Addr)} {S : Sto} {x dx ca : Addr} {fs : List (Str × List D)} {bs : List Addr}
theorem fld_setP {f : Str} {ds : List D} {p : Addr} {vs : List V} (hF : F p = none) (hp : H p = some (.lst vs)) (r : Reps K F ds vs) : ∀ {fs : List (Str × List D)} {bs : List Addr} {j : Nat}, Paired (FieldP K F H) fs bs → Paired (FieldP K F H) (fs.set j (f, ds)) (bs.set j p)
  | _, _, _, .nil => by simp; exact .nil
  | _ :: _, _ :: _, 0, .cons _ q => .cons ⟨hF, vs, hp, r⟩ q
  | _ :: _, _ :: _, j + 1, .cons a q => .cons a (fld_setP hF hp r q)
theorem Ini.put {f : Str} {ds : List D} {p : Addr} {vs : List V} {j : Nat} (I : Ini T K F A S H G x dx ca fs bs) (hj : fix_ f fs = some j) (hp : H p = some (.lst vs)) (r : Reps K F ds vs) (hF : F p = none) (hG : G p = none) (hA : p ∉ A.flatten) (np : p ∉ x :: dx :: bs) :
    Ini T K F A S (upd H x (.ins ca dx (putF f (.ref p) ((fs.map (·.1)).zip (bs.map V.ref))))) G x dx ca (fs.set j (f, ds)) (bs.set j p) := by
  have lb := Paired.length I.p
  obtain ⟨n1, n2⟩ := List.nodup_cons.mp I.nd
  obtain ⟨n3, n4⟩ := List.nodup_cons.mp n2
  have npx : x ≠ p := fun z => np (by rw [z]; simp)
  have npd : dx ≠ p := fun z => np (by rw [z]; simp)
  have npb : p ∉ bs := fun z => np (List.mem_cons_of_mem _ (List.mem_cons_of_mem _ z))
  have fx := I.f x (by simp)
  have inb : ∀ b, b ∈ bs.set j p → b ∈ bs ∨ b = p := fun b hb => List.mem_or_eq_of_mem_set hb
  have nx : x ∉ bs.set j p := fun z => by
    rcases inb x z with z | z
    · exact n1 (List.mem_cons_of_mem _ z)
    · exact npx z
  refine ⟨I.w.grow fx.1 fx.2.1 fx.2.2 I.hx, ?_, ?_, ?_, fun b hb => ?_, ?_⟩
  · refine List.nodup_cons.mpr ⟨fun z => ?_, List.nodup_cons.mpr ⟨fun z => ?_, nodup_set n4 npb⟩⟩
    · rcases List.mem_cons.mp z with z | z
      · exact n1 (by rw [z]; simp)
      · exact nx z
    · rcases inb dx z with z | z
      · exact n3 z
      · exact npd z
  · rw [upd_same, putF_old (by omega) hj]
  · rw [upd_ne (fun z => n1 (by rw [← z]; simp))]
    exact I.hdx
  · rcases List.mem_cons.mp hb with z | hb
    · rw [z]; exact fx
    · rcases List.mem_cons.mp hb with z | hb
      · rw [z]; exact I.f dx (by simp)
      · rcases inb b hb with z | z
        · exact I.f b (List.mem_cons_of_mem _ (List.mem_cons_of_mem _ z))
        · rw [z]; exact ⟨hF, hG, hA⟩
  · exact fld_far nx (fld_setP hF hp r I.p)
end
section
variable {T : Tb} {X : Cx} {Wx : WX} {c f x : Str} {fs0 : List (Str × List D)} {k i : Nat} {fd : FuncData} {p px pv pa pos1 pos2 pos : Pos} {e : Expr} {fl : FL} {rest : List Stmt} {gr : FS}
end
end Vz
namespace Vz
open PySem PySem.Spec PyProof.Rows L2
/-- every own class by its name -/
abbrev TT (K : PySem.W.Frag) : Tb := ⟨fun c => some (He.ga K c), fun _ => none, []⟩
section
variable {T : Tb} {X : Cx} {Wx : WX} {a : Expr} {fa : FE} {pos : Pos}
/-- (a, b, ..) = a tuple or a list -/
def oSeq (n : Nat) (gs : List D → Rho → Option Rho) : FG := fun w ρ S => match rd S w with
  | some (.tup _ ds) => ifO (decide (ds.length = n)) ((gs ds ρ).map fun ρ' => (ρ', S))
  | some (.list ds) => ifO (decide (ds.length = n)) ((gs ds ρ).map fun ρ' => (ρ', S))
  | _ => none
end
end Vz
namespace Vz
open PySem PySem.Spec PyProof.Rows L2
end Vz
namespace Vz
open PySem PySem.Spec PyProof.Rows L2
section
variable {S : Sto} {c1 c2 c : C}
end
theorem findV_ints {a : Int} : ∀ xs : List Int, findV (.int a) (xs.map V.int) = findI a xs
  | [] => rfl
  | x :: xs => by
    have ih := findV_ints (a := a) xs
    rw [List.map_cons]
    unfold findV findI
    have e : eqV (.int x) (.int a) = decide (x = a) := by
      show (x == a) = _
      by_cases h : x = a
      · subst h; simp
      · simp [h]
    rw [e, ih]
theorem ix_list {a : Int} {xs : List Int} (h : a ∈ xs) : ixOf false (.list (xs.map D.int)) (.int a) = some (xs.idxOf a) := by
  have hf : findI a xs = some (xs.idxOf a) := by
    cases hq : findI a xs with
    | some j => rw [(findI_ok hq).2]
    | none => exact absurd h (findI_none hq)
  unfold ixOf
  simp only [flats_ints, Option.bind_some, show flatD (.int a) = some (V.int a) from rfl, findV_ints, hf]
end Vz
namespace Vz
open PySem PySem.Spec PyProof.Rows L2
end Vz
namespace Vz
open PySem PySem.Spec PyProof.Rows L2
section
variable {P : Program} {w : World} {A : Around} {E : Value → Shared → Prop} {s : Shared}
end
/-- every number once -/
def ddI : List Int → List Int
  | [] => []
  | x :: xs => if x ∈ xs then ddI xs else x :: ddI xs
/-- set(xs), xs a list of ints -/
def rSetL (K : PySem.W.Frag) (w : World) : List V → Hp → VK → Prop := fun xs H Q => ∃ (l : Addr) (ns : List Int), xs = [V.ref l] ∧ SqL K H l (ns.map V.int) ∧ ns.length < 4000 ∧
  ∀ a n, H a = none → n = (ddI ns).length → Q (.ref a) (upd H a (SetO w a (fun j => decide (j ∈ ns)) n))
section
variable {X : Cx}
end
section
variable {T : Tb} {X : Cx} {Wx : WX} {e : Expr} {pos p p2 q : Pos} {ga : FA}
end
end Vz
namespace Vz
open PySem PySem.Spec PyProof.Rows L2
section
variable {T : Tb} {X : Cx} {Wx : WX} {a b : Expr} {fa fb : FE} {pos : Pos}
theorem jl_cat (ha : JE T X Wx a fa) (hb : JE T X Wx b fb) : JL T X Wx (.BinOp a .Add b pos) (lCat fa fb) := by
  obtain ⟨ta, h1, s1⟩ := ha
  obtain ⟨tb, h2, s2⟩ := hb
  refine ⟨_, pe_op op_cat h1 h2, fun G F A S H σ ρ Q hw hs hp => ?_⟩
  refine s1 G F A S H σ ρ _ hw hs (hp.bind fun x S1 F1 A1 H1 v1 e1 p1 w1 r1 hp1 => ?_)
  refine s2 G F1 A1 S1 H1 σ ρ _ w1 (hs.mono e1 p1) (hp1.bind fun y S2 F2 A2 H2 v2 e2 p2 w2 r2 hp2 => ?_)
  unfold rd2 at hp2
  cases hx : rd S2 x with
  | none => rw [hx] at hp2; exact hp2.elim
  | some dx =>
    cases hy : rd S2 y with
    | none => rw [hx, hy] at hp2; exact hp2.elim
    | some dy =>
      rw [hx, hy, Option.bind_some, Option.bind_some] at hp2
      have rx := rd_rep w2 (r1.mono e2 p2) hx
      have ry := rd_rep w2 r2 hy
      cases hz : addL dx dy with
      | none => rw [hz] at hp2; exact hp2.elim
      | some z =>
        rw [hz, Option.bind_some] at hp2
        unfold addL at hz
        split at hz
        · rename_i i j
          obtain ⟨c, e⟩ := ifO_some hz
          cases e
          have c' := lim_le (of_decide_eq_true c)
          cases rx with
          | flat q => cases q
          | lst q1 q2 =>
            cases ry with
            | flat q => cases q
            | lst q3 q4 => exact ⟨_, _, _, _, rfl, rfl, q1, q3, by rw [← q2.length, ← q4.length]; exact c', fun p hp' => PostL.new hp2 w2 (q2.append q4) hp'⟩
        · cases hz
/-- a comprehension's target, from a tuple or a list -/
def cSeq (n : Nat) (gs : List D → Rho → Option Rho) : FC := fun d ρ => match d with
  | .tup _ ds => ifO (decide (ds.length = n)) (gs ds ρ)
  | .list ds => ifO (decide (ds.length = n)) (gs ds ρ)
  | _ => none
end
end Vz
namespace Vz
open PySem PySem.Spec PyProof.Rows L2
def borC : Option C → Option W
  | some (.lst xs) => some (.dat (.list xs))
  | some (.frz d) => some (.dat d)
  | _ => none
/-- a slot, its cell read as it is -/
def borW (S : Sto) : Option W → Option W
  | some (.loc k 0) => borC S[k]?
  | some (.loc _ _) => none
  | w => w
def borO (S : Sto) : R W → R W
  | .ok (.dat d) _ => (match flatD d with
    | some _ => .ok (.dat d) S
    | none => .bad)
  | _ => .bad
def fBor (f : FE) : FE := fun ρ S => borO S (f (ρ.map (borW S)) [])
section
variable {T : Tb} {X : Cx} {Wx : WX} {e : Expr} {f : FE} {K : PySem.W.Frag} {G F H : Hp} {A : List (List Addr)} {S : Sto}
end
end Vz
namespace Vz
open PySem PySem.Spec PyProof.Rows L2
section
variable {P : Program} {w : World} {A : Around} {E : Value → Shared → Prop} {s : Shared}
end
section
variable {X : Cx}
end
section
variable {T : Tb} {X : Cx} {Wx : WX} {e : Expr} {pos p p2 q : Pos} {ga : FA}
end
section
variable {T : Tb} {X : Cx} {Wx : WX} {a b : Expr} {fa fb : FE} {pos : Pos}
end
end Vz
namespace Vz
open PySem PySem.Spec PyProof.Rows L2
/-- the rows of such a list -/
def LLP (K : PySem.W.Frag) (F H : Hp) : List (List D) → List Addr → Prop := Paired (fun xs b => F b = none ∧ ∃ vs, H b = some (.lst vs) ∧ Reps K F xs vs)
theorem llp_keep {K : PySem.W.Frag} {F F2 H H2 : Hp} (e : Ex F F2) : ∀ {xss : List (List D)} {bs : List Addr}, (∀ b ∈ bs, F2 b = none ∧ H2 b = H b) → LLP K F H xss bs → LLP K F2 H2 xss bs
  | _, _, _, .nil => .nil
  | _, _, h, .cons ⟨h1, vs, h2, h3⟩ r => .cons ⟨(h _ (List.mem_cons_self ..)).1, vs, by rw [(h _ (List.mem_cons_self ..)).2]; exact h2, h3.mono e⟩ (llp_keep e (fun b hb => h b (List.mem_cons_of_mem _ hb)) r)
theorem llp_at {K : PySem.W.Frag} {F H : Hp} : ∀ {xss : List (List D)} {bs : List Addr}, LLP K F H xss bs → ∀ b ∈ bs, ∃ vs, H b = some (.lst vs)
  | _, _, .nil, b, hb => nomatch hb
  | _, _, .cons ⟨_, vs, h, _⟩ r, b, hb => by
    rcases List.mem_cons.mp hb with rfl | hb
    · exact ⟨vs, h⟩
    · exact llp_at r b hb
/-- a cell that holds lists -/
def fCellR (g : Rho → Sto → R (List (List D))) : FE := fun ρ S => (g ρ S).bind fun xss S1 => .ok (.loc S1.length 0) (S1 ++ [.ll xss])
def cLR (T : Tb) (K : PySem.W.Frag) (f : FL) : TE := fun σ H Q => ∃ G F A S ρ, Wd (T.g G) K F A S H ∧ Sl K F A ρ σ ∧ PostL (T.g G) K F A (f ρ S) Q (fun c d H' => noW c d σ H')
section
variable {T : Tb} {X : Cx} {Wx : WX} {e tg iter elt : Expr} {f : FL} {pos : Pos}
theorem JL.pe {g : FL} (h : JL T X noW e g) : PE X e (cLR T X.K g) := by
  obtain ⟨t, h1, h2⟩ := h
  exact PE.weak h1 fun σ H Q ⟨G, F, A, S, ρ, a, b, c⟩ => h2 G F A S H σ ρ Q a b c
/-- the rows that are there, the list around them -/
structure LLI (T : Tb) (K : PySem.W.Frag) (F : Hp) (A : List (List Addr)) (S : Sto) (H G : Hp) (p : Addr) (xss : List (List D)) (bs : List Addr) : Prop where
  w : Wd (T.g G) K F A S H
  nd : (p :: bs).Nodup
  hp : H p = some (.lst (bs.map V.ref))
  f : ∀ b ∈ p :: bs, F b = none ∧ G b = none ∧ b ∉ A.flatten
  r : LLP K F H xss bs
theorem LLI.lists {K : PySem.W.Frag} {F H G : Hp} {A : List (List Addr)} {S : Sto} {p : Addr} {xss : List (List D)} {bs : List Addr} (I : LLI T K F A S H G p xss bs) : ∀ b ∈ p :: bs, ∃ vs, H b = some (.lst vs) := fun b hb => by
  rcases List.mem_cons.mp hb with rfl | hb
  · exact ⟨_, I.hp⟩
  · exact llp_at I.r b hb
theorem LLI.hold {K : PySem.W.Frag} {F H G : Hp} {A : List (List Addr)} {S : Sto} {p : Addr} {xss : List (List D)} {bs : List Addr} (I : LLI T K F A S H G p xss bs) : ∃ G', Wd (T.g G') K F A S H ∧ Ex G G' ∧ (∀ b ∈ p :: bs, (G' b).isSome) ∧
    ∀ F2 A2 S2 H2, Ex F F2 → Wd (T.g G') K F2 A2 S2 H2 → LLI T K F2 A2 S2 H2 G p xss bs := by
  obtain ⟨G', w', e', q⟩ := still_all I.w I.nd fun b hb => ⟨by
    obtain ⟨vs, h⟩ := I.lists b hb
    exact ⟨_, h, fun ps z => nomatch z⟩, I.f b hb⟩
  have so : ∀ b ∈ p :: bs, (G' b).isSome := fun b hb => by
    obtain ⟨vs, h⟩ := I.lists b hb
    rw [q b hb, h]
    rfl
  refine ⟨G', w', e', so, fun F2 A2 S2 H2 e2 w2 => ?_⟩
  have eq : ∀ b ∈ p :: bs, H2 b = H b := fun b hb => by
    obtain ⟨o, ho⟩ := Option.isSome_iff_exists.mp (so b hb)
    rw [w2.gh b o ho, ← q b hb, ho]
  have fr : ∀ b ∈ p :: bs, F2 b = none ∧ G b = none ∧ b ∉ A2.flatten := fun b hb => by
    obtain ⟨o, ho⟩ := Option.isSome_iff_exists.mp (so b hb)
    have ho : (T.g G').G b = some o := ho
    refine ⟨?_, (I.f b hb).2.1, fun z => ?_⟩
    · cases h : F2 b with
      | none => rfl
      | some u =>
        have z := w2.fg b u h
        rw [ho] at z
        cases z
    · have z := w2.gd b z
      rw [ho] at z
      cases z
  exact ⟨w2.lessG e', I.nd, by rw [eq p (by simp)]; exact I.hp, fr, llp_keep e2 (fun b hb => ⟨(fr b (List.mem_cons_of_mem _ hb)).1, eq b (List.mem_cons_of_mem _ hb)⟩) I.r⟩
theorem LLI.cut {K : PySem.W.Frag} {F H G : Hp} {A A1 : List (List Addr)} {S : Sto} {p : Addr} {xss : List (List D)} {bs : List Addr} (I : LLI T K F A S H G p xss bs) (pr : Pre A1 A) : LLI T K F A1 (S.take A1.length) H G p xss bs := by
  have w := I.w.cut A1.length
  rw [pr.cutW] at w
  refine ⟨w, I.nd, I.hp, fun b hb => ?_, I.r⟩
  obtain ⟨h1, h2, h3⟩ := I.f b hb
  refine ⟨h1, h2, fun z => h3 ?_⟩
  rw [← pr.cutW] at z
  obtain ⟨as, m1, m2⟩ := List.mem_flatten.mp z
  exact List.mem_flatten.mpr ⟨as, List.mem_of_mem_take m1, m2⟩
/-- name = [[..] for ..] -/
def sSetR (i : Nat) (f : Rho → Sto → R (List (List D))) : FS := sSet i (fCellR f)
end
structure RowR where
  k : Nat
  j : Nat
  xss : List (List D)
  xs : List D
def RowR.put (p : RowR) (ys : List D) (S : Sto) : Sto := S.set p.k (.ll (p.xss.set p.j ys))
section
variable {T : Tb} {K : PySem.W.Frag} {F H : Hp}
/-- found[i], found a cell that holds lists -/
def ixR (S : Sto) : W → D → Option W
  | .loc k 0, .int i => match S[k]? with
    | some (.ll xss) => (ixN xss.length i).bind fun j => (xss[j]?).map fun _ => .loc k (j + 1)
    | _ => none
  | _, _ => none
def fIxR (fa fb : FE) : FE := fun ρ S => (fa ρ S).bind fun x S1 => (fb ρ S1).bind fun y S2 => R.lift ((rd S2 y).bind fun d => ixR S2 x d) S2
end
section
variable {T : Tb} {X : Cx} {Wx : WX} {a b e : Expr} {fa fb : FE} {ga : FA} {pos : Pos}
end
end Vz
namespace Vz
open PySem PySem.Spec PyProof.Rows L2
section
variable {T : Tb} {X : Cx} {Wx : WX} {e tg iter tg1 iter1 elt : Expr} {f : FE} {pos : Pos}
end
end Vz
namespace Vz
open PySem PySem.Spec PyProof.Rows L2
section
variable {P : Program} {w : World} {A : Around} {E : Value → Shared → Prop} {s : Shared}
end
section
variable {X : Cx}
end
section
variable {T : Tb} {X : Cx} {Wx : WX} {e : Expr} {pos p : Pos} {ga : FA}
end
end Vz
namespace Vz
open PySem PySem.Spec PyProof.Rows L2
section
variable {T : Tb} {X : Cx} {Wx : WX} {a b : Expr} {fa fb : FE} {pos : Pos}
end
end Vz
namespace Vz
open PySem PySem.Spec PyProof.Rows L2 PpSet
section
variable {X : Cx}
end
section
variable {T : Tb} {X : Cx} {Wx : WX} {tg iter elt : Expr} {tc : FT} {f : FE} {pos : Pos}
/-- the set of some ints -/
abbrev setOf (w : World) (p : Addr) (ns : List Int) : HO := SetO w p (fun j => decide (j ∈ ns)) (ddI ns).length
def PostSt (T : Tb) (K : PySem.W.Frag) (w0 : World) (F : Hp) (A : List (List Addr)) (r : R (List D)) (Q : VK) (Wx : XK) : Prop :=
  match r with
  | .ok ds S => ∀ ns, ds = ns.map D.int → ∀ F' A' H' p, Ex F F' → Pre A A' → Wd T K F' A' S H' → H' p = some (setOf w0 p ns) → F' p = none → T.G p = none → p ∉ A'.flatten → ns.length ≤ lim → Q (.ref p) H'
  | .exc x S => ∀ F' A' H' cls d, Ex F F' → Pre A A' → Wd T K F' A' S H' → RepX T K F' x cls d → Wx cls d H'
  | .bad => False
theorem PostSt.shift {K : PySem.W.Frag} {w0 : World} {F : Hp} {A : List (List Addr)} {W : XK} {F' : Hp} {A' : List (List Addr)} {r : R (List D)} {Q : VK} (h : PostSt T K w0 F A r Q W) (e : Ex F F') (p : Pre A A') : PostSt T K w0 F' A' r Q W := by
  cases r with
  | ok a S => exact fun ns z F2 A2 H2 q e2 p2 => h ns z F2 A2 H2 q (e.trans e2) (p.trans p2)
  | exc x S => exact fun F2 A2 H2 c d e2 p2 => h F2 A2 H2 c d (e.trans e2) (p.trans p2)
  | bad => exact h
theorem PostSt.bind {α β : Type} {K : PySem.W.Frag} {w0 : World} {F : Hp} {A : List (List Addr)} {W : XK} {rel1 : Hp → List (List Addr) → α → β → Prop} {r : R α} {k : α → Sto → R (List D)} {P : β → Hp → Prop} {Q : VK} (h : PostSt T K w0 F A (r.bind k) Q W)
    (hk : ∀ a S' F' A' H' v, Ex F F' → Pre A A' → Wd T K F' A' S' H' → rel1 F' A' a v → PostSt T K w0 F' A' (k a S') Q W → P v H') : Post T K rel1 F A r P W := by
  cases r with
  | ok a S => exact fun F2 A2 H2 v e2 p2 w2 r2 => hk a S F2 A2 H2 v e2 p2 w2 r2 (h.shift e2 p2)
  | exc x S => exact h
  | bad => exact h
variable {ifs : List Expr} {scope : Scope} {own : List (Str × Nat)} {fi : FI} {gg : FC} {p : Pos} {cpos : Pos}
end
end Vz
namespace Vz
open PySem PySem.Spec PyProof.Rows L2
section
variable {T : Tb} {X : Cx} {Wx : WX} {e : Expr} {pos p : Pos} {ga : FA}
end
end Vz
namespace Vz
open PySem PySem.Spec PyProof.Rows L2
end Vz
namespace Vz
open PySem PySem.Spec PyProof.Rows L2
section
variable {T : Tb} {X : Cx} {Wx : WX} {a b : Expr} {pos : Pos}
end
end Vz
namespace Vz
open PySem PySem.Spec PyProof.Rows L2
section
variable {X : Cx}
end
section
variable {T : Tb} {X : Cx} {Wx : WX} {a b e : Expr} {fa fb fe : FE} {pos : Pos}
end
end Vz
namespace Vz
open PySem PySem.Spec PyProof.Rows L2
section
variable {X : Cx}
end
section
variable {T : Tb} {X : Cx} {Wx : WX} {e : Expr} {pos p : Pos} {ga : FA}
end
end Vz
namespace Vz
open PySem PySem.Spec PyProof.Rows L2
section
variable {T : Tb} {X : Cx} {Wx : WX} {pos : Pos} {tg iter : Expr}
end
end Vz
namespace Vz
open PySem PySem.Spec PyProof.Rows L2
section
variable {T : Tb} {X : Cx} {Wx : WX} {a b : Expr} {fa fb : FE} {pos : Pos}
end
end Vz
namespace Vz.Q
open PySem PySem.Spec PyProof.Rows L2 Vz
inductive Tag {α : Sort u} (a : α) : Type
  | mk
def ifB {α : Type} (c : Bool) (a b : α) (_ : Tag a) (_ : Tag b) : α := match c with
  | true => a
  | false => b
def bindT {α β : Type} (r : R α) (k : α → Sto → R β) (_ : Tag k) : R β := R.bind r k
def thenT {α : Type} (r : R α) (ρ : Rho) (k : α → Sto → Out) (_ : Tag k) : Out := R.then r ρ k
def andT (r : Out) (k : FS) (_ : Tag k) : Out := Out.andThen r k
section
variable {α β : Type}
theorem ifB_t {a b : α} {t : Tag a} {u : Tag b} : ifB true a b t u = a := rfl
theorem ifB_f {a b : α} {t : Tag a} {u : Tag b} : ifB false a b t u = b := rfl
theorem bind_ok {a : α} {S : Sto} {k : α → Sto → R β} {t : Tag k} : bindT (.ok a S) k t = k a S := rfl
theorem bind_exc {x : Exn} {S : Sto} {k : α → Sto → R β} {t : Tag k} : bindT (.exc x S) k t = .exc x S := rfl
theorem then_ok {a : α} {S : Sto} {ρ : Rho} {k : α → Sto → Out} {t : Tag k} : thenT (.ok a S) ρ k t = k a S := rfl
theorem then_exc {x : Exn} {S : Sto} {ρ : Rho} {k : α → Sto → Out} {t : Tag k} : thenT (.exc x S) ρ k t = .exc x ρ S := rfl
theorem andThen_nx {ρ : Rho} {S : Sto} {k : FS} {t : Tag k} : andT (.nx ρ S) k t = k ρ S := rfl
theorem andThen_rt {w : W} {S : Sto} {k : FS} {t : Tag k} : andT (.rt w S) k t = .rt w S := rfl
theorem andThen_exc {x : Exn} {ρ : Rho} {S : Sto} {k : FS} {t : Tag k} : andT (.exc x ρ S) k t = .exc x ρ S := rfl
theorem andThen_bk {ρ : Rho} {S : Sto} {k : FS} {t : Tag k} : andT (.bk ρ S) k t = .bk ρ S := rfl
theorem andThen_ct {ρ : Rho} {S : Sto} {k : FS} {t : Tag k} : andT (.ct ρ S) k t = .ct ρ S := rfl
theorem lift_some {a : α} {S : Sto} : R.lift (some a) S = .ok a S := rfl
theorem ofo_some {a : α} {S : Sto} : R.of (some (a, S)) = .ok a S := rfl
theorem get_ok {a : α} {S : Sto} : R.get (.ok a S) = some (a, S) := rfl
theorem noX_ok {a : α} {S : Sto} : R.noX (.ok a S) = .ok a S := rfl
theorem ifO_t {o : Option α} : ifO true o = o := rfl
end
def varO : Option (Option W) → Sto → R W
  | some (some w), S => .ok w S
  | _, _ => .bad
theorem varO_ {w : W} {S : Sto} : varO (some (some w)) S = .ok w S := rfl
def rdC : Option C → Option D
  | some (.lst xs) => some (.list xs)
  | some (.frz d) => some d
  | some (.dT ps) => some (.dT ps)
  | some (.dK ps) => some (.dK ps)
  | _ => none
section
variable {ρ : Rho} {S : Sto}
theorem v_var {i : Nat} : fVar i ρ S = varO ρ[i]? S := by
  unfold fVar
  cases ρ[i]? with
  | none => rfl
  | some o => cases o <;> rfl
theorem v_c {d : D} : fC d ρ S = .ok (.dat d) S := rfl
theorem v_bin {g : D → D → Option D} {a b : FE} : fBin g a b ρ S = bindT (a ρ S) (fun x S1 => bindT (b ρ S1) (fun y S2 => R.lift ((rd2 S2 x y g).map W.dat) S2) .mk) .mk := rfl
theorem v_b {f : FE} : fB f ρ S = bindT (f ρ S) (fun w S1 => R.lift (asB w) S1) .mk := rfl
theorem asB_ {b : Bool} : asB (.dat (.bool b)) = some b := rfl
theorem v_and {t u : FT} : fAnd t u ρ S = bindT (t ρ S) (fun c S1 => ifB c (u ρ S1) (.ok false S1) .mk .mk) .mk := rfl
theorem v_or {t u : FT} : fOr t u ρ S = bindT (t ρ S) (fun c S1 => ifB c (.ok true S1) (u ρ S1) .mk .mk) .mk := rfl
theorem v_not {t : FT} : fNot t ρ S = bindT (t ρ S) (fun c S1 => .ok (!c) S1) .mk := rfl
theorem v_v {t : FT} : fV t ρ S = bindT (t ρ S) (fun c S1 => .ok (.dat (.bool c)) S1) .mk := rfl
theorem v_andV {f g : FE} : fAndV f g ρ S = bindT (fB f ρ S) (fun c S1 => ifB c (g ρ S1) (.ok (.dat (.bool false)) S1) .mk .mk) .mk := rfl
theorem v_orV {f g : FE} : fOrV f g ρ S = bindT (fB f ρ S) (fun c S1 => ifB c (.ok (.dat (.bool true)) S1) (g ρ S1) .mk .mk) .mk := rfl
theorem v_notV {f : FE} : fNotV f ρ S = bindT (fB f ρ S) (fun c S1 => .ok (.dat (.bool (!c))) S1) .mk := rfl
theorem v_if {t : FT} {f g : FE} : fIf t f g ρ S = bindT (t ρ S) (fun c S1 => ifB c (f ρ S1) (g ρ S1) .mk .mk) .mk := rfl
theorem v_chain {g g' : D → D → Option D} {a b c : FE} : fChain g g' a b c ρ S = bindT (a ρ S) (fun x S1 => bindT (b ρ S1) (fun y S2 => bindT (R.lift (((rd2 S2 x y g).map W.dat).bind asB) S2) (fun k S3 => ifB k (bindT (c ρ S3) (fun z S4 => R.lift ((rd2 S4 y z g').map W.dat) S4) .mk) (.ok (.dat (.bool false)) S3) .mk .mk) .mk) .mk) .mk := rfl
theorem v_anil : aNil ρ S = .ok [] S := rfl
theorem v_acons {f : FE} {g : FA} : aCons f g ρ S = bindT (f ρ S) (fun w S1 => bindT (g ρ S1) (fun ws S2 => .ok (w :: ws) S2) .mk) .mk := rfl
theorem v_tup {g : FA} : fTup g ρ S = bindT (g ρ S) (fun ws S1 => R.lift (((dats ws).bind small).map fun ds => .dat (.tup .nod ds)) S1) .mk := rfl
theorem v_tupK {g : FA} : fTupK g ρ S = bindT (g ρ S) (fun ws S1 => R.lift (((dats ws).bind small).map fun ds => .dat (.tup .key ds)) S1) .mk := rfl
theorem v_frz {g : FL} : fFrz g ρ S = bindT (g ρ S) (fun ds S1 => .ok (.dat (.list ds)) S1) .mk := rfl
theorem v_cell {g : FL} : fCell g ρ S = bindT (g ρ S) (fun ds S1 => .ok (.loc S1.length 0) (S1 ++ [.lst ds])) .mk := rfl
theorem v_disp {g : FA} : lDisp g ρ S = bindT (g ρ S) (fun ws S1 => R.lift ((dats ws).bind small) S1) .mk := rfl
def lsO : D → Option (List D) := fun d => match d with
  | .list ds => some ds
  | _ => none
theorem lsO_ {ds : List D} : lsO (.list ds) = some ds := rfl
theorem v_cat {f g : FE} : lCat f g ρ S = bindT (f ρ S) (fun x S1 => bindT (g ρ S1) (fun y S2 => R.lift ((rd2 S2 x y addL).bind lsO) S2) .mk) .mk := rfl
theorem v_call {g : List D → Option D} {f : FA} : fCall g f ρ S = bindT (f ρ S) (fun ws S1 => R.lift (((rds S1 ws).bind g).map W.dat) S1) .mk := rfl
theorem v_lcall {g : List D → Option (List D)} {f : FA} : lCall g f ρ S = bindT (f ρ S) (fun ws S1 => R.lift ((rds S1 ws).bind g) S1) .mk := rfl
theorem v_app {n : Nat} {g : List W → Sto → R W} {f : FA} : fApp n g f ρ S = bindT (f ρ S) (fun ws S1 => ifB (decide (ws.length = n)) (g ws S1) .bad .mk .mk) .mk := rfl
theorem v_appK {n : Nat} {ix : List Nat} {g : List W → Sto → R W} {f : FA} : fAppK n ix g f ρ S = bindT (f ρ S) (fun ws S1 => ifB (decide (ws.length = n)) (g (reord (.dat .none) ix ws) S1) .bad .mk .mk) .mk := rfl
theorem v_nil : sNil ρ S = .nx ρ S := rfl
theorem v_pass : sPass ρ S = .nx ρ S := rfl
theorem v_seq {g h : FS} : sSeq g h ρ S = andT (g ρ S) h .mk := rfl
theorem v_break : sBreak ρ S = .bk ρ S := rfl
theorem v_cont : sCont ρ S = .ct ρ S := rfl
theorem v_expr {f : FE} : sExpr f ρ S = thenT (f ρ S) ρ (fun _ S1 => .nx ρ S1) .mk := rfl
theorem v_ret {f : FE} : sRet f ρ S = thenT (f ρ S) ρ (fun w S1 => .rt w S1) .mk := rfl
theorem v_retN : sRetN ρ S = .rt (.dat .none) S := rfl
theorem v_sif {t : FT} {g h : FS} : sIf t g h ρ S = thenT (t ρ S) ρ (fun c S1 => ifB c (g ρ S1) (h ρ S1) .mk .mk) .mk := rfl
theorem v_set {i : Nat} {f : FE} : sSet i f ρ S = thenT (f ρ S) ρ (fun w S1 => .nx (ρ.set i (some w)) S1) .mk := rfl
theorem v_setLc {i : Nat} {f : FL} : sSetL i true f ρ S = thenT (fCell f ρ S) ρ (fun w S1 => .nx (ρ.set i (some w)) S1) .mk := rfl
theorem v_setLf {i : Nat} {f : FL} : sSetL i false f ρ S = thenT (fFrz f ρ S) ρ (fun w S1 => .nx (ρ.set i (some w)) S1) .mk := rfl
theorem v_aug {i : Nat} {g : D → D → Option D} {f : FE} : sAug i g f ρ S = thenT (varO ρ[i]? S) ρ (fun x _ => thenT (f ρ S) ρ (fun y S1 => thenT (R.lift ((rd2 S1 x y g).map W.dat) S1) ρ (fun w S2 => .nx (ρ.set i (some w)) S2) .mk) .mk) .mk := by
  unfold sAug
  cases ρ[i]? with
  | none => rfl
  | some o => cases o <;> rfl
def parO (i j : Nat) (ρ : Rho) : List W → Sto → Out
  | [v, w], S => .nx ((ρ.set i (some v)).set j (some w)) S
  | _, _ => .bad
theorem parO_ {i j : Nat} {v w : W} : parO i j ρ [v, w] S = .nx ((ρ.set i (some v)).set j (some w)) S := rfl
theorem v_par {i j : Nat} {f : FA} : sPar i j f ρ S = thenT (f ρ S) ρ (parO i j ρ) .mk := by
  unfold sPar
  cases f ρ S with
  | ok ws S1 => rcases ws with _ | ⟨a, _ | ⟨b, _ | ⟨c, r⟩⟩⟩ <;> rfl
  | exc x S1 => rfl
  | bad => rfl
def nxO : Option (Rho × Sto) → Out
  | some (ρ, S) => .nx ρ S
  | none => .bad
theorem nxO_ : nxO (some (ρ, S)) = .nx ρ S := rfl
theorem v_asg {f : FE} {g : FG} : sAsg f g ρ S = thenT (f ρ S) ρ (fun w S1 => nxO (g w ρ S1)) .mk := by
  unfold sAsg
  cases f ρ S with
  | ok w S1 =>
    show (match g w ρ S1 with | some (ρ2, S2) => Out.nx ρ2 S2 | none => .bad) = nxO (g w ρ S1)
    cases g w ρ S1 with
    | none => rfl
    | some p => rfl
  | exc x S1 => rfl
  | bad => rfl
theorem v_oname {i : Nat} {w : W} : oName i w ρ S = some (ρ.set i (some w), S) := rfl
theorem v_onnil : onNil [] ρ = some ρ := rfl
theorem v_oncons {g : FG} {gs : List D → Rho → Option Rho} {d : D} {r : List D} : onCons g gs (d :: r) ρ = (g (.dat d) ρ []).bind fun p => gs r p.1 := rfl
theorem v_otup {n : Nat} {gs : List D → Rho → Option Rho} {f : Fl} {ds : List D} : oTup n gs (.dat (.tup f ds)) ρ S = ifO (decide (ds.length = n)) ((gs ds ρ).map fun ρ' => (ρ', S)) := rfl
theorem v_osub {fo fi : FE} {w : W} : oSub fo fi w ρ S = (R.get (fo ρ S)).bind fun p => (R.get (fi ρ p.2)).bind fun q => (stB p.1 q.1 w q.2).map fun S' => (ρ, S') := rfl
theorem v_fz {f : FE} : fFz f ρ S = bindT (f ρ S) (fun w S1 => R.of (fz w S1)) .mk := rfl
theorem v_meth {g : W → List W → Sto → Option (W × Sto)} {f : FE} {ga : FA} : fMeth g f ga ρ S = bindT (f ρ S) (fun w S1 => ifB (LstW w S1) (bindT (ga ρ S1) (fun ws S2 => R.of (g w ws S2)) .mk) .bad .mk .mk) .mk := rfl
theorem v_meth0 {g : W → List W → Sto → Option (W × Sto)} {f : FE} : fMeth0 g f ρ S = bindT (f ρ S) (fun w S1 => ifB (LstW w S1) (R.of (g w [] S1)) .bad .mk .mk) .mk := rfl
def someR {α : Type} (o : Option Bool) (k : Bool → R α) (_ : Tag k) : R α := match o with
  | some b => k b
  | none => .bad
theorem someR_ {α : Type} {b : Bool} {k : Bool → R α} {t : Tag k} : someR (some b) k t = k b := rfl
theorem v_index {f : FE} {ga : FA} : fIndex f ga ρ S = bindT (f ρ S) (fun w S1 => someR ((rd S1 w).bind sqB) (fun b => bindT (ga ρ S1) (fun ws S2 => R.lift (((rd S2 w).bind fun c => (rds S2 ws).bind (one fun d => ixOf b c d)).map fun j => .dat (.int (j : Nat))) S2) .mk) .mk) .mk := by
  unfold fIndex
  cases f ρ S with
  | ok w S1 =>
    simp only [R.bind, bindT]
    generalize (rd S1 w).bind sqB = o
    cases o <;> rfl
  | exc x S1 => rfl
  | bad => rfl
theorem v_isi {g : D → Bool} {f : FE} : fIsi g f ρ S = bindT (f ρ S) (fun w S1 => R.lift ((rd S1 w).map fun d => .dat (.bool (g d))) S1) .mk := rfl
theorem v_neg {f : FE} : fNeg f ρ S = bindT (f ρ S) (fun w S1 => R.lift ((asI w).map fun i => .dat (.int (-i))) S1) .mk := rfl
theorem v_rev {f : FE} : fRev f ρ S = bindT (f ρ S) (fun w S1 => R.lift (((rd S1 w).bind revD).map W.dat) S1) .mk := rfl
theorem v_range {f : FA} : lRange f ρ S = bindT (f ρ S) (fun ws S1 => R.lift ((dats ws).bind rng1) S1) .mk := rfl
theorem v_sl {f : FE} {g h : Rho → Sto → R (Option Int)} : fSl f g h ρ S = bindT (f ρ S) (fun w S1 => bindT (g ρ S1) (fun lo S2 => bindT (h ρ S2) (fun hi S3 => R.lift (((rd S3 w).bind (cutD lo hi)).map W.dat) S3) .mk) .mk) .mk := rfl
theorem v_no : fNo ρ S = .ok none S := rfl
theorem v_yesI {f : FE} : fYesI f ρ S = bindT (f ρ S) (fun w S1 => R.lift ((asI w).map some) S1) .mk := rfl
theorem v_dictT : fDictT ρ S = .ok (.loc S.length 0) (S ++ [.dT []]) := rfl
theorem v_iseq {f : FE} : iSeq f ρ S = bindT (f ρ S) (fun w S1 => R.lift (walk S1 w) S1) .mk := rfl
theorem v_iargs {g : List D → Option (List D)} {f : FA} : iArgs g f ρ S = bindT (f ρ S) (fun ws S1 => R.lift (((dats ws).bind g).map Wk.ds) S1) .mk := rfl
theorem v_ifr {g : List D → Option (List D)} {f : FA} : iFr g f ρ S = bindT (f ρ S) (fun ws S1 => R.lift (((frds S1 ws).bind g).map Wk.ds) S1) .mk := rfl
end
section
variable {S : Sto}
theorem rd_dat {d : D} : rd S (.dat d) = some d := rfl
theorem rd_loc {k : Nat} : rd S (.loc k 0) = rdC S[k]? := by
  cases q : S[k]? with
  | none => simp only [rd, q]; rfl
  | some c => cases c <;> simp only [rd, q] <;> rfl
theorem rdC_lst {xs : List D} : rdC (some (.lst xs)) = some (.list xs) := rfl
theorem rdC_frz {d : D} : rdC (some (.frz d)) = some d := rfl
theorem rdC_dT {d : List (List Key × D)} : rdC (some (.dT d)) = some (.dT d) := rfl
theorem rdC_dK {d : List (Key × D)} : rdC (some (.dK d)) = some (.dK d) := rfl
theorem rd2_ {x y : W} {g : D → D → Option D} : rd2 S x y g = (rd S x).bind fun dx => (rd S y).bind fun dy => g dx dy := rfl
theorem rds_nil : rds S [] = some [] := rfl
theorem rds_cons {w : W} {ws : List W} : rds S (w :: ws) = (rd S w).bind fun d => (rds S ws).bind fun ds => some (d :: ds) := rfl
theorem dats_nil : dats [] = some [] := rfl
theorem dats_cons {d : D} {ws : List W} : dats (.dat d :: ws) = (dats ws).bind fun ds => some (d :: ds) := rfl
theorem small_ {ds : List D} (h : ds.length ≤ 1000) : small ds = some ds := by
  unfold small
  rw [decide_eq_true (by unfold lim; omega)]
  rfl
theorem small_1 {a : D} : small [a] = some [a] := rfl
theorem small_2 {a b : D} : small [a, b] = some [a, b] := rfl
theorem small_3 {a b c : D} : small [a, b, c] = some [a, b, c] := rfl
theorem small_0 : small [] = some [] := rfl
theorem one_ {α : Type} {g : D → Option α} {d : D} : one g [d] = g d := rfl
theorem two_ {α : Type} {g : D → D → Option α} {d e : D} : two g [d, e] = g d e := rfl
def frdC : Option C → Option D
  | some (.frz d) => some d
  | _ => none
theorem frd_dat {d : D} : frd S (.dat d) = some d := rfl
theorem frd_loc {k : Nat} : frd S (.loc k 0) = frdC S[k]? := by
  cases q : S[k]? with
  | none => simp only [frd, q]; rfl
  | some c => cases c <;> simp only [frd, q] <;> rfl
theorem frdC_frz {d : D} : frdC (some (.frz d)) = some d := rfl
theorem frds_nil : frds S [] = some [] := rfl
theorem frds_cons {w : W} {ws : List W} : frds S (w :: ws) = (frd S w).bind fun d => (frds S ws).bind fun ds => some (d :: ds) := rfl
def lstB : Option D → Bool
  | some (.list _) => true
  | _ => false
theorem LstW_ {w : W} : LstW w S = lstB (rd S w) := by
  unfold LstW
  cases rd S w with
  | none => rfl
  | some d => cases d <;> rfl
theorem lstB_ {xs : List D} : lstB (some (.list xs)) = true := rfl
def lstO (k : Nat) : Option C → Option (Nat × List D)
  | some (.lst xs) => some (k, xs)
  | _ => none
theorem lstC_ {k : Nat} : lstC S (.loc k 0) = lstO k S[k]? := by
  cases q : S[k]? with
  | none => simp only [lstC, q]; rfl
  | some c => cases c <;> simp only [lstC, q] <;> rfl
theorem lstO_ {k : Nat} {xs : List D} : lstO k (some (.lst xs)) = some (k, xs) := rfl
theorem v_append {k : Nat} {x : W} : mAppend (.loc k 0) [x] S = (lstO k S[k]?).bind fun p => (frd S x).bind fun d => ifO (decide (p.2.length < lim)) (some (.dat .none, S.set p.1 (.lst (p.2 ++ [d])))) := by
  rw [← lstC_]; rfl
def asInt : Option D → Option Int
  | some (.int i) => some i
  | _ => none
theorem asInt_ {i : Int} : asInt (some (.int i)) = some i := rfl
theorem v_insert {k : Nat} {x y : W} : mInsert (.loc k 0) [y, x] S = (lstO k S[k]?).bind fun p => (frd S x).bind fun d => (asInt (rd S y)).bind fun i => ifO (decide (p.2.length < lim) && (decide (0 ≤ i) && decide (i.natAbs < 2 ^ 63))) (some (.dat .none, S.set p.1 (.lst (p.2.take i.toNat ++ [d] ++ p.2.drop i.toNat)))) := by
  rw [← lstC_]
  unfold mInsert
  dsimp only
  cases lstC S (.loc k 0) with
  | none => rfl
  | some p =>
    cases frd S x with
    | none => rfl
    | some d =>
      dsimp only [Option.bind]
      cases rd S y with
      | none => rfl
      | some d => cases d <;> rfl
def asLs : Option D → Option (List D)
  | some (.list i) => some i
  | _ => none
theorem asLs_ {i : List D} : asLs (some (.list i)) = some i := rfl
theorem v_extend {k : Nat} {x : W} : mExtend (.loc k 0) [x] S = (lstO k S[k]?).bind fun p => (asLs (rd S x)).bind fun ds => ifO (decide (p.2.length + ds.length ≤ lim)) (some (.dat .none, S.set p.1 (.lst (p.2 ++ ds)))) := by
  rw [← lstC_]
  unfold mExtend
  dsimp only
  cases lstC S (.loc k 0) with
  | none => rfl
  | some p =>
    dsimp only [Option.bind]
    cases rd S x with
    | none => rfl
    | some d => cases d <;> rfl
theorem v_popAt {k : Nat} {x : W} : mPopAt (.loc k 0) [x] S = (lstO k S[k]?).bind fun p => (asInt (rd S x)).bind fun i => ifO (decide (i.natAbs < 2 ^ 63)) ((seqIndex? i p.2.length).bind fun j => (p.2[j]?).map fun d => (.dat d, S.set p.1 (.lst (p.2.eraseIdx j)))) := by
  rw [← lstC_]
  unfold mPopAt
  dsimp only
  cases lstC S (.loc k 0) with
  | none => rfl
  | some p =>
    dsimp only [Option.bind]
    cases rd S x with
    | none => rfl
    | some d => cases d <;> rfl
theorem v_stB {k : Nat} {i w : W} : stB (.loc k 0) i w S = (S[k]?).bind fun c => (rd S i).bind fun di => (frd S w).bind fun d => (putC c di d).map fun c' => S.set k c' := rfl
theorem v_runF {m : Nat} {c : Bool} {fb : FS} {ws : List W} : runF m c fb ws S = Out.fn c S.length (fb (ws.map some ++ List.replicate (m - ws.length) none) S) := rfl
theorem lim_app {α : Type} {xs : List α} (h : xs.length ≤ 1000) : decide (xs.length < lim) = true := decide_eq_true (by unfold lim; omega)
theorem lim_le {n : Nat} (h : n ≤ 1000) : decide (n ≤ lim) = true := decide_eq_true (by unfold lim; omega)
theorem lim_lt {n : Nat} (h : n ≤ 1000) : decide (n < lim) = true := decide_eq_true (by unfold lim; omega)
theorem addL_ {x y : List D} (h : x.length + y.length ≤ 1000) : addL (.list x) (.list y) = some (.list (x ++ y)) := by
  simp only [addL, lim_le h]; rfl
theorem addD_ll {x y : List D} (h : x.length + y.length ≤ 1000) : addD (.list x) (.list y) = some (.list (x ++ y)) := by
  show orD addI (orD addL (orD addT addS)) _ _ = _
  unfold orD
  rw [show addI (.list x) (.list y) = none from rfl]
  simp only [addL_ h]
theorem addD_tt {x y : List D} (h : x.length + y.length ≤ 1000) : addD (.tup .nod x) (.tup .nod y) = some (.tup .nod (x ++ y)) := by
  show orD addI (orD addL (orD addT addS)) _ _ = _
  unfold orD addT
  rw [show addI (.tup .nod x) (.tup .nod y) = none from rfl, show addL (.tup .nod x) (.tup .nod y) = none from rfl]
  simp only [lim_le h, ifO]
  cases x with
  | nil => rfl
  | cons a x => cases y with
    | nil => simp
    | cons b y => rfl
end

theorem fn_dat {c : Bool} {n : Nat} {d : D} {S : Sto} : Out.fn c n (.rt (.dat d) S) = .ok (.dat d) (S.take n) := rfl
theorem fn_nx {c : Bool} {n : Nat} {ρ : Rho} {S : Sto} : Out.fn c n (.nx ρ S) = .ok (.dat .none) (S.take n) := rfl
theorem fn_exc {c : Bool} {n : Nat} {ρ : Rho} {x : Exn} {S : Sto} : Out.fn c n (.exc x ρ S) = .exc x (S.take n) := rfl
theorem fn_exn {c : Bool} {n : Nat} {x : Exn} {S : Sto} : Out.fn c n (.rt (.exn x) S) = .ok (.exn x) (S.take n) := rfl
def retC (n : Nat) (S : Sto) : Option C → R W
  | some (.lst xs) => .ok (.dat (.list xs)) (S.take n)
  | some (.frz d) => .ok (.dat d) (S.take n)
  | some (.dT ps) => .ok (.dat (.dT ps)) (S.take n)
  | some (.dK ps) => .ok (.dat (.dK ps)) (S.take n)
  | some (.ll xss) => .ok (.dat (.list (xss.map D.list))) (S.take n)
  | some (.ins cl fs) => .ok (.loc n 0) (S.take n ++ [.ins cl fs])
  | none => .bad
theorem fn_loc {n k : Nat} {S : Sto} (h : n ≤ k) : Out.fn false n (.rt (.loc k 0) S) = retC n S S[k]? := by
  show retV false n (.loc k 0) S = _
  unfold retV
  dsimp only
  rw [decide_eq_false (by omega)]
  dsimp only
  cases q : S[k]? with
  | none => rfl
  | some c => cases c <;> rfl
theorem retC_lst {n : Nat} {S : Sto} {xs : List D} : retC n S (some (.lst xs)) = .ok (.dat (.list xs)) (S.take n) := rfl
theorem retC_frz {n : Nat} {S : Sto} {d : D} : retC n S (some (.frz d)) = .ok (.dat d) (S.take n) := rfl
theorem retC_dT {n : Nat} {S : Sto} {ps : List (List Key × D)} : retC n S (some (.dT ps)) = .ok (.dat (.dT ps)) (S.take n) := rfl
theorem retC_dK {n : Nat} {S : Sto} {ps : List (Key × D)} : retC n S (some (.dK ps)) = .ok (.dat (.dK ps)) (S.take n) := rfl
def bodyO (g : FS) : Option (Rho × Sto) → Out
  | some (ρ, S) => g ρ S
  | none => .bad
theorem bodyF_ {gg : FG} {g : FS} {d : D} {ρ : Rho} {S : Sto} : bodyF gg g d ρ S = bodyO g (gg (.dat d) ρ S) := by
  unfold bodyF
  cases gg (.dat d) ρ S with
  | none => rfl
  | some p => rfl
theorem bodyO_ {g : FS} {ρ : Rho} {S : Sto} : bodyO g (some (ρ, S)) = g ρ S := rfl
theorem cutR_nil {n : Nat} : cutR n [] = [] := rfl
theorem cutR_cons {n : Nat} {o : Option W} {ρ : Rho} : cutR n (o :: ρ) = cutW n o :: cutR n ρ := rfl
theorem cutW_dat {n : Nat} {d : D} : cutW n (some (.dat d)) = some (.dat d) := rfl
theorem cutW_none {n : Nat} : cutW n none = none := rfl
theorem cutW_exn {n : Nat} {x : Exn} : cutW n (some (.exn x)) = some (.exn x) := rfl
theorem cutW_loc {n k j : Nat} (h : k < n) : cutW n (some (.loc k j)) = some (.loc k j) := by
  show ifO (decide (k < n)) (some (W.loc k j)) = _
  rw [decide_eq_true h]; rfl
theorem cutW_locN {n k j : Nat} (h : n ≤ k) : cutW n (some (.loc k j)) = none := by
  show ifO (decide (k < n)) (some (W.loc k j)) = _
  rw [decide_eq_false (by omega)]; rfl
theorem v_yes {ρ : Rho} {S : Sto} : fYes ρ S = .ok true S := rfl
def lcO (t : FT) (f : FE) (S : Sto) : Option Rho → R (Option D)
  | some ρ => bindT (t ρ S).noX (fun c S1 => ifB c (bindT (f ρ S1).noX (fun w S2 => R.lift ((frd S2 w).map some) S2) .mk) (.ok none S1) .mk .mk) .mk
  | none => .bad
theorem v_lcB {gg : FC} {t : FT} {f : FE} {ρ : Rho} {d : D} {S : Sto} : lcB gg t f ρ d S = lcO t f S (gg d ρ) := by
  unfold lcB
  cases gg d ρ with
  | none => rfl
  | some ρ2 =>
    show R.bind _ _ = R.bind _ _
    congr 1
theorem lcO_ {t : FT} {f : FE} {S : Sto} {ρ : Rho} : lcO t f S (some ρ) = bindT (t ρ S).noX (fun c S1 => ifB c (bindT (f ρ S1).noX (fun w S2 => R.lift ((frd S2 w).map some) S2) .mk) (.ok none S1) .mk .mk) .mk := rfl
theorem v_cname {i : Nat} {d : D} {ρ : Rho} : cName i d ρ = some (ρ.set i (some (.dat d))) := rfl
theorem v_ctup {n : Nat} {gs : List D → Rho → Option Rho} {f : Fl} {ds : List D} {ρ : Rho} : cTup n gs (.tup f ds) ρ = ifO (decide (ds.length = n)) (gs ds ρ) := rfl
theorem v_cnnil {ρ : Rho} : cnNil [] ρ = some ρ := rfl
theorem v_cncons {i : Nat} {gs : List D → Rho → Option Rho} {d : D} {ds : List D} {ρ : Rho} : cnCons i gs (d :: ds) ρ = gs ds (ρ.set i (some (.dat d))) := rfl
theorem bb_tf : (true == false) = false := rfl
theorem bb_ft : (false == true) = false := rfl
theorem bb_tt : (true == true) = true := rfl
theorem bb_ff : (false == false) = true := rfl
theorem bn_tf : (true != false) = true := rfl
theorem bn_ft : (false != true) = true := rfl
theorem bn_tt : (true != true) = false := rfl
theorem bn_ff : (false != false) = false := rfl
end Vz.Q
namespace Vz.Q
open PySem PySem.Spec PyProof.Rows L2 Vz
local macro_rules
  | `(tactic| simp_arith [$hs,*]) => `(tactic| simp -implicitDefEqProofs -dsimp (disch := first | assumption | omega | (simp only [List.length_map, List.length_append, List.length_cons, List.length_nil, List.length_range, List.length_take, List.length_drop, List.length_replicate, List.length_reverse, List.length_zipIdx]; omega)) only [Vz.Q.ifB_t, Vz.Q.ifB_f, Vz.Q.bind_ok, Vz.Q.bind_exc, Vz.Q.then_ok, Vz.Q.then_exc, Vz.Q.andThen_nx, Vz.Q.andThen_rt, Vz.Q.andThen_exc, Vz.Q.andThen_bk, Vz.Q.andThen_ct, Vz.Q.lift_some, Vz.Q.ofo_some, Vz.Q.get_ok, Vz.Q.noX_ok, Vz.Q.ifO_t, Vz.Q.varO_, Vz.Q.v_var, Vz.Q.v_c, Vz.Q.v_bin, Vz.Q.v_b, Vz.Q.asB_, Vz.Q.v_and, Vz.Q.v_or, Vz.Q.v_not, Vz.Q.v_v, Vz.Q.v_andV, Vz.Q.v_orV, Vz.Q.v_notV, Vz.Q.v_if, Vz.Q.v_chain, Vz.Q.v_anil, Vz.Q.v_acons, Vz.Q.v_tup, Vz.Q.v_tupK, Vz.Q.v_frz, Vz.Q.v_cell, Vz.Q.v_disp, Vz.Q.lsO_, Vz.Q.v_cat, Vz.Q.v_call, Vz.Q.v_lcall, Vz.Q.v_app, Vz.Q.v_appK, Vz.Q.v_nil, Vz.Q.v_pass, Vz.Q.v_seq, Vz.Q.v_break, Vz.Q.v_cont, Vz.Q.v_expr, Vz.Q.v_ret, Vz.Q.v_retN, Vz.Q.v_sif, Vz.Q.v_set, Vz.Q.v_setLc, Vz.Q.v_setLf, Vz.Q.v_aug, Vz.Q.parO_, Vz.Q.v_par, Vz.Q.nxO_, Vz.Q.v_asg, Vz.Q.v_oname, Vz.Q.v_onnil, Vz.Q.v_oncons, Vz.Q.v_otup, Vz.Q.v_osub, Vz.Q.v_fz, Vz.Q.v_meth, Vz.Q.v_meth0, Vz.Q.someR_, Vz.Q.v_index, Vz.Q.v_isi, Vz.Q.v_neg, Vz.Q.v_rev, Vz.Q.v_range, Vz.Q.v_sl, Vz.Q.v_no, Vz.Q.v_yesI, Vz.Q.v_dictT, Vz.Q.v_iseq, Vz.Q.v_iargs, Vz.Q.v_ifr, Vz.Q.rd_dat, Vz.Q.rd_loc, Vz.Q.rdC_lst, Vz.Q.rdC_frz, Vz.Q.rdC_dT, Vz.Q.rdC_dK, Vz.Q.rd2_, Vz.Q.rds_nil, Vz.Q.rds_cons, Vz.Q.dats_nil, Vz.Q.dats_cons, Vz.Q.small_1, Vz.Q.small_2, Vz.Q.small_3, Vz.Q.small_0, Vz.Q.small_, Vz.Q.one_, Vz.Q.two_, Vz.Q.frd_dat, Vz.Q.frd_loc, Vz.Q.frdC_frz, Vz.Q.frds_nil, Vz.Q.frds_cons, Vz.Q.LstW_, Vz.Q.lstB_, Vz.Q.lstC_, Vz.Q.lstO_, Vz.Q.v_append, Vz.Q.v_insert, Vz.Q.v_extend, Vz.Q.v_popAt, Vz.Q.asInt_, Vz.Q.asLs_, Vz.Q.v_stB, Vz.Q.lim_app, Vz.Q.lim_le, Vz.Q.lim_lt, Vz.Q.addL_, Vz.Q.addD_ll, Vz.Q.addD_tt, Option.bind_some, Option.map_some, addD_ii, subI_ii, ltI_ii, leI_ii, gtI_ii, geI_ii, eqD_ii, isN_non, isN_int, isN_str, List.getElem?_cons_zero, List.getElem?_cons_succ, List.set_cons_zero, List.set_cons_succ, List.length_cons, List.length_nil, List.length_append, Nat.zero_add, Nat.add_zero, Nat.reduceAdd, Nat.reduceSub, Nat.reduceEqDiff, at_app0, at_appk, set_app0, set_appk, List.append_assoc, List.cons_append, List.nil_append, List.append_nil, List.map_cons, List.map_nil, List.replicate, Vz.Q.fn_dat, Vz.Q.fn_nx, Vz.Q.fn_exc, Vz.Q.fn_exn, Vz.Q.fn_loc, Vz.Q.retC_lst, Vz.Q.retC_frz, Vz.Q.retC_dT, Vz.Q.retC_dK, Vz.Q.bodyF_, Vz.Q.bodyO_, Vz.Q.cutR_nil, Vz.Q.cutR_cons, Vz.Q.cutW_dat, Vz.Q.cutW_none, Vz.Q.cutW_exn, Vz.Q.cutW_loc, Vz.Q.cutW_locN, wipeR, List.take_succ_cons, List.take_length, List.take_left, take_appk, List.take_zero, List.take_nil, Vz.Q.v_yes, Vz.Q.v_lcB, Vz.Q.lcO_, Vz.Q.v_cname, Vz.Q.v_ctup, Vz.Q.v_cnnil, Vz.Q.v_cncons, Vz.Q.bb_tf, Vz.Q.bb_ft, Vz.Q.bb_tt, Vz.Q.bb_ff, Vz.Q.bn_tf, Vz.Q.bn_ft, Vz.Q.bn_tt, Vz.Q.bn_ff, eqD_bb, neD_bb, Bool.not_true, Bool.not_false, Bool.and_true, Bool.true_and, Bool.and_self, decide_true, decide_false, eq_self, $hs,*])
/-- data that can be laid, compared and shown: w its weight, k its depth -/
structure Rp (w k : Nat) (d : D) : Prop where
  ok : okD d = true
  dp : dep d ≤ k
  sh : d.py.leavesShort 30 = true
  sw : d.py.showable = true
  wt : d.py.weight ≤ w
theorem Rp.le {w k w' k' : Nat} {d : D} (h : Rp w k d) (hw : w ≤ w') (hk : k ≤ k') : Rp w' k' d := ⟨h.ok, Nat.le_trans h.dp hk, h.sh, h.sw, Nat.le_trans h.wt hw⟩
theorem rp_int {i : Int} (h : i.natAbs < 10 ^ 21) : Rp 80 0 (.int i) := by
  have hl : i.natAbs.log2 < 80 := by
    by_cases h0 : i.natAbs = 0
    · rw [h0]; decide
    · exact (Nat.log2_lt h0).mpr (Nat.lt_trans h (by decide))
  refine ⟨rfl, Nat.le_refl _, ?_, ?_, ?_⟩
  · show PyData.leavesShort 30 (.int i) = true
    have e := int_text_length_le10 (a := i) (k := 21) (by decide) h
    have e2 : (PyData.shown (.int i)).length = (toString i).length := by
      rw [PyData.shown_int]
      exact PySem.ofString_length _
    simp only [PyData.leavesShort, decide_eq_true_eq]
    omega
  · show PyData.showable (.int i) = true
    simp only [PyData.showable, decide_eq_true_eq]
    omega
  · show PyData.weight (.int i) ≤ 80
    simp only [PyData.weight]
    split <;> omega
theorem rps {w k n : Nat} : ∀ {ds : List D}, (∀ d ∈ ds, Rp w k d) → okDs ds = true ∧ deps ds ≤ k ∧ PyData.leavesShortAll 30 (pyAll ds) = true ∧ PyData.showableAll (pyAll ds) = true ∧ PyData.weightAll (pyAll ds) ≤ ds.length * (w + 1)
  | [], _ => ⟨rfl, Nat.zero_le _, rfl, rfl, Nat.zero_le _⟩
  | d :: ds, h => by
    have h1 := h d (List.mem_cons_self ..)
    obtain ⟨a, b, c, e, f⟩ := rps (w := w) (k := k) (n := n) (ds := ds) fun d hd => h d (List.mem_cons_of_mem _ hd)
    refine ⟨?_, ?_, ?_, ?_, ?_⟩
    · show (okD d && okDs ds) = true
      rw [h1.ok, a]; rfl
    · show max (dep d) (deps ds) ≤ k
      have := h1.dp
      omega
    · show PyData.leavesShortAll 30 (d.py :: pyAll ds) = true
      simp only [PyData.leavesShortAll, h1.sh, c, Bool.and_self]
    · show PyData.showableAll (d.py :: pyAll ds) = true
      simp only [PyData.showableAll, h1.sw, e, Bool.and_self]
    · show PyData.weightAll (d.py :: pyAll ds) ≤ _
      have := h1.wt
      simp only [PyData.weightAll, List.length_cons, Nat.add_mul]
      omega
theorem rp_tup {w k n : Nat} {fl : Fl} {ds : List D} (h : ∀ d ∈ ds, Rp w k d) (hn : ds.length ≤ n) (hn2 : n ≤ 100000) : Rp (n * (w + 1)) (k + 1) (.tup fl ds) := by
  obtain ⟨a, b, c, e, f⟩ := rps (n := n) h
  have hm : ds.length * (w + 1) ≤ n * (w + 1) := Nat.mul_le_mul_right _ hn
  exact ⟨by show (okDs ds && decide (ds.length ≤ lim)) = true; rw [a, decide_eq_true (by unfold lim; omega)]; rfl, by show deps ds + 1 ≤ k + 1; omega, by show PyData.leavesShort 30 (.tuple (pyAll ds)) = true; simpa only [PyData.leavesShort] using c, by show PyData.showable (.tuple (pyAll ds)) = true; simpa only [PyData.showable] using e, by show PyData.weight (.tuple (pyAll ds)) ≤ _; simp only [PyData.weight]; omega⟩
theorem Rp.shp {w k : Nat} {d : D} (h : Rp w k d) (hk : k ≤ 60) : Vz.shp d = true := shp_ok h.ok (by have := h.dp; omega)
theorem Rp.repr {w k : Nat} {d : D} (h : Rp w k d) (hw : w ≤ 20000) (hk : k ≤ 60) {ds : List D} (hs : seqOf d = some ds) : reprD [d] = some (.str d.py.shown) := by
  have e := PyData.shown_le 30 (by decide) d.py h.sh
  have hl : d.py.shown.length ≤ lim := by
    have := h.wt
    unfold lim
    omega
  have s := h.shp hk
  have sw := h.sw
  cases d with
  | list xs => show ifO (Vz.shp (.list xs) && ((D.list xs).py.showable && decide ((D.list xs).py.shown.length ≤ lim))) _ = _; rw [s, sw, decide_eq_true hl]; rfl
  | tup f xs => show ifO (Vz.shp (.tup f xs) && ((D.tup f xs).py.showable && decide ((D.tup f xs).py.shown.length ≤ lim))) _ = _; rw [s, sw, decide_eq_true hl]; rfl
  | _ => cases hs
theorem neD_ne {w k w' k' : Nat} {x y : D} (hx : Rp w k x) (hy : Rp w' k' y) (h1 : k ≤ 60) (h2 : k' ≤ 60) : neD x y = some (.bool (!PyData.eqv x.py y.py)) := neD_of (hx.shp h1) (hy.shp h2)
def On (P : Out → Prop) (o : Out) : Prop := P o
/-- .. with an invariant by places, that says nothing of the state -/
theorem q_forI {P : Out → Prop} {fi : FI} {gg : FG} {g h : FS} {t : Tag h} {ρ : Rho} {S S1 : Sto} {α : Type} (enc : α → D) (xs : List α) (I : Nat → Rho → Sto → Prop) (hi : fi ρ S = .ok (.ds (xs.map enc)) S1) (h0 : I 0 ρ S1)
    (hs : ∀ i a, xs[i]? = some a → ∀ ρ S, I i ρ S → ∃ ρ' S', bodyF gg g (enc a) ρ S = .nx ρ' S' ∧ I (i + 1) (cutR S1.length ρ') (S'.take S1.length)) (hk : ∀ ρ' S', I xs.length ρ' S' → On P (h ρ' S')) : On P (andT (sFor fi gg g ρ S) h t) := by
  obtain ⟨ρ', S', e, h'⟩ := forL_ix (n := S1.length) (bd := bodyF gg g) (enc := enc) (I := I) (xs := xs) (ρ := ρ) (S := S1) 0 (fun i a ha ρ S hI => by
    rw [Nat.zero_add] at hI ⊢
    exact hs i a ha ρ S hI) h0
  rw [Nat.zero_add] at h'
  rw [x_for hi, e]
  exact hk ρ' S' h'
/-- what is walked, element by element -/
theorem walk_dl {S : Sto} {xs : List D} : walk S (.dat (.list xs)) = some (.ds xs) := rfl
theorem walk_dt {S : Sto} {f : Fl} {xs : List D} : walk S (.dat (.tup f xs)) = some (.ds xs) := rfl
theorem enumD_l {xs : List D} : enumD (.list xs) = some (nums 0 xs) := rfl
theorem enumD_t {f : Fl} {xs : List D} : enumD (.tup f xs) = some (nums 0 xs) := rfl
theorem nums_map {α : Type} (enc : α → D) : ∀ (xs : List α) (k : Nat), nums k (xs.map enc) = (xs.zipIdx k).map fun p => .tup .key [.int (p.2 : Nat), enc p.1]
  | [], _ => rfl
  | x :: xs, k => by
    show _ :: nums (k + 1) (xs.map enc) = _
    rw [nums_map enc xs (k + 1)]
    rfl
theorem inD_l {neg : Bool} {p : Int} {xs : List Int} : inD neg (.int p) (.list (xs.map D.int)) = some (.bool (xor neg (decide (p ∈ xs)))) := inD_seq rfl
theorem inD_t {neg : Bool} {p : Int} {xs : List Int} {f : Fl} : inD neg (.int p) (.tup f (xs.map D.int)) = some (.bool (xor neg (decide (p ∈ xs)))) := inD_seq rfl
theorem isNN_non : isNN .none .none = some (.bool false) := rfl
theorem isNN_int (i : Int) : isNN (.int i) .none = some (.bool true) := rfl
theorem isNN_str (i : Str) : isNN (.str i) .none = some (.bool true) := rfl
theorem sqB_l {x : List D} : sqB (.list x) = some false := rfl
theorem sqB_t {x : List D} : sqB (.tup .nod x) = some true := rfl
theorem listD_l {x : List D} : listD [.list x] = some x := rfl
theorem listD_t {x : List D} {f : Fl} : listD [.tup f x] = some x := rfl
theorem tupleD_l {x : List D} : tupleD [.list x] = some (.tup .nod x) := rfl
theorem tupleD_t {x : List D} {f : Fl} : tupleD [.tup f x] = some (.tup f x) := rfl
theorem lenD_l {x : List D} : lenD [.list x] = some (.int (x.length : Nat)) := rfl
theorem lenD_t {x : List D} {f : Fl} : lenD [.tup f x] = some (.int (x.length : Nat)) := rfl
theorem cutD_l {lo hi : Option Int} {x : List D} : cutD lo hi (.list x) = some (.list (cutL x lo hi)) := rfl
theorem cutD_n {lo hi : Option Int} {x : List D} : cutD lo hi (.tup .nod x) = some (.tup .nod (cutL x lo hi)) := cut_nod
theorem revD_l {x : List D} : revD (.list x) = some (.list x.reverse) := rfl
theorem fz_dat {d : D} {S : Sto} : fz (.dat d) S = some (.dat d, S) := rfl
def fzC (k : Nat) (S : Sto) : Option C → Option (W × Sto)
  | some (.lst xs) => some (.dat (.list xs), S.set k (.frz (.list xs)))
  | some (.frz d) => some (.dat d, S)
  | some (.dT ps) => some (.dat (.dT ps), S.set k (.frz (.dT ps)))
  | some (.dK ps) => some (.dat (.dK ps), S.set k (.frz (.dK ps)))
  | _ => none
theorem fz_loc {k : Nat} {S : Sto} : fz (.loc k 0) S = fzC k S S[k]? := by
  cases q : S[k]? with
  | none => simp only [fz, q]; rfl
  | some c => cases c <;> simp only [fz, q] <;> rfl
theorem fzC_lst {k : Nat} {S : Sto} {xs : List D} : fzC k S (some (.lst xs)) = some (.dat (.list xs), S.set k (.frz (.list xs))) := rfl
theorem fzC_frz {k : Nat} {S : Sto} {d : D} : fzC k S (some (.frz d)) = some (.dat d, S) := rfl
theorem ixN_nat {n i : Nat} (h : i < n) : ixN n (i : Int) = some i := by
  unfold ixN
  rw [if_pos (by omega), if_pos (by omega)]
  simp
theorem atI_nat {α : Type} {xs : List α} {i : Nat} {a : α} (h : xs[i]? = some a) : atI xs (i : Int) = some a := by
  have hl := (List.getElem?_eq_some_iff.mp h).1
  unfold atI
  rw [ixN_nat hl]
  exact h
theorem ixD_l {xs : List D} {i : Nat} {a : D} (h : xs[i]? = some a) : ixD (.list xs) (.int (i : Int)) = some a := atI_nat h
theorem ixD_t {xs : List D} {f : Fl} {i : Nat} {a : D} (h : xs[i]? = some a) : ixD (.tup f xs) (.int (i : Int)) = some a := atI_nat h
theorem putC_l {xs : List D} {i : Nat} {d : D} (h : i < xs.length) : putC (.lst xs) (.int (i : Int)) d = some (.lst (xs.set i d)) := by
  show (ixN xs.length (i : Int)).map _ = _
  rw [ixN_nat h]; rfl
/-- a place is drawn -/
theorem draw_nat {G : List W → Sto → R W} (hG : DrawB G) {x : C} {m n : Nat} (hx : SrcOk (m + 2) x) (h0 : 0 < n) (hn : n ≤ 10 ^ 10) : ∃ (r : Nat) (y : C), DrawU G x n r y ∧ r < n ∧ SrcOk m y := by
  obtain ⟨r, y, h1, h2, h3, h4⟩ := hG m x n hx (by omega) (by omega)
  obtain ⟨k, rfl⟩ : ∃ k : Nat, r = (k : Int) := ⟨r.toNat, by omega⟩
  exact ⟨k, y, h1, by omega, h4⟩
/-- an element is chosen -/
def bChoice (G : List W → Sto → R W) : FS := (sRet (fBin ixD (fVar 1) (fApp 2 G (aCons (fVar 0) (aCons (fCall lenD (aCons (fVar 1) aNil)) aNil)))))
theorem choice_ok {G : List W → Sto → R W} (hG : DrawB G) {x : C} {m : Nat} {ds : List D} (hx : SrcOk (m + 2) x) (h0 : ds ≠ []) (hn : ds.length ≤ 1000000) : ∃ d y, d ∈ ds ∧ SrcOk m y ∧
    ∀ rest, runF 2 false (bChoice G) [.loc 0 0, .dat (.list ds)] (x :: rest) = .ok (.dat d) (y :: rest) := by
  obtain ⟨r, y, h1, h2, h3⟩ := draw_nat hG (n := ds.length) hx (List.length_pos_iff.mpr h0) (by omega)
  refine ⟨ds[r], y, List.getElem_mem _, h3, fun rest => ?_⟩
  have e : (ds[r]?) = some ds[r] := List.getElem?_eq_getElem h2
  have hh := h1 rest
  have e2 := ixD_l e
  rw [v_runF]
  simp_arith [bChoice, lenD_l, hh, e2]
end Vz.Q
namespace Vz.Q
open PySem PySem.Spec PyProof.Rows L2 Vz
def tryO (L cl : List Str) (i : Nat) (gs : FS) : Out → Out
  | .exc x ρ1 S1 => ifB (L.contains x.cls) (ifB (cl.contains x.cls) ((gs (ρ1.set i (some (.exn x))) S1).drop1 i) (.exc x ρ1 S1) .mk .mk) .bad .mk .mk
  | r => r
theorem v_try {L cl : List Str} {i : Nat} {gb gs : FS} {ρ : Rho} {S : Sto} : sTry L cl i gb gs ρ S = tryO L cl i gs (gb ρ S) := by
  unfold sTry
  cases gb ρ S with
  | exc x ρ1 S1 =>
    show (match L.contains x.cls with | true => (match cl.contains x.cls with | true => (gs (ρ1.set i (some (.exn x))) S1).drop1 i | false => Out.exc x ρ1 S1) | false => .bad) = ifB (L.contains x.cls) (ifB (cl.contains x.cls) ((gs (ρ1.set i (some (.exn x))) S1).drop1 i) (.exc x ρ1 S1) .mk .mk) .bad .mk .mk
    cases L.contains x.cls with
    | false => rfl
    | true => cases cl.contains x.cls <;> rfl
  | _ => rfl
theorem try_exc {L cl : List Str} {i : Nat} {gs : FS} {x : Exn} {ρ : Rho} {S : Sto} : tryO L cl i gs (.exc x ρ S) = ifB (L.contains x.cls) (ifB (cl.contains x.cls) ((gs (ρ.set i (some (.exn x))) S).drop1 i) (.exc x ρ S) .mk .mk) .bad .mk .mk := rfl
theorem try_nx {L cl : List Str} {i : Nat} {gs : FS} {ρ : Rho} {S : Sto} : tryO L cl i gs (.nx ρ S) = .nx ρ S := rfl
theorem try_rt {L cl : List Str} {i : Nat} {gs : FS} {w : W} {S : Sto} : tryO L cl i gs (.rt w S) = .rt w S := rfl
theorem drop_nx {i : Nat} {ρ : Rho} {S : Sto} : Out.drop1 i (.nx ρ S) = .nx (ρ.set i none) S := rfl
theorem drop_rt {i : Nat} {w : W} {S : Sto} : Out.drop1 i (.rt w S) = .rt w S := rfl
def r1O (c f : Str) (ρ : Rho) : List W → Sto → Out
  | [.dat d], S => .exc ⟨c, [(f, d)]⟩ ρ S
  | _, _ => .bad
theorem v_raise1 {c f : Str} {g : FA} {ρ : Rho} {S : Sto} : sRaise1 c f g ρ S = thenT (g ρ S) ρ (r1O c f ρ) .mk := by
  unfold sRaise1
  cases g ρ S with
  | ok ws S1 => rcases ws with _ | ⟨a, _ | ⟨b, r⟩⟩ <;> first | rfl | (cases a <;> rfl)
  | exc x S1 => rfl
  | bad => rfl
theorem r1O_ {c f : Str} {d : D} {ρ : Rho} {S : Sto} : r1O c f ρ [.dat d] S = .exc ⟨c, [(f, d)]⟩ ρ S := rfl
theorem v_raise0 {c : Str} {ρ : Rho} {S : Sto} : sRaise0 c ρ S = .exc ⟨c, []⟩ ρ S := rfl
theorem v_isNo {f : FE} {ρ : Rho} {S : Sto} : fIsN f ρ S = bindT (f ρ S) (fun w S1 => .ok (.dat (.bool (isNoW w))) S1) .mk := rfl
theorem v_isNoN {f : FE} {ρ : Rho} {S : Sto} : fIsNN f ρ S = bindT (f ρ S) (fun w S1 => .ok (.dat (.bool (!isNoW w))) S1) .mk := rfl
theorem isNo_non : isNoW (.dat .none) = true := rfl
theorem isNo_exn {x : Exn} : isNoW (.exn x) = false := rfl
def isXW (L : List Str) (g : Str → Bool) (S : Sto) : W → R W
  | .exn x => ifB (L.contains x.cls) (.ok (.dat (.bool (g x.cls))) S) .bad .mk .mk
  | _ => .bad
theorem v_isX {L : List Str} {g : Str → Bool} {f : FE} {ρ : Rho} {S : Sto} : fIsX L g f ρ S = bindT (f ρ S) (fun w S1 => isXW L g S1 w) .mk := by
  unfold fIsX
  cases f ρ S with
  | ok w S1 =>
    cases w with
    | exn x =>
      show (match L.contains x.cls with | true => R.ok (W.dat (.bool (g x.cls))) S1 | false => .bad) = ifB (L.contains x.cls) (.ok (.dat (.bool (g x.cls))) S1) .bad .mk .mk
      cases L.contains x.cls <;> rfl
    | _ => rfl
  | exc x S1 => rfl
  | bad => rfl
theorem isXW_ {L : List Str} {g : Str → Bool} {S : Sto} {x : Exn} : isXW L g S (.exn x) = ifB (L.contains x.cls) (.ok (.dat (.bool (g x.cls))) S) .bad .mk .mk := rfl
def xfW (L : List Str) (n : Str) (S : Sto) : W → R W
  | .exn x => ifB (L.contains x.cls) (R.lift ((x.fs.lookup n).map W.dat) S) .bad .mk .mk
  | _ => .bad
theorem v_xf {L : List Str} {n : Str} {f : FE} {ρ : Rho} {S : Sto} : fXf L n f ρ S = bindT (f ρ S) (fun w S1 => xfW L n S1 w) .mk := by
  unfold fXf
  cases f ρ S with
  | ok w S1 =>
    cases w with
    | exn x =>
      show (match L.contains x.cls with | true => R.lift ((x.fs.lookup n).map W.dat) S1 | false => .bad) = ifB (L.contains x.cls) (R.lift ((x.fs.lookup n).map W.dat) S1) .bad .mk .mk
      cases L.contains x.cls <;> rfl
    | _ => rfl
  | exc x S1 => rfl
  | bad => rfl
theorem xfW_ {L : List Str} {n : Str} {S : Sto} {x : Exn} : xfW L n S (.exn x) = ifB (L.contains x.cls) (R.lift ((x.fs.lookup n).map W.dat) S) .bad .mk .mk := rfl
theorem v_oseq_t {n : Nat} {gs : List D → Rho → Option Rho} {f : Fl} {ds : List D} {ρ : Rho} {S : Sto} : oSeq n gs (.dat (.tup f ds)) ρ S = ifO (decide (ds.length = n)) ((gs ds ρ).map fun ρ' => (ρ', S)) := rfl
theorem v_oseq_l {n : Nat} {gs : List D → Rho → Option Rho} {ds : List D} {ρ : Rho} {S : Sto} : oSeq n gs (.dat (.list ds)) ρ S = ifO (decide (ds.length = n)) ((gs ds ρ).map fun ρ' => (ρ', S)) := rfl
end Vz.Q
namespace Vz.Q
open PySem PySem.Spec PyProof.Rows L2 Vz
def SO (x : Str) : Prop := ∀ c ∈ x.cps.toList, c < 1114112
theorem so_iff {x : Str} : PyData.strOk x = true ↔ SO x := by
  show (x.cps.all fun c => decide (c < 1114112)) = true ↔ _
  rw [Array.all_eq_true']
  constructor
  · intro h c hc
    exact of_decide_eq_true (h c (Array.mem_toList_iff.mp hc))
  · intro h c hc
    exact decide_eq_true (h c (Array.mem_toList_iff.mpr hc))
theorem so_app {x y : Str} (h1 : SO x) (h2 : SO y) : SO (x ++ y) := by
  intro c hc
  have e : (x ++ y).cps.toList = x.cps.toList ++ y.cps.toList := by
    show (x.cps ++ y.cps).toList = _
    exact Array.toList_append
  rw [e] at hc
  rcases List.mem_append.mp hc with hc | hc
  · exact h1 c hc
  · exact h2 c hc
theorem char_lt (c : Char) : c.toNat < 1114112 := by
  have h := c.valid
  rcases h with h | ⟨_, h⟩
  · show c.val.toNat < _
    have : c.val.toNat < 0xd800 := h
    omega
  · show c.val.toNat < _
    have : c.val.toNat < 0x110000 := h
    omega
theorem so_of (s : String) : SO (Str.ofString s) := by
  intro c hc
  have e : (Str.ofString s).cps.toList = s.toList.map Char.toNat := by
    rw [Str.ofString_eq_toList]
  rw [e] at hc
  obtain ⟨k, _, rfl⟩ := List.mem_map.mp hc
  exact char_lt k
theorem so_from : ∀ (ts : List Str) (k : Nat) (acc : Str), SO acc → (∀ t ∈ ts, SO t) → SO (textFrom k acc ts)
  | [], _, _, h, _ => h
  | t :: r, k, acc, h, ht => so_from r (k + 1) _ (so_app (so_app h (by split <;> exact so_of _)) (ht t (List.mem_cons_self ..))) fun x hx => ht x (List.mem_cons_of_mem _ hx)
theorem so_join {sep : Str} (hs : SO sep) : ∀ ts : List Str, (∀ t ∈ ts, SO t) → SO (Str.join sep ts)
  | [], _ => by intro c hc; cases hc
  | [x], h => h x (List.mem_cons_self ..)
  | x :: y :: r, h => so_app (so_app (h x (List.mem_cons_self ..)) hs) (so_join hs (y :: r) fun t ht => h t (List.mem_cons_of_mem _ ht))
theorem so_list {ts : List Str} (h : ∀ t ∈ ts, SO t) : SO (listText ts) := so_app (so_from ts 0 _ (so_of _) h) (so_of _)
theorem so_tuple {ts : List Str} (h : ∀ t ∈ ts, SO t) : SO (tupleText ts) := so_app (so_app (so_of _) (so_join (so_of _) ts h)) (by split <;> exact so_of _)
theorem so_hex (c w : Nat) : ∀ x ∈ List.replicate (w - ((Nat.toDigits 16 c).map Char.toNat).length) 48 ++ (Nat.toDigits 16 c).map Char.toNat, x < 1114112 := by
  intro x hx
  rcases List.mem_append.mp hx with hx | hx
  · rw [List.eq_of_mem_replicate hx]; decide
  · obtain ⟨k, _, rfl⟩ := List.mem_map.mp hx
    exact char_lt k
theorem so_char {q c : Nat} (hc : c < 1114112) : ∀ x ∈ Builtin.Str.reprChar q c, x < 1114112 := by
  intro x hx
  have h := fun w => so_hex c w x
  unfold Builtin.Str.reprChar at hx
  simp only [] at hx
  split at hx
  · rcases List.mem_cons.mp hx with rfl | hx
    · decide
    · rcases List.mem_singleton.mp hx with rfl; exact hc
  split at hx
  · rcases List.mem_cons.mp hx with rfl | hx
    · decide
    · rcases List.mem_singleton.mp hx with rfl; decide
  split at hx
  · rcases List.mem_cons.mp hx with rfl | hx
    · decide
    · rcases List.mem_singleton.mp hx with rfl; decide
  split at hx
  · rcases List.mem_cons.mp hx with rfl | hx
    · decide
    · rcases List.mem_singleton.mp hx with rfl; decide
  split at hx
  · rcases List.mem_singleton.mp hx with rfl; exact hc
  split at hx
  · rcases List.mem_append.mp hx with hx | hx
    · rcases List.mem_cons.mp hx with rfl | hx
      · decide
      · rcases List.mem_singleton.mp hx with rfl; decide
    · exact h 2 hx
  split at hx
  · rcases List.mem_append.mp hx with hx | hx
    · rcases List.mem_cons.mp hx with rfl | hx
      · decide
      · rcases List.mem_singleton.mp hx with rfl; decide
    · exact h 4 hx
  · rcases List.mem_append.mp hx with hx | hx
    · rcases List.mem_cons.mp hx with rfl | hx
      · decide
      · rcases List.mem_singleton.mp hx with rfl; decide
    · exact h 8 hx
theorem so_fold {q : Nat} : ∀ (l : List Nat) (acc : Array Nat), (∀ c ∈ l, c < 1114112) → (∀ c ∈ acc.toList, c < 1114112) → ∀ c ∈ (l.foldl (fun out c => out ++ (Builtin.Str.reprChar q c).toArray) acc).toList, c < 1114112
  | [], _, _, h => h
  | d :: l, acc, hl, h => so_fold l _ (fun c hc => hl c (List.mem_cons_of_mem _ hc)) fun c hc => by
    rw [Array.toList_append] at hc
    rcases List.mem_append.mp hc with hc | hc
    · exact h c hc
    · exact so_char (hl d (List.mem_cons_self ..)) c (by simpa using hc)
theorem so_repr {x : Str} (h : SO x) : SO (reprText x) := by
  have hq : reprQuote x < 1114112 := by
    unfold reprQuote
    split <;> decide
  intro c hc
  unfold reprText at hc
  rw [Array.toList_push, ← Array.foldl_toList] at hc
  rcases List.mem_append.mp hc with hc | hc
  · exact so_fold _ _ h (fun c hc => by
      rcases List.mem_singleton.mp hc with rfl
      exact hq) c hc
  · rcases List.mem_singleton.mp hc with rfl
    exact hq
mutual
theorem so_shown : ∀ d : D, okD d = true → SO d.py.shown
  | .none, _ => so_of "None"
  | .bool b, _ => by
    show SO (PyData.shown (.bool b))
    simp only [PyData.shown]
    split <;> exact so_of _
  | .int i, _ => by
    show SO (PyData.shown (.int i))
    simp only [PyData.shown]
    exact so_of _
  | .str x, h => by
    show SO (PyData.shown (.str x))
    simp only [PyData.shown]
    exact so_repr (so_iff.mp h)
  | .list xs, h => by
    show SO (PyData.shown (.list (pyAll xs)))
    simp only [PyData.shown]
    exact so_list (so_showns xs (Bool.and_eq_true_iff.mp h).1)
  | .tup f xs, h => by
    show SO (PyData.shown (.tuple (pyAll xs)))
    simp only [PyData.shown]
    exact so_tuple (so_showns xs (Bool.and_eq_true_iff.mp h).1)
theorem so_showns : ∀ ds : List D, okDs ds = true → ∀ t ∈ PyData.shownAll (pyAll ds), SO t
  | [], _, _, ht => nomatch ht
  | d :: ds, h, t, ht => by
    obtain ⟨h1, h2⟩ := Bool.and_eq_true_iff.mp h
    have ht : t ∈ PyData.shownAll (d.py :: pyAll ds) := ht
    simp only [PyData.shownAll] at ht
    rcases List.mem_cons.mp ht with rfl | ht
    · exact so_shown d h1
    · exact so_showns ds h2 t ht
end
theorem eqv_str (x : Str) : PyData.eqv (.str x) (.str x) = true := by simp [PyData.eqv]
/-- two texts that are the same -/
theorem ne_str {x : Str} (h : SO x) : neD (.str x) (.str x) = some (.bool false) := by
  have hs : Vz.shp (.str x) = true := shp_ok (so_iff.mpr h) (Nat.zero_le _)
  rw [neD_of hs hs]
  show some (D.bool (!PyData.eqv (.str x) (.str x))) = _
  rw [eqv_str]
  rfl
theorem Rp.ne {w k : Nat} {d : D} (h : Rp w k d) : neD (.str d.py.shown) (.str d.py.shown) = some (.bool false) := ne_str (so_shown d h.ok)
theorem src_start {q : Nat} (c i : Int) (hq : q < 2 ^ 39) : SrcOk q (.lst [.int (srcA c), .int (srcB c i), .int 0]) := by
  refine ⟨srcA c, srcB c i, 0, rfl, Int.emod_nonneg _ (by decide), ?_, by decide, by omega⟩
  have := Int.emod_lt_of_pos ((c % 2147483563 + 88001 * i + 61) * 39869) (b := 2147483543) (by decide)
  unfold srcB
  omega
end Vz.Q
namespace Vz
open PySem PySem.Spec PyProof.Rows L2
variable {T : Tb} {X : Cx} {Wx : WX} {a b c : Expr} {pos : Pos}
def sPar3 (i j l : Nat) (f : FA) : FS := fun ρ S => (f ρ S).then ρ fun ws S1 => match ws with
  | [u, v, w] => .nx (((ρ.set i (some u)).set j (some v)).set l (some w)) S1
  | _ => .bad
theorem js_par3 {i j l : Nat} {x y z : Str} {px py pz pt : Pos} {kt k2 pt2} {ga : FA} (hc : X.calm = true) (hN : X.N.Nodup) (ha : JA T X Wx [a, b, c] ga) (hij : i ≠ j := by decide) (hil : i ≠ l := by decide) (hjl : j ≠ l := by decide) (hi : X.N[i]? = some x := by rfl) (hj : X.N[j]? = some y := by rfl) (hl : X.N[l]? = some z := by rfl)
    (hx : X.env.scope.names.lookup x = some .local := by rfl) (hy : X.env.scope.names.lookup y = some .local := by rfl) (hz : X.env.scope.names.lookup z = some .local := by rfl)
    (hw : swappedStores [.Tuple [.Name x px, .Name y py, .Name z pz] kt pt] (.Tuple [a, b, c] k2 pt2) X.env = pure (some [x, y, z]) := by rfl)
    (hs : swapsWithSole [.Tuple [.Name x px, .Name y py, .Name z pz] kt pt] (.Tuple [a, b, c] k2 pt2) pos.line X.env = pure false := by rfl) :
    JS T X Wx (.Assign [.Tuple [.Name x px, .Name y py, .Name z pz] kt pt] (.Tuple [a, b, c] k2 pt2) pos) (sPar3 i j l ga) := by
  obtain ⟨t, h1, s1⟩ := ha
  refine ⟨_, ps_par3 hc hN hi hj hl hij hil hjl hx hy hz h1 hw hs, fun G F A S H σ ρ D hw hs hp => ?_⟩
  refine s1 G F A S H σ ρ _ hw hs (PostS.then hs hp fun ws S' F' A' H' v e p w' r q => ?_)
  cases r with
  | nil => exact q.elim
  | cons r1 rr =>
    cases rr with
    | nil => exact q.elim
    | cons r2 rr =>
      cases rr with
      | nil => exact q.elim
      | cons r3 rr =>
        cases rr with
        | nil => exact ⟨_, _, _, rfl, q F' A' H' _ (Evl.Ex.refl _) (Pre.refl _) w' ((((hs.mono e p).set i r1).set j r2).set l r3)⟩
        | cons _ _ => exact q.elim
end Vz
namespace Vz.Q
open PySem PySem.Spec PyProof.Rows L2 Vz
def par3O (i j l : Nat) (ρ : Rho) : List W → Sto → Out
  | [u, v, w], S => .nx (((ρ.set i (some u)).set j (some v)).set l (some w)) S
  | _, _ => .bad
theorem par3O_ {i j l : Nat} {u v w : W} {ρ : Rho} {S : Sto} : par3O i j l ρ [u, v, w] S = .nx (((ρ.set i (some u)).set j (some v)).set l (some w)) S := rfl
theorem v_par3 {i j l : Nat} {f : FA} {ρ : Rho} {S : Sto} : sPar3 i j l f ρ S = thenT (f ρ S) ρ (par3O i j l ρ) .mk := by
  unfold sPar3
  cases f ρ S with
  | ok ws S1 => rcases ws with _ | ⟨a, _ | ⟨b, _ | ⟨c, _ | ⟨d, r⟩⟩⟩⟩ <;> rfl
  | exc x S1 => rfl
  | bad => rfl
end Vz.Q
namespace Vz
open PySem PySem.Spec PyProof.Rows L2
section
variable {T : Tb} {X : Cx} {Wx : WX} {ga : FA}
def seqK : Bool → D → Option (List D)
  | false, .list xs => some xs
  | true, .tup _ xs => some xs
  | _, _ => none
def kndD : D → Option Bool
  | .list _ => some false
  | .tup _ _ => some true
  | _ => none
def zipS (p q : Bool) (v w : W) (S : Sto) : Option (List D) := ((rd S v).bind (seqK p)).bind fun xs => ((rd S w).bind (seqK q)).map (pairs xs)
def izD (S : Sto) (v w : W) : Option Wk := ((rd S v).bind kndD).bind fun p => ((rd S w).bind kndD).map fun q => .dyn (zipS p q v w)
def izW (S : Sto) : List W → Option Wk
  | [v, w] => match (frds S [v, w]).bind (two zipD) with
    | some ds => some (.ds ds)
    | none => izD S v w
  | _ => none
def iZd (f : FA) : FI := fun ρ S => (f ρ S).bind fun ws S1 => R.lift (izW S1 ws) S1
end
end Vz
namespace Vz.Q
open PySem PySem.Spec PyProof.Rows L2 Vz
local macro_rules
  | `(tactic| simp_arith [$hs,*]) => `(tactic| simp -implicitDefEqProofs -dsimp (disch := first | assumption | omega | (simp only [List.length_map, List.length_append, List.length_cons, List.length_nil, List.length_range, List.length_take, List.length_drop, List.length_replicate, List.length_reverse, List.length_zipIdx]; omega)) only [Vz.Q.ifB_t, Vz.Q.ifB_f, Vz.Q.bind_ok, Vz.Q.bind_exc, Vz.Q.then_ok, Vz.Q.then_exc, Vz.Q.andThen_nx, Vz.Q.andThen_rt, Vz.Q.andThen_exc, Vz.Q.andThen_bk, Vz.Q.andThen_ct, Vz.Q.lift_some, Vz.Q.ofo_some, Vz.Q.get_ok, Vz.Q.noX_ok, Vz.Q.ifO_t, Vz.Q.varO_, Vz.Q.v_var, Vz.Q.v_c, Vz.Q.v_bin, Vz.Q.v_b, Vz.Q.asB_, Vz.Q.v_and, Vz.Q.v_or, Vz.Q.v_not, Vz.Q.v_v, Vz.Q.v_andV, Vz.Q.v_orV, Vz.Q.v_notV, Vz.Q.v_if, Vz.Q.v_chain, Vz.Q.v_anil, Vz.Q.v_acons, Vz.Q.v_tup, Vz.Q.v_tupK, Vz.Q.v_frz, Vz.Q.v_cell, Vz.Q.v_disp, Vz.Q.lsO_, Vz.Q.v_cat, Vz.Q.v_call, Vz.Q.v_lcall, Vz.Q.v_app, Vz.Q.v_appK, Vz.Q.v_nil, Vz.Q.v_pass, Vz.Q.v_seq, Vz.Q.v_break, Vz.Q.v_cont, Vz.Q.v_expr, Vz.Q.v_ret, Vz.Q.v_retN, Vz.Q.v_sif, Vz.Q.v_set, Vz.Q.v_setLc, Vz.Q.v_setLf, Vz.Q.v_aug, Vz.Q.parO_, Vz.Q.v_par, Vz.Q.nxO_, Vz.Q.v_asg, Vz.Q.v_oname, Vz.Q.v_onnil, Vz.Q.v_oncons, Vz.Q.v_otup, Vz.Q.v_osub, Vz.Q.v_fz, Vz.Q.v_meth, Vz.Q.v_meth0, Vz.Q.someR_, Vz.Q.v_index, Vz.Q.v_isi, Vz.Q.v_neg, Vz.Q.v_rev, Vz.Q.v_range, Vz.Q.v_sl, Vz.Q.v_no, Vz.Q.v_yesI, Vz.Q.v_dictT, Vz.Q.v_iseq, Vz.Q.v_iargs, Vz.Q.v_ifr, Vz.Q.rd_dat, Vz.Q.rd_loc, Vz.Q.rdC_lst, Vz.Q.rdC_frz, Vz.Q.rdC_dT, Vz.Q.rdC_dK, Vz.Q.rd2_, Vz.Q.rds_nil, Vz.Q.rds_cons, Vz.Q.dats_nil, Vz.Q.dats_cons, Vz.Q.small_1, Vz.Q.small_2, Vz.Q.small_3, Vz.Q.small_0, Vz.Q.small_, Vz.Q.one_, Vz.Q.two_, Vz.Q.frd_dat, Vz.Q.frd_loc, Vz.Q.frdC_frz, Vz.Q.frds_nil, Vz.Q.frds_cons, Vz.Q.LstW_, Vz.Q.lstB_, Vz.Q.lstC_, Vz.Q.lstO_, Vz.Q.v_append, Vz.Q.v_insert, Vz.Q.v_extend, Vz.Q.v_popAt, Vz.Q.asInt_, Vz.Q.asLs_, Vz.Q.v_stB, Vz.Q.lim_app, Vz.Q.lim_le, Vz.Q.lim_lt, Vz.Q.addL_, Vz.Q.addD_ll, Vz.Q.addD_tt, Option.bind_some, Option.map_some, addD_ii, subI_ii, ltI_ii, leI_ii, gtI_ii, geI_ii, eqD_ii, isN_non, isN_int, isN_str, List.getElem?_cons_zero, List.getElem?_cons_succ, List.set_cons_zero, List.set_cons_succ, List.length_cons, List.length_nil, List.length_append, Nat.zero_add, Nat.add_zero, Nat.reduceAdd, Nat.reduceSub, Nat.reduceEqDiff, at_app0, at_appk, set_app0, set_appk, List.append_assoc, List.cons_append, List.nil_append, List.append_nil, List.map_cons, List.map_nil, List.replicate, Vz.Q.fn_dat, Vz.Q.fn_nx, Vz.Q.fn_exc, Vz.Q.fn_exn, Vz.Q.fn_loc, Vz.Q.retC_lst, Vz.Q.retC_frz, Vz.Q.retC_dT, Vz.Q.retC_dK, Vz.Q.bodyF_, Vz.Q.bodyO_, Vz.Q.cutR_nil, Vz.Q.cutR_cons, Vz.Q.cutW_dat, Vz.Q.cutW_none, Vz.Q.cutW_exn, Vz.Q.cutW_loc, Vz.Q.cutW_locN, wipeR, List.take_succ_cons, List.take_length, List.take_left, take_appk, List.take_zero, List.take_nil, Vz.Q.v_yes, Vz.Q.v_lcB, Vz.Q.lcO_, Vz.Q.v_cname, Vz.Q.v_ctup, Vz.Q.v_cnnil, Vz.Q.v_cncons, Vz.Q.bb_tf, Vz.Q.bb_ft, Vz.Q.bb_tt, Vz.Q.bb_ff, Vz.Q.bn_tf, Vz.Q.bn_ft, Vz.Q.bn_tt, Vz.Q.bn_ff, eqD_bb, neD_bb, Bool.not_true, Bool.not_false, Bool.and_true, Bool.true_and, Bool.and_self, decide_true, decide_false, eq_self, $hs,*])
local macro_rules
  | `(tactic| simp_arith! [$hs,*]) => `(tactic| simp -implicitDefEqProofs -dsimp (disch := first | assumption | omega | (simp only [List.length_map, List.length_append, List.length_cons, List.length_nil, List.length_range, List.length_take, List.length_drop, List.length_replicate, List.length_reverse, List.length_zipIdx]; omega)) only [Vz.Q.ifB_t, Vz.Q.ifB_f, Vz.Q.bind_ok, Vz.Q.bind_exc, Vz.Q.then_ok, Vz.Q.then_exc, Vz.Q.andThen_nx, Vz.Q.andThen_rt, Vz.Q.andThen_exc, Vz.Q.andThen_bk, Vz.Q.andThen_ct, Vz.Q.lift_some, Vz.Q.ofo_some, Vz.Q.get_ok, Vz.Q.noX_ok, Vz.Q.ifO_t, Vz.Q.varO_, Vz.Q.v_var, Vz.Q.v_c, Vz.Q.v_bin, Vz.Q.v_b, Vz.Q.asB_, Vz.Q.v_and, Vz.Q.v_or, Vz.Q.v_not, Vz.Q.v_v, Vz.Q.v_andV, Vz.Q.v_orV, Vz.Q.v_notV, Vz.Q.v_if, Vz.Q.v_chain, Vz.Q.v_anil, Vz.Q.v_acons, Vz.Q.v_tup, Vz.Q.v_tupK, Vz.Q.v_frz, Vz.Q.v_cell, Vz.Q.v_disp, Vz.Q.lsO_, Vz.Q.v_cat, Vz.Q.v_call, Vz.Q.v_lcall, Vz.Q.v_app, Vz.Q.v_appK, Vz.Q.v_nil, Vz.Q.v_pass, Vz.Q.v_seq, Vz.Q.v_break, Vz.Q.v_cont, Vz.Q.v_expr, Vz.Q.v_ret, Vz.Q.v_retN, Vz.Q.v_sif, Vz.Q.v_set, Vz.Q.v_setLc, Vz.Q.v_setLf, Vz.Q.v_aug, Vz.Q.parO_, Vz.Q.v_par, Vz.Q.nxO_, Vz.Q.v_asg, Vz.Q.v_oname, Vz.Q.v_onnil, Vz.Q.v_oncons, Vz.Q.v_otup, Vz.Q.v_osub, Vz.Q.v_fz, Vz.Q.v_meth, Vz.Q.v_meth0, Vz.Q.someR_, Vz.Q.v_index, Vz.Q.v_isi, Vz.Q.v_neg, Vz.Q.v_rev, Vz.Q.v_range, Vz.Q.v_sl, Vz.Q.v_no, Vz.Q.v_yesI, Vz.Q.v_dictT, Vz.Q.v_iseq, Vz.Q.v_iargs, Vz.Q.v_ifr, Vz.Q.rd_dat, Vz.Q.rd_loc, Vz.Q.rdC_lst, Vz.Q.rdC_frz, Vz.Q.rdC_dT, Vz.Q.rdC_dK, Vz.Q.rd2_, Vz.Q.rds_nil, Vz.Q.rds_cons, Vz.Q.dats_nil, Vz.Q.dats_cons, Vz.Q.small_1, Vz.Q.small_2, Vz.Q.small_3, Vz.Q.small_0, Vz.Q.small_, Vz.Q.one_, Vz.Q.two_, Vz.Q.frd_dat, Vz.Q.frd_loc, Vz.Q.frdC_frz, Vz.Q.frds_nil, Vz.Q.frds_cons, Vz.Q.LstW_, Vz.Q.lstB_, Vz.Q.lstC_, Vz.Q.lstO_, Vz.Q.v_append, Vz.Q.v_insert, Vz.Q.v_extend, Vz.Q.v_popAt, Vz.Q.asInt_, Vz.Q.asLs_, Vz.Q.v_stB, Vz.Q.lim_app, Vz.Q.lim_le, Vz.Q.lim_lt, Vz.Q.addL_, Vz.Q.addD_ll, Vz.Q.addD_tt, Option.bind_some, Option.map_some, addD_ii, subI_ii, ltI_ii, leI_ii, gtI_ii, geI_ii, eqD_ii, isN_non, isN_int, isN_str, List.getElem?_cons_zero, List.getElem?_cons_succ, List.set_cons_zero, List.set_cons_succ, List.length_cons, List.length_nil, List.length_append, Nat.zero_add, Nat.add_zero, Nat.reduceAdd, Nat.reduceSub, Nat.reduceEqDiff, at_app0, at_appk, set_app0, set_appk, List.append_assoc, List.cons_append, List.nil_append, List.append_nil, List.map_cons, List.map_nil, List.replicate, Vz.Q.fn_dat, Vz.Q.fn_nx, Vz.Q.fn_exc, Vz.Q.fn_exn, Vz.Q.fn_loc, Vz.Q.retC_lst, Vz.Q.retC_frz, Vz.Q.retC_dT, Vz.Q.retC_dK, Vz.Q.bodyF_, Vz.Q.bodyO_, Vz.Q.cutR_nil, Vz.Q.cutR_cons, Vz.Q.cutW_dat, Vz.Q.cutW_none, Vz.Q.cutW_exn, Vz.Q.cutW_loc, Vz.Q.cutW_locN, wipeR, List.take_succ_cons, List.take_length, List.take_left, take_appk, List.take_zero, List.take_nil, Vz.Q.v_yes, Vz.Q.v_lcB, Vz.Q.lcO_, Vz.Q.v_cname, Vz.Q.v_ctup, Vz.Q.v_cnnil, Vz.Q.v_cncons, Vz.Q.bb_tf, Vz.Q.bb_ft, Vz.Q.bb_tt, Vz.Q.bb_ff, Vz.Q.bn_tf, Vz.Q.bn_ft, Vz.Q.bn_tt, Vz.Q.bn_ff, eqD_bb, neD_bb, Bool.not_true, Bool.not_false, Bool.and_true, Bool.true_and, Bool.and_self, decide_true, decide_false, eq_self, v_izd, Vz.Q.par3O_, Vz.Q.v_par3, Vz.Q.v_try, Vz.Q.try_exc, Vz.Q.try_nx, Vz.Q.try_rt, Vz.Q.drop_nx, Vz.Q.drop_rt, Vz.Q.v_raise1, Vz.Q.r1O_, Vz.Q.v_raise0, Vz.Q.v_isNo, Vz.Q.v_isNoN, Vz.Q.isNo_non, Vz.Q.isNo_exn, Vz.Q.v_isX, Vz.Q.isXW_, Vz.Q.v_xf, Vz.Q.xfW_, Vz.Q.v_oseq_t, Vz.Q.v_oseq_l, Vz.Q.enumD_l, Vz.Q.enumD_t, Vz.Q.nums_map, Vz.Q.listD_l, Vz.Q.listD_t, Vz.Q.tupleD_l, Vz.Q.tupleD_t, Vz.Q.lenD_l, Vz.Q.lenD_t, Vz.Q.cutD_l, Vz.Q.cutD_n, Vz.Q.revD_l, Vz.Q.fz_dat, Vz.Q.fz_loc, Vz.Q.fzC_lst, Vz.Q.fzC_frz, Vz.Q.isNN_non, Vz.Q.isNN_int, Vz.Q.isNN_str, Vz.Q.inD_l, Vz.Q.inD_t, Vz.Q.sqB_l, Vz.Q.sqB_t, Bool.false_xor, Bool.true_xor, asI, Vz.Q.walk_dl, Vz.Q.walk_dt, List.length_map, List.map_append, $hs,*])
theorem v_izd {f : FA} {ρ : Rho} {S : Sto} : iZd f ρ S = bindT (f ρ S) (fun ws S1 => R.lift (izW S1 ws) S1) .mk := rfl
end Vz.Q
namespace Vz
open PySem PySem.Spec PyProof.Rows L2
def B__law_strand (c__law_draw : List W → Sto → R W) : FS := (sSeq (sSet 2 (fApp 2 c__law_draw (aCons (fVar 0) (aCons (fBin addD (fVar 1) (fC (.int 1))) aNil)))) (sSeq (sSet 3 (fIf (fB (fBin gtI (fApp 2 c__law_draw (aCons (fVar 0) (aCons (fC (.int 4)) aNil))) (fC (.int 0)))) (fBin addD (fVar 2) (fApp 2 c__law_draw (aCons (fVar 0) (aCons (fC (.int 4)) aNil)))) (fBin powI (fC (.int 10)) (fC (.int 9))))) (sSeq (sSet 4 (fCell (lDisp aNil))) (sSeq (sFor (iArgs rng1 (aCons (fVar 2) aNil)) (oName 5) (sSeq (sSet 6 (fApp 2 c__law_draw (aCons (fVar 0) (aCons (fVar 3) aNil)))) (sSeq (sWhile 100 (fB (fBin (inD false) (fVar 6) (fVar 4))) (sSet 6 (fBin modI (fBin addD (fVar 6) (fC (.int 1))) (fVar 3)))) (sExpr (fMeth mAppend (fVar 4) (aCons (fVar 6) aNil)))))) (sRet (fCall tupleD (aCons (fVar 4) aNil)))))))
def b__law_strand : FS := B__law_strand (F__law_draw 3)
def F__law_strand : List W → Sto → R W := runF 7 false b__law_strand
def B__law_choice (c__law_draw : List W → Sto → R W) : FS := (sRet (fBin ixD (fVar 1) (fApp 2 c__law_draw (aCons (fVar 0) (aCons (fCall lenD (aCons (fVar 1) aNil)) aNil)))))
def b__law_choice : FS := B__law_choice (F__law_draw 3)
def F__law_choice : List W → Sto → R W := runF 2 false b__law_choice
def B__law_veiled (c__law_choice c__law_draw : List W → Sto → R W) : FS := (sSeq (sSet 2 (fApp 2 c__law_choice (aCons (fVar 0) (aCons (fFrz (lDisp (aCons (fC (.int 0)) (aCons (fC (.int 2)) (aCons (fC (.int 5)) (aCons (fC (.int 8)) aNil)))))) aNil)))) (sRet (fCall tupleD (aCons (fFrz (lComp (iSeq (fVar 1)) [3] (cName 3) fYes (fIf (fB (fBin ltI (fApp 2 c__law_draw (aCons (fVar 0) (aCons (fC (.int 9)) aNil))) (fVar 2))) (fC (.str "?")) (fVar 3)))) aNil))))
def b__law_veiled : FS := B__law_veiled F__law_choice (F__law_draw 3)
def F__law_veiled : List W → Sto → R W := runF 4 false b__law_veiled
def b__law_ties : FS := (sSeq (sPar 2 3 (aCons (fCall dictPD (aCons (fFrz (lComp (iFr (one enumD) (aCons (fVar 1) aNil)) [8, 5] (cTup 2 (cnCons 8 (cnCons 5 cnNil))) fYes (fTup (aCons (fVar 5) (aCons (fVar 8) aNil))))) aNil)) (aCons (fCell (lDisp aNil)) aNil))) (sSeq (sFor (iFr (one enumD) (aCons (fVar 0) aNil)) (oTup 2 (onCons (oName 4) (onCons (oName 5) onNil))) (sSeq (sSet 6 (fC .none)) (sSeq (sFor (iSeq (fSl (fVar 0) fNo (fYesI (fVar 4)))) (oName 7) (sSet 6 (fIf (fB (fBin ltI (fBin dgetD (fVar 2) (fVar 7)) (fBin dgetD (fVar 2) (fVar 5)))) (fVar 7) (fVar 6)))) (sExpr (fMeth mAppend (fVar 3) (aCons (fVar 6) aNil)))))) (sRet (fCall tupleD (aCons (fVar 3) aNil)))))
def F__law_ties : List W → Sto → R W := runF 9 false b__law_ties
def B__law_case (c__law_strand c__law_shuffled c__law_veiled c__law_ties : List W → Sto → R W) : FS := (sSeq (sSet 2 (fApp 2 c__law_strand (aCons (fVar 0) (aCons (fVar 1) aNil)))) (sSeq (sSet 3 (fCall tupleD (aCons (fApp 2 c__law_shuffled (aCons (fVar 0) (aCons (fVar 2) aNil))) aNil))) (sRet (fTup (aCons (fVar 2) (aCons (fApp 2 c__law_veiled (aCons (fVar 0) (aCons (fApp 2 c__law_ties (aCons (fVar 2) (aCons (fVar 3) aNil))) aNil))) (aCons (fVar 3) aNil)))))))
def b__law_case : FS := B__law_case F__law_strand F__law_shuffled F__law_veiled F__law_ties
def F__law_case : List W → Sto → R W := runF 4 false b__law_case
def B__law_spoiled (c__law_draw c__law_choice : List W → Sto → R W) : FS := (sSeq (sSet 3 (fCell (lCall listD (aCons (fVar 2) aNil)))) (sSeq (sFor (iArgs rng1 (aCons (fBin mulD (fBin addD (fC (.int 1)) (fApp 2 c__law_draw (aCons (fVar 0) (aCons (fC (.int 3)) aNil)))) (fCall intD (aCons (fBin gtI (fCall lenD (aCons (fVar 1) aNil)) (fC (.int 0))) aNil))) aNil)) (oName 4) (sSeq (sSet 5 (fApp 2 c__law_draw (aCons (fVar 0) (aCons (fCall lenD (aCons (fVar 1) aNil)) aNil)))) (sAsg (fApp 2 c__law_choice (aCons (fVar 0) (aCons (fFrz (lComp (iSeq (fBin addD (fVar 1) (fTup (aCons (fC .none) (aCons (fC (.str "?")) aNil))))) [6] (cName 6) (fB (fBin neD (fVar 6) (fBin ixD (fVar 1) (fVar 5)))) (fVar 6))) aNil))) (oSub (fVar 3) (fVar 5))))) (sRet (fCall tupleD (aCons (fVar 3) aNil)))))
def b__law_spoiled : FS := B__law_spoiled (F__law_draw 3) F__law_choice
def F__law_spoiled : List W → Sto → R W := runF 7 false b__law_spoiled
def B__law_any (c__law_case c__law_spoiled c__law_draw : List W → Sto → R W) : FS := (sSeq (sAsg (fApp 2 c__law_case (aCons (fVar 0) (aCons (fVar 1) aNil))) (oTup 3 (onCons (oName 2) (onCons (oName 3) (onCons (oName 4) onNil))))) (sRet (fTup (aCons (fVar 2) (aCons (fIf (fB (fBin eqD (fApp 2 c__law_draw (aCons (fVar 0) (aCons (fC (.int 2)) aNil))) (fC (.int 0)))) (fApp 3 c__law_spoiled (aCons (fVar 0) (aCons (fVar 2) (aCons (fVar 3) aNil)))) (fVar 3)) aNil)))))
def b__law_any : FS := B__law_any F__law_case F__law_spoiled (F__law_draw 3)
def F__law_any : List W → Sto → R W := runF 5 false b__law_any
def b__law_spots : FS := (sRet (fFrz (lComp (iSeq (fVar 1)) [2] (cName 2) fYes (fIf (fB (fBin eqD (fVar 2) (fC (.str "?")))) (fC .none) (fIf (fB (fBin isN (fVar 2) (fC .none))) (fNeg (fC (.int 1))) (fIndex (fFrz (lCall listD (aCons (fVar 0) aNil))) (aCons (fVar 2) aNil)))))))
def F__law_spots : List W → Sto → R W := runF 3 false b__law_spots
def b_is_wrong : FS := (sRet (fAndV (fBin isNN (fBin ixD (fVar 0) (fVar 1)) (fC .none)) (fBin geI (fBin ixD (fVar 0) (fVar 1)) (fVar 1))))
def F_is_wrong : List W → Sto → R W := runF 2 false b_is_wrong
def B_do_cross (c_is_wrong : List W → Sto → R W) : FS := (sSeq (sIf (fOr (fB (fBin isN (fBin ixD (fVar 0) (fVar 1)) (fC .none))) (fOr (fB (fBin isN (fBin ixD (fVar 0) (fVar 2)) (fC .none))) (fOr (fB (fApp 2 c_is_wrong (aCons (fVar 0) (aCons (fVar 1) aNil)))) (fB (fApp 2 c_is_wrong (aCons (fVar 0) (aCons (fVar 2) aNil))))))) (sRet (fC (.bool false))) sNil) (sRet (fAndV (fChain ltI ltI (fBin ixD (fVar 0) (fVar 1)) (fVar 2) (fVar 1)) (fBin ltI (fBin ixD (fVar 0) (fVar 2)) (fBin ixD (fVar 0) (fVar 1))))))
def b_do_cross : FS := B_do_cross F_is_wrong
def F_do_cross : List W → Sto → R W := runF 3 false b_do_cross
def b_is_integer : FS := (sRet (fAndV (fIsi gInt (fVar 0)) (fNotV (fIsi gBool (fVar 0)))))
def F_is_integer : List W → Sto → R W := runF 1 false b_is_integer
def B_shows_wrong (c_is_integer c_is_wrong c_marks_of : List W → Sto → R W) : FS := (sRet (fAndV (fApp 1 c_is_integer (aCons (fVar 2) aNil)) (fAndV (fBin (inD false) (fVar 2) (fVar 0)) (fApp 2 c_is_wrong (aCons (fApp 2 c_marks_of (aCons (fVar 0) (aCons (fVar 1) aNil))) (aCons (fIndex (fVar 0) (aCons (fVar 2) aNil)) aNil))))))
def b_shows_wrong : FS := B_shows_wrong F_is_integer F_is_wrong F_marks_of
def F_shows_wrong : List W → Sto → R W := runF 3 false b_shows_wrong
def B_shows_crossing (c_do_cross c_marks_of c_is_integer : List W → Sto → R W) : FS := (sSeq (sIf (fOr (fNot (fB (fIsi gTup (fVar 2)))) (fOr (fB (fBin neD (fCall lenD (aCons (fVar 2) aNil)) (fC (.int 2)))) (fNot (fB (fCall allD (aCons (fFrz (lComp (iSeq (fVar 2)) [3] (cName 3) fYes (fApp 1 c_is_integer (aCons (fVar 3) aNil)))) aNil)))))) (sRet (fC (.bool false))) sNil) (sSeq (sIf (fNot (fB (fCall allD (aCons (fFrz (lComp (iSeq (fVar 2)) [3] (cName 3) fYes (fBin (inD false) (fVar 3) (fVar 0)))) aNil)))) (sRet (fC (.bool false))) sNil) (sRet (fApp 3 c_do_cross (aCons (fApp 2 c_marks_of (aCons (fVar 0) (aCons (fVar 1) aNil))) (aCons (fIndex (fVar 0) (aCons (fBin ixD (fVar 2) (fC (.int 0))) aNil)) (aCons (fIndex (fVar 0) (aCons (fBin ixD (fVar 2) (fC (.int 1))) aNil)) aNil)))))))
def b_shows_crossing : FS := B_shows_crossing F_do_cross F_marks_of F_is_integer
def F_shows_crossing : List W → Sto → R W := runF 4 false b_shows_crossing
end Vz
namespace Vz
open PySem PySem.Spec PyProof.Rows L2
end Vz
namespace Vz
open PySem PySem.Spec PyProof.Rows L2
end Vz
namespace Vz
open PySem PySem.Spec PyProof.Rows L2
end Vz
namespace Vz
open PySem PySem.Spec PyProof.Rows L2
end Vz
namespace Vz
open PySem PySem.Spec PyProof.Rows L2
end Vz
namespace Vz
open PySem PySem.Spec PyProof.Rows L2
def strD : List D → Option D
  | [.int i] => ifO (decide (i.natAbs.log2 < 1920)) (some (.str (toString i)))
  | [.bool b] => some (.str (if b then "True" else "False"))
  | _ => none
section
variable {T : Tb} {X : Cx} {Wx : WX} {a b e : Expr} {fa fb : FE} {ga : FA} {pos p : Pos}
def rStrY : List V → Hp → VK → Prop := fun xs H Q => (∃ i, xs = [.int i] ∧ i.natAbs.log2 < 1920 ∧ Q (.str (toString i)) H) ∨ ∃ k, xs = [.bl k] ∧ Q (.str (if k then "True" else "False")) H
theorem call_strY : CallR X (.type "str") rStrY := by
  intro pins s σ H xs us Q I r h
  rcases h with h | ⟨k, rfl, q⟩
  · exact call_str_int pins s σ H xs us Q I r h
  · obtain ⟨u, rfl, r1⟩ := vals1 r
    cases r1
    exact PySem.P.str_of_bool ⟨.str _, H, I.tok _, ⟨_, rfl⟩, q⟩
theorem l_strY {K : PySem.W.Frag} : CallL T K rStrY strD := by
  intro G F A S H vs ds z Q hw rs h q
  unfold strD at h
  split at h
  · obtain ⟨c, h⟩ := ifO_some h
    cases h
    exact .inl ⟨_, RepUs.one rs rfl, of_decide_eq_true c, q F H _ (Evl.Ex.refl _) hw (.str _)⟩
  · cases h
    exact .inr ⟨_, RepUs.one rs rfl, q F H _ (Evl.Ex.refl _) hw (.str _)⟩
  · cases h
theorem je_strC (hm : X.mg "str" = none) (ha : JA T X Wx [e] ga) (hg : Gl X "str" := by rfl) (he : starEach [e] X.env = (false, eval e X.env) :: starEach [] X.env := by rfl) : JE T X Wx (.Call (.Name "str" p) [e] [] pos) (fCall strD ga) :=
  je_callTy call_strY l_strY hg hm boot_str ha (by decide) (by decide) he rfl
theorem op_add_bi : OpR X (binaryOp .Add) (fun x y H Q => ∃ k i, x = .bl k ∧ y = .int i ∧ Q (.int ((if k = true then (1 : Int) else 0) + i)) H) := by
  intro pins s σ H x y v u Q I rx ry h
  obtain ⟨k, i, rfl, rfl, q⟩ := h
  cases rx
  obtain ⟨t, rfl⟩ := ry
  exact IntBool.add_bool_int ⟨.int _, H, I.tok _, ⟨_, rfl⟩, q⟩
theorem op_sub_bi : OpR X (binaryOp .Sub) (fun x y H Q => ∃ k i, x = .bl k ∧ y = .int i ∧ Q (.int ((if k = true then (1 : Int) else 0) - i)) H) := by
  intro pins s σ H x y v u Q I rx ry h
  obtain ⟨k, i, rfl, rfl, q⟩ := h
  cases rx
  obtain ⟨t, rfl⟩ := ry
  exact IntBool.sub_bool_int ⟨.int _, H, I.tok _, ⟨_, rfl⟩, q⟩
theorem op_sub_ib : OpR X (binaryOp .Sub) (fun x y H Q => ∃ i k, x = .int i ∧ y = .bl k ∧ Q (.int (i - if k = true then (1 : Int) else 0)) H) := by
  intro pins s σ H x y v u Q I rx ry h
  obtain ⟨i, k, rfl, rfl, q⟩ := h
  obtain ⟨t, rfl⟩ := rx
  cases ry
  exact IntBool.sub_int_bool ⟨.int _, H, I.tok _, ⟨_, rfl⟩, q⟩
def addB : D → D → Option D
  | .bool k, .int i => some (.int ((if k = true then (1 : Int) else 0) + i))
  | _, _ => none
def subB : D → D → Option D
  | .bool k, .int i => some (.int ((if k = true then (1 : Int) else 0) - i))
  | _, _ => none
def subC : D → D → Option D
  | .int i, .bool k => some (.int (i - if k = true then (1 : Int) else 0))
  | _, _ => none
theorem l_addB {K : PySem.W.Frag} : OpL T K (fun x y H Q => ∃ k i, x = .bl k ∧ y = .int i ∧ Q (.int ((if k = true then (1 : Int) else 0) + i)) H) addB := by
  intro G F A S H x y dx dy z Q hw rx ry e q
  unfold addB at e
  split at e
  · cases e
    have e1 := rx.flat_of rfl
    have e2 := ry.flat_of rfl
    exact ⟨_, _, e1, e2, q F H _ (Evl.Ex.refl F) hw (.int _)⟩
  · cases e
theorem l_subB {K : PySem.W.Frag} : OpL T K (fun x y H Q => ∃ k i, x = .bl k ∧ y = .int i ∧ Q (.int ((if k = true then (1 : Int) else 0) - i)) H) subB := by
  intro G F A S H x y dx dy z Q hw rx ry e q
  unfold subB at e
  split at e
  · cases e
    have e1 := rx.flat_of rfl
    have e2 := ry.flat_of rfl
    exact ⟨_, _, e1, e2, q F H _ (Evl.Ex.refl F) hw (.int _)⟩
  · cases e
theorem l_subC {K : PySem.W.Frag} : OpL T K (fun x y H Q => ∃ i k, x = .int i ∧ y = .bl k ∧ Q (.int (i - if k = true then (1 : Int) else 0)) H) subC := by
  intro G F A S H x y dx dy z Q hw rx ry e q
  unfold subC at e
  split at e
  · cases e
    have e1 := rx.flat_of rfl
    have e2 := ry.flat_of rfl
    exact ⟨_, _, e1, e2, q F H _ (Evl.Ex.refl F) hw (.int _)⟩
  · cases e
def addX : D → D → Option D := orD addD addB
def subX : D → D → Option D := orD subI (orD subB subC)
theorem je_addX (ha : JE T X Wx a fa) (hb : JE T X Wx b fb) : JE T X Wx (.BinOp a .Add b pos) (fBin addX fa fb) :=
  je_op (OpR.or (OpR.or op_add (OpR.or op_cat (OpR.or op_catF op_add_str))) op_add_bi) ((l_addI.or (l_addL.or (l_addT.or l_addS))).or l_addB) ha hb
theorem je_subX (ha : JE T X Wx a fa) (hb : JE T X Wx b fb) : JE T X Wx (.BinOp a .Sub b pos) (fBin subX fa fb) := je_op (OpR.or op_sub (OpR.or op_sub_bi op_sub_ib)) (l_subI.or (l_subB.or l_subC)) ha hb
end
end Vz
namespace Vz
open PySem PySem.Spec PyProof.Rows L2
section
variable {prog : Program} {w : World} {A : Around} {E : Value → Shared → Prop} {s : Shared}
theorem cl_bounds {a c n : Nat} (h1 : a ≤ n) (h2 : a ≤ c) : sliceBounds (some (a : Int)) (some (c : Int)) none n = ((a : Int), ((min c n : Nat) : Int), 1) := by
  have e1 : ¬ ((a : Int) < 0) := by omega
  have e2 : ¬ ((c : Int) < 0) := by omega
  unfold sliceBounds
  simp only [Option.getD_none, e1, e2, if_false, show (1 : Int) > 0 by decide, if_true]
  refine Prod.ext (by show max 0 (min (a : Int) n) = a; omega) (Prod.ext (by show max 0 (min (c : Int) n) = ((min c n : Nat) : Int); omega) rfl)
theorem ex_min {α : Type} (xs : Array α) (c : Nat) : xs.extract (min c xs.size) xs.size = xs.extract c xs.size := by
  by_cases h : c ≤ xs.size
  · rw [Nat.min_eq_left h]
  · rw [Nat.min_eq_right (by omega)]
    apply Array.ext
    · simp; omega
    · intro i h1 h2
      simp at h1
theorem set_cl {l b sl : Addr} {items new : Array Value} {n n2 : Nat} {vl vu : Value} {a c : Nat} {Q : Unit → Shared → Prop} (e : s.heap.get? l = some { cls := .type "list", data := .seq items n }) (e2 : s.heap.get? b = some { cls := .type "list", data := .seq new n2 }) (hne : l ≠ b) (hs : s.heap.IsSliceOf sl vl vu .none) (pl : IsPart vl (some (a : Int))) (pu : IsPart vu (some (c : Int))) (ha : a ≤ items.size) (hac : a ≤ c) (hsz : items.size + new.size ≤ sizeLine)
    (h : Q () { s with heap := s.heap.update l (Obj.mapSeq fun xs => xs.extract 0 a ++ new ++ xs.extract (min c items.size) xs.size) }) : wpAny (model prog w) A (setItem (.ref l) (.ref sl) (.ref b)) Q E s := by
  have hl : s.heap.IsList l items := PySem.IsL.isList e; have hb : s.heap.IsList b new := PySem.IsL.isList e2
  obtain ⟨os, hos, hcs, hds⟩ := id hs; have hTs : s.TypeIs (.ref sl) "slice" := ⟨os, hos, hcs⟩
  have hstep : ¬ ((rawPart none == rawInt 0) = true) := fun z => Bool.false_ne_true z
  have hsame : Builtin.List.listSameRef (.ref l) (.ref b) = false := by unfold Builtin.List.listSameRef; exact beq_eq_false_iff_ne.mpr hne
  have hmx : (max (a : Int) ((min c items.size : Nat) : Int)).toNat = min c items.size := by omega
  have hz2 : ((fun xs : Array Value => xs.extract 0 a ++ new ++ xs.extract (min c items.size) xs.size) items).size ≤ sizeLine + 1 := by simp only [Array.size_append, Array.size_extract]; omega
  unfold setItem; (try with_reducible refine wpAny_holding ?_); first | refine wpAny_bind (wpAny_pure ?_) | skip
  refine wpAny_bind (wpAny_sequenceKey hl.typeIs (by decide) ?_); refine wpAny_bind (wpAny_callSpecial?_slot (name := Str.ofString "__setitem__") hl.typeIs slot_list_setitem (wpAny_call_entry slot_list_setitem hl.typeIs entry_list_setitem ?_ (args_list_setitem _ _ _)))
  show wpAny _ _ (Builtin.List.listSubscript? (.ref sl) >>= _) _ _ s; refine wpAny_bind ?_; unfold Builtin.List.listSubscript?
  refine wpAny_bind (wpAny_specialOf hTs slice_no_index ?_); simp only [Option.isNone_none, if_true]; refine wpAny_pure ?_
  show wpAny _ _ (typeOf (.ref sl) >>= _) _ _ s; refine wpAny_bind (wpAny_typeOf hTs ?_); first | rw [if_neg (by decide)] | refine PySem.W.KFB.if_not (by decide) ?_
  rw [listSliceParts_eq]; refine wpAny_bind (wpAny_bind (wpAny_field hos hds (x := .none) rfl (wpAny_bind (wpAny_listPart .none ?_)))); rw [if_neg hstep]
  refine wpAny_bind (wpAny_field hos hds (x := vl) rfl (wpAny_bind (wpAny_listPart pl ?_))); refine wpAny_bind (wpAny_field hos hds (x := vu) rfl (wpAny_bind (wpAny_listPart pu (wpAny_pure ?_))))
  (first | simp only [hsame, Bool.false_eq_true, if_false] | refine PySem.W.KFB.if_not hsame ?_ | (dsimp only; rw [if_neg (by rw [hsame]; exact Bool.false_ne_true)]))
  refine wpAny_bind (m := Builtin.List.listAllItems (.ref b) "must assign iterable to extended slice") ?_; unfold Builtin.List.listAllItems; refine wpAny_bind (wpAny_typeOf hb.typeIs ?_)
  (first | refine PySem.W.KFB.if_so (by decide) ?_ | rw [if_pos (by decide)] | simp only [beq_self_eq_true, Bool.true_or, if_true]); unfold Builtin.List.listItems
  refine wpAny_bind (wpAny_seqItems e2 rfl (wpAny_pure ?_)); refine wpAny_bind (wpAny_bind (wpAny_seqItems e rfl (wpAny_pure ?_)))
  refine wpAny_bind (wpAny_of_eq ((sliceIndices_raw (some (a : Int)) (some (c : Int)) none items.size (by simp)).trans (congrArg (pure : Int × Int × Int → Sem (Int × Int × Int)) (cl_bounds ha hac))) ?_)
  show wpAny _ _ (if ((1 : Int) == 1) = true then _ else _) _ _ s; rw [if_pos (by decide)]; refine wpAny_bind (wpAny_rule ?_)
  (first | simp only [notLongL hsz, Bool.false_eq_true, if_false] | refine PySem.W.KFB.if_not (notLongL hsz) ?_); (first | refine wpAny_bind (wpAny_pure ?_) | skip)
  show wpAny _ _ (updateSeq l (fun xs => xs.extract 0 ((a : Int)).toNat ++ new ++ xs.extract (max (a : Int) ((min c items.size : Nat) : Int)).toNat xs.size) >>= _) _ _ s
  rw [hmx, Int.toNat_natCast]; refine wpAny_bind (wpAny_updateSeq (hz := Nat.le_trans (Nat.le_add_right _ _) hsz) (_hz' := hz2) e rfl ?_); refine wpAny_bind (wpAny_letGo ?_)
  first | exact wpAny_bind (wpAny_pure (wpAny_pure ⟨.none, rfl, wpAny_pure h⟩)) | exact wpAny_pure ⟨.none, rfl, wpAny_pure h⟩
end
section
variable {X : Cx} {T : Tb}
theorem set_clV {pins : List (Addr × Obj)} {s : Shared} {σ : L2.St} {H : Hp} {l b sl : Addr} {xs ys : List V} {a c : Nat} {vl vu : Value} {Q : Unit → Shared → Prop} (I : Inv X pins σ H s) (hH : H l = some (.lst xs)) (hB : H b = some (.lst ys)) (hne : l ≠ b) (hs : s.heap.IsSliceOf sl vl vu .none) (pl : IsPart vl (some (a : Int))) (pu : IsPart vu (some (c : Int))) (ha : a ≤ xs.length) (hac : a ≤ c)
    (hz : xs.length + ys.length ≤ sizeLine) (h : ∀ s', Inv X pins σ (upd H l (.lst (xs.take a ++ ys ++ xs.drop c))) s' → Q () s') : wpAny (model X.prog X.w) X.A (setItem (.ref l) (.ref sl) (.ref b)) Q X.xe s := by
  obtain ⟨z, its, n, r, hl, e⟩ := I.lstM hH
  obtain ⟨z2, its2, n2, r2, hl2, e2⟩ := I.lstM hB
  have l1 := r.length
  have l2 := r2.length
  refine set_cl (a := a) (c := c) e e2 hne hs pl pu (by rw [List.size_toArray]; omega) hac (by rw [List.size_toArray, List.size_toArray]; omega) (h _ ?_)
  refine I.lset (its' := its.take a ++ its2 ++ its.drop c) (t' := s.toks) hH e ?_ (Vals.append (Vals.append (r.take _) r2) (r.drop _)) ?_
  · rw [ex_min]
    exact splice_eq its its2 a c
  · rw [List.length_append, List.length_append, List.length_take, List.length_drop]
    omega
/-- x[i:j] = .. -/
def gSetSl (to : TE) (tl th : TO) : TG := fun v σ H Q => to σ H fun o H1 => tl σ H1 fun i H2 => th σ H2 fun j H3 => ∃ (l b : Addr) (xs ys : List V) (a c : Nat), o = .ref l ∧ v = .ref b ∧ H3 l = some (.lst xs) ∧ H3 b = some (.lst ys) ∧ l ≠ b ∧ i = some (a : Int) ∧ j = some (c : Int) ∧ a ≤ xs.length ∧ a ≤ c ∧ xs.length + ys.length ≤ sizeLine ∧ Q σ (upd H3 l (.lst (xs.take a ++ ys ++ xs.drop c)))
theorem pg_setSl {o : Expr} {lo hi : Option Expr} {p2 pos : Pos} {to : TE} {tl th : TO} (ho : PE X o to) (hl : PO X lo tl) (hu : PO X hi th)
    (ha : ∀ v, assign (.Subscript o (.Slice lo hi none p2) pos) X.env v = (do
      let ov ← holding [v] (eval o X.env)
      let iv ← holding [v, ov] (eval (.Slice lo hi none p2) X.env)
      standAt pos
      holding [v, ov, iv] (setItem ov iv v)
      release [iv, v, ov] []) := by intro _; rfl) : PG X (.Subscript o (.Slice lo hi none p2) pos) (gSetSl to tl th) := by
  refine ⟨fun pins s σ H v u Q I r h => ?_⟩
  rw [ha]
  refine wpAny_bind (wpAny_holding (thn (ho.run pins s σ H _ I h) fun ov s1 ⟨x, H1, I1, r1, q1⟩ => ?_))
  refine wpAny_bind (wpAny_holding (wpAny_Slice (thn (hl.run pins s1 σ H1 _ I1 q1) fun vl s2 ⟨l, H2, I2, pl, q2⟩ => thn (hu.run pins s2 σ H2 _ I2 q2) fun vu s3 ⟨u', H3, I3, pu, q3⟩ => ?_)))
  rw [evalPart_none]
  refine wpAny_pure ?_
  obtain ⟨la, b, xs, ys, a, c, rfl, rfl, hH, hB, hne, rfl, rfl, h1, h2, h3, q⟩ := q3
  have I4 : Inv X pins σ H3 { s3 with heap := s3.heap.push { cls := .type "slice", data := .fields #[vl, vu, .none] } } := I3.kept (t' := s3.toks) fun b ob q => Heap.get?_push_of_some _ q
  cases r1
  cases r
  refine wpAny_bind (wpAny_standAt (wpAny_bind (wpAny_holding (set_clV I4 hH hB hne (Heap.IsSliceOf.new ..) pl pu h1 h2 h3 fun s' I5 => ?_))))
  exact wpAny_release ⟨σ, _, I5, q⟩
def putSl (c : C) (i j : Option Int) (d : D) : Option C := match c, i, j, d with
  | .lst xs, some (.ofNat a), some (.ofNat b), .list ys => ifO ((decide (a ≤ xs.length) && decide (a ≤ b)) && decide (xs.length + ys.length ≤ lim)) (some (.lst (xs.take a ++ ys ++ xs.drop b)))
  | _, _, _, _ => none
def stSl (o : W) (i j : Option Int) (w : W) (S : Sto) : Option Sto := match o with
  | .loc k 0 => (S[k]?).bind fun c => (frd S w).bind fun d => (putSl c i j d).map fun c' => S.set k c'
  | _ => none
def oSl (fo : FE) (f g : Rho → Sto → R (Option Int)) : FG := fun w ρ S => (fo ρ S).get.bind fun p => (f ρ p.2).get.bind fun q => (g ρ q.2).get.bind fun r => (stSl p.1 q.1 r.1 w r.2).map fun S' => (ρ, S')
theorem jg_sl {o : Expr} {lo hi : Option Expr} {p2 pos : Pos} {fo : FE} {f g : Rho → Sto → R (Option Int)} (ho : JE T X noW o fo) (hl : JO T X noW lo f) (hu : JO T X noW hi g)
    (ha : ∀ v, assign (.Subscript o (.Slice lo hi none p2) pos) X.env v = (do
      let ov ← holding [v] (eval o X.env)
      let iv ← holding [v, ov] (eval (.Slice lo hi none p2) X.env)
      standAt pos
      holding [v, ov, iv] (setItem ov iv v)
      release [iv, v, ov] []) := by intro _; rfl) : JG T X (.Subscript o (.Slice lo hi none p2) pos) (oSl fo f g) := by
  obtain ⟨ta, h1, s1⟩ := ho
  obtain ⟨⟨tb, h2, s2⟩⟩ := hl
  obtain ⟨⟨tc, h3, s3⟩⟩ := hu
  refine ⟨_, pg_setSl h1 h2 h3 ha, fun G F A S H σ ρ w v Q hw hs r ⟨ρ', S', h4, q⟩ => ?_⟩
  obtain ⟨p1, g1, h4⟩ := ob h4
  obtain ⟨p2, g2, h4⟩ := ob h4
  obtain ⟨p3, g3, h4⟩ := ob h4
  obtain ⟨S3, g4, e3⟩ := om h4
  cases e3
  have g1 := get_ok g1
  have g2 := get_ok g2
  have g3 := get_ok g3
  refine s1 G F A S H σ ρ _ hw hs ?_
  rw [g1]
  intro F1 A1 H1 o e1 p1' w1 r1
  refine s2 G F1 A1 p1.2 H1 σ ρ _ w1 (hs.mono e1 p1') ?_
  rw [g2]
  intro F2 A2 H2 i e2 p2' w2 r2
  refine s3 G F2 A2 p2.2 H2 σ ρ _ w2 ((hs.mono e1 p1').mono e2 p2') ?_
  rw [g3]
  intro F3 A3 H3 j e4 p4' w3 r3
  have r2 : p2.1 = i := r2
  have r3 : p3.1 = j := r3
  subst r2 r3
  have ro := (r1.mono e2 p2').mono e4 p4'
  have rv := ((r.mono e1 p1').mono e2 p2').mono e4 p4'
  have hsl := ((hs.mono e1 p1').mono e2 p2').mono e4 p4'
  clear r1 g1 h4
  generalize p1.1 = ow at g4 ro
  unfold stSl at g4
  split at g4
  · rename_i k
    obtain ⟨c, h5, g4⟩ := ob g4
    obtain ⟨d, h6, g4⟩ := ob g4
    obtain ⟨c', h7, rfl⟩ := om g4
    obtain ⟨as, p, z1, z2, rfl⟩ := ro
    have ck := w3.ok k as c z1 h5
    have rd' := frd_rep w3 rv h6
    unfold putSl at h7
    split at h7
    · rename_i a b ys q1 q2 q0
      obtain ⟨cc, h7⟩ := ifO_some h7
      cases h7
      obtain ⟨c1, c2⟩ := Bool.and_eq_true_iff.mp cc
      obtain ⟨c3, c4⟩ := Bool.and_eq_true_iff.mp c1
      have c2 := of_decide_eq_true c2
      have c3 := of_decide_eq_true c3
      have c4 := of_decide_eq_true c4
      obtain ⟨p', vs, rfl, d1, d2, d3⟩ := ck
      cases Option.some.inj z2
      cases rd' with
      | lst f1 f2 =>
        rename_i b' us
        have hb := w3.sub _ _ f1
        refine ⟨p, b', vs, us, a, b, rfl, rfl, d2, hb, fun z => ?_, q1, q2, by rw [← d3.length]; exact c3, c4, ?_, ?_⟩
        · subst z
          rw [d1] at f1
          cases f1
        · rw [← d3.length, ← f2.length]
          exact lim_le c2
        · exact q F3 A3 σ _ ((e1.trans e2).trans e4) ((p1'.trans p2').trans p4') (w3.write z1 (by simp) d1 ⟨p, _, rfl, d1, upd_same, (d3.take a |>.append f2).append (d3.drop b)⟩ d2) hsl
    · cases h7
  · cases g4
end
end Vz
namespace Vz
open PySem PySem.Spec PyProof.Rows L2
def rReprA (K : PySem.W.Frag) : List V → Hp → VK → Prop := fun xs H Q => rReprX K xs H Q ∨ (xs = [.non] ∧ Q (.str "None") H) ∨ (∃ k, xs = [.bl k] ∧ Q (.str (if k then "True" else "False")) H) ∨ ∃ x, xs = [.str x] ∧ (reprText x).length ≤ sizeLine ∧ Q (.str (reprText x)) H
def reprAD : List D → Option D := one fun d => match d with
  | .list xs => ifO (shp (.list xs) && ((D.list xs).py.showable && decide ((D.list xs).py.shown.length ≤ 16000000))) (some (.str (D.list xs).py.shown))
  | .tup f xs => ifO (shp (.tup f xs) && ((D.tup f xs).py.showable && decide ((D.tup f xs).py.shown.length ≤ 16000000))) (some (.str (D.tup f xs).py.shown))
  | .int i => ifO (decide (i.natAbs.log2 < 1920)) (some (.str (toString i)))
  | .none => some (.str "None")
  | .bool b => some (.str (if b then "True" else "False"))
  | .str x => ifO (decide ((reprText x).length ≤ lim)) (some (.str (reprText x)))
  | _ => none
theorem call_reprA {X : Cx} (hf : Free X.A) (hu : X.A.units + 66 < cLine) : CallR X (.builtin "repr") (rReprA X.K) := by
  intro pins s σ H xs us Q I r h
  rcases h with h | ⟨rfl, q⟩ | ⟨k, rfl, q⟩ | ⟨x, rfl, hz, q⟩
  · exact call_reprX hf hu pins s σ H xs us Q I r h
  · obtain ⟨u, rfl, r1⟩ := vals1 r
    cases r1
    exact PySem.P.repr_of_none ⟨.str _, H, I.tok _, ⟨_, rfl⟩, q⟩
  · obtain ⟨u, rfl, r1⟩ := vals1 r
    cases r1
    exact PySem.P.repr_of_bool ⟨.str _, H, I.tok _, ⟨_, rfl⟩, q⟩
  · obtain ⟨u, rfl, t, rfl⟩ := vals1 r
    exact PySem.P.repr_of_str ⟨.str _, H, I.tok _, ⟨_, rfl⟩, q⟩ hz
theorem size_16 {n : Nat} (h : n ≤ 16000000) : n ≤ sizeLine := by rw [sizeLine_eq]; omega
theorem l_reprA {T : Tb} {K : PySem.W.Frag} : CallL T K (rReprA K) reprAD := by
  intro G F A S H vs ds z Q hw rs h q
  obtain ⟨d, hd, h0⟩ := one_some h
  subst hd
  clear h
  cases d with
  | list xs =>
    cases rs with
    | cons r rr =>
    cases rr
    obtain ⟨c, e⟩ := ifO_some h0
    cases e
    obtain ⟨c1, c⟩ := Bool.and_eq_true_iff.mp c
    obtain ⟨c2, c3⟩ := Bool.and_eq_true_iff.mp c
    have dp := r.dp hw.sub (plain_shaped c1)
    cases r with
    | flat z => cases z
    | lst h1 r1 => exact .inl (.inl ⟨_, _, rfl, dp, c1, c2, size_16 (of_decide_eq_true c3), q F H _ (Evl.Ex.refl _) hw (.str _)⟩)
  | tup f xs =>
    cases rs with
    | cons r rr =>
    cases rr
    obtain ⟨c, e⟩ := ifO_some h0
    cases e
    obtain ⟨c1, c⟩ := Bool.and_eq_true_iff.mp c
    obtain ⟨c2, c3⟩ := Bool.and_eq_true_iff.mp c
    have dp := r.dp hw.sub (plain_shaped c1)
    cases r with
    | flat z => cases z
    | tup f1 h1 r1 => exact .inl (.inl ⟨_, _, rfl, dp, c1, c2, size_16 (of_decide_eq_true c3), q F H _ (Evl.Ex.refl _) hw (.str _)⟩)
  | int i =>
    obtain ⟨c, e⟩ := ifO_some h0
    cases e
    exact .inl (.inr ⟨i, RepUs.one rs rfl, of_decide_eq_true c, q F H _ (Evl.Ex.refl _) hw (.str _)⟩)
  | none =>
    cases h0
    exact .inr (.inl ⟨RepUs.one rs rfl, q F H _ (Evl.Ex.refl _) hw (.str _)⟩)
  | bool b =>
    cases h0
    exact .inr (.inr (.inl ⟨_, RepUs.one rs rfl, q F H _ (Evl.Ex.refl _) hw (.str _)⟩))
  | str x =>
    obtain ⟨c, e⟩ := ifO_some h0
    cases e
    exact .inr (.inr (.inr ⟨_, RepUs.one rs rfl, lim_le (of_decide_eq_true c), q F H _ (Evl.Ex.refl _) hw (.str _)⟩))
  | _ => cases h0
section
variable {T : Tb} {X : Cx} {Wx : WX} {k : Nat} {ga : FA} {e : Expr} {es : List Expr} {p pos : Pos}
theorem je_reprA (hf : Free X.A) (hr : Room k X.A) (hm : X.mg "repr" = none) (ha : JA T X Wx [e] ga) (hg : Gl X "repr" := by rfl) (he : starEach [e] X.env = (false, eval e X.env) :: starEach [] X.env := by rfl) : JE T X Wx (.Call (.Name "repr" p) [e] [] pos) (fCall reprAD ga) :=
  je_callB (call_reprA hf (by have := hr.un; omega)) l_reprA hg hm boot_repr ha (by decide) (by decide) he rfl
end
end Vz
namespace Vz
open PySem PySem.Spec PyProof.Rows L2
def B__law_odd (c__law_choice : List W → Sto → R W) : FS := (sSeq (sSet 2 (fFrz (lDisp (aCons (fC .none) (aCons (fC (.bool true)) (aCons (fC (.bool false)) (aCons (fC (.int 0)) (aCons (fC (.int 1)) (aCons (fNeg (fC (.int 1))) (aCons (fC (.str "")) (aCons (fC (.str "node")) (aCons (fTup aNil) (aCons (fFrz (lDisp aNil)) (aCons (fTup (aCons (fC (.int 0)) aNil)) (aCons (fFrz (lDisp (aCons (fC (.int 1)) aNil))) (aCons (fTup (aCons (fTup aNil) aNil)) (aCons (fTup (aCons (fTup aNil) (aCons (fTup aNil) aNil))) (aCons (fTup (aCons (fC (.int 0)) (aCons (fC (.int 1)) aNil))) aNil)))))))))))))))))) (sSeq (sSet 2 (fBin addD (fVar 2) (fFrz (lDisp (aCons (fTup (aCons (fC .none) (aCons (fC (.int 0)) aNil))) (aCons (fTup (aCons (fC .none) aNil)) (aCons (fFrz (lDisp (aCons (fC .none) (aCons (fC (.int 0)) aNil)))) aNil))))))) (sSeq (sIf (fB (fIsi gInt (fVar 1))) (sSet 2 (fBin addX (fVar 2) (fBin mulD (fFrz (lDisp (aCons (fBin addX (fVar 1) (fC (.int 1))) (aCons (fBin subX (fVar 1) (fC (.int 1))) (aCons (fBin subX (fC (.int 0)) (fVar 1)) (aCons (fCall strD (aCons (fVar 1) aNil)) (aCons (fBin eqD (fVar 1) (fC (.int 1))) aNil))))))) (fC (.int 2))))) sNil) (sSeq (sIf (fB (fIsi (fun d => gList d || gTup d) (fVar 1))) (sSet 2 (fBin addX (fVar 2) (fBin mulD (fFrz (lDisp (aCons (fFrz (lCall listD (aCons (fVar 1) aNil))) (aCons (fCall tupleD (aCons (fVar 1) aNil)) (aCons (fRev (fVar 1)) (aCons (fSl (fVar 1) (fYesI (fC (.int 1))) fNo) (aCons (fSl (fVar 1) fNo (fYesI (fNeg (fC (.int 1))))) aNil))))))) (fC (.int 2))))) sNil) (sRet (fApp 2 c__law_choice (aCons (fVar 0) (aCons (fVar 2) aNil))))))))
def b__law_odd : FS := B__law_odd F__law_choice
def F__law_odd : List W → Sto → R W := runF 3 false b__law_odd
def B__law_bent (c__law_odd c__law_draw : List W → Sto → R W) (self : List W → Sto → R W) : FS := (sSeq (sIf (fOr (fNot (fB (fIsi (fun d => gList d || gTup d) (fVar 1)))) (fOr (fB (fBin eqD (fCall lenD (aCons (fVar 1) aNil)) (fC (.int 0)))) (fB (fBin eqD (fApp 2 c__law_draw (aCons (fVar 0) (aCons (fC (.int 6)) aNil))) (fC (.int 0)))))) (sRet (fApp 2 c__law_odd (aCons (fVar 0) (aCons (fVar 1) aNil)))) sNil) (sSeq (sPar3 2 3 4 (aCons (fApp 2 c__law_draw (aCons (fVar 0) (aCons (fCall lenD (aCons (fVar 1) aNil)) aNil))) (aCons (fCell (lCall listD (aCons (fVar 1) aNil))) (aCons (fApp 2 c__law_draw (aCons (fVar 0) (aCons (fC (.int 8)) aNil))) aNil)))) (sSeq (sIf (fB (fBin eqD (fVar 4) (fC (.int 0)))) (sExpr (fMeth mPopAt (fVar 3) (aCons (fVar 2) aNil))) (sIf (fB (fBin eqD (fVar 4) (fC (.int 1)))) (sExpr (fMeth mInsert (fVar 3) (aCons (fVar 2) (aCons (fBin ixD (fVar 3) (fVar 2)) aNil)))) (sIf (fB (fBin eqD (fVar 4) (fC (.int 2)))) (sAsg (fRev (fSl (fVar 3) (fYesI (fVar 2)) (fYesI (fBin addD (fVar 2) (fC (.int 2)))))) (oSl (fVar 3) (fYesI (fVar 2)) (fYesI (fBin addD (fVar 2) (fC (.int 2)))))) (sAsg (fApp 2 self (aCons (fVar 0) (aCons (fBin ixD (fVar 3) (fVar 2)) aNil))) (oSub (fVar 3) (fVar 2)))))) (sRet (fIf (fB (fIsi gList (fVar 1))) (fVar 3) (fCall tupleD (aCons (fVar 3) aNil)))))))
def b__law_bent (self : List W → Sto → R W) : FS := B__law_bent F__law_odd (F__law_draw 3) self
def F__law_bent : Nat → List W → Sto → R W
  | 0 => fBad
  | n + 1 => runF 5 false (b__law_bent (F__law_bent n))
def b__law_integer : FS := (sRet (fAndV (fIsi gInt (fVar 0)) (fNotV (fIsi gBool (fVar 0)))))
def F__law_integer : List W → Sto → R W := runF 1 false b__law_integer
def b__law_is_wrong : FS := (sRet (fAndV (fBin isNN (fBin ixD (fVar 0) (fVar 1)) (fC .none)) (fBin geI (fBin ixD (fVar 0) (fVar 1)) (fVar 1))))
def F__law_is_wrong : List W → Sto → R W := runF 2 false b__law_is_wrong
def B__law_cross (c__law_is_wrong : List W → Sto → R W) : FS := (sSeq (sIf (fOr (fB (fBin isN (fBin ixD (fVar 0) (fVar 1)) (fC .none))) (fOr (fB (fBin isN (fBin ixD (fVar 0) (fVar 2)) (fC .none))) (fOr (fB (fApp 2 c__law_is_wrong (aCons (fVar 0) (aCons (fVar 1) aNil)))) (fB (fApp 2 c__law_is_wrong (aCons (fVar 0) (aCons (fVar 2) aNil))))))) (sRet (fC (.bool false))) sNil) (sRet (fAndV (fChain ltI ltI (fBin ixD (fVar 0) (fVar 1)) (fVar 2) (fVar 1)) (fBin ltI (fBin ixD (fVar 0) (fVar 2)) (fBin ixD (fVar 0) (fVar 1))))))
def b__law_cross : FS := B__law_cross F__law_is_wrong
def F__law_cross : List W → Sto → R W := runF 3 false b__law_cross
end Vz
namespace K07
open PySem PySem.Spec PyProof.Rows L2 Vz
def top (i : Nat) : Stmt := PySem.Challenge.pw_afterlist_k07_reasons_shown_or_not.main.body.getD i (.Pass ⟨0, 0, 0, 0⟩)
def LX : List Str := []
def BX : List String := []
def flX : List Str := []
abbrev s__law_source : Stmt := top 12
abbrev s__law_draw : Stmt := top 13
abbrev s__law_strand : Stmt := top 20
abbrev s__law_shuffled : Stmt := top 16
abbrev s__law_choice : Stmt := top 14
abbrev s__law_veiled : Stmt := top 22
abbrev s__law_ties : Stmt := top 21
abbrev s__law_case : Stmt := top 23
abbrev s__law_spoiled : Stmt := top 24
abbrev s__law_any : Stmt := top 25
abbrev s__law_spots : Stmt := top 26
abbrev s__law_odd : Stmt := top 17
abbrev s__law_bent : Stmt := top 18
abbrev s__law_is_wrong : Stmt := top 27
abbrev s__law_cross : Stmt := top 28
abbrev s_is_integer : Stmt := top 2
abbrev s_is_wrong : Stmt := top 7
abbrev s_marks_of : Stmt := top 4
abbrev s_shows_wrong : Stmt := top 9
abbrev s_do_cross : Stmt := top 8
abbrev s_shows_crossing : Stmt := top 10
abbrev s__law_integer : Stmt := top 19
abbrev s__law_equal : Stmt := top 15
abbrev s__law_holds : Stmt := top 29
def B__law_holds (c__law_any c__law_spoiled c__law_spots c__law_bent c__law_cross c_shows_wrong c_shows_crossing c__law_choice c__law_integer c__law_is_wrong c__law_equal : List W → Sto → R W) : FS := (sSeq (sAsg (fApp 2 c__law_any (aCons (fVar 0) (aCons (fC (.int 7)) aNil))) (oTup 2 (onCons (oName 7) (onCons (oName 1) onNil)))) (sSeq (sSet 1 (fApp 3 c__law_spoiled (aCons (fVar 0) (aCons (fVar 7) (aCons (fVar 1) aNil))))) (sSeq (sSet 2 (fApp 2 c__law_spots (aCons (fVar 7) (aCons (fVar 1) aNil)))) (sSeq (sSet 3 (fCell (lDisp (aCons (fC .none) (aCons (fTup aNil) (aCons (fFrz (lDisp aNil)) (aCons (fC (.int 0)) (aCons (fC (.str "wrong")) (aCons (fC (.bool true)) (aCons (fC (.bool false)) (aCons (fNeg (fC (.int 1))) (aCons (fBin powI (fC (.int 10)) (fC (.int 20))) (aCons (fTup (aCons (fC (.int 0)) aNil)) (aCons (fTup (aCons (fC (.int 0)) (aCons (fC (.int 0)) aNil))) (aCons (fTup (aCons (fC (.bool true)) (aCons (fC (.int 0)) aNil))) (aCons (fFrz (lDisp (aCons (fC (.int 0)) (aCons (fC (.int 1)) aNil)))) aNil)))))))))))))))) (sSeq (sSet 3 (fCell (lCat (fVar 3) (fFrz (lDisp (aCons (fTup (aCons (fC .none) (aCons (fC .none) aNil))) aNil)))))) (sSeq (sSet 3 (fCell (lCat (fVar 3) (fFrz (lCall listD (aCons (fVar 7) aNil)))))) (sSeq (sFor (iSeq (fVar 7)) (oName 4) (sExpr (fMeth mExtend (fVar 3) (aCons (fFrz (lComp (iSeq (fVar 7)) [13] (cName 13) fYes (fTup (aCons (fVar 4) (aCons (fVar 13) aNil))))) aNil)))) (sSeq (sFor (iArgs rng1 (aCons (fC (.int 14)) aNil)) (oName 5) (sExpr (fMeth mAppend (fVar 3) (aCons (fApp 2 c__law_bent (aCons (fVar 0) (aCons (fApp 2 c__law_choice (aCons (fVar 0) (aCons (fVar 3) aNil))) aNil))) aNil)))) (sSeq (sFor (iSeq (fVar 3)) (oName 6) (sSeq (sAsg (fTup (aCons (fCall reprAD (aCons (fVar 6) aNil)) (aCons (fFrz (lCall listD (aCons (fVar 7) aNil))) aNil))) (oTup 2 (onCons (oName 11) (onCons (oName 12) onNil)))) (sSeq (sSet 8 (fCell (lDisp (aCons (fAndV (fApp 1 c__law_integer (aCons (fVar 6) aNil)) (fAndV (fBin (inD false) (fVar 6) (fVar 12)) (fApp 2 c__law_is_wrong (aCons (fVar 2) (aCons (fIndex (fVar 12) (aCons (fVar 6) aNil)) aNil))))) (aCons (fC (.bool false)) aNil))))) (sSeq (sIf (fAnd (fB (fIsi gTup (fVar 6))) (fAnd (fB (fBin eqD (fCall lenD (aCons (fVar 6) aNil)) (fC (.int 2)))) (fB (fCall allD (aCons (fFrz (lComp (iSeq (fVar 6)) [14] (cName 14) fYes (fAndV (fApp 1 c__law_integer (aCons (fVar 14) aNil)) (fBin (inD false) (fVar 14) (fVar 12))))) aNil))))) (sAsg (fApp 3 c__law_cross (aCons (fVar 2) (aCons (fIndex (fVar 12) (aCons (fBin ixD (fVar 6) (fC (.int 0))) aNil)) (aCons (fIndex (fVar 12) (aCons (fBin ixD (fVar 6) (fC (.int 1))) aNil)) aNil)))) (oSub (fVar 8) (fC (.int 1)))) sNil) (sSeq (sSet 9 (fFrz (lDisp (aCons (fApp 3 c_shows_wrong (aCons (fVar 7) (aCons (fVar 1) (aCons (fVar 6) aNil)))) (aCons (fApp 3 c_shows_crossing (aCons (fVar 7) (aCons (fVar 1) (aCons (fVar 6) aNil)))) aNil))))) (sSeq (sSet 10 (fCell (lDisp (aCons (fAppK 3 [2, 1, 0] c_shows_wrong (aCons (fVar 6) (aCons (fFrz (lCall listD (aCons (fVar 1) aNil))) (aCons (fVar 12) aNil)))) aNil)))) (sSeq (sExpr (fMeth mAppend (fVar 10) (aCons (fAppK 3 [2, 1, 0] c_shows_crossing (aCons (fVar 6) (aCons (fFrz (lCall listD (aCons (fVar 1) aNil))) (aCons (fVar 12) aNil)))) aNil))) (sIf (fOr (fNot (fB (fApp 2 c__law_equal (aCons (fFrz (lDisp (aCons (fVar 9) (aCons (fFz (fVar 10)) aNil)))) (aCons (fFrz (lDisp (aCons (fFz (fVar 8)) (aCons (fFz (fVar 8)) aNil)))) aNil))))) (fB (fBin neD (fCall reprAD (aCons (fVar 6) aNil)) (fVar 11)))) (sRet (fC (.bool false))) sNil)))))))) (sRet (fC (.bool true))))))))))))
def b__law_holds : FS := B__law_holds F__law_any F__law_spoiled F__law_spots (F__law_bent 34) F__law_cross F_shows_wrong F_shows_crossing F__law_choice F__law_integer F__law_is_wrong (F__law_equal 8)
def F__law_holds : List W → Sto → R W := runF 15 false b__law_holds
abbrev s_law : Stmt := top 30
def B_law (c__law_source c__law_holds : List W → Sto → R W) : FS := (sSeq (sFor (iArgs rng1 (aCons (fCall max2 (aCons (fC (.int 1)) (aCons (fCall min2 (aCons (fC (.int 3)) (aCons (fLenS (fVar 0)) aNil))) aNil))) aNil)) (oName 1) (sSeq (sSet 2 (fApp 2 c__law_source (aCons (fVar 0) (aCons (fVar 1) aNil)))) (sIf (fNot (fB (fCall allD (aCons (fFrz (lComp (iArgs rng1 (aCons (fC (.int 2)) aNil)) [3] (cName 3) fYes (fApp 1 c__law_holds (aCons (fVar 2) aNil)))) aNil)))) (sRet (fC (.bool false))) sNil))) (sRet (fC (.bool true))))
def b_law : FS := B_law F__law_source F__law_holds
def F_law : List W → Sto → R W := runF 4 false b_law
/-- what the top has written -/
structure Tx (K : PySem.W.Frag) (mg : Str → Option Value) : Prop where
  g__law_source : mg "_law_source" = some (.ref (He.ga K "_law_source"))
  g__law_draw : mg "_law_draw" = some (.ref (He.ga K "_law_draw"))
  g__law_strand : mg "_law_strand" = some (.ref (He.ga K "_law_strand"))
  g__law_shuffled : mg "_law_shuffled" = some (.ref (He.ga K "_law_shuffled"))
  g__law_choice : mg "_law_choice" = some (.ref (He.ga K "_law_choice"))
  g__law_veiled : mg "_law_veiled" = some (.ref (He.ga K "_law_veiled"))
  g__law_ties : mg "_law_ties" = some (.ref (He.ga K "_law_ties"))
  g__law_case : mg "_law_case" = some (.ref (He.ga K "_law_case"))
  g__law_spoiled : mg "_law_spoiled" = some (.ref (He.ga K "_law_spoiled"))
  g__law_any : mg "_law_any" = some (.ref (He.ga K "_law_any"))
  g__law_spots : mg "_law_spots" = some (.ref (He.ga K "_law_spots"))
  g__law_odd : mg "_law_odd" = some (.ref (He.ga K "_law_odd"))
  g__law_bent : mg "_law_bent" = some (.ref (He.ga K "_law_bent"))
  g__law_is_wrong : mg "_law_is_wrong" = some (.ref (He.ga K "_law_is_wrong"))
  g__law_cross : mg "_law_cross" = some (.ref (He.ga K "_law_cross"))
  g_is_integer : mg "is_integer" = some (.ref (He.ga K "is_integer"))
  g_is_wrong : mg "is_wrong" = some (.ref (He.ga K "is_wrong"))
  g_marks_of : mg "marks_of" = some (.ref (He.ga K "marks_of"))
  g_shows_wrong : mg "shows_wrong" = some (.ref (He.ga K "shows_wrong"))
  g_do_cross : mg "do_cross" = some (.ref (He.ga K "do_cross"))
  g_shows_crossing : mg "shows_crossing" = some (.ref (He.ga K "shows_crossing"))
  g__law_integer : mg "_law_integer" = some (.ref (He.ga K "_law_integer"))
  g__law_equal : mg "_law_equal" = some (.ref (He.ga K "_law_equal"))
  g__law_holds : mg "_law_holds" = some (.ref (He.ga K "_law_holds"))
  g_law : mg "law" = some (.ref (He.ga K "law"))
  n_abs : mg "abs" = none
  n_all : mg "all" = none
  n_bool : mg "bool" = none
  n_dict : mg "dict" = none
  n_enumerate : mg "enumerate" = none
  n_int : mg "int" = none
  n_isinstance : mg "isinstance" = none
  n_len : mg "len" = none
  n_list : mg "list" = none
  n_max : mg "max" = none
  n_min : mg "min" = none
  n_range : mg "range" = none
  n_repr : mg "repr" = none
  n_str : mg "str" = none
  n_tuple : mg "tuple" = none
  n_zip : mg "zip" = none
  v_UNKNOWN : ∃ t, mg "UNKNOWN" = some (.str "?" t)
  v_PAIR : ∃ t, mg "PAIR" = some (.int 2 t)
  d__law_source : ∃ fd, FunD K "_law_source" "_law_source" (defArgs s__law_source) (defBody s__law_source) (defScope s__law_source) [] [] (He.ga K "_law_source") fd
  d__law_draw : ∃ fd, FunD K "_law_draw" "_law_draw" (defArgs s__law_draw) (defBody s__law_draw) (defScope s__law_draw) [] [] (He.ga K "_law_draw") fd
  d__law_strand : ∃ fd, FunD K "_law_strand" "_law_strand" (defArgs s__law_strand) (defBody s__law_strand) (defScope s__law_strand) [] [] (He.ga K "_law_strand") fd
  d__law_shuffled : ∃ fd, FunD K "_law_shuffled" "_law_shuffled" (defArgs s__law_shuffled) (defBody s__law_shuffled) (defScope s__law_shuffled) [] [] (He.ga K "_law_shuffled") fd
  d__law_choice : ∃ fd, FunD K "_law_choice" "_law_choice" (defArgs s__law_choice) (defBody s__law_choice) (defScope s__law_choice) [] [] (He.ga K "_law_choice") fd
  d__law_veiled : ∃ fd, FunD K "_law_veiled" "_law_veiled" (defArgs s__law_veiled) (defBody s__law_veiled) (defScope s__law_veiled) [] [] (He.ga K "_law_veiled") fd
  d__law_ties : ∃ fd, FunD K "_law_ties" "_law_ties" (defArgs s__law_ties) (defBody s__law_ties) (defScope s__law_ties) [] [] (He.ga K "_law_ties") fd
  d__law_case : ∃ fd, FunD K "_law_case" "_law_case" (defArgs s__law_case) (defBody s__law_case) (defScope s__law_case) [] [] (He.ga K "_law_case") fd
  d__law_spoiled : ∃ fd, FunD K "_law_spoiled" "_law_spoiled" (defArgs s__law_spoiled) (defBody s__law_spoiled) (defScope s__law_spoiled) [] [] (He.ga K "_law_spoiled") fd
  d__law_any : ∃ fd, FunD K "_law_any" "_law_any" (defArgs s__law_any) (defBody s__law_any) (defScope s__law_any) [] [] (He.ga K "_law_any") fd
  d__law_spots : ∃ fd, FunD K "_law_spots" "_law_spots" (defArgs s__law_spots) (defBody s__law_spots) (defScope s__law_spots) [] [] (He.ga K "_law_spots") fd
  d__law_odd : ∃ fd, FunD K "_law_odd" "_law_odd" (defArgs s__law_odd) (defBody s__law_odd) (defScope s__law_odd) [] [] (He.ga K "_law_odd") fd
  d__law_bent : ∃ fd, FunD K "_law_bent" "_law_bent" (defArgs s__law_bent) (defBody s__law_bent) (defScope s__law_bent) [] [] (He.ga K "_law_bent") fd
  d__law_is_wrong : ∃ fd, FunD K "_law_is_wrong" "_law_is_wrong" (defArgs s__law_is_wrong) (defBody s__law_is_wrong) (defScope s__law_is_wrong) [] [] (He.ga K "_law_is_wrong") fd
  d__law_cross : ∃ fd, FunD K "_law_cross" "_law_cross" (defArgs s__law_cross) (defBody s__law_cross) (defScope s__law_cross) [] [] (He.ga K "_law_cross") fd
  d_is_integer : ∃ fd, FunD K "is_integer" "is_integer" (defArgs s_is_integer) (defBody s_is_integer) (defScope s_is_integer) [] [] (He.ga K "is_integer") fd
  d_is_wrong : ∃ fd, FunD K "is_wrong" "is_wrong" (defArgs s_is_wrong) (defBody s_is_wrong) (defScope s_is_wrong) [] [] (He.ga K "is_wrong") fd
  d_marks_of : ∃ fd, FunD K "marks_of" "marks_of" (defArgs s_marks_of) (defBody s_marks_of) (defScope s_marks_of) [] [] (He.ga K "marks_of") fd
  d_shows_wrong : ∃ fd, FunD K "shows_wrong" "shows_wrong" (defArgs s_shows_wrong) (defBody s_shows_wrong) (defScope s_shows_wrong) [] [] (He.ga K "shows_wrong") fd
  d_do_cross : ∃ fd, FunD K "do_cross" "do_cross" (defArgs s_do_cross) (defBody s_do_cross) (defScope s_do_cross) [] [] (He.ga K "do_cross") fd
  d_shows_crossing : ∃ fd, FunD K "shows_crossing" "shows_crossing" (defArgs s_shows_crossing) (defBody s_shows_crossing) (defScope s_shows_crossing) [] [] (He.ga K "shows_crossing") fd
  d__law_integer : ∃ fd, FunD K "_law_integer" "_law_integer" (defArgs s__law_integer) (defBody s__law_integer) (defScope s__law_integer) [] [] (He.ga K "_law_integer") fd
  d__law_equal : ∃ fd, FunD K "_law_equal" "_law_equal" (defArgs s__law_equal) (defBody s__law_equal) (defScope s__law_equal) [] [] (He.ga K "_law_equal") fd
  d__law_holds : ∃ fd, FunD K "_law_holds" "_law_holds" (defArgs s__law_holds) (defBody s__law_holds) (defScope s__law_holds) [] [] (He.ga K "_law_holds") fd
  d_law : ∃ fd, FunD K "law" "law" (defArgs s_law) (defBody s_law) (defScope s_law) [] [] (He.ga K "law") fd
section
variable {P : Program} {w : World} {K : PySem.W.Frag} {mg : Str → Option Value} {base : Heap}
theorem sc__law_source : FnScope ["_law_script", "_law_index", "_law_cell"] ["_law_script", "_law_index"] (defScope s__law_source) := ⟨rfl, rfl, rfl, by decide +kernel, rfl, by decide +kernel, by decide +kernel⟩
theorem ok__law_source (t : Tx K mg) : OkK (TT K) P w K mg base 1 "_law_source" ["_law_script", "_law_index"] F__law_source := by
  refine ok_defK (N := ["_law_script", "_law_index", "_law_cell"]) (g := b__law_source) true t.d__law_source t.g__law_source sc__law_source (fun _ _ _ _ _ _ us hl => match us, hl with | [_, _], _ => rfl) fun cdv A outer s H E hr hf tk pw => ?_
  exact (jb_cons (js_set (i := 2) sc__law_source.nd je_int) (jb_cons (js_if (jt_cmp (op_lt) l_ltI (je_var 1) (je_lenS t.n_len (je_var 0)) rfl) (jb_one (js_set (i := 2) sc__law_source.nd (je_ixS (je_var 0) (je_var 1)))) jb_nil) (jb_one (js_ret (je_cell (jl_lst (ja_cons (je_mul (je_abs t.n_abs (ja_cons (je_var 2) ja_nil)) (je_intC t.n_int (ja_cons (je_ge (je_abs t.n_abs (ja_cons (je_var 2) ja_nil)) (je_pow je_int je_int)) ja_nil))) (ja_cons (je_mod (je_mul (je_add (je_add (je_mod (je_var 2) je_int) (je_mul je_int (je_var 1))) je_int) je_int) je_int) (ja_cons je_int ja_nil)))))))))
theorem sc__law_draw : FnScope ["_law_source_here", "_law_bound", "_law_once", "_law_found"] ["_law_source_here", "_law_bound"] (defScope s__law_draw) := ⟨rfl, rfl, rfl, by decide +kernel, rfl, by decide +kernel, by decide +kernel⟩
theorem ok__law_draw (t : Tx K mg) : ∀ n : Nat, OkK (TT K) P w K mg base (0 + n) "_law_draw" ["_law_source_here", "_law_bound"] (F__law_draw n)
  | 0 => okK_bad t.d__law_draw t.g__law_draw (fun _ _ _ _ _ _ us hl => match us, hl with | [_, _], _ => rfl) _
  | n + 1 => by
    have O__law_draw := ok__law_draw t n
    refine ok_defK (N := ["_law_source_here", "_law_bound", "_law_once", "_law_found"]) (g := b__law_draw (F__law_draw n)) false t.d__law_draw t.g__law_draw sc__law_draw (fun _ _ _ _ _ _ us hl => match us, hl with | [_, _], _ => rfl) fun cdv A outer s H E hr hf tk pw => ?_
    exact (jb_cons (js_if (jt_cmp (op_gt) l_gtI (je_ix (je_var 0) je_int) je_int rfl) (jb_cons (js_set (i := 3) sc__law_draw.nd (je_mod (je_ix (je_var 0) je_int) (je_var 1))) (jb_cons (js_asg (je_div (je_ix (je_var 0) je_int) (je_var 1)) (jg_sub (hu1 hr) (je_var 0) je_int)) (jb_one (js_ret (je_var 3))))) jb_nil) (jb_cons (js_if (jt_cmp (op_gt) l_gtI (je_var 1) (je_pow je_int je_int) rfl) (jb_one (js_ret (je_mod (je_add (je_apK O__law_draw hr hf tk (ja_cons (je_var 0) (ja_cons (je_pow je_int je_int) ja_nil))) (je_mul (je_pow je_int je_int) (je_apK O__law_draw hr hf tk (ja_cons (je_var 0) (ja_cons (je_add (je_div (je_var 1) (je_pow je_int je_int)) je_int) ja_nil))))) (je_var 1)))) jb_nil) (jb_cons (js_asg (je_add (je_ix (je_var 0) je_int) je_int) (jg_sub (hu1 hr) (je_var 0) je_int)) (jb_cons (js_set (i := 2) sc__law_draw.nd (je_mod (je_pow (je_add (je_ix (je_var 0) je_int) (je_mul je_int (je_ix (je_var 0) je_int))) je_int) je_int)) (jb_one (js_ret (je_mod (je_div (je_mod (je_add (je_mul (je_var 2) (je_add (je_mod (je_var 2) je_int) je_int)) (je_mul (je_ix (je_var 0) je_int) je_int)) je_int) je_int) (je_var 1))))))))
theorem sc__law_strand : FnScope ["_law_source_here", "_law_most", "_law_size", "_law_wide", "_law_found", "_law_turn", "_law_piece"] ["_law_source_here", "_law_most"] (defScope s__law_strand) := ⟨rfl, rfl, rfl, by decide +kernel, rfl, by decide +kernel, by decide +kernel⟩
theorem ok__law_strand (t : Tx K mg) : OkK (TT K) P w K mg base 4 "_law_strand" ["_law_source_here", "_law_most"] F__law_strand := by
  have O__law_draw := ok__law_draw (P := P) (w := w) (base := base) t 3
  refine ok_defK (N := ["_law_source_here", "_law_most", "_law_size", "_law_wide", "_law_found", "_law_turn", "_law_piece"]) (g := b__law_strand) false t.d__law_strand t.g__law_strand sc__law_strand (fun _ _ _ _ _ _ us hl => match us, hl with | [_, _], _ => rfl) fun cdv A outer s H E hr hf tk pw => ?_
  unfold b__law_strand B__law_strand
  exact (jb_cons (js_set (i := 2) sc__law_strand.nd (je_apK O__law_draw (hr.mono (by first | decide | omega | (simp only [Nat.add_eq]; omega))) hf tk (ja_cons (je_var 0) (ja_cons (je_add (je_var 1) je_int) ja_nil)))) (jb_cons (js_set (i := 3) sc__law_strand.nd (je_if (jt_cmp (op_gt) l_gtI (je_apK O__law_draw (hr.mono (by first | decide | omega | (simp only [Nat.add_eq]; omega))) hf tk (ja_cons (je_var 0) (ja_cons je_int ja_nil))) je_int rfl) (je_add (je_var 2) (je_apK O__law_draw (hr.mono (by first | decide | omega | (simp only [Nat.add_eq]; omega))) hf tk (ja_cons (je_var 0) (ja_cons je_int ja_nil)))) (je_pow je_int je_int))) (jb_cons (js_set (i := 4) sc__law_strand.nd (je_cell (jl_lst ja_nil))) (jb_cons (js_for pw rfl (ji_range1 t.n_range (ja_cons (je_var 2) ja_nil)) (jg_name (i := 5) sc__law_strand.nd) (jb_cons (js_set (i := 6) sc__law_strand.nd (je_apK O__law_draw (hr.mono (by first | decide | omega | (simp only [Nat.add_eq]; omega))) hf tk (ja_cons (je_var 0) (ja_cons (je_var 3) ja_nil)))) (jb_cons (js_while 100 pw (jt_cmp (op_inX (hu65 hr)) (l_in false) (je_var 6) (je_var 4) rfl) (jb_one (js_set (i := 6) sc__law_strand.nd (je_mod (je_add (je_var 6) je_int) (je_var 3))))) (jb_one (js_expr (je_append (je_var 4) (ja_cons (je_var 6) ja_nil))))))) (jb_one (js_ret (je_tuple t.n_tuple (ja_cons (je_var 4) ja_nil))))))))
theorem sc__law_shuffled : FnScope ["_law_source_here", "_law_row_here", "_law_rest", "_law_found"] ["_law_source_here", "_law_row_here"] (defScope s__law_shuffled) := ⟨rfl, rfl, rfl, by decide +kernel, rfl, by decide +kernel, by decide +kernel⟩
theorem ok__law_shuffled (t : Tx K mg) : OkK (TT K) P w K mg base 4 "_law_shuffled" ["_law_source_here", "_law_row_here"] F__law_shuffled := by
  have O__law_draw := ok__law_draw (P := P) (w := w) (base := base) t 3
  refine ok_defK (N := ["_law_source_here", "_law_row_here", "_law_rest", "_law_found"]) (g := b__law_shuffled) false t.d__law_shuffled t.g__law_shuffled sc__law_shuffled (fun _ _ _ _ _ _ us hl => match us, hl with | [_, _], _ => rfl) fun cdv A outer s H E hr hf tk pw => ?_
  unfold b__law_shuffled B__law_shuffled
  exact (jb_cons (js_par (i := 2) (j := 3) rfl sc__law_shuffled.nd (ja_cons (je_cell (jl_list t.n_list (ja_cons (je_var 1) ja_nil))) (ja_cons (je_cell (jl_lst ja_nil)) ja_nil))) (jb_cons (js_while 100 pw (jt_cmp (op_neD (hu64 hr)) l_neD (je_var 2) (je_frz (jl_lst ja_nil)) rfl) (jb_one (js_expr (je_append (je_var 3) (ja_cons (je_meth F.slot_list_pop F.type_list_pop mt_popAt m_popAt (je_var 2) (ja_cons (je_apK O__law_draw (hr.mono (by first | decide | omega | (simp only [Nat.add_eq]; omega))) hf tk (ja_cons (je_var 0) (ja_cons (je_len t.n_len (ja_cons (je_var 2) ja_nil)) ja_nil))) ja_nil)) ja_nil))))) (jb_one (js_ret (je_var 3)))))
theorem sc__law_choice : FnScope ["_law_source_here", "_law_row_here"] ["_law_source_here", "_law_row_here"] (defScope s__law_choice) := ⟨rfl, rfl, rfl, by decide +kernel, rfl, by decide +kernel, by decide +kernel⟩
theorem ok__law_choice (t : Tx K mg) : OkK (TT K) P w K mg base 4 "_law_choice" ["_law_source_here", "_law_row_here"] F__law_choice := by
  have O__law_draw := ok__law_draw (P := P) (w := w) (base := base) t 3
  refine ok_defK (N := ["_law_source_here", "_law_row_here"]) (g := b__law_choice) false t.d__law_choice t.g__law_choice sc__law_choice (fun _ _ _ _ _ _ us hl => match us, hl with | [_, _], _ => rfl) fun cdv A outer s H E hr hf tk pw => ?_
  unfold b__law_choice B__law_choice
  exact (jb_one (js_ret (je_ix (je_var 1) (je_apK O__law_draw (hr.mono (by first | decide | omega | (simp only [Nat.add_eq]; omega))) hf tk (ja_cons (je_var 0) (ja_cons (je_len t.n_len (ja_cons (je_var 1) ja_nil)) ja_nil))))))
theorem sc__law_veiled : FnScope ["_law_source_here", "_law_ties_here", "_law_odds", "_law_tie"] ["_law_source_here", "_law_ties_here"] (defScope s__law_veiled) := ⟨rfl, rfl, rfl, by decide +kernel, rfl, by decide +kernel, by decide +kernel⟩
theorem ok__law_veiled (t : Tx K mg) : OkK (TT K) P w K mg base 5 "_law_veiled" ["_law_source_here", "_law_ties_here"] F__law_veiled := by
  have O__law_choice := ok__law_choice (P := P) (w := w) (base := base) t
  have O__law_draw := ok__law_draw (P := P) (w := w) (base := base) t 3
  refine ok_defK (N := ["_law_source_here", "_law_ties_here", "_law_odds", "_law_tie"]) (g := b__law_veiled) false t.d__law_veiled t.g__law_veiled sc__law_veiled (fun _ _ _ _ _ _ us hl => match us, hl with | [_, _], _ => rfl) fun cdv A outer s H E hr hf tk pw => ?_
  unfold b__law_veiled B__law_veiled
  exact (jb_cons (js_set (i := 2) sc__law_veiled.nd (je_apK O__law_choice (hr.mono (by first | decide | omega | (simp only [Nat.add_eq]; omega))) hf tk (ja_cons (je_var 0) (ja_cons (je_frz (jl_lst (ja_cons je_int (ja_cons je_int (ja_cons je_int (ja_cons je_int ja_nil)))))) ja_nil)))) (jb_one (js_ret (je_tuple t.n_tuple (ja_cons (je_frz (jl_comp rfl sc__law_veiled.nd (ji_seq (je_var 1)) (blkOk_by (own := [("_law_tie", 3)]) (by kernel_rfl)) (fun _ _ _ _ _ => (jc_name (i := 3) sc__law_veiled.nd)) (fun _ _ _ _ _ => jp_nil) (fun _ _ _ _ _ => (je_if (jt_cmp (op_lt) l_ltI (je_apK O__law_draw (hr.mono (by first | decide | omega | (simp only [Nat.add_eq]; omega))) hf tkB (ja_cons (je_var 0) (ja_cons je_int ja_nil))) (je_var 2) rfl) je_str (je_var 3))))) ja_nil)))))
theorem sc__law_ties : FnScope ["_law_strand_here", "_law_queue", "_law_times", "_law_found", "_law_spot", "_law_piece", "_law_tie", "_law_mate", "_law_k"] ["_law_strand_here", "_law_queue"] (defScope s__law_ties) := ⟨rfl, rfl, rfl, by decide +kernel, rfl, by decide +kernel, by decide +kernel⟩
theorem ok__law_ties (t : Tx K mg) : OkK (TT K) P w K mg base 1 "_law_ties" ["_law_strand_here", "_law_queue"] F__law_ties := by
  refine ok_defK (N := ["_law_strand_here", "_law_queue", "_law_times", "_law_found", "_law_spot", "_law_piece", "_law_tie", "_law_mate", "_law_k"]) (g := b__law_ties) false t.d__law_ties t.g__law_ties sc__law_ties (fun _ _ _ _ _ _ us hl => match us, hl with | [_, _], _ => rfl) fun cdv A outer s H E hr hf tk pw => ?_
  exact (jb_cons (js_par (i := 2) (j := 3) rfl sc__law_ties.nd (ja_cons (je_dictP rfl t.n_dict (ja_cons (je_frz (jl_comp rfl sc__law_ties.nd (ji_enum t.n_enumerate (ja_cons (je_var 1) ja_nil)) (blkOk_by (own := [("_law_k", 8), ("_law_piece", 5)]) (by kernel_rfl)) (fun _ _ _ _ _ => (jc_tup (n := 2) rfl (jcs_cons (i := 8) sc__law_ties.nd (jcs_cons (i := 5) sc__law_ties.nd jcs_nil)))) (fun _ _ _ _ _ => jp_nil) (fun _ _ _ _ _ => (je_tup (ja_cons (je_var 5) (ja_cons (je_var 8) ja_nil)))))) ja_nil)) (ja_cons (je_cell (jl_lst ja_nil)) ja_nil))) (jb_cons (js_for pw rfl (ji_enum t.n_enumerate (ja_cons (je_var 0) ja_nil)) (jg_tup (n := 2) rfl (jgs_cons (i := 4) sc__law_ties.nd (jgs_cons (i := 5) sc__law_ties.nd jgs_nil))) (jb_cons (js_set (i := 6) sc__law_ties.nd je_non) (jb_cons (js_for pw rfl (ji_seq (je_slice (je_var 0) jo_none (jo_some (je_var 4)))) (jg_name (i := 7) sc__law_ties.nd) (jb_one (js_set (i := 6) sc__law_ties.nd (je_if (jt_cmp (op_lt) l_ltI (je_dget (hu1 hr) (je_var 2) (je_var 7)) (je_dget (hu1 hr) (je_var 2) (je_var 5)) rfl) (je_var 7) (je_var 6))))) (jb_one (js_expr (je_append (je_var 3) (ja_cons (je_var 6) ja_nil))))))) (jb_one (js_ret (je_tuple t.n_tuple (ja_cons (je_var 3) ja_nil))))))
theorem sc__law_case : FnScope ["_law_source_here", "_law_most", "_law_strand_here", "_law_queue"] ["_law_source_here", "_law_most"] (defScope s__law_case) := ⟨rfl, rfl, rfl, by decide +kernel, rfl, by decide +kernel, by decide +kernel⟩
theorem ok__law_case (t : Tx K mg) : OkK (TT K) P w K mg base 6 "_law_case" ["_law_source_here", "_law_most"] F__law_case := by
  have O__law_strand := ok__law_strand (P := P) (w := w) (base := base) t
  have O__law_shuffled := ok__law_shuffled (P := P) (w := w) (base := base) t
  have O__law_veiled := ok__law_veiled (P := P) (w := w) (base := base) t
  have O__law_ties := ok__law_ties (P := P) (w := w) (base := base) t
  refine ok_defK (N := ["_law_source_here", "_law_most", "_law_strand_here", "_law_queue"]) (g := b__law_case) false t.d__law_case t.g__law_case sc__law_case (fun _ _ _ _ _ _ us hl => match us, hl with | [_, _], _ => rfl) fun cdv A outer s H E hr hf tk pw => ?_
  unfold b__law_case B__law_case
  exact (jb_cons (js_set (i := 2) sc__law_case.nd (je_apK O__law_strand (hr.mono (by first | decide | omega | (simp only [Nat.add_eq]; omega))) hf tk (ja_cons (je_var 0) (ja_cons (je_var 1) ja_nil)))) (jb_cons (js_set (i := 3) sc__law_case.nd (je_tuple t.n_tuple (ja_cons (je_apK O__law_shuffled (hr.mono (by first | decide | omega | (simp only [Nat.add_eq]; omega))) hf tk (ja_cons (je_var 0) (ja_cons (je_var 2) ja_nil))) ja_nil))) (jb_one (js_ret (je_tup (ja_cons (je_var 2) (ja_cons (je_apK O__law_veiled (hr.mono (by first | decide | omega | (simp only [Nat.add_eq]; omega))) hf tk (ja_cons (je_var 0) (ja_cons (je_apK O__law_ties (hr.mono (by first | decide | omega | (simp only [Nat.add_eq]; omega))) hf tk (ja_cons (je_var 2) (ja_cons (je_var 3) ja_nil))) ja_nil))) (ja_cons (je_var 3) ja_nil))))))))
theorem sc__law_spoiled : FnScope ["_law_source_here", "_law_strand_here", "_law_ties_here", "_law_found", "_law_turn", "_law_spot", "_law_tie"] ["_law_source_here", "_law_strand_here", "_law_ties_here"] (defScope s__law_spoiled) := ⟨rfl, rfl, rfl, by decide +kernel, rfl, by decide +kernel, by decide +kernel⟩
theorem ok__law_spoiled (t : Tx K mg) : OkK (TT K) P w K mg base 5 "_law_spoiled" ["_law_source_here", "_law_strand_here", "_law_ties_here"] F__law_spoiled := by
  have O__law_draw := ok__law_draw (P := P) (w := w) (base := base) t 3
  have O__law_choice := ok__law_choice (P := P) (w := w) (base := base) t
  refine ok_defK (N := ["_law_source_here", "_law_strand_here", "_law_ties_here", "_law_found", "_law_turn", "_law_spot", "_law_tie"]) (g := b__law_spoiled) false t.d__law_spoiled t.g__law_spoiled sc__law_spoiled (fun _ _ _ _ _ _ us hl => match us, hl with | [_, _, _], _ => rfl) fun cdv A outer s H E hr hf tk pw => ?_
  unfold b__law_spoiled B__law_spoiled
  exact (jb_cons (js_set (i := 3) sc__law_spoiled.nd (je_cell (jl_list t.n_list (ja_cons (je_var 2) ja_nil)))) (jb_cons (js_for pw rfl (ji_range1 t.n_range (ja_cons (je_mul (je_add je_int (je_apK O__law_draw (hr.mono (by first | decide | omega | (simp only [Nat.add_eq]; omega))) hf tk (ja_cons (je_var 0) (ja_cons je_int ja_nil)))) (je_intC t.n_int (ja_cons (je_gt (je_len t.n_len (ja_cons (je_var 1) ja_nil)) je_int) ja_nil))) ja_nil)) (jg_name (i := 4) sc__law_spoiled.nd) (jb_cons (js_set (i := 5) sc__law_spoiled.nd (je_apK O__law_draw (hr.mono (by first | decide | omega | (simp only [Nat.add_eq]; omega))) hf tk (ja_cons (je_var 0) (ja_cons (je_len t.n_len (ja_cons (je_var 1) ja_nil)) ja_nil)))) (jb_one (js_asg (je_apK O__law_choice (hr.mono (by first | decide | omega | (simp only [Nat.add_eq]; omega))) hf tk (ja_cons (je_var 0) (ja_cons (je_frz (jl_comp rfl sc__law_spoiled.nd (ji_seq (je_add (je_var 1) (je_tup (ja_cons je_non (ja_cons je_str ja_nil))))) (blkOk_by (own := [("_law_tie", 6)]) (by kernel_rfl)) (fun _ _ _ _ _ => (jc_name (i := 6) sc__law_spoiled.nd)) (fun _ _ _ _ _ => (jp_one (jt_cmp (op_neD (hu64 hr)) l_neD (je_var 6) (je_ix (je_var 1) (je_var 5)) rfl))) (fun _ _ _ _ _ => (je_var 6)))) ja_nil))) (jg_sub (hu1 hr) (je_var 3) (je_var 5)))))) (jb_one (js_ret (je_tuple t.n_tuple (ja_cons (je_var 3) ja_nil))))))
theorem sc__law_any : FnScope ["_law_source_here", "_law_most", "_law_strand_here", "_law_ties_here", "_law_queue"] ["_law_source_here", "_law_most"] (defScope s__law_any) := ⟨rfl, rfl, rfl, by decide +kernel, rfl, by decide +kernel, by decide +kernel⟩
theorem ok__law_any (t : Tx K mg) : OkK (TT K) P w K mg base 7 "_law_any" ["_law_source_here", "_law_most"] F__law_any := by
  have O__law_case := ok__law_case (P := P) (w := w) (base := base) t
  have O__law_spoiled := ok__law_spoiled (P := P) (w := w) (base := base) t
  have O__law_draw := ok__law_draw (P := P) (w := w) (base := base) t 3
  refine ok_defK (N := ["_law_source_here", "_law_most", "_law_strand_here", "_law_ties_here", "_law_queue"]) (g := b__law_any) false t.d__law_any t.g__law_any sc__law_any (fun _ _ _ _ _ _ us hl => match us, hl with | [_, _], _ => rfl) fun cdv A outer s H E hr hf tk pw => ?_
  unfold b__law_any B__law_any
  exact (jb_cons (js_asg (je_apK O__law_case (hr.mono (by first | decide | omega | (simp only [Nat.add_eq]; omega))) hf tk (ja_cons (je_var 0) (ja_cons (je_var 1) ja_nil))) (jg_tup (n := 3) rfl (jgs_cons (i := 2) sc__law_any.nd (jgs_cons (i := 3) sc__law_any.nd (jgs_cons (i := 4) sc__law_any.nd jgs_nil))))) (jb_one (js_ret (je_tup (ja_cons (je_var 2) (ja_cons (je_if (jt_cmp (op_eqD (hu64 hr)) l_eqD (je_apK O__law_draw (hr.mono (by first | decide | omega | (simp only [Nat.add_eq]; omega))) hf tk (ja_cons (je_var 0) (ja_cons je_int ja_nil))) je_int rfl) (je_apK O__law_spoiled (hr.mono (by first | decide | omega | (simp only [Nat.add_eq]; omega))) hf tk (ja_cons (je_var 0) (ja_cons (je_var 2) (ja_cons (je_var 3) ja_nil)))) (je_var 3)) ja_nil))))))
theorem sc__law_spots : FnScope ["_law_strand_here", "_law_ties_here", "_law_tie"] ["_law_strand_here", "_law_ties_here"] (defScope s__law_spots) := ⟨rfl, rfl, rfl, by decide +kernel, rfl, by decide +kernel, by decide +kernel⟩
theorem ok__law_spots (t : Tx K mg) : OkK (TT K) P w K mg base 1 "_law_spots" ["_law_strand_here", "_law_ties_here"] F__law_spots := by
  refine ok_defK (N := ["_law_strand_here", "_law_ties_here", "_law_tie"]) (g := b__law_spots) false t.d__law_spots t.g__law_spots sc__law_spots (fun _ _ _ _ _ _ us hl => match us, hl with | [_, _], _ => rfl) fun cdv A outer s H E hr hf tk pw => ?_
  exact (jb_one (js_ret (je_frz (jl_comp rfl sc__law_spots.nd (ji_seq (je_var 1)) (blkOk_by (own := [("_law_tie", 2)]) (by kernel_rfl)) (fun _ _ _ _ _ => (jc_name (i := 2) sc__law_spots.nd)) (fun _ _ _ _ _ => jp_nil) (fun _ _ _ _ _ => (je_if (jt_cmp (op_eqD (hu64 hr)) l_eqD (je_var 2) je_str rfl) je_non (je_if (jt_cmp (op_isN) l_isN (je_var 2) je_non rfl) (je_neg je_int) (je_index (je_frz (jl_list t.n_list (ja_cons (je_var 0) ja_nil))) (ja_cons (je_var 2) ja_nil)))))))))
theorem sc__law_odd : FnScope ["_law_source_here", "_law_value", "_law_some"] ["_law_source_here", "_law_value"] (defScope s__law_odd) := ⟨rfl, rfl, rfl, by decide +kernel, rfl, by decide +kernel, by decide +kernel⟩
theorem ok__law_odd (t : Tx K mg) : OkK (TT K) P w K mg base 5 "_law_odd" ["_law_source_here", "_law_value"] F__law_odd := by
  have O__law_choice := ok__law_choice (P := P) (w := w) (base := base) t
  refine ok_defK (N := ["_law_source_here", "_law_value", "_law_some"]) (g := b__law_odd) false t.d__law_odd t.g__law_odd sc__law_odd (fun _ _ _ _ _ _ us hl => match us, hl with | [_, _], _ => rfl) fun cdv A outer s H E hr hf tk pw => ?_
  unfold b__law_odd B__law_odd
  exact (jb_cons (js_set (i := 2) sc__law_odd.nd (je_frz (jl_lst (ja_cons je_non (ja_cons je_bl (ja_cons je_bl (ja_cons je_int (ja_cons je_int (ja_cons (je_neg je_int) (ja_cons je_str (ja_cons je_str (ja_cons (je_tup ja_nil) (ja_cons (je_frz (jl_lst ja_nil)) (ja_cons (je_tup (ja_cons je_int ja_nil)) (ja_cons (je_frz (jl_lst (ja_cons je_int ja_nil))) (ja_cons (je_tup (ja_cons (je_tup ja_nil) ja_nil)) (ja_cons (je_tup (ja_cons (je_tup ja_nil) (ja_cons (je_tup ja_nil) ja_nil))) (ja_cons (je_tup (ja_cons je_int (ja_cons je_int ja_nil))) ja_nil)))))))))))))))))) (jb_cons (js_set (i := 2) sc__law_odd.nd (je_add (je_var 2) (je_frz (jl_lst (ja_cons (je_tup (ja_cons je_non (ja_cons je_int ja_nil))) (ja_cons (je_tup (ja_cons je_non ja_nil)) (ja_cons (je_frz (jl_lst (ja_cons je_non (ja_cons je_int ja_nil)))) ja_nil))))))) (jb_cons (js_if (jt_val (je_isi cla_int boot_int t.n_isinstance t.n_int (je_var 1))) (jb_one (js_set (i := 2) sc__law_odd.nd (je_addX (je_var 2) (je_mul (je_frz (jl_lst (ja_cons (je_addX (je_var 1) je_int) (ja_cons (je_subX (je_var 1) je_int) (ja_cons (je_subX je_int (je_var 1)) (ja_cons (je_strC t.n_str (ja_cons (je_var 1) ja_nil)) (ja_cons (je_eq (hu64 hr) (je_var 1) je_int) ja_nil))))))) je_int)))) jb_nil) (jb_cons (js_if (jt_val (je_isi2 cla_list cla_tup boot_list boot_tuple t.n_isinstance t.n_list t.n_tuple (je_var 1))) (jb_one (js_set (i := 2) sc__law_odd.nd (je_addX (je_var 2) (je_mul (je_frz (jl_lst (ja_cons (je_frz (jl_list t.n_list (ja_cons (je_var 1) ja_nil))) (ja_cons (je_tuple t.n_tuple (ja_cons (je_var 1) ja_nil)) (ja_cons (je_rev (je_var 1)) (ja_cons (je_slice (je_var 1) (jo_some je_int) jo_none) (ja_cons (je_slice (je_var 1) jo_none (jo_some (je_neg je_int))) ja_nil))))))) je_int)))) jb_nil) (jb_one (js_ret (je_apK O__law_choice (hr.mono (by first | decide | omega | (simp only [Nat.add_eq]; omega))) hf tk (ja_cons (je_var 0) (ja_cons (je_var 2) ja_nil)))))))))
theorem sc__law_bent : FnScope ["_law_source_here", "_law_value", "_law_at", "_law_made", "_law_way"] ["_law_source_here", "_law_value"] (defScope s__law_bent) := ⟨rfl, rfl, rfl, by decide +kernel, rfl, by decide +kernel, by decide +kernel⟩
theorem ok__law_bent (t : Tx K mg) : ∀ n : Nat, OkK (TT K) P w K mg base (5 + n) "_law_bent" ["_law_source_here", "_law_value"] (F__law_bent n)
  | 0 => okK_bad t.d__law_bent t.g__law_bent (fun _ _ _ _ _ _ us hl => match us, hl with | [_, _], _ => rfl) _
  | n + 1 => by
    have O__law_odd := ok__law_odd (P := P) (w := w) (base := base) t
    have O__law_draw := ok__law_draw (P := P) (w := w) (base := base) t 3
    have O__law_bent := ok__law_bent t n
    refine ok_defK (N := ["_law_source_here", "_law_value", "_law_at", "_law_made", "_law_way"]) (g := b__law_bent (F__law_bent n)) false t.d__law_bent t.g__law_bent sc__law_bent (fun _ _ _ _ _ _ us hl => match us, hl with | [_, _], _ => rfl) fun cdv A outer s H E hr hf tk pw => ?_
    unfold b__law_bent B__law_bent
    exact (jb_cons (js_if (jt_of_jw (jw_or (jt_not (jt_val (je_isi2 cla_list cla_tup boot_list boot_tuple t.n_isinstance t.n_list t.n_tuple (je_var 1)))) (jw_or (jt_cmp (op_eqD (hu64 hr)) l_eqD (je_len t.n_len (ja_cons (je_var 1) ja_nil)) je_int rfl) (jw_or1 (jt_cmp (op_eqD (hu64 hr)) l_eqD (je_apK O__law_draw (hr.mono (by first | decide | omega | (simp only [Nat.add_eq]; omega))) hf tk (ja_cons (je_var 0) (ja_cons je_int ja_nil))) je_int rfl))))) (jb_one (js_ret (je_apK O__law_odd (hr.mono (by first | decide | omega | (simp only [Nat.add_eq]; omega))) hf tk (ja_cons (je_var 0) (ja_cons (je_var 1) ja_nil))))) jb_nil) (jb_cons (js_par3 (i := 2) (j := 3) (l := 4) rfl sc__law_bent.nd (ja_cons (je_apK O__law_draw (hr.mono (by first | decide | omega | (simp only [Nat.add_eq]; omega))) hf tk (ja_cons (je_var 0) (ja_cons (je_len t.n_len (ja_cons (je_var 1) ja_nil)) ja_nil))) (ja_cons (je_cell (jl_list t.n_list (ja_cons (je_var 1) ja_nil))) (ja_cons (je_apK O__law_draw (hr.mono (by first | decide | omega | (simp only [Nat.add_eq]; omega))) hf tk (ja_cons (je_var 0) (ja_cons je_int ja_nil))) ja_nil)))) (jb_cons (js_if (jt_cmp (op_eqD (hu64 hr)) l_eqD (je_var 4) je_int rfl) (jb_one (js_expr (je_meth F.slot_list_pop F.type_list_pop mt_popAt m_popAt (je_var 3) (ja_cons (je_var 2) ja_nil)))) (jb_one (js_if (jt_cmp (op_eqD (hu64 hr)) l_eqD (je_var 4) je_int rfl) (jb_one (js_expr (je_meth F.slot_list_insert F.type_list_insert mt_insert m_insert (je_var 3) (ja_cons (je_var 2) (ja_cons (je_ix (je_var 3) (je_var 2)) ja_nil))))) (jb_one (js_if (jt_cmp (op_eqD (hu64 hr)) l_eqD (je_var 4) je_int rfl) (jb_one (js_asg (je_rev (je_slice (je_var 3) (jo_some (je_var 2)) (jo_some (je_add (je_var 2) je_int)))) (jg_sl (je_var 3) (jo_some (je_var 2)) (jo_some (je_add (je_var 2) je_int))))) (jb_one (js_asg (je_apK O__law_bent hr hf tk (ja_cons (je_var 0) (ja_cons (je_ix (je_var 3) (je_var 2)) ja_nil))) (jg_sub (hu1 hr) (je_var 3) (je_var 2))))))))) (jb_one (js_ret (je_if (jt_val (je_isi cla_list boot_list t.n_isinstance t.n_list (je_var 1))) (je_var 3) (je_tuple t.n_tuple (ja_cons (je_var 3) ja_nil))))))))
theorem sc__law_is_wrong : FnScope ["_law_spots_here", "_law_spot"] ["_law_spots_here", "_law_spot"] (defScope s__law_is_wrong) := ⟨rfl, rfl, rfl, by decide +kernel, rfl, by decide +kernel, by decide +kernel⟩
theorem ok__law_is_wrong (t : Tx K mg) : OkK (TT K) P w K mg base 1 "_law_is_wrong" ["_law_spots_here", "_law_spot"] F__law_is_wrong := by
  refine ok_defK (N := ["_law_spots_here", "_law_spot"]) (g := b__law_is_wrong) false t.d__law_is_wrong t.g__law_is_wrong sc__law_is_wrong (fun _ _ _ _ _ _ us hl => match us, hl with | [_, _], _ => rfl) fun cdv A outer s H E hr hf tk pw => ?_
  exact (jb_one (js_ret (je_and (je_isnt (je_ix (je_var 0) (je_var 1)) je_non) (je_one (je_ge (je_ix (je_var 0) (je_var 1)) (je_var 1))))))
theorem sc__law_cross : FnScope ["_law_spots_here", "_law_x", "_law_y"] ["_law_spots_here", "_law_x", "_law_y"] (defScope s__law_cross) := ⟨rfl, rfl, rfl, by decide +kernel, rfl, by decide +kernel, by decide +kernel⟩
theorem ok__law_cross (t : Tx K mg) : OkK (TT K) P w K mg base 2 "_law_cross" ["_law_spots_here", "_law_x", "_law_y"] F__law_cross := by
  have O__law_is_wrong := ok__law_is_wrong (P := P) (w := w) (base := base) t
  refine ok_defK (N := ["_law_spots_here", "_law_x", "_law_y"]) (g := b__law_cross) false t.d__law_cross t.g__law_cross sc__law_cross (fun _ _ _ _ _ _ us hl => match us, hl with | [_, _, _], _ => rfl) fun cdv A outer s H E hr hf tk pw => ?_
  unfold b__law_cross B__law_cross
  exact (jb_cons (js_if (jt_of_jw (jw_or (jt_cmp (op_isN) l_isN (je_ix (je_var 0) (je_var 1)) je_non rfl) (jw_or (jt_cmp (op_isN) l_isN (je_ix (je_var 0) (je_var 2)) je_non rfl) (jw_or (jt_val (je_apK O__law_is_wrong (hr.mono (by first | decide | omega | (simp only [Nat.add_eq]; omega))) hf tk (ja_cons (je_var 0) (ja_cons (je_var 1) ja_nil)))) (jw_or1 (jt_val (je_apK O__law_is_wrong (hr.mono (by first | decide | omega | (simp only [Nat.add_eq]; omega))) hf tk (ja_cons (je_var 0) (ja_cons (je_var 2) ja_nil))))))))) (jb_one (js_ret je_bl)) jb_nil) (jb_one (js_ret (je_and (je_chain (op_lt) l_ltI (op_lt) l_ltI (je_ix (je_var 0) (je_var 1)) (je_var 2) (je_var 1)) (je_one (je_lt (je_ix (je_var 0) (je_var 2)) (je_ix (je_var 0) (je_var 1))))))))
theorem sc_is_integer : FnScope ["thing"] ["thing"] (defScope s_is_integer) := ⟨rfl, rfl, rfl, by decide +kernel, rfl, by decide +kernel, by decide +kernel⟩
theorem ok_is_integer (t : Tx K mg) : OkK (TT K) P w K mg base 1 "is_integer" ["thing"] F_is_integer := by
  refine ok_defK (N := ["thing"]) (g := b_is_integer) false t.d_is_integer t.g_is_integer sc_is_integer (fun _ _ _ _ _ _ us hl => match us, hl with | [_], _ => rfl) fun cdv A outer s H E hr hf tk pw => ?_
  exact (jb_one (js_ret (je_and (je_isi cla_int boot_int t.n_isinstance t.n_int (je_var 0)) (je_one (je_not (je_isi cla_bool boot_bool t.n_isinstance t.n_bool (je_var 0)))))))
theorem sc_is_wrong : FnScope ["marks", "place"] ["marks", "place"] (defScope s_is_wrong) := ⟨rfl, rfl, rfl, by decide +kernel, rfl, by decide +kernel, by decide +kernel⟩
theorem ok_is_wrong (t : Tx K mg) : OkK (TT K) P w K mg base 1 "is_wrong" ["marks", "place"] F_is_wrong := by
  refine ok_defK (N := ["marks", "place"]) (g := b_is_wrong) false t.d_is_wrong t.g_is_wrong sc_is_wrong (fun _ _ _ _ _ _ us hl => match us, hl with | [_, _], _ => rfl) fun cdv A outer s H E hr hf tk pw => ?_
  exact (jb_one (js_ret (je_and (je_isnt (je_ix (je_var 0) (je_var 1)) je_non) (je_one (je_ge (je_ix (je_var 0) (je_var 1)) (je_var 1))))))
theorem sc_marks_of : FnScope ["items", "anchors", "found", "anchor"] ["items", "anchors"] (defScope s_marks_of) := ⟨rfl, rfl, rfl, by decide +kernel, rfl, by decide +kernel, by decide +kernel⟩
theorem ok_marks_of (t : Tx K mg) : OkK (TT K) P w K mg base 1 "marks_of" ["items", "anchors"] F_marks_of := by
  obtain ⟨t_UNKNOWN, v_UNKNOWN⟩ := t.v_UNKNOWN
  refine ok_defK (N := ["items", "anchors", "found", "anchor"]) (g := b_marks_of) false t.d_marks_of t.g_marks_of sc_marks_of (fun _ _ _ _ _ _ us hl => match us, hl with | [_, _], _ => rfl) fun cdv A outer s H E hr hf tk pw => ?_
  exact (jb_cons (js_set (i := 2) sc_marks_of.nd (je_cell (jl_lst ja_nil))) (jb_cons (js_for pw rfl (ji_seq (je_var 1)) (jg_name (i := 3) sc_marks_of.nd) (jb_one (js_if (jt_cmp (op_isN) l_isN (je_var 3) je_non rfl) (jb_one (js_expr (je_append (je_var 2) (ja_cons (je_neg je_int) ja_nil)))) (jb_one (js_expr (je_append (je_var 2) (ja_cons (je_if (jt_cmp (op_eqD (hu64 hr)) l_eqD (je_var 3) (je_glob (d := (.str "?")) (v := (.str "?")) rfl v_UNKNOWN ⟨t_UNKNOWN, rfl⟩ rfl) rfl) je_non (je_index (je_var 0) (ja_cons (je_var 3) ja_nil))) ja_nil))))))) (jb_one (js_ret (je_var 2)))))
theorem sc_shows_wrong : FnScope ["items", "anchors", "thing"] ["items", "anchors", "thing"] (defScope s_shows_wrong) := ⟨rfl, rfl, rfl, by decide +kernel, rfl, by decide +kernel, by decide +kernel⟩
theorem ok_shows_wrong (t : Tx K mg) : OkK (TT K) P w K mg base 2 "shows_wrong" ["items", "anchors", "thing"] F_shows_wrong := by
  have O_is_integer := ok_is_integer (P := P) (w := w) (base := base) t
  have O_is_wrong := ok_is_wrong (P := P) (w := w) (base := base) t
  have O_marks_of := ok_marks_of (P := P) (w := w) (base := base) t
  refine ok_defK (N := ["items", "anchors", "thing"]) (g := b_shows_wrong) false t.d_shows_wrong t.g_shows_wrong sc_shows_wrong (fun _ _ _ _ _ _ us hl => match us, hl with | [_, _, _], _ => rfl) fun cdv A outer s H E hr hf tk pw => ?_
  unfold b_shows_wrong B_shows_wrong
  exact (jb_one (js_ret (je_and (je_apK O_is_integer (hr.mono (by first | decide | omega | (simp only [Nat.add_eq]; omega))) hf tk (ja_cons (je_var 2) ja_nil)) (je_and (je_in (hu65 hr) (je_var 2) (je_var 0)) (je_one (je_apK O_is_wrong (hr.mono (by first | decide | omega | (simp only [Nat.add_eq]; omega))) hf tk (ja_cons (je_apK O_marks_of (hr.mono (by first | decide | omega | (simp only [Nat.add_eq]; omega))) hf tk (ja_cons (je_var 0) (ja_cons (je_var 1) ja_nil))) (ja_cons (je_index (je_var 0) (ja_cons (je_var 2) ja_nil)) ja_nil))))))))
theorem sc_do_cross : FnScope ["marks", "place", "other"] ["marks", "place", "other"] (defScope s_do_cross) := ⟨rfl, rfl, rfl, by decide +kernel, rfl, by decide +kernel, by decide +kernel⟩
theorem ok_do_cross (t : Tx K mg) : OkK (TT K) P w K mg base 2 "do_cross" ["marks", "place", "other"] F_do_cross := by
  have O_is_wrong := ok_is_wrong (P := P) (w := w) (base := base) t
  refine ok_defK (N := ["marks", "place", "other"]) (g := b_do_cross) false t.d_do_cross t.g_do_cross sc_do_cross (fun _ _ _ _ _ _ us hl => match us, hl with | [_, _, _], _ => rfl) fun cdv A outer s H E hr hf tk pw => ?_
  unfold b_do_cross B_do_cross
  exact (jb_cons (js_if (jt_of_jw (jw_or (jt_cmp (op_isN) l_isN (je_ix (je_var 0) (je_var 1)) je_non rfl) (jw_or (jt_cmp (op_isN) l_isN (je_ix (je_var 0) (je_var 2)) je_non rfl) (jw_or (jt_val (je_apK O_is_wrong (hr.mono (by first | decide | omega | (simp only [Nat.add_eq]; omega))) hf tk (ja_cons (je_var 0) (ja_cons (je_var 1) ja_nil)))) (jw_or1 (jt_val (je_apK O_is_wrong (hr.mono (by first | decide | omega | (simp only [Nat.add_eq]; omega))) hf tk (ja_cons (je_var 0) (ja_cons (je_var 2) ja_nil))))))))) (jb_one (js_ret je_bl)) jb_nil) (jb_one (js_ret (je_and (je_chain (op_lt) l_ltI (op_lt) l_ltI (je_ix (je_var 0) (je_var 1)) (je_var 2) (je_var 1)) (je_one (je_lt (je_ix (je_var 0) (je_var 2)) (je_ix (je_var 0) (je_var 1))))))))
theorem sc_shows_crossing : FnScope ["items", "anchors", "thing", "item"] ["items", "anchors", "thing"] (defScope s_shows_crossing) := ⟨rfl, rfl, rfl, by decide +kernel, rfl, by decide +kernel, by decide +kernel⟩
theorem ok_shows_crossing (t : Tx K mg) : OkK (TT K) P w K mg base 3 "shows_crossing" ["items", "anchors", "thing"] F_shows_crossing := by
  obtain ⟨t_PAIR, v_PAIR⟩ := t.v_PAIR
  have O_do_cross := ok_do_cross (P := P) (w := w) (base := base) t
  have O_marks_of := ok_marks_of (P := P) (w := w) (base := base) t
  have O_is_integer := ok_is_integer (P := P) (w := w) (base := base) t
  refine ok_defK (N := ["items", "anchors", "thing", "item"]) (g := b_shows_crossing) false t.d_shows_crossing t.g_shows_crossing sc_shows_crossing (fun _ _ _ _ _ _ us hl => match us, hl with | [_, _, _], _ => rfl) fun cdv A outer s H E hr hf tk pw => ?_
  unfold b_shows_crossing B_shows_crossing
  exact (jb_cons (js_if (jt_of_jw (jw_or (jt_not (jt_val (je_isi cla_tup boot_tuple t.n_isinstance t.n_tuple (je_var 2)))) (jw_or (jt_cmp (op_neD (hu64 hr)) l_neD (je_len t.n_len (ja_cons (je_var 2) ja_nil)) (je_glob (d := (.int 2)) (v := (.int 2)) rfl v_PAIR ⟨t_PAIR, rfl⟩ rfl) rfl) (jw_or1 (jt_not (jt_val (je_all rfl t.n_all (ja_cons (je_frz (jl_comp rfl sc_shows_crossing.nd (ji_seq (je_var 2)) (blkOk_by (own := [("item", 3)]) (by kernel_rfl)) (fun _ _ _ _ _ => (jc_name (i := 3) sc_shows_crossing.nd)) (fun _ _ _ _ _ => jp_nil) (fun _ _ _ _ _ => (je_apK O_is_integer (hr.mono (by first | decide | omega | (simp only [Nat.add_eq]; omega))) hf tkB (ja_cons (je_var 3) ja_nil))))) ja_nil)))))))) (jb_one (js_ret je_bl)) jb_nil) (jb_cons (js_if (jt_not (jt_val (je_all rfl t.n_all (ja_cons (je_frz (jl_comp rfl sc_shows_crossing.nd (ji_seq (je_var 2)) (blkOk_by (own := [("item", 3)]) (by kernel_rfl)) (fun _ _ _ _ _ => (jc_name (i := 3) sc_shows_crossing.nd)) (fun _ _ _ _ _ => jp_nil) (fun _ _ _ _ _ => (je_in (hu65 hr) (je_var 3) (je_var 0))))) ja_nil)))) (jb_one (js_ret je_bl)) jb_nil) (jb_one (js_ret (je_apK O_do_cross (hr.mono (by first | decide | omega | (simp only [Nat.add_eq]; omega))) hf tk (ja_cons (je_apK O_marks_of (hr.mono (by first | decide | omega | (simp only [Nat.add_eq]; omega))) hf tk (ja_cons (je_var 0) (ja_cons (je_var 1) ja_nil))) (ja_cons (je_index (je_var 0) (ja_cons (je_ix (je_var 2) je_int) ja_nil)) (ja_cons (je_index (je_var 0) (ja_cons (je_ix (je_var 2) je_int) ja_nil)) ja_nil))))))))
theorem sc__law_integer : FnScope ["_law_value"] ["_law_value"] (defScope s__law_integer) := ⟨rfl, rfl, rfl, by decide +kernel, rfl, by decide +kernel, by decide +kernel⟩
theorem ok__law_integer (t : Tx K mg) : OkK (TT K) P w K mg base 1 "_law_integer" ["_law_value"] F__law_integer := by
  refine ok_defK (N := ["_law_value"]) (g := b__law_integer) false t.d__law_integer t.g__law_integer sc__law_integer (fun _ _ _ _ _ _ us hl => match us, hl with | [_], _ => rfl) fun cdv A outer s H E hr hf tk pw => ?_
  exact (jb_one (js_ret (je_and (je_isi cla_int boot_int t.n_isinstance t.n_int (je_var 0)) (je_one (je_not (je_isi cla_bool boot_bool t.n_isinstance t.n_bool (je_var 0)))))))
theorem sc__law_equal : FnScope ["_law_found", "_law_due", "_law_lone", "_law_mate"] ["_law_found", "_law_due"] (defScope s__law_equal) := ⟨rfl, rfl, rfl, by decide +kernel, rfl, by decide +kernel, by decide +kernel⟩
theorem ok__law_equal (t : Tx K mg) : ∀ n : Nat, OkK (TT K) P w K mg base (0 + n) "_law_equal" ["_law_found", "_law_due"] (F__law_equal n)
  | 0 => okK_bad t.d__law_equal t.g__law_equal (fun _ _ _ _ _ _ us hl => match us, hl with | [_, _], _ => rfl) _
  | n + 1 => by
    have O__law_equal := ok__law_equal t n
    refine ok_defK (N := ["_law_found", "_law_due", "_law_lone", "_law_mate"]) (g := b__law_equal (F__law_equal n)) false t.d__law_equal t.g__law_equal sc__law_equal (fun _ _ _ _ _ _ us hl => match us, hl with | [_, _], _ => rfl) fun cdv A outer s H E hr hf tk pw => ?_
    exact (jb_cons (js_if (jt_val (je_isi2 cla_list cla_tup boot_list boot_tuple t.n_isinstance t.n_list t.n_tuple (je_var 1))) (jb_cons (js_if (jt_of_jw (jw_or (jt_cmp (op_neD (hu64 hr)) l_neD (je_isi cla_list boot_list t.n_isinstance t.n_list (je_var 0)) (je_isi cla_list boot_list t.n_isinstance t.n_list (je_var 1)) rfl) (jw_or1 (jt_cmp (op_neD (hu64 hr)) l_neD (je_isi cla_tup boot_tuple t.n_isinstance t.n_tuple (je_var 0)) (je_isi cla_tup boot_tuple t.n_isinstance t.n_tuple (je_var 1)) rfl)))) (jb_one (js_ret je_bl)) jb_nil) (jb_one (js_ret (je_and (je_eq (hu64 hr) (je_len t.n_len (ja_cons (je_var 0) ja_nil)) (je_len t.n_len (ja_cons (je_var 1) ja_nil))) (je_one (je_all rfl t.n_all (ja_cons (je_frz (jl_comp rfl sc__law_equal.nd (ji_zip t.n_zip (ja_cons (je_var 0) (ja_cons (je_var 1) ja_nil))) (blkOk_by (own := [("_law_lone", 2), ("_law_mate", 3)]) (by kernel_rfl)) (fun _ _ _ _ _ => (jc_tup (n := 2) rfl (jcs_cons (i := 2) sc__law_equal.nd (jcs_cons (i := 3) sc__law_equal.nd jcs_nil)))) (fun _ _ _ _ _ => jp_nil) (fun _ _ _ _ _ => (je_apK O__law_equal hr hf tkB (ja_cons (je_var 2) (ja_cons (je_var 3) ja_nil)))))) ja_nil))))))) jb_nil) (jb_cons (js_if (jt_of_jw (jw_or (jt_cmp (op_isN) l_isN (je_var 1) je_non rfl) (jw_or1 (jt_val (je_isi cla_str boot_str t.n_isinstance t.n_str (je_var 1)))))) (jb_one (js_ret (je_and (je_eq (hu64 hr) (je_var 0) (je_var 1)) (je_one (je_eq (hu64 hr) (je_isi cla_str boot_str t.n_isinstance t.n_str (je_var 0)) (je_isi cla_str boot_str t.n_isinstance t.n_str (je_var 1))))))) jb_nil) (jb_one (js_ret (je_and (je_isi cla_int boot_int t.n_isinstance t.n_int (je_var 0)) (je_and (je_eq (hu64 hr) (je_isi cla_bool boot_bool t.n_isinstance t.n_bool (je_var 0)) (je_isi cla_bool boot_bool t.n_isinstance t.n_bool (je_var 1))) (je_one (je_eq (hu64 hr) (je_var 0) (je_var 1)))))))))
theorem sc__law_holds : FnScope ["_law_source_here", "_law_ties_here", "_law_spots_here", "_law_values", "_law_piece", "_law_turn", "_law_value", "_law_strand_here", "_law_due", "_law_told", "_law_named", "_law_kept", "_law_at", "_law_mate", "_law_part"] ["_law_source_here"] (defScope s__law_holds) := ⟨rfl, rfl, rfl, by decide +kernel, rfl, by decide +kernel, by decide +kernel⟩
theorem ok__law_holds (t : Tx K mg) : OkK (TT K) P w K mg base 40 "_law_holds" ["_law_source_here"] F__law_holds := by
  have O__law_any := ok__law_any (P := P) (w := w) (base := base) t
  have O__law_spoiled := ok__law_spoiled (P := P) (w := w) (base := base) t
  have O__law_spots := ok__law_spots (P := P) (w := w) (base := base) t
  have O__law_bent := ok__law_bent (P := P) (w := w) (base := base) t 34
  have O__law_cross := ok__law_cross (P := P) (w := w) (base := base) t
  have O_shows_wrong := ok_shows_wrong (P := P) (w := w) (base := base) t
  have O_shows_crossing := ok_shows_crossing (P := P) (w := w) (base := base) t
  have O__law_choice := ok__law_choice (P := P) (w := w) (base := base) t
  have O__law_integer := ok__law_integer (P := P) (w := w) (base := base) t
  have O__law_is_wrong := ok__law_is_wrong (P := P) (w := w) (base := base) t
  have O__law_equal := ok__law_equal (P := P) (w := w) (base := base) t 8
  refine ok_defK (N := ["_law_source_here", "_law_ties_here", "_law_spots_here", "_law_values", "_law_piece", "_law_turn", "_law_value", "_law_strand_here", "_law_due", "_law_told", "_law_named", "_law_kept", "_law_at", "_law_mate", "_law_part"]) (g := b__law_holds) false t.d__law_holds t.g__law_holds sc__law_holds (fun _ _ _ _ _ _ us hl => match us, hl with | [_], _ => rfl) fun cdv A outer s H E hr hf tk pw => ?_
  unfold b__law_holds B__law_holds
  exact (jb_cons (js_asg (je_apK O__law_any (hr.mono (by first | decide | omega | (simp only [Nat.add_eq]; omega))) hf tk (ja_cons (je_var 0) (ja_cons je_int ja_nil))) (jg_tup (n := 2) rfl (jgs_cons (i := 7) sc__law_holds.nd (jgs_cons (i := 1) sc__law_holds.nd jgs_nil)))) (jb_cons (js_set (i := 1) sc__law_holds.nd (je_apK O__law_spoiled (hr.mono (by first | decide | omega | (simp only [Nat.add_eq]; omega))) hf tk (ja_cons (je_var 0) (ja_cons (je_var 7) (ja_cons (je_var 1) ja_nil))))) (jb_cons (js_set (i := 2) sc__law_holds.nd (je_apK O__law_spots (hr.mono (by first | decide | omega | (simp only [Nat.add_eq]; omega))) hf tk (ja_cons (je_var 7) (ja_cons (je_var 1) ja_nil)))) (jb_cons (js_set (i := 3) sc__law_holds.nd (je_cell (jl_lst (ja_cons je_non (ja_cons (je_tup ja_nil) (ja_cons (je_frz (jl_lst ja_nil)) (ja_cons je_int (ja_cons je_str (ja_cons je_bl (ja_cons je_bl (ja_cons (je_neg je_int) (ja_cons (je_pow je_int je_int) (ja_cons (je_tup (ja_cons je_int ja_nil)) (ja_cons (je_tup (ja_cons je_int (ja_cons je_int ja_nil))) (ja_cons (je_tup (ja_cons je_bl (ja_cons je_int ja_nil))) (ja_cons (je_frz (jl_lst (ja_cons je_int (ja_cons je_int ja_nil)))) ja_nil)))))))))))))))) (jb_cons (js_set (i := 3) sc__law_holds.nd (je_cell (jl_cat (je_var 3) (je_frz (jl_lst (ja_cons (je_tup (ja_cons je_non (ja_cons je_non ja_nil))) ja_nil)))))) (jb_cons (js_set (i := 3) sc__law_holds.nd (je_cell (jl_cat (je_var 3) (je_frz (jl_list t.n_list (ja_cons (je_var 7) ja_nil)))))) (jb_cons (js_for pw rfl (ji_seq (je_var 7)) (jg_name (i := 4) sc__law_holds.nd) (jb_one (js_expr (je_meth F.slot_list_extend F.type_list_extend mt_extend m_extend (je_var 3) (ja_cons (je_frz (jl_comp rfl sc__law_holds.nd (ji_seq (je_var 7)) (blkOk_by (own := [("_law_mate", 13)]) (by kernel_rfl)) (fun _ _ _ _ _ => (jc_name (i := 13) sc__law_holds.nd)) (fun _ _ _ _ _ => jp_nil) (fun _ _ _ _ _ => (je_tup (ja_cons (je_var 4) (ja_cons (je_var 13) ja_nil)))))) ja_nil))))) (jb_cons (js_for pw rfl (ji_range1 t.n_range (ja_cons je_int ja_nil)) (jg_name (i := 5) sc__law_holds.nd) (jb_one (js_expr (je_append (je_var 3) (ja_cons (je_apK O__law_bent (hr.mono (by first | decide | omega | (simp only [Nat.add_eq]; omega))) hf tk (ja_cons (je_var 0) (ja_cons (je_apK O__law_choice (hr.mono (by first | decide | omega | (simp only [Nat.add_eq]; omega))) hf tk (ja_cons (je_var 0) (ja_cons (je_var 3) ja_nil))) ja_nil))) ja_nil))))) (jb_cons (js_for pw rfl (ji_seq (je_var 3)) (jg_name (i := 6) sc__law_holds.nd) (jb_cons (js_asg (je_tup (ja_cons (je_reprA hf hr t.n_repr (ja_cons (je_var 6) ja_nil)) (ja_cons (je_frz (jl_list t.n_list (ja_cons (je_var 7) ja_nil))) ja_nil))) (jg_tup (n := 2) rfl (jgs_cons (i := 11) sc__law_holds.nd (jgs_cons (i := 12) sc__law_holds.nd jgs_nil)))) (jb_cons (js_set (i := 8) sc__law_holds.nd (je_cell (jl_lst (ja_cons (je_and (je_apK O__law_integer (hr.mono (by first | decide | omega | (simp only [Nat.add_eq]; omega))) hf tk (ja_cons (je_var 6) ja_nil)) (je_and (je_in (hu65 hr) (je_var 6) (je_var 12)) (je_one (je_apK O__law_is_wrong (hr.mono (by first | decide | omega | (simp only [Nat.add_eq]; omega))) hf tk (ja_cons (je_var 2) (ja_cons (je_index (je_var 12) (ja_cons (je_var 6) ja_nil)) ja_nil)))))) (ja_cons je_bl ja_nil))))) (jb_cons (js_if (jt_of_jw (jw_and (jt_val (je_isi cla_tup boot_tuple t.n_isinstance t.n_tuple (je_var 6))) (jw_and (jt_cmp (op_eqD (hu64 hr)) l_eqD (je_len t.n_len (ja_cons (je_var 6) ja_nil)) je_int rfl) (jw_and1 (jt_val (je_all rfl t.n_all (ja_cons (je_frz (jl_comp rfl sc__law_holds.nd (ji_seq (je_var 6)) (blkOk_by (own := [("_law_part", 14)]) (by kernel_rfl)) (fun _ _ _ _ _ => (jc_name (i := 14) sc__law_holds.nd)) (fun _ _ _ _ _ => jp_nil) (fun _ _ _ _ _ => (je_and (je_apK O__law_integer (hr.mono (by first | decide | omega | (simp only [Nat.add_eq]; omega))) hf tkB (ja_cons (je_var 14) ja_nil)) (je_one (je_in (hu65 hr) (je_var 14) (je_var 12))))))) ja_nil))))))) (jb_one (js_asg (je_apK O__law_cross (hr.mono (by first | decide | omega | (simp only [Nat.add_eq]; omega))) hf tk (ja_cons (je_var 2) (ja_cons (je_index (je_var 12) (ja_cons (je_ix (je_var 6) je_int) ja_nil)) (ja_cons (je_index (je_var 12) (ja_cons (je_ix (je_var 6) je_int) ja_nil)) ja_nil)))) (jg_sub (hu1 hr) (je_var 8) je_int))) jb_nil) (jb_cons (js_set (i := 9) sc__law_holds.nd (je_frz (jl_lst (ja_cons (je_apK O_shows_wrong (hr.mono (by first | decide | omega | (simp only [Nat.add_eq]; omega))) hf tk (ja_cons (je_var 7) (ja_cons (je_var 1) (ja_cons (je_var 6) ja_nil)))) (ja_cons (je_apK O_shows_crossing (hr.mono (by first | decide | omega | (simp only [Nat.add_eq]; omega))) hf tk (ja_cons (je_var 7) (ja_cons (je_var 1) (ja_cons (je_var 6) ja_nil)))) ja_nil))))) (jb_cons (js_set (i := 10) sc__law_holds.nd (je_cell (jl_lst (ja_cons (je_kwK (ks := ["thing", "anchors", "items"]) (ix := [2, 1, 0]) O_shows_wrong t.d_shows_wrong (hr.mono (by first | decide | omega | (simp only [Nat.add_eq]; omega))) hf tk (jk_cons (je_var 6) (jk_cons (je_frz (jl_list t.n_list (ja_cons (je_var 1) ja_nil))) (jk_cons (je_var 12) jk_nil))) (fun _ _ _ _ _ _ as hl => match as, hl with | [a0, a1, a2], _ => rfl)) ja_nil)))) (jb_cons (js_expr (je_append (je_var 10) (ja_cons (je_kwK (ks := ["thing", "anchors", "items"]) (ix := [2, 1, 0]) O_shows_crossing t.d_shows_crossing (hr.mono (by first | decide | omega | (simp only [Nat.add_eq]; omega))) hf tk (jk_cons (je_var 6) (jk_cons (je_frz (jl_list t.n_list (ja_cons (je_var 1) ja_nil))) (jk_cons (je_var 12) jk_nil))) (fun _ _ _ _ _ _ as hl => match as, hl with | [a0, a1, a2], _ => rfl)) ja_nil))) (jb_one (js_if (jt_of_jw (jw_or (jt_not (jt_val (je_apK O__law_equal (hr.mono (by first | decide | omega | (simp only [Nat.add_eq]; omega))) hf tk (ja_cons (je_frz (jl_lst (ja_cons (je_var 9) (ja_cons (je_fz (je_var 10)) ja_nil)))) (ja_cons (je_frz (jl_lst (ja_cons (je_fz (je_var 8)) (ja_cons (je_fz (je_var 8)) ja_nil)))) ja_nil))))) (jw_or1 (jt_cmp (op_neD (hu64 hr)) l_neD (je_reprA hf hr t.n_repr (ja_cons (je_var 6) ja_nil)) (je_var 11) rfl)))) (jb_one (js_ret je_bl)) jb_nil))))))))) (jb_one (js_ret je_bl)))))))))))
theorem sc_law : FnScope ["_law_script", "_law_index", "_law_source_here", "_law_turn"] ["_law_script"] (defScope s_law) := ⟨rfl, rfl, rfl, by decide +kernel, rfl, by decide +kernel, by decide +kernel⟩
theorem ok_law (t : Tx K mg) : OkK (TT K) P w K mg base 41 "law" ["_law_script"] F_law := by
  have O__law_source := ok__law_source (P := P) (w := w) (base := base) t
  have O__law_holds := ok__law_holds (P := P) (w := w) (base := base) t
  refine ok_defK (N := ["_law_script", "_law_index", "_law_source_here", "_law_turn"]) (g := b_law) false t.d_law t.g_law sc_law (fun _ _ _ _ _ _ us hl => match us, hl with | [_], _ => rfl) fun cdv A outer s H E hr hf tk pw => ?_
  unfold b_law B_law
  exact (jb_cons (js_for pw rfl (ji_range1 t.n_range (ja_cons (je_max2 rfl t.n_max (ja_cons je_int (ja_cons (je_min2 rfl t.n_min (ja_cons je_int (ja_cons (je_lenS t.n_len (je_var 0)) ja_nil))) ja_nil))) ja_nil)) (jg_name (i := 1) sc_law.nd) (jb_cons (js_set (i := 2) sc_law.nd (je_apK O__law_source (hr.mono (by first | decide | omega | (simp only [Nat.add_eq]; omega))) hf tk (ja_cons (je_var 0) (ja_cons (je_var 1) ja_nil)))) (jb_one (js_if (jt_not (jt_val (je_all rfl t.n_all (ja_cons (je_frz (jl_comp rfl sc_law.nd (ji_range1 t.n_range (ja_cons je_int ja_nil)) (blkOk_by (own := [("_law_turn", 3)]) (by kernel_rfl)) (fun _ _ _ _ _ => (jc_name (i := 3) sc_law.nd)) (fun _ _ _ _ _ => jp_nil) (fun _ _ _ _ _ => (je_apK O__law_holds (hr.mono (by first | decide | omega | (simp only [Nat.add_eq]; omega))) hf tkB (ja_cons (je_var 2) ja_nil))))) ja_nil)))) (jb_one (js_ret je_bl)) jb_nil)))) (jb_one (js_ret je_bl)))
end
end K07
namespace Vz
open PySem PySem.Spec PyProof.Rows L2
section
open LamX
variable {X : Cx} {pin : List (Addr × Obj)} {τ : L2.St} {G : Hp} {t : Shared}
end
end Vz
namespace Vz
open PySem PySem.Spec PyProof.Rows L2
/-- what the def asks of what it got -/
def tRun (T : Tb) (K : PySem.W.Frag) (GR : (Sto → R W) → Sto → R W) (tl : XK → Hp → VK → Prop) (H : Hp) (Q : VK) : Prop :=
  ∃ G F A S th, Wd (T.g G) K F A S H ∧ (∀ H1, Wd (T.g G) K F A S H1 → ∀ E Q', Post (T.g G) K (RepW K) F A (th S) Q' E → tl E H1 Q') ∧ Post (T.g G) K (RepW K) F A (GR th S) Q fun _ _ _ => False
abbrev noXK : XK := fun _ _ _ => False
/-- the def x calls what it got: GR tells by what that does what it answers -/
structure Runs (T : Tb) (P : Program) (w : World) (K : PySem.W.Frag) (mg : Str → Option Value) (base : Heap) (k : Nat) (x : Str) (GR : (Sto → R W) → Sto → R W) : Prop where
  keep : PySem.W.keepIn K (.ref (He.ga K x)) = true
  glo : mg x = some (.ref (He.ga K x))
  ex : ∃ (N : List Str) (y : Str) (pg : Arguments) (body : List Stmt) (sg : Scope) (dV kV doc pm cdv ct oc : Value) (an od : Option Addr) (osl : Array (Option Value)), K.lookup (He.ga K x) = some ⟨oc, od, .func (PySem.W.fnOf x x pg body sg dV kV doc pm an cdv ct), osl⟩ ∧
    PySem.W.codeIn K cdv x = true ∧ Binds K (PySem.W.fnOf x x pg body sg dV kV doc pm an cdv ct) [y] [] ∧ FnScope N [y] sg ∧ N[0]? = some y ∧ Vis sg y ∧ (y == ("__debug__" : Str)) = false ∧ (y == ("__classdict__" : Str)) = false ∧
    ∀ (A : Around) (outer : List PySem.Env) (s : Shared) (H : Hp) (f c : Addr) (q : Str) (Q : VK) (tl : XK → Hp → VK → Prop), Room k (A.deeper (envOfC x sg s.heap.objs.size (He.ga K x) cdv)) → Free A →
      (∀ (W : WX) (pn : List (Addr × Obj)) (xe : Value → Shared → Prop) (E : XK) (p1 p2 : Pos), Takes ((cxOf (L2.CX P w) P w K mg base N x sg (He.ga K x) cdv A outer s H noXK).tr pn xe) W → (∀ cls d σ' H', E cls d H' → W cls d σ' H') →
        PE ((cxOf (L2.CX P w) P w K mg base N x sg (He.ga K x) cdv A outer s H noXK).tr pn xe) (.Call (.Name y p1) [] [] p2) (fun σ1 H1 Q => σ1[0]? = some (some (.ref f)) ∧ H1 c = some (LamX.CodeO c q) ∧ tl E H1 Q)) →
      H c = some (LamX.CodeO c q) → tRun T K GR tl H Q → ∃ u, PSs (cxOf (L2.CX P w) P w K mg base N x sg (He.ga K x) cdv A outer s H noXK) body u ∧ u { nx := fun _ H' => Q .non H', rt := Q } (L2.start N [.ref f]) H
def fLam (GR : (Sto → R W) → Sto → R W) (g : FE) : FE := fun ρ S => (GR (fun S' => g ρ S') S).noX
theorem Post.noX {α β : Type} {T : Tb} {K : PySem.W.Frag} {F : Hp} {A : List (List Addr)} {rel : Hp → List (List Addr) → α → β → Prop} {r : R α} {Q : β → Hp → Prop} {E E' : XK} (h : Post T K rel F A r.noX Q E) : Post T K rel F A r Q E' := by
  cases r with
  | ok a S => exact h
  | exc x S => exact h.elim
  | bad => exact h.elim
section
variable {T : Tb} {X : Cx} {Wx : WX} {k : Nat} {x : Str} {GR : (Sto → R W) → Sto → R W} {pa : Arguments} {bd : Expr} {sc : Scope} {c P : Addr} {gb : FE} {p pl pos : Pos}
end
section
variable {T : Tb} {X : Cx}
end
theorem Runs.mono {T : Tb} {P : Program} {w : World} {K : PySem.W.Frag} {mg : Str → Option Value} {base : Heap} {j k : Nat} {x : Str} {GR : (Sto → R W) → Sto → R W} (O : Runs T P w K mg base j x GR) (h : j ≤ k) : Runs T P w K mg base k x GR := by
  obtain ⟨h1, h2, N, y, pg, body, sg, dV, kV, doc, pm, cdv, ct, oc, an, od, osl, a1, a2, a3, a4, a5, a6, a7, a8, run⟩ := O
  exact ⟨h1, h2, N, y, pg, body, sg, dV, kV, doc, pm, cdv, ct, oc, an, od, osl, a1, a2, a3, a4, a5, a6, a7, a8, fun A outer s H f c q Q tl hr => run A outer s H f c q Q tl (hr.mono h)⟩
end Vz
namespace Vz
open PySem PySem.Spec PyProof.Rows L2
section
variable {P : Program} {w : World} {K : PySem.W.Frag} {mg mb : Str → Option Value} {CX : CXT} {k : Nat} {fa a : Addr} {fd : FuncData} {x : Str} {sp : Sp} {t : Shared} {us : List Value} {ns : List Int} {cs : List (Addr × Addr)}
/-- what is known of the code objects and their tables, which are empty -/
structure TabsAt (K : PySem.W.Frag) (h : Heap) (cs : List (Addr × Addr)) : Prop where
  tab : ∀ p ∈ cs, h.get? p.2 = some { cls := .none, data := .fields #[] }
  out : ∀ p ∈ cs, K.lookup p.2 = none
  code : ∀ p ∈ cs, PySem.W.CodeHd h p.1 p.2
theorem TabsAt.is (B : TabsAt K t.heap cs) {b : Addr} (hb : b ∈ cs.map Prod.snd) : ∃ p ∈ cs, p.2 = b ∧ t.heap.get? b = some { cls := .none, data := .fields #[] } := by
  obtain ⟨p, hp, e⟩ := List.mem_map.mp hb
  exact ⟨p, hp, e, by rw [← e]; exact B.tab p hp⟩
end
end Vz
namespace Vz
open PySem PySem.Spec PyProof.Rows L2
/-- a def's code object; its table -/
def cdA (K : PySem.W.Frag) (x : Str) : Addr := match K.lookup (He.ga K x) with
  | some ⟨_, _, .func fd, _⟩ => (match fd.code with
    | .ref c => c
    | _ => 0)
  | _ => 0
def tbA (K : PySem.W.Frag) (x : Str) : Addr := match K.lookup (cdA K x) with
  | some ⟨_, _, .fields vs, _⟩ => (match vs.getD 11 .none with
    | .ref p => p
    | _ => 0)
  | _ => 0
def lamN (x : Str) : Str := x ++ ".<locals>." ++ "<lambda>"
/-- own classes, and the tables of the defs in ls -/
abbrev TL (ls : List Str) (K : PySem.W.Frag) : Tb := ⟨fun c => some (He.ga K c), fun _ => none, ls.map fun x => (tbA K x, lamN x)⟩
/-- what is known of them -/
structure LamAt (h : Heap) (K : PySem.W.Frag) (ls : List Str) : Prop where
  tabs : TabsAt K h (ls.map fun x => (cdA K x, tbA K x))
  dif : (ls.map (tbA K)).Nodup
/-- the tables' owners in a def's body -/
structure Tabd (K : PySem.W.Frag) (mg : Str → Option Value) (base : Heap) (ls : List Str) : Prop where
  at_ : ∀ x ∈ ls, LamX.TabB base mg (cdA K x) (tbA K x)
  dif : (ls.map (tbA K)).Nodup
theorem Tabd.mem {K : PySem.W.Frag} {ls : List Str} {x : Str} (hx : x ∈ ls) : (tbA K x, x ++ ".<locals>." ++ "<lambda>") ∈ (TL ls K).tabs := List.mem_map.mpr ⟨x, hx, rfl⟩
end Vz
namespace Vz.Q
open PySem PySem.Spec PyProof.Rows L2 Vz
variable {ρ : Rho} {S : Sto}
def cntB (b : Bool) (c d : D) : Option Nat := match sqB c with
  | some b' => (match decide (b' = b) with
    | true => cntOf c d
    | false => none)
  | none => none
theorem v_count {f : FE} {ga : FA} : fCount f ga ρ S = bindT (f ρ S) (fun w S1 => someR ((rd S1 w).bind sqB) (fun b => bindT (ga ρ S1) (fun ws S2 => R.lift (((rd S2 w).bind fun c => (rds S2 ws).bind (one fun d => cntB b c d)).map fun j => .dat (.int (j : Nat))) S2) .mk) .mk) .mk := by
  unfold fCount
  cases f ρ S with
  | ok w S1 =>
    show (match (rd S1 w).bind sqB with | some b => _ | none => R.bad) = someR ((rd S1 w).bind sqB) _ .mk
    cases (rd S1 w).bind sqB <;> rfl
  | exc x S1 => rfl
  | bad => rfl
theorem cntB_l {xs : List D} {d : D} : cntB false (.list xs) d = cntOf (.list xs) d := rfl
theorem v_lam {GR : (Sto → R W) → Sto → R W} {g : FE} : fLam GR g ρ S = (GR (fun S' => g ρ S') S).noX := rfl
theorem v_cseq_t {n : Nat} {gs : List D → Rho → Option Rho} {f : Fl} {ds : List D} : cSeq n gs (.tup f ds) ρ = ifO (decide (ds.length = n)) (gs ds ρ) := rfl
theorem v_cseq_l {n : Nat} {gs : List D → Rho → Option Rho} {ds : List D} : cSeq n gs (.list ds) ρ = ifO (decide (ds.length = n)) (gs ds ρ) := rfl
end Vz.Q
namespace Vz.Q
open PySem PySem.Spec PyProof.Rows L2 Vz
variable {ρ : Rho} {S : Sto}
theorem v_bor {f : FE} : fBor f ρ S = borO S (f (ρ.map (borW S)) []) := rfl
theorem borO_b {b : Bool} {S1 : Sto} : borO S (.ok (.dat (.bool b)) S1) = .ok (.dat (.bool b)) S := rfl
theorem borW_dat {d : D} : borW S (some (.dat d)) = some (.dat d) := rfl
theorem borW_none : borW S none = none := rfl
theorem borW_loc {k : Nat} : borW S (some (.loc k 0)) = borC S[k]? := rfl
theorem borC_lst {xs : List D} : borC (some (.lst xs)) = some (.dat (.list xs)) := rfl
theorem borC_frz {d : D} : borC (some (.frz d)) = some (.dat d) := rfl
end Vz.Q
namespace Vz.Q
open PySem PySem.Spec PyProof.Rows L2 Vz
variable {ρ : Rho} {S : Sto}
theorem v_setR {i : Nat} {g : Rho → Sto → R (List (List D))} : sSetR i g ρ S = thenT (fCellR g ρ S) ρ (fun w S1 => .nx (ρ.set i (some w)) S1) .mk := rfl
theorem v_cellR {g : Rho → Sto → R (List (List D))} : fCellR g ρ S = bindT (g ρ S) (fun xss S1 => .ok (.loc S1.length 0) (S1 ++ [.ll xss])) .mk := rfl
theorem v_ixR {fa fb : FE} : fIxR fa fb ρ S = bindT (fa ρ S) (fun x S1 => bindT (fb ρ S1) (fun y S2 => R.lift ((rd S2 y).bind fun d => ixR S2 x d) S2) .mk) .mk := rfl
variable {xss : List (List D)} {i : Nat}
end Vz.Q
namespace Vz.G
open Vz
def bin : Nat → Nat → Nat
  | _, 0 => 1
  | 0, _ + 1 => 0
  | n + 1, k + 1 => bin n k + bin n (k + 1)
def mixA : Nat → List Nat → Nat
  | _, [] => 1
  | t, l :: ls => bin (t + l) l * mixA (t + l) ls
section
variable (can : Nat → Nat → Bool) (T : Nat → Nat → Int)
def prodT : List (Nat × Nat) → Int
  | [] => 1
  | (f, l) :: gl => T f l * prodT gl
def cnt (t : Nat) (gl : List (Nat × Nat)) : Int := (mixA t (gl.map Prod.snd) : Nat) * prodT T gl
/-- what can be put in next, and the gaps then -/
def nx : List (Nat × Nat) → List (Nat × List (Nat × Nat))
  | [] => []
  | (f, l) :: gl => (((List.range l).filter fun u => can f (f + u)).map fun u => (f + u, (f, u) :: (f + u + 1, l - 1 - u) :: gl)) ++ (nx gl).map fun c => (c.1, (f, l) :: c.2)
variable {can T}
end
end Vz.G
namespace Vz.G
open Vz
def gs : Nat → List Nat → Nat → List (Nat × Nat)
  | lo, [], n => [(lo, n - lo)]
  | lo, x :: s, n => (lo, x - lo) :: gs (x + 1) s n
def Asc : Nat → List Nat → Nat → Prop
  | lo, [], n => lo ≤ n
  | lo, x :: s, n => lo ≤ x ∧ x < n ∧ Asc (x + 1) s n
theorem Asc.le : ∀ {s : List Nat} {lo n : Nat}, Asc lo s n → lo ≤ n
  | [], _, _, h => h
  | _ :: _, _, _, h => by have := h.1; have := h.2.1; omega
theorem Asc.mem : ∀ {s : List Nat} {lo n : Nat}, Asc lo s n → ∀ x ∈ s, lo ≤ x ∧ x < n
  | y :: s, lo, n, h, x, hx => by
    rcases List.mem_cons.mp hx with rfl | hx
    · exact ⟨h.1, h.2.1⟩
    · have := Asc.mem h.2.2 x hx
      have := h.1
      omega
theorem Asc.low : ∀ {s : List Nat} {lo lo' n : Nat}, Asc lo s n → lo' ≤ lo → Asc lo' s n
  | [], _, _, _, h, h' => Nat.le_trans h' h
  | _ :: _, _, _, _, h, h' => ⟨Nat.le_trans h' h.1, h.2.1, h.2.2⟩
def insN (p : Nat) : List Nat → List Nat
  | [] => [p]
  | x :: s => if p < x then p :: x :: s else x :: insN p s
theorem Asc.ins : ∀ {s : List Nat} {lo n p : Nat}, Asc lo s n → lo ≤ p → p < n → p ∉ s → Asc lo (insN p s) n
  | [], lo, n, p, h, h1, h2, _ => ⟨h1, h2, h2⟩
  | x :: s, lo, n, p, h, h1, h2, h3 => by
    unfold insN
    split
    · exact ⟨h1, h2, ⟨by omega, h.2.1, h.2.2⟩⟩
    · have : p ≠ x := fun e => h3 (by rw [e]; exact List.mem_cons_self ..)
      exact ⟨h.1, h.2.1, Asc.ins h.2.2 (by omega) h2 fun c => h3 (List.mem_cons_of_mem _ c)⟩
theorem Asc.ext : ∀ {s s' : List Nat} {lo n : Nat}, Asc lo s n → Asc lo s' n → (∀ x, x ∈ s ↔ x ∈ s') → s = s'
  | [], [], _, _, _, _, _ => rfl
  | [], y :: s', _, _, _, _, h => by have := (h y).mpr (List.mem_cons_self ..); cases this
  | x :: s, [], _, _, _, _, h => by have := (h x).mp (List.mem_cons_self ..); cases this
  | x :: s, y :: s', lo, n, h1, h2, h => by
    have e : x = y := by
      have a := (h x).mp (List.mem_cons_self ..)
      have b := (h y).mpr (List.mem_cons_self ..)
      rcases List.mem_cons.mp a with e | a
      · exact e
      rcases List.mem_cons.mp b with e | b
      · exact e.symm
      have := Asc.mem h2.2.2 x a
      have := Asc.mem h1.2.2 y b
      omega
    subst e
    congr 1
    refine Asc.ext h1.2.2 h2.2.2 fun z => ?_
    have hz := h z
    rw [List.mem_cons, List.mem_cons] at hz
    constructor
    · intro m
      rcases hz.mp (.inr m) with e | m'
      · have := Asc.mem h1.2.2 z m; omega
      · exact m'
    · intro m
      rcases hz.mpr (.inr m) with e | m'
      · have := Asc.mem h2.2.2 z m; omega
      · exact m'
def sortN : List Nat → List Nat
  | [] => []
  | x :: s => insN x (sortN s)
/-- the nearest present place to the left, and one more -/
def lobP (ps : List Nat) (p : Nat) : Nat := ((ps.filter fun q => decide (q < p)).map (· + 1)).foldr max 0
def fit (ms : List Mark) (ps : List Nat) (p : Nat) : Bool := canB (ms.getD p none) (lobP ps p : Nat)
def restI (ms : List Mark) (ps : List Nat) : Int := cnt (fun f l => gap ms l f) 0 (gs 0 (sortN ps) ms.length)
end Vz.G
namespace Vz.G
open Vz
/-- k places are still to come -/
structure St (n : Nat) (ps : List Nat) (k : Nat) : Prop where
  nd : ps.Nodup
  lt : ∀ q ∈ ps, q < n
  len : ps.length + k = n
theorem St.nil (n : Nat) : St n [] n := ⟨List.nodup_nil, fun q h => (nomatch h), by simp⟩
theorem St.snoc {n k p : Nat} {ps : List Nat} (h : St n ps (k + 1)) (hp : p < n) (hn : p ∉ ps) : St n (ps ++ [p]) k := by
  refine ⟨?_, fun q hq => ?_, by rw [List.length_append, List.length_singleton]; have := h.len; omega⟩
  · rw [List.nodup_append]
    refine ⟨h.nd, by simp, fun a ha b hb e => hn ?_⟩
    rcases List.mem_singleton.mp hb with rfl
    rw [← e]; exact ha
  · rcases List.mem_append.mp hq with hq | hq
    · exact h.lt q hq
    · rcases List.mem_singleton.mp hq with rfl; exact hp
def okN (ms : List Mark) (ps : List Nat) (p : Nat) : Bool := (!ps.contains p && fit ms ps p) && decide (0 < restI ms (ps ++ [p]))
section
variable {ms : List Mark} {ord : List Nat} (ho : ord.Perm (List.range ms.length))
include ho
theorem okN_mem {ps : List Nat} {p : Nat} (h : p ∈ ord.filter (okN ms ps)) : p < ms.length ∧ p ∉ ps ∧ fit ms ps p = true ∧ 0 < restI ms (ps ++ [p]) := by
  obtain ⟨h1, h2⟩ := List.mem_filter.mp h
  obtain ⟨h3, h4⟩ := Bool.and_eq_true_iff.mp h2
  obtain ⟨h5, h6⟩ := Bool.and_eq_true_iff.mp h3
  refine ⟨List.mem_range.mp (ho.mem_iff.mp h1), ?_, h6, of_decide_eq_true h4⟩
  rw [List.contains_eq_mem] at h5
  simpa using h5
end
/-- steps through the tree -/
def Path (ms : List Mark) (ord : List Nat) : List Nat → List Nat → Prop
  | _, [] => True
  | ps, p :: τ => p ∈ ord.filter (okN ms ps) ∧ Path ms ord (ps ++ [p]) τ
section
variable {ms : List Mark} {ord : List Nat} (ho : ord.Perm (List.range ms.length)) {lt : Nat → Nat → Bool} (hw : ord.Pairwise fun p q => lt p q = true ∧ lt q p = false) (hi : ∀ p, lt p p = false)
include ho hw hi
end
end Vz.G
namespace Vz.H
open PySem PySem.Spec PyProof.Rows L2 Vz Vz.Q Vz.G
local macro_rules
  | `(tactic| simp_arith [$hs,*]) => `(tactic| simp -implicitDefEqProofs -dsimp (disch := first | assumption | omega | (simp only [List.length_map, List.length_append, List.length_cons, List.length_nil, List.length_range, List.length_take, List.length_drop, List.length_replicate, List.length_reverse, List.length_zipIdx]; omega)) only [Vz.Q.ifB_t, Vz.Q.ifB_f, Vz.Q.bind_ok, Vz.Q.bind_exc, Vz.Q.then_ok, Vz.Q.then_exc, Vz.Q.andThen_nx, Vz.Q.andThen_rt, Vz.Q.andThen_exc, Vz.Q.andThen_bk, Vz.Q.andThen_ct, Vz.Q.lift_some, Vz.Q.ofo_some, Vz.Q.get_ok, Vz.Q.noX_ok, Vz.Q.ifO_t, Vz.Q.varO_, Vz.Q.v_var, Vz.Q.v_c, Vz.Q.v_bin, Vz.Q.v_b, Vz.Q.asB_, Vz.Q.v_and, Vz.Q.v_or, Vz.Q.v_not, Vz.Q.v_v, Vz.Q.v_andV, Vz.Q.v_orV, Vz.Q.v_notV, Vz.Q.v_if, Vz.Q.v_chain, Vz.Q.v_anil, Vz.Q.v_acons, Vz.Q.v_tup, Vz.Q.v_tupK, Vz.Q.v_frz, Vz.Q.v_cell, Vz.Q.v_disp, Vz.Q.lsO_, Vz.Q.v_cat, Vz.Q.v_call, Vz.Q.v_lcall, Vz.Q.v_app, Vz.Q.v_appK, Vz.Q.v_nil, Vz.Q.v_pass, Vz.Q.v_seq, Vz.Q.v_break, Vz.Q.v_cont, Vz.Q.v_expr, Vz.Q.v_ret, Vz.Q.v_retN, Vz.Q.v_sif, Vz.Q.v_set, Vz.Q.v_setLc, Vz.Q.v_setLf, Vz.Q.v_aug, Vz.Q.parO_, Vz.Q.v_par, Vz.Q.nxO_, Vz.Q.v_asg, Vz.Q.v_oname, Vz.Q.v_onnil, Vz.Q.v_oncons, Vz.Q.v_otup, Vz.Q.v_osub, Vz.Q.v_fz, Vz.Q.v_meth, Vz.Q.v_meth0, Vz.Q.someR_, Vz.Q.v_index, Vz.Q.v_isi, Vz.Q.v_neg, Vz.Q.v_rev, Vz.Q.v_range, Vz.Q.v_sl, Vz.Q.v_no, Vz.Q.v_yesI, Vz.Q.v_dictT, Vz.Q.v_iseq, Vz.Q.v_iargs, Vz.Q.v_ifr, Vz.Q.rd_dat, Vz.Q.rd_loc, Vz.Q.rdC_lst, Vz.Q.rdC_frz, Vz.Q.rdC_dT, Vz.Q.rdC_dK, Vz.Q.rd2_, Vz.Q.rds_nil, Vz.Q.rds_cons, Vz.Q.dats_nil, Vz.Q.dats_cons, Vz.Q.small_1, Vz.Q.small_2, Vz.Q.small_3, Vz.Q.small_0, Vz.Q.small_, Vz.Q.one_, Vz.Q.two_, Vz.Q.frd_dat, Vz.Q.frd_loc, Vz.Q.frdC_frz, Vz.Q.frds_nil, Vz.Q.frds_cons, Vz.Q.LstW_, Vz.Q.lstB_, Vz.Q.lstC_, Vz.Q.lstO_, Vz.Q.v_append, Vz.Q.v_insert, Vz.Q.v_extend, Vz.Q.v_popAt, Vz.Q.asInt_, Vz.Q.asLs_, Vz.Q.v_stB, Vz.Q.lim_app, Vz.Q.lim_le, Vz.Q.lim_lt, Vz.Q.addL_, Vz.Q.addD_ll, Vz.Q.addD_tt, Option.bind_some, Option.map_some, addD_ii, subI_ii, ltI_ii, leI_ii, gtI_ii, geI_ii, eqD_ii, isN_non, isN_int, isN_str, List.getElem?_cons_zero, List.getElem?_cons_succ, List.set_cons_zero, List.set_cons_succ, List.length_cons, List.length_nil, List.length_append, Nat.zero_add, Nat.add_zero, Nat.reduceAdd, Nat.reduceSub, Nat.reduceEqDiff, at_app0, at_appk, set_app0, set_appk, List.append_assoc, List.cons_append, List.nil_append, List.append_nil, List.map_cons, List.map_nil, List.replicate, Vz.Q.fn_dat, Vz.Q.fn_nx, Vz.Q.fn_exc, Vz.Q.fn_exn, Vz.Q.fn_loc, Vz.Q.retC_lst, Vz.Q.retC_frz, Vz.Q.retC_dT, Vz.Q.retC_dK, Vz.Q.bodyF_, Vz.Q.bodyO_, Vz.Q.cutR_nil, Vz.Q.cutR_cons, Vz.Q.cutW_dat, Vz.Q.cutW_none, Vz.Q.cutW_exn, Vz.Q.cutW_loc, Vz.Q.cutW_locN, wipeR, List.take_succ_cons, List.take_length, List.take_left, take_appk, List.take_zero, List.take_nil, Vz.Q.v_yes, Vz.Q.v_lcB, Vz.Q.lcO_, Vz.Q.v_cname, Vz.Q.v_ctup, Vz.Q.v_cnnil, Vz.Q.v_cncons, Vz.Q.bb_tf, Vz.Q.bb_ft, Vz.Q.bb_tt, Vz.Q.bb_ff, Vz.Q.bn_tf, Vz.Q.bn_ft, Vz.Q.bn_tt, Vz.Q.bn_ff, eqD_bb, neD_bb, Bool.not_true, Bool.not_false, Bool.and_true, Bool.true_and, Bool.and_self, decide_true, decide_false, eq_self, $hs,*])
local macro_rules
  | `(tactic| simp_arith! [$hs,*]) => `(tactic| simp -implicitDefEqProofs -dsimp (disch := first | assumption | omega | (simp only [List.length_map, List.length_append, List.length_cons, List.length_nil, List.length_range, List.length_take, List.length_drop, List.length_replicate, List.length_reverse, List.length_zipIdx]; omega)) only [Vz.Q.ifB_t, Vz.Q.ifB_f, Vz.Q.bind_ok, Vz.Q.bind_exc, Vz.Q.then_ok, Vz.Q.then_exc, Vz.Q.andThen_nx, Vz.Q.andThen_rt, Vz.Q.andThen_exc, Vz.Q.andThen_bk, Vz.Q.andThen_ct, Vz.Q.lift_some, Vz.Q.ofo_some, Vz.Q.get_ok, Vz.Q.noX_ok, Vz.Q.ifO_t, Vz.Q.varO_, Vz.Q.v_var, Vz.Q.v_c, Vz.Q.v_bin, Vz.Q.v_b, Vz.Q.asB_, Vz.Q.v_and, Vz.Q.v_or, Vz.Q.v_not, Vz.Q.v_v, Vz.Q.v_andV, Vz.Q.v_orV, Vz.Q.v_notV, Vz.Q.v_if, Vz.Q.v_chain, Vz.Q.v_anil, Vz.Q.v_acons, Vz.Q.v_tup, Vz.Q.v_tupK, Vz.Q.v_frz, Vz.Q.v_cell, Vz.Q.v_disp, Vz.Q.lsO_, Vz.Q.v_cat, Vz.Q.v_call, Vz.Q.v_lcall, Vz.Q.v_app, Vz.Q.v_appK, Vz.Q.v_nil, Vz.Q.v_pass, Vz.Q.v_seq, Vz.Q.v_break, Vz.Q.v_cont, Vz.Q.v_expr, Vz.Q.v_ret, Vz.Q.v_retN, Vz.Q.v_sif, Vz.Q.v_set, Vz.Q.v_setLc, Vz.Q.v_setLf, Vz.Q.v_aug, Vz.Q.parO_, Vz.Q.v_par, Vz.Q.nxO_, Vz.Q.v_asg, Vz.Q.v_oname, Vz.Q.v_onnil, Vz.Q.v_oncons, Vz.Q.v_otup, Vz.Q.v_osub, Vz.Q.v_fz, Vz.Q.v_meth, Vz.Q.v_meth0, Vz.Q.someR_, Vz.Q.v_index, Vz.Q.v_isi, Vz.Q.v_neg, Vz.Q.v_rev, Vz.Q.v_range, Vz.Q.v_sl, Vz.Q.v_no, Vz.Q.v_yesI, Vz.Q.v_dictT, Vz.Q.v_iseq, Vz.Q.v_iargs, Vz.Q.v_ifr, Vz.Q.rd_dat, Vz.Q.rd_loc, Vz.Q.rdC_lst, Vz.Q.rdC_frz, Vz.Q.rdC_dT, Vz.Q.rdC_dK, Vz.Q.rd2_, Vz.Q.rds_nil, Vz.Q.rds_cons, Vz.Q.dats_nil, Vz.Q.dats_cons, Vz.Q.small_1, Vz.Q.small_2, Vz.Q.small_3, Vz.Q.small_0, Vz.Q.small_, Vz.Q.one_, Vz.Q.two_, Vz.Q.frd_dat, Vz.Q.frd_loc, Vz.Q.frdC_frz, Vz.Q.frds_nil, Vz.Q.frds_cons, Vz.Q.LstW_, Vz.Q.lstB_, Vz.Q.lstC_, Vz.Q.lstO_, Vz.Q.v_append, Vz.Q.v_insert, Vz.Q.v_extend, Vz.Q.v_popAt, Vz.Q.asInt_, Vz.Q.asLs_, Vz.Q.v_stB, Vz.Q.lim_app, Vz.Q.lim_le, Vz.Q.lim_lt, Vz.Q.addL_, Vz.Q.addD_ll, Vz.Q.addD_tt, Option.bind_some, Option.map_some, addD_ii, subI_ii, ltI_ii, leI_ii, gtI_ii, geI_ii, eqD_ii, isN_non, isN_int, isN_str, List.getElem?_cons_zero, List.getElem?_cons_succ, List.set_cons_zero, List.set_cons_succ, List.length_cons, List.length_nil, List.length_append, Nat.zero_add, Nat.add_zero, Nat.reduceAdd, Nat.reduceSub, Nat.reduceEqDiff, at_app0, at_appk, set_app0, set_appk, List.append_assoc, List.cons_append, List.nil_append, List.append_nil, List.map_cons, List.map_nil, List.replicate, Vz.Q.fn_dat, Vz.Q.fn_nx, Vz.Q.fn_exc, Vz.Q.fn_exn, Vz.Q.fn_loc, Vz.Q.retC_lst, Vz.Q.retC_frz, Vz.Q.retC_dT, Vz.Q.retC_dK, Vz.Q.bodyF_, Vz.Q.bodyO_, Vz.Q.cutR_nil, Vz.Q.cutR_cons, Vz.Q.cutW_dat, Vz.Q.cutW_none, Vz.Q.cutW_exn, Vz.Q.cutW_loc, Vz.Q.cutW_locN, wipeR, List.take_succ_cons, List.take_length, List.take_left, take_appk, List.take_zero, List.take_nil, Vz.Q.v_yes, Vz.Q.v_lcB, Vz.Q.lcO_, Vz.Q.v_cname, Vz.Q.v_ctup, Vz.Q.v_cnnil, Vz.Q.v_cncons, Vz.Q.bb_tf, Vz.Q.bb_ft, Vz.Q.bb_tt, Vz.Q.bb_ff, Vz.Q.bn_tf, Vz.Q.bn_ft, Vz.Q.bn_tt, Vz.Q.bn_ff, eqD_bb, neD_bb, Bool.not_true, Bool.not_false, Bool.and_true, Bool.true_and, Bool.and_self, decide_true, decide_false, eq_self, Vz.Q.v_izd, Vz.Q.par3O_, Vz.Q.v_par3, Vz.Q.v_try, Vz.Q.try_exc, Vz.Q.try_nx, Vz.Q.try_rt, Vz.Q.drop_nx, Vz.Q.drop_rt, Vz.Q.v_raise1, Vz.Q.r1O_, Vz.Q.v_raise0, Vz.Q.v_isNo, Vz.Q.v_isNoN, Vz.Q.isNo_non, Vz.Q.isNo_exn, Vz.Q.v_isX, Vz.Q.isXW_, Vz.Q.v_xf, Vz.Q.xfW_, Vz.Q.v_oseq_t, Vz.Q.v_oseq_l, Vz.Q.enumD_l, Vz.Q.enumD_t, Vz.Q.nums_map, Vz.Q.listD_l, Vz.Q.listD_t, Vz.Q.tupleD_l, Vz.Q.tupleD_t, Vz.Q.lenD_l, Vz.Q.lenD_t, Vz.Q.cutD_l, Vz.Q.cutD_n, Vz.Q.revD_l, Vz.Q.fz_dat, Vz.Q.fz_loc, Vz.Q.fzC_lst, Vz.Q.fzC_frz, Vz.Q.isNN_non, Vz.Q.isNN_int, Vz.Q.isNN_str, Vz.Q.inD_l, Vz.Q.inD_t, Vz.Q.sqB_l, Vz.Q.sqB_t, Bool.false_xor, Bool.true_xor, asI, Vz.Q.walk_dl, Vz.Q.walk_dt, List.length_map, List.map_append, $hs,*])
def nD (p : Nat) : D := .int (p : Int)
/-- a list that is handed in: data, or a cell -/
def LsW (S : Sto) (w : W) (ds : List D) : Prop := w = .dat (.list ds) ∨ ∃ k, w = .loc k 0 ∧ (S[k]? = some (.lst ds) ∨ S[k]? = some (.frz (.list ds)))
theorem LsW.dat {S : Sto} {ds : List D} : LsW S (.dat (.list ds)) ds := .inl rfl
theorem LsW.rd {S : Sto} {w : W} {ds : List D} (h : LsW S w ds) : rd S w = some (.list ds) := by
  rcases h with rfl | ⟨k, rfl, h | h⟩
  · rfl
  · rw [rd_loc, h]; rfl
  · rw [rd_loc, h]; rfl
theorem LsW.app {S T : Sto} {w : W} {ds : List D} (h : LsW S w ds) : LsW (S ++ T) w ds := by
  rcases h with h | ⟨k, rfl, h⟩
  · exact .inl h
  · refine .inr ⟨k, rfl, ?_⟩
    have : k < S.length := by
      rcases h with h | h <;> exact (List.getElem?_eq_some_iff.mp h).1
    rw [List.getElem?_append_left this]
    exact h
theorem LsW.cut {S : Sto} {w : W} {ds : List D} (h : LsW S w ds) {n : Nat} (hn : S.length ≤ n) : cutW n (some w) = some w := by
  rcases h with rfl | ⟨k, rfl, h⟩
  · rfl
  · refine cutW_loc ?_
    have : k < S.length := by
      rcases h with h | h <;> exact (List.getElem?_eq_some_iff.mp h).1
    omega
theorem LsW.walk {S : Sto} {w : W} {ds : List D} (h : LsW S w ds) : ∃ wk, Vz.walk S w = some wk ∧ (wk = .ds ds ∨ ∃ k, wk = .cell k 0 ∧ S[k]? = some (.lst ds)) := by
  rcases h with rfl | ⟨k, rfl, h | h⟩
  · exact ⟨.ds ds, rfl, .inl rfl⟩
  · refine ⟨.cell k 0, ?_, .inr ⟨k, rfl, h⟩⟩
    unfold Vz.walk
    simp only [frd, h, Wk.ls, Vz.rd]
    rfl
  · refine ⟨.ds ds, ?_, .inl rfl⟩
    unfold Vz.walk
    simp only [frd, h]
    rfl
section
variable {S : Sto}
theorem lt_nat (a b : Nat) : decide ((a : Int) < (b : Int)) = decide (a < b) := by
  by_cases h : a < b
  · rw [decide_eq_true h, decide_eq_true (by omega)]
  · rw [decide_eq_false h, decide_eq_false (by omega)]
end
open PySem PySem.Spec PyProof.Rows L2 Vz Vz.Q Vz.G
section
variable {S : Sto}
theorem take_snoc {α : Type} {xs : List α} {i : Nat} {a : α} (h : xs[i]? = some a) : xs.take (i + 1) = xs.take i ++ [a] := by
  rw [List.take_add_one, h]; rfl
end
open PySem PySem.Spec PyProof.Rows L2 Vz Vz.Q Vz.G
section
variable {S : Sto}
def key (xs : List Int) (p : Nat) : Int := xs.getD p 0
def row (xs : List Int) (m : Nat → Int) (p : Nat) : Row := (key xs p, [(p : Int), m p])
/-- items, as a tuple or a list -/
def IsIt (it : D) (xs : List Int) : Prop := it = .tup .nod (xs.map D.int) ∨ it = .list (xs.map D.int)
theorem IsIt.seq {it : D} {xs : List Int} (h : IsIt it xs) : seqOf it = some (xs.map D.int) := by
  rcases h with rfl | rfl <;> rfl
theorem IsIt.len {it : D} {xs : List Int} (h : IsIt it xs) : lenD [it] = some (.int (xs.length : Nat)) := by
  rcases h with rfl | rfl
  · rw [lenD_t, List.length_map]
  · rw [lenD_l, List.length_map]
theorem IsIt.ix {it : D} {xs : List Int} (h : IsIt it xs) {p : Nat} (hp : p < xs.length) : ixD it (nD p) = some (.int (key xs p)) := by
  have e : (xs.map D.int)[p]? = some (.int (key xs p)) := by
    rw [List.getElem?_map, List.getElem?_eq_getElem hp]
    unfold key
    rw [List.getD_eq_getElem?_getD, List.getElem?_eq_getElem hp]
    rfl
  rcases h with rfl | rfl
  · exact ixD_t e
  · exact ixD_l e
theorem IsIt.inD {it : D} {xs : List Int} (h : IsIt it xs) {neg : Bool} {p : Int} : inD neg (.int p) it = some (.bool (xor neg (decide (p ∈ xs)))) := inD_seq h.seq
theorem IsIt.sqB {it : D} {xs : List Int} (h : IsIt it xs) : ∃ b, sqB it = some b ∧ ∀ a ∈ xs, ixOf b it (.int a) = some (xs.idxOf a) := by
  rcases h with rfl | rfl
  · refine ⟨true, rfl, fun a ha => ?_⟩
    show (intsOf (xs.map D.int)).bind (fun ns => findI a ns) = _
    rw [intsOf_map, Option.bind_some]
    cases hq : findI a xs with
    | some j => rw [(findI_ok hq).2]
    | none => exact absurd ha (findI_none hq)
  · exact ⟨false, rfl, fun a ha => ix_list ha⟩
end
open PySem PySem.Spec PyProof.Rows L2 Vz Vz.Q Vz.G
section
variable {S : Sto}
end
open PySem PySem.Spec PyProof.Rows L2 Vz Vz.Q Vz.G
section
variable {S : Sto}
theorem q_mark : SO (Str.ofString "?") := so_of _
theorem eqA_str (x : Str) (h : SO x) (i : Int) : eqD (.int i) (.str x) = some (.bool false) := by
  rw [eqD_of (show Vz.shp (.int i) = true from rfl) (shp_ok (d := .str x) (so_iff.mpr h) (Nat.zero_le _))]
  rfl
theorem eqA_q : eqD (.str "?") (.str "?") = some (.bool true) := by
  have h := shp_ok (d := .str "?") (so_iff.mpr q_mark) (Nat.zero_le _)
  rw [eqD_of h h]
  show some (D.bool (PyData.eqv (.str _) (.str _))) = _
  rw [eqv_str]
theorem marks_it {xs : List Int} {as : List Anc} {it t : D} (hx : IsIt it xs) (ht : seqOf t = some (as.map encA)) (ha : ∀ a ∈ as, a.inn xs) (hl : as.length ≤ 100) :
    F_marks_of [.dat it, .dat t] S = .ok (.dat (.list ((as.map (markA xs)).map encM))) S := by
  unfold F_marks_of b_marks_of
  rw [v_runF]
  suffices hh : On (fun o => Out.fn false S.length o = .ok (.dat (.list ((as.map (markA xs)).map encM))) S) _ from hh
  simp_arith! []
  obtain ⟨b, hb, hix⟩ := hx.sqB
  have hw : walk (S ++ [C.lst []]) (.dat t) = some (.ds (as.map encA)) := by
    unfold walk
    rw [show (frd (S ++ [C.lst []]) (.dat t)).bind seqOf = some (as.map encA) from ht]
  refine q_forI encA as (fun i ρ S' => ∃ o, S' = S ++ [.lst (((as.take i).map (markA xs)).map encM)] ∧ ρ = [some (.dat it), some (.dat t), some (.loc S.length 0), o]) (S1 := S ++ [.lst []]) ?_ ⟨_, rfl, rfl⟩ ?_ ?_
  · simp_arith! [hw]
  · rintro i a hi ρ S' ⟨o, rfl, rfl⟩
    have hm := ha a (List.mem_of_getElem? hi)
    have hil := (List.getElem?_eq_some_iff.mp hi).1
    have hlen : ((as.take i).map (markA xs)).length ≤ 100 := by rw [List.length_map, List.length_take]; omega
    rw [take_snoc hi]
    cases a with
    | front =>
      have i1 : isN (encA .front) .none = some (.bool true) := rfl
      refine ⟨_, _, by (simp_arith! [i1]; try rfl), some (.dat (encA .front)), by (simp_arith! []; try rfl), by (simp_arith! []; try rfl)⟩
    | unk =>
      have i1 : isN (encA .unk) .none = some (.bool false) := rfl
      have i2 : eqD (encA .unk) (.str "?") = some (.bool true) := eqA_q
      refine ⟨_, _, by (simp_arith! [i1, i2]; try rfl), some (.dat (encA .unk)), by (simp_arith! []; try rfl), by (simp_arith! []; try rfl)⟩
    | it k =>
      have i1 : isN (encA (.it k)) .none = some (.bool false) := rfl
      have i2 : eqD (encA (.it k)) (.str "?") = some (.bool false) := eqA_str _ q_mark k
      have i3 : ixOf b it (encA (.it k)) = some (xs.idxOf k) := hix k hm
      refine ⟨_, _, by (simp_arith! [i1, i2, hb, i3]; try rfl), some (.dat (encA (.it k))), by (simp_arith! []; try rfl), by (simp_arith! []; try rfl)⟩
  · rintro ρ S' ⟨o, rfl, rfl⟩
    rw [List.take_length]
    show On _ (sRet _ _ _)
    simp_arith! [On]
/-- a list and its anchors -/
structure Cs (xs : List Int) (as : List Anc) : Prop where
  nd : xs.Nodup
  len : as.length = xs.length
  inn : ∀ a ∈ as, a.inn xs
  n12 : xs.length ≤ 12
abbrev mks (xs : List Int) (as : List Anc) : List Mark := as.map (markA xs)
variable {xs : List Int} {as : List Anc} {it t : D}
theorem Cs.mlen (h : Cs xs as) : (mks xs as).length = xs.length := by rw [List.length_map, h.len]
theorem key_idx (h : xs.Nodup) {p : Nat} (hp : p < xs.length) : xs.idxOf (key xs p) = p ∧ key xs p ∈ xs := by
  unfold key
  rw [List.getD_eq_getElem?_getD, List.getElem?_eq_getElem hp]
  exact ⟨h.idxOf_getElem p hp, List.getElem_mem hp⟩
end
open PySem PySem.Spec PyProof.Rows L2 Vz Vz.Q Vz.G
section
variable {S : Sto} {xs : List Int} {as : List Anc} {it t : D}
theorem Path.drop {ms : List Mark} {ord : List Nat} : ∀ {τ ps : List Nat}, Path ms ord ps τ → ∀ i, Path ms ord (ps ++ τ.take i) (τ.drop i)
  | [], ps, _, i => by simp [Path]
  | p :: τ, ps, h, 0 => by simpa using h
  | p :: τ, ps, h, i + 1 => by
    have := Path.drop h.2 i
    rw [List.append_assoc] at this
    exact this
theorem Path.st {ms : List Mark} {ord : List Nat} (ho : ord.Perm (List.range ms.length)) : ∀ {τ ps : List Nat} {k : Nat}, St ms.length ps (τ.length + k) → Path ms ord ps τ → St ms.length (ps ++ τ) k
  | [], ps, k, h, _ => by simpa using h
  | p :: τ, ps, k, h, hp => by
    obtain ⟨a1, a2, _, _⟩ := okN_mem ho hp.1
    have h' : St ms.length ps (τ.length + k + 1) := by
      rw [show τ.length + k + 1 = (p :: τ).length + k by rw [List.length_cons]; omega]; exact h
    have := Path.st ho (h'.snoc a1 a2) hp.2
    rwa [List.append_assoc] at this
end
open PySem PySem.Spec PyProof.Rows L2 Vz Vz.Q Vz.G
section
variable {S : Sto} {xs : List Int} {as : List Anc} {it t : D}
def tmPairs (qs : List Int) (k : Nat) : List (Key × D) := (qs.zipIdx k).map fun p => ((.inl p.1 : Key), D.int (p.2 : Nat))
theorem merge_get : ∀ (qs : List Int) (k : Nat) (acc : List (Key × D)) (v : Int), qs.Nodup →
    valD ((tmPairs qs k).foldl (fun acc p => putD acc p.1 p.2) acc) (.inl v) = if v ∈ qs then some (.int ((k + qs.idxOf v : Nat) : Int)) else valD acc (.inl v)
  | [], k, acc, v, _ => by simp [tmPairs]
  | q :: qs, k, acc, v, h => by
    obtain ⟨h1, h2⟩ := List.nodup_cons.mp h
    show valD ((tmPairs qs (k + 1)).foldl (fun acc p => putD acc p.1 p.2) (putD acc (.inl q) (.int (k : Nat)))) (.inl v) = _
    rw [merge_get qs (k + 1) _ v h2, valD_put]
    by_cases hv : v = q
    · subst hv
      simp [h1]
    · have hk : ¬ ((.inl q : Key) = .inl v) := fun e => hv (by injection e with e; exact e.symm)
      rw [if_neg hk]
      have hm : v ∈ q :: qs ↔ v ∈ qs := by
        rw [List.mem_cons]
        exact ⟨fun c => c.resolve_left hv, .inr⟩
      by_cases hq : v ∈ qs
      · rw [if_pos hq, if_pos (hm.mpr hq), List.idxOf_cons]
        have : (q == v) = false := by simpa using fun e => hv e.symm
        rw [this]
        simp only [cond_false]
        congr 2
        omega
      · rw [if_neg hq, if_neg fun c => hq (hm.mp c)]
theorem pairsK_tm (qs : List Int) (k : Nat) : pairsK ((qs.zipIdx k).map fun p => D.tup .nod [.int p.1, .int (p.2 : Nat)]) = some (tmPairs qs k) := by
  unfold tmPairs
  induction qs generalizing k with
  | nil => rfl
  | cons q qs ih =>
    show (keyOf (.int q)).bind (fun k0 => (pairsK _).bind fun ps => some ((k0, D.int (k : Nat)) :: ps)) = _
    rw [ih (k + 1)]
    rfl
theorem dget_tm {qs : List Int} (h : qs.Nodup) {v : Int} (hv : v ∈ qs) : dgetD (.dK (mergeD (tmPairs qs 0))) (.int v) = some (.int (qs.idxOf v : Nat)) := by
  show (keyOf (.int v)).bind (fun k => valD (mergeD (tmPairs qs 0)) k) = _
  show valD (mergeD (tmPairs qs 0)) (.inl v) = _
  unfold mergeD
  rw [merge_get qs 0 [] v h, if_pos hv, Nat.zero_add]
/-- the last place ahead of p that is earlier -/
def tieF (tm : Nat → Nat) (p : Nat) (n : Nat) : Option Nat := (List.range n).foldl (fun t q => if tm q < tm p then some q else t) none
theorem tieF_succ (tm : Nat → Nat) (p n : Nat) : tieF tm p (n + 1) = if tm n < tm p then some n else tieF tm p n := by
  unfold tieF
  rw [List.range_succ, List.foldl_append]
  rfl
theorem tieF_iff {tm : Nat → Nat} {p : Nat} : ∀ {n : Nat}, (tieF tm p n = none ∧ ∀ q, q < n → ¬ tm q < tm p) ∨ ∃ q, tieF tm p n = some q ∧ q < n ∧ tm q < tm p ∧ ∀ r, q < r → r < n → ¬ tm r < tm p
  | 0 => .inl ⟨rfl, fun q h => by omega⟩
  | n + 1 => by
    rw [tieF_succ]
    by_cases h : tm n < tm p
    · rw [if_pos h]
      exact .inr ⟨n, rfl, by omega, h, fun r h1 h2 => by omega⟩
    · rw [if_neg h]
      rcases tieF_iff (tm := tm) (p := p) (n := n) with ⟨e, h1⟩ | ⟨q, e, h1, h2, h3⟩
      · refine .inl ⟨e, fun q hq => ?_⟩
        by_cases hqn : q = n
        · rw [hqn]; exact h
        · exact h1 q (by omega)
      · refine .inr ⟨q, e, by omega, h2, fun r hr hrn => ?_⟩
        by_cases hqn : r = n
        · rw [hqn]; exact h
        · exact h3 r hr (by omega)
def tieV (xs : List Int) (tm : Nat → Nat) (p : Nat) : Option Int := (tieF tm p p).map (key xs)
def tiesD (xs : List Int) (tm : Nat → Nat) : D := .tup .nod ((List.range xs.length).map fun p => tieD (tieV xs tm p))
theorem ties_ok {q : D} {qs : List Int} (hx : IsIt it xs) (hn : xs.length ≤ 20) (hq : IsIt q qs) (hnd : qs.Nodup) (hsub : ∀ v ∈ xs, v ∈ qs) (hql : qs.length ≤ 100) : F__law_ties [.dat it, .dat q] S = .ok (.dat (tiesD xs fun p => qs.idxOf (key xs p))) S := by
  unfold F__law_ties b__law_ties
  rw [v_runF]
  suffices hh : On (fun o => Out.fn false S.length o = .ok (.dat (tiesD xs fun p => qs.idxOf (key xs p))) S) _ from hh
  have e : lComp (iFr (one enumD) (aCons (fVar 1) aNil)) [8, 5] (cTup 2 (cnCons 8 (cnCons 5 cnNil))) fYes (fTup (aCons (fVar 5) (aCons (fVar 8) aNil))) [some (.dat it), some (.dat q), none, none, none, none, none, none, none] S = .ok (qs.zipIdx.map fun p => D.tup .nod [.int p.1, .int (p.2 : Nat)]) S := by
    refine x_compM (enc := fun p : Int × Nat => .tup .key [.int (p.2 : Nat), .int p.1]) (xs := qs.zipIdx) ?_ (by rw [List.length_zipIdx]; unfold lim; omega) fun p hp => ⟨[], ?_⟩
    · have hen : enumD q = some (qs.zipIdx.map fun p => D.tup .key [.int (p.2 : Nat), .int p.1]) := by
        show (seqOf q).map (nums 0) = _
        rw [hq.seq, Option.map_some, nums_map]
      simp_arith! [hen]
    · simp_arith! []
  have hdict : dictPD [.list (qs.zipIdx.map fun p => D.tup .nod [.int p.1, .int (p.2 : Nat)])] = some (.dK (mergeD (tmPairs qs 0))) := by
    show (pairsK _).map (fun ps => D.dK (mergeD ps)) = _
    rw [pairsK_tm]
    rfl
  simp_arith! [e, hdict]
  have hen2 : enumD it = some (xs.zipIdx.map fun p => D.tup .key [.int (p.2 : Nat), .int p.1]) := by
    show (seqOf it).map (nums 0) = _
    rw [hx.seq, Option.map_some, nums_map]
  refine q_forI (fun p : Int × Nat => .tup .key [.int (p.2 : Nat), .int p.1]) xs.zipIdx (fun i ρ S' => ∃ o4 o5 o6 o7 o8, S' = S ++ [.lst ((List.range i).map fun p => tieD (tieV xs (fun p => qs.idxOf (key xs p)) p))] ∧ ρ = [some (.dat it), some (.dat q), some (.dat (.dK (mergeD (tmPairs qs 0)))), some (.loc S.length 0), o4, o5, o6, o7, o8]) (S1 := S ++ [.lst []]) ?_ ⟨_, _, _, _, _, rfl, rfl⟩ ?_ ?_
  · simp_arith! [hen2]
  · rintro i ⟨v, j⟩ ha ρ S' ⟨o4, o5, o6, o7, o8, rfl, rfl⟩
    obtain ⟨hi, rfl, hp⟩ : i < xs.length ∧ j = i ∧ xs[i]? = some v := by
      rw [List.getElem?_zipIdx] at ha
      cases hx : xs[i]? with
      | none => rw [hx] at ha; cases ha
      | some v =>
        rw [hx] at ha
        simp only [Option.map_some, Option.some.injEq, Prod.mk.injEq] at ha
        exact ⟨(List.getElem?_eq_some_iff.mp hx).1, by omega, by rw [ha.1]⟩
    have hkey : key xs j = v := by
      unfold key
      rw [List.getD_eq_getElem?_getD, hp]
      rfl
    have hcut : ∃ d, cutD none (some (j : Int)) it = some d ∧ seqOf d = some ((xs.take j).map D.int) := by
      rcases hx with rfl | rfl
      · exact ⟨_, cutD_n, by show some _ = _; rw [cut_take, List.map_take]⟩
      · exact ⟨_, cutD_l, by show some _ = _; rw [cut_take, List.map_take]⟩
    obtain ⟨d, hc1, hc2⟩ := hcut
    have hwd : ∀ T, walk T (.dat d) = some (.ds ((xs.take j).map D.int)) := fun T => by
      unfold walk
      rw [show (frd T (.dat d)).bind seqOf = some ((xs.take j).map D.int) from hc2]
    have hlen1 : ((List.range j).map fun p => tieD (tieV xs (fun p => qs.idxOf (key xs p)) p)).length ≤ 20 := by simp; omega
    have tv := dget_tm hnd (hsub v (List.mem_of_getElem? hp))
    -- the body, by a cut at its inner loop
    suffices hb : On (fun o => ∃ ρ' S', o = .nx ρ' S' ∧ ∃ o4 o5 o6 o7 o8, S'.take (S.length + 1) = S ++ [.lst ((List.range (j + 1)).map fun p => tieD (tieV xs (fun p => qs.idxOf (key xs p)) p))] ∧ cutR (S.length + 1) ρ' = [some (.dat it), some (.dat q), some (.dat (.dK (mergeD (tmPairs qs 0)))), some (.loc S.length 0), o4, o5, o6, o7, o8]) (bodyF (oTup 2 (onCons (oName 4) (onCons (oName 5) onNil))) _ (D.tup .key [.int (j : Nat), .int v]) [some (.dat it), some (.dat q), some (.dat (.dK (mergeD (tmPairs qs 0)))), some (.loc S.length 0), o4, o5, o6, o7, o8] (S ++ [.lst ((List.range j).map fun p => tieD (tieV xs (fun p => qs.idxOf (key xs p)) p))])) by
      obtain ⟨ρ', S', e1, o4, o5, o6, o7, o8, e2, e3⟩ := hb
      have hl : (S ++ [C.lst []]).length = S.length + 1 := by simp
      rw [hl]
      exact ⟨ρ', S', e1, o4, o5, o6, o7, o8, e2, e3⟩
    simp_arith! []
    refine q_forI D.int (xs.take j) (fun i ρ S' => ∃ o7 o8, S' = S ++ [.lst ((List.range j).map fun p => tieD (tieV xs (fun p => qs.idxOf (key xs p)) p))] ∧ ρ = [some (.dat it), some (.dat q), some (.dat (.dK (mergeD (tmPairs qs 0)))), some (.loc S.length 0), some (.dat (.int (j : Nat))), some (.dat (.int v)), some (.dat (tieD ((tieF (fun p => qs.idxOf (key xs p)) j i).map (key xs)))), o7, o8]) (S1 := S ++ [.lst ((List.range j).map fun p => tieD (tieV xs (fun p => qs.idxOf (key xs p)) p))]) ?_ ⟨o7, o8, rfl, rfl⟩ ?_ ?_
    · simp_arith! [hc1, hwd]
    · rintro i u hu ρ S' ⟨o7, o8, rfl, rfl⟩
      have hij : i < j := by
        have := (List.getElem?_eq_some_iff.mp hu).1
        rw [List.length_take] at this
        omega
      have hu2 : xs[i]? = some u := by rw [List.getElem?_take_of_lt hij] at hu; exact hu
      have hku : key xs i = u := by
        unfold key
        rw [List.getD_eq_getElem?_getD, hu2]
        rfl
      have tu := dget_tm hnd (hsub u (List.mem_of_getElem? hu2))
      have lc := lt_nat (qs.idxOf u) (qs.idxOf v)
      have fs := tieF_succ (fun p => qs.idxOf (key xs p)) j i
      simp only [hkey, hku] at fs
      rw [fs]
      by_cases hlt : qs.idxOf u < qs.idxOf v
      · rw [decide_eq_true hlt] at lc
        rw [if_pos hlt]
        refine ⟨_, _, by (simp_arith! [tu, tv, lc]; try rfl), some (.dat (.int u)), cutW (S.length + 1) o8, by (simp_arith! []; try rfl), ?_⟩
        rw [Option.map_some, hku]
        (simp_arith! [tieD]; try rfl)
      · rw [decide_eq_false hlt] at lc
        rw [if_neg hlt]
        exact ⟨_, _, by (simp_arith! [tu, tv, lc]; try rfl), some (.dat (.int u)), cutW (S.length + 1) o8, by (simp_arith! []; try rfl), by (simp_arith! []; try rfl)⟩
    · rintro ρ S' ⟨o7, o8, rfl, rfl⟩
      have hlt : (xs.take j).length = j := by rw [List.length_take]; omega
      rw [hlt]
      show On _ (sExpr _ _ _)
      have hr : (List.range (j + 1)).map (fun p => tieD (tieV xs (fun p => qs.idxOf (key xs p)) p)) = (List.range j).map (fun p => tieD (tieV xs (fun p => qs.idxOf (key xs p)) p)) ++ [tieD ((tieF (fun p => qs.idxOf (key xs p)) j j).map (key xs))] := by
        rw [List.range_succ, List.map_append]
        rfl
      rw [hr]
      simp_arith! []
      exact ⟨_, _, rfl, some (.dat (.int (j : Nat))), some (.dat (.int v)), some (.dat (tieD ((tieF (fun p => qs.idxOf (key xs p)) j j).map (key xs)))), cutW (S.length + 1) o7, cutW (S.length + 1) o8, by (simp_arith! []; try rfl), by (simp_arith! []; try rfl)⟩
  · rintro ρ S' ⟨o4, o5, o6, o7, o8, rfl, rfl⟩
    rw [List.length_zipIdx]
    show On _ (sRet _ _ _)
    simp_arith! [On]
    rfl
end
open PySem PySem.Spec PyProof.Rows L2 Vz Vz.Q Vz.G
section
variable {S : Sto} {xs : List Int} {as : List Anc} {it t : D}
/-- the anchor at p agrees with the law's own -/
def agB (xs : List Int) (as : List Anc) (tm : Nat → Nat) (p : Nat) : Bool := match as.getD p .unk with
  | .unk => true
  | .front => (tieV xs tm p).isNone
  | .it k => decide (tieV xs tm p = some k)
def agT (xs : List Int) (as : List Anc) (tm : Nat → Nat) : Bool := (List.range xs.length).all (agB xs as tm)
theorem eq_nq : eqD .none (.str "?") = some (.bool false) := by
  rw [eqD_of (show Vz.shp .none = true from rfl) (shp_ok (d := .str "?") (so_iff.mpr q_mark) (Nat.zero_le _))]
  rfl
theorem allD_b (bs : List Bool) : allD [.list (bs.map D.bool)] = some (.bool (bs.all id)) := by
  show (boolsOf (bs.map D.bool)).map (fun ns => D.bool (ns.all id)) = _
  rw [boolsOf_map, Option.map_some]
end
open PySem PySem.Spec PyProof.Rows L2 Vz Vz.Q Vz.G
section
variable {S : Sto} {xs : List Int} {as : List Anc} {it t : D}
end
open PySem PySem.Spec PyProof.Rows L2 Vz Vz.Q Vz.G
section
variable {xs : List Int} {as : List Anc} {it t : D} {rest : Sto}
/-- a comprehension that draws -/
theorem lcL_draw {α : Type} {enc : α → D} {Rl : α → D → Prop} {bd : D → Sto → R (Option D)} {c : Nat} : ∀ (L : List α) (m : Nat) (x : C), (∀ a ∈ L, ∀ m x, SrcOk (m + c) x → ∃ d y, Rl a d ∧ SrcOk m y ∧ bd (enc a) (x :: rest) = .ok (some d) (y :: rest)) → SrcOk (m + c * L.length) x →
    ∃ ds y, Paired Rl L ds ∧ SrcOk m y ∧ lcL (rest.length + 1) bd (L.map enc) (x :: rest) = .ok ds (y :: rest)
  | [], m, x, _, hx => ⟨[], x, .nil, hx, rfl⟩
  | a :: L, m, x, h, hx => by
    obtain ⟨d, y, h1, h2, h3⟩ := h a (List.mem_cons_self ..) (m + c * L.length) x (by rw [List.length_cons, Nat.mul_add] at hx; exact hx.less (by omega))
    obtain ⟨ds, z, h4, h5, h6⟩ := lcL_draw L m y (fun b hb => h b (List.mem_cons_of_mem _ hb)) h2
    refine ⟨d :: ds, z, .cons h1 h4, h5, ?_⟩
    show R.bind (bd (enc a) (x :: rest)) _ = _
    rw [h3]
    show R.bind (lcL (rest.length + 1) bd (L.map enc) ((y :: rest).take (rest.length + 1))) _ = _
    rw [List.take_succ_cons, List.take_length, h6]
    rfl
theorem compDraw {fi : FI} {vs : List Nat} {gg : FC} {t : FT} {f : FE} {ρ : Rho} {α : Type} {enc : α → D} {Rl : α → D → Prop} {c : Nat} {L : List α} {m : Nat} {x : C} (hi : fi ρ (x :: rest) = .ok (.ds (L.map enc)) (x :: rest)) (hl : L.length ≤ 1000)
    (h : ∀ a ∈ L, ∀ m x, SrcOk (m + c) x → ∃ d y, Rl a d ∧ SrcOk m y ∧ lcB gg t f (wipeR ρ vs) (enc a) (x :: rest) = .ok (some d) (y :: rest)) (hx : SrcOk (m + c * L.length) x) :
    ∃ ds y, Paired Rl L ds ∧ SrcOk m y ∧ lComp fi vs gg t f ρ (x :: rest) = .ok ds (y :: rest) := by
  obtain ⟨ds, y, h1, h2, h3⟩ := lcL_draw L m x h hx
  refine ⟨ds, y, h1, h2, ?_⟩
  unfold lComp
  rw [hi]
  have hs : small (L.map enc) = some (L.map enc) := small_ (by rw [List.length_map]; exact hl)
  simp only [R.bind, Wk.ls, Option.bind_some, hs]
  rw [lcF_list _ 0 _ (Nat.zero_add _), List.drop_zero]
  exact h3
def Veil (a a' : Anc) : Prop := a' = .unk ∨ a' = a
theorem veil_list : ∀ {as : List Anc} {ds : List D}, Paired (fun a d => ∃ a', d = encA a' ∧ Veil a a') as ds → ∃ as', ds = as'.map encA ∧ Paired Veil as as'
  | _, _, .nil => ⟨[], rfl, .nil⟩
  | _, _, .cons ⟨a', e, h⟩ r => by
    obtain ⟨as', e2, h2⟩ := veil_list r
    exact ⟨a' :: as', by rw [e, e2]; rfl, .cons h h2⟩
theorem veiled_ok {x : C} {m : Nat} (ht : seqOf t = some (as.map encA)) (hl : as.length ≤ 20) (hx : SrcOk (m + 2 + 2 * as.length) x) :
    ∃ as' y, Paired Veil as as' ∧ SrcOk m y ∧ F__law_veiled [.loc 0 0, .dat t] (x :: rest) = .ok (.dat (.tup .nod (as'.map encA))) (y :: rest) := by
  have hG : DrawB (F__law_draw 3) := drawB_of
  have hch : F__law_choice = runF 2 false (bChoice (F__law_draw 3)) := rfl
  unfold F__law_veiled b__law_veiled B__law_veiled
  rw [hch]
  generalize F__law_draw 3 = G at hG
  obtain ⟨d, x1, d1, d2, d3⟩ := choice_ok hG (ds := [.int 0, .int 2, .int 5, .int 8]) (m := m + 2 * as.length) (hx.less (by omega)) (by simp) (by decide)
  obtain ⟨od, rfl⟩ : ∃ i, d = .int i := by
    simp only [List.mem_cons, List.not_mem_nil, or_false] at d1
    rcases d1 with rfl | rfl | rfl | rfl <;> exact ⟨_, rfl⟩
  have d3 := d3 rest
  have hw : ∀ T, walk T (.dat t) = some (.ds (as.map encA)) := fun T => by
    unfold walk
    rw [show (frd T (.dat t)).bind seqOf = some (as.map encA) from ht]
  obtain ⟨ds, y, p1, p2, p3⟩ := compDraw (rest := rest) (fi := iSeq (fVar 1)) (vs := [3]) (gg := cName 3) (t := fYes) (f := fIf (fB (fBin ltI (fApp 2 G (aCons (fVar 0) (aCons (fC (.int 9)) aNil))) (fVar 2))) (fC (.str "?")) (fVar 3)) (ρ := [some (.loc 0 0), some (.dat t), some (.dat (.int od)), none]) (enc := encA) (Rl := fun a d => ∃ a', d = encA a' ∧ Veil a a') (c := 2) (L := as) (m := m) (x := x1) (by simp_arith! [hw]) (by omega) (fun a _ m x hx => by
    obtain ⟨r, y, h1, h2, h3, h4⟩ := hG m x 9 hx (by decide) (by decide)
    have h1 := h1 rest
    by_cases hr : r < od
    · exact ⟨encA .unk, y, ⟨.unk, rfl, .inl rfl⟩, h4, by simp_arith! [h1, hr]; rfl⟩
    · exact ⟨encA a, y, ⟨a, rfl, .inr rfl⟩, h4, by simp_arith! [h1, hr]⟩) d2
  obtain ⟨as', rfl, hv⟩ := veil_list p1
  refine ⟨as', y, hv, p2, ?_⟩
  generalize runF 2 false (bChoice G) = CH at d3
  rw [v_runF]
  simp_arith! [d3, p3]
def ancV : Option Int → Anc
  | none => .front
  | some k => .it k
theorem enc_ancV (v : Option Int) : encA (ancV v) = tieD v := by cases v <;> rfl
theorem prd_len {α β : Type} {R : α → β → Prop} : ∀ {l : List α} {m : List β}, Paired R l m → l.length = m.length
  | _, _, .nil => rfl
  | _, _, .cons _ r => congrArg Nat.succ (prd_len r)
theorem tieV_mem {tm : Nat → Nat} {p : Nat} {k : Int} (hp : p < xs.length) (h : tieV xs tm p = some k) : k ∈ xs := by
  unfold tieV at h
  rcases tieF_iff (tm := tm) (p := p) (n := p) with ⟨e, _⟩ | ⟨q, e, hq, _, _⟩
  · rw [e] at h; cases h
  · rw [e] at h
    injection h with h
    subst h
    have : q < xs.length := by omega
    unfold key
    rw [List.getD_eq_getElem?_getD, List.getElem?_eq_getElem this]
    exact List.getElem_mem _
theorem case_ok {x : C} {m most : Nat} (hx : SrcOk (m + 200) x) (hm : most ≤ 12) :
    ∃ (xs : List Int) (as : List Anc) (qs : List Int) (y : C), Cs xs as ∧ xs.length ≤ most ∧ (∀ i ∈ xs, 0 ≤ i ∧ i < 10 ^ 10) ∧ qs.Perm xs ∧ agT xs as (fun p => qs.idxOf (key xs p)) = true ∧ SrcOk m y ∧
      F__law_case [.loc 0 0, .dat (.int (most : Nat))] (x :: rest) = .ok (.dat (.tup .nod [tupI xs, .tup .nod (as.map encA), tupI qs])) (y :: rest) := by
  have hG : DrawB (F__law_draw 3) := drawB_of
  have hD : DrawOk (F__law_draw 3) := fun m x n rest h h1 h2 => draw_ok h h1 h2
  have hst : F__law_strand = runF 7 false (bStrand (F__law_draw 3)) := rfl
  have hsh : F__law_shuffled = runF 4 false (bShuf (F__law_draw 3)) := rfl
  obtain ⟨xs, x1, h1, h2, h3, h4, h5⟩ := strand_ok hG (m := m + 130) (most := most) (hx.less (by omega)) (by omega)
  have h5 := h5 rest
  obtain ⟨qs, x2, s1, s2, s3⟩ := shuf_ok (rest := rest) (d := .tup .nod (xs.map D.int)) hD (m := m + 110) (x := x1) (xs := xs) rfl (h4.less (by omega)) (by omega)
  have hqn : qs.Nodup := s1.nodup_iff.mpr h1
  have hti := ties_ok (S := x2 :: rest) (it := .tup .nod (xs.map D.int)) (q := .tup .nod (qs.map D.int)) (xs := xs) (.inl rfl) (by omega) (.inl rfl) hqn (fun v hv => s1.mem_iff.mpr hv) (by rw [s1.length_eq]; omega)
  obtain ⟨as0, has0⟩ : ∃ as0, (List.range xs.length).map (fun p => ancV (tieV xs (fun p => qs.idxOf (key xs p)) p)) = as0 := ⟨_, rfl⟩
  have hl0 : as0.length = xs.length := by rw [← has0]; simp
  have htd : tiesD xs (fun p => qs.idxOf (key xs p)) = .tup .nod (as0.map encA) := by
    unfold tiesD
    rw [← has0, List.map_map]
    congr 1
    refine List.map_congr_left fun p _ => ?_
    exact (enc_ancV _).symm
  rw [htd] at hti
  obtain ⟨as, y, v1, v2, v3⟩ := veiled_ok (t := .tup .nod (as0.map encA)) (as := as0) (rest := rest) (m := m) (x := x2) rfl (by omega) (s2.less (by omega))
  have hlen : as.length = xs.length := by rw [← prd_len v1, hl0]
  have hget : ∀ p, p < xs.length → as.getD p .unk = .unk ∨ as.getD p .unk = ancV (tieV xs (fun p => qs.idxOf (key xs p)) p) := by
    intro p hp
    have h0 : as0[p]? = some (ancV (tieV xs (fun p => qs.idxOf (key xs p)) p)) := by
      rw [← has0, List.getElem?_map, List.getElem?_range hp]
      rfl
    obtain ⟨a', e1, e2⟩ := prd_get v1 h0
    rw [List.getD_eq_getElem?_getD, e1]
    exact e2
  refine ⟨xs, as, qs, y, ⟨h1, hlen, fun a ha => ?_, by omega⟩, h2, h3, s1, ?_, v2, ?_⟩
  · obtain ⟨p, hp, rfl⟩ := List.getElem_of_mem ha
    have hg := hget p (by omega)
    rw [List.getD_eq_getElem?_getD, List.getElem?_eq_getElem hp] at hg
    have hg : as[p] = .unk ∨ as[p] = ancV (tieV xs (fun p => qs.idxOf (key xs p)) p) := hg
    rcases hg with e | e
    · rw [e]; exact trivial
    · rw [e]
      cases hv : tieV xs (fun p => qs.idxOf (key xs p)) p with
      | none => exact trivial
      | some k => exact tieV_mem (by omega) hv
  · unfold agT
    rw [List.all_eq_true]
    intro p hp
    have hp := List.mem_range.mp hp
    unfold agB
    rcases hget p hp with e | e
    · rw [e]
    · rw [e]
      cases hv : tieV xs (fun p => qs.idxOf (key xs p)) p with
      | none => rfl
      | some k => simp [ancV]
  · unfold F__law_case b__law_case B__law_case
    rw [hst, hsh]
    generalize F__law_draw 3 = G at h5 s3
    generalize F__law_veiled = VE at v3
    generalize F__law_ties = TI at hti
    generalize runF 7 false (bStrand G) = ST at h5
    generalize runF 4 false (bShuf G) = SH at s3
    rw [v_runF]
    simp_arith! [h5, s3, hti, v3]
/-- anchors that were changed -/
theorem spoiled_ok {x : C} {m : Nat} (h : Cs xs as) (ht : t = .tup .nod (as.map encA)) (hx : SrcOk (m + 40) x) :
    ∃ as' y, Cs xs as' ∧ SrcOk m y ∧ F__law_spoiled [.loc 0 0, .dat (tupI xs), .dat t] (x :: rest) = .ok (.dat (.tup .nod (as'.map encA))) (y :: rest) := by
  have hG : DrawB (F__law_draw 3) := drawB_of
  have hch : F__law_choice = runF 2 false (bChoice (F__law_draw 3)) := rfl
  have hn := h.n12
  subst ht
  unfold F__law_spoiled b__law_spoiled B__law_spoiled
  rw [hch]
  generalize F__law_draw 3 = G at hG
  obtain ⟨r, x1, d1, d2, d3⟩ := draw_nat hG (n := 3) (m := m + 38) (hx.less (by omega)) (by decide) (by decide)
  have d1 := d1 (rest ++ [.lst (as.map encA)])
  have d1 : G [.loc 0 0, .dat (.int 3)] (x :: (rest ++ [.lst (as.map encA)])) = _ := d1
  obtain ⟨z, hz, hz2⟩ : ∃ z : Nat, intD [.bool (decide ((0 : Int) < ((xs.length : Nat) : Int)))] = some (.int (z : Nat)) ∧ ((z = 1 ∧ 0 < xs.length) ∨ z = 0) := by
    by_cases h0 : 0 < xs.length
    · exact ⟨1, by rw [decide_eq_true (by omega)]; rfl, .inl ⟨rfl, h0⟩⟩
    · exact ⟨0, by rw [decide_eq_false (by omega)]; rfl, .inr rfl⟩
  have hmul : mulD (.int (1 + (r : Int))) (.int (z : Nat)) = some (.int (((1 + r) * z : Nat) : Int)) := by
    rw [mulD_r (by omega), Int.natCast_mul]
    rfl
  have hrng : rng1 [.int (((1 + r) * z : Nat) : Int)] = some ((List.range ((1 + r) * z)).map nD) := by
    have hb : (1 + r) * z ≤ 3 := by
      rcases hz2 with ⟨rfl, _⟩ | rfl
      · omega
      · omega
    show ifO _ (some (rng 0 _)) = _
    rw [decide_eq_true (by omega)]
    show some ((List.range (((1 + r) * z : Nat) : Int).toNat).map fun (i : Nat) => D.int (0 + (i : Int))) = _
    rw [Int.toNat_natCast]
    unfold nD
    simp
  suffices hh : On (fun o => ∃ as' y, Cs xs as' ∧ SrcOk m y ∧ Out.fn false (x :: rest).length o = .ok (.dat (.tup .nod (as'.map encA))) (y :: rest)) _ from hh
  simp_arith! []
  refine q_forI nD (List.range ((1 + r) * z)) (fun i ρ S' => ∃ (as' : List Anc) (y : C) (o4 o5 o6 : Option W), Cs xs as' ∧ SrcOk (m + 4 * ((1 + r) * z - i)) y ∧ S' = y :: (rest ++ [.lst (as'.map encA)]) ∧ ρ = [some (.loc 0 0), some (.dat (tupI xs)), some (.dat (.tup .nod (as.map encA))), some (.loc (rest.length + 1) 0), o4, o5, o6]) (S1 := x1 :: (rest ++ [.lst (as.map encA)])) ?_ ⟨as, x1, none, none, none, h, d3.less (by rcases hz2 with ⟨rfl, _⟩ | rfl <;> omega), rfl, rfl⟩ ?_ ?_
  · simp_arith! [d1, hz, hmul, hrng]
  · rintro i p hi ρ S' ⟨as', y, o4, o5, o6, hc, hy, rfl, rfl⟩
    obtain ⟨rfl, hi⟩ := range_at hi
    have hx0 : 0 < xs.length := by
      rcases hz2 with ⟨_, h0⟩ | rfl
      · exact h0
      · simp at hi
    obtain ⟨sp, y1, e1, e2, e3⟩ := draw_nat hG (n := xs.length) (m := m + 4 * ((1 + r) * z - (p + 1)) + 2) (hy.less (by omega)) hx0 (by omega)
    have e1 := e1 (rest ++ [.lst (as'.map encA)])
    have ix : ixD (tupI xs) (.int (sp : Int)) = some (.int (key xs sp)) := IsIt.ix (it := tupI xs) (.inl rfl) e2
    -- what may be chosen
    obtain ⟨ch, hch2, hchn, hcha⟩ : ∃ ch : List Anc, (((xs.map Anc.it ++ [Anc.front, Anc.unk]).filter fun a => match a with | .it k => decide (k ≠ key xs sp) | _ => true) = ch) ∧ ch ≠ [] ∧ ∀ a ∈ ch, a.inn xs := by
      refine ⟨_, rfl, ?_, fun a ha => ?_⟩
      · rw [List.filter_append]
        simp
      · have ha := (List.mem_filter.mp ha).1
        rcases List.mem_append.mp ha with ha | ha
        · obtain ⟨k, hk, rfl⟩ := List.mem_map.mp ha
          exact hk
        · simp only [List.mem_cons, List.not_mem_nil, or_false] at ha
          rcases ha with rfl | rfl <;> exact trivial
    have had : addD (tupI xs) (.tup .nod [.none, .str "?"]) = some (.tup .nod ((xs.map Anc.it ++ [Anc.front, Anc.unk]).map encA)) := by
      show addD (.tup .nod (xs.map D.int)) _ = _
      rw [addD_tt (by simp; omega), List.map_append, List.map_map]
      rfl
    have hcl : ch.length ≤ 20 := by
      rw [← hch2]
      refine Nat.le_trans (List.length_filter_le _ _) ?_
      simp; omega
    have ec : lComp (iSeq (fBin addD (fVar 1) (fTup (aCons (fC .none) (aCons (fC (.str "?")) aNil))))) [6] (cName 6) (fB (fBin neD (fVar 6) (fBin ixD (fVar 1) (fVar 5)))) (fVar 6) [some (.loc 0 0), some (.dat (tupI xs)), some (.dat (.tup .nod (as.map encA))), some (.loc (rest.length + 1) 0), some (.dat (nD p)), some (.dat (.int (sp : Int))), o6] (y1 :: (rest ++ [.lst (as'.map encA)])) = .ok (ch.map encA) (y1 :: (rest ++ [.lst (as'.map encA)])) := by
      rw [← hch2]
      refine x_compF (enc := encA) (xs := xs.map Anc.it ++ [Anc.front, Anc.unk]) ?_ (by simp; unfold lim; omega) fun a ha => ⟨[], ?_⟩
      · simp_arith! [had]
      · rw [List.append_nil]
        have hs1 : Vz.shp (.int (key xs sp)) = true := rfl
        cases a with
        | front =>
          have hne : neD (encA .front) (.int (key xs sp)) = some (.bool true) := rfl
          simp_arith! [ix, hne, if_true]
        | unk =>
          have hne : neD (encA .unk) (.int (key xs sp)) = some (.bool true) := by
            show neD (.str "?") _ = _
            rw [neD_of (shp_ok (d := .str "?") (so_iff.mpr q_mark) (Nat.zero_le _)) hs1]
            rfl
          simp_arith! [ix, hne, if_true]
        | it k =>
          have hne : neD (encA (.it k)) (.int (key xs sp)) = some (.bool (!decide (k = key xs sp))) := by
            show neD (.int k) _ = _
            rw [neD_of (show Vz.shp (.int k) = true from rfl) hs1]
            show some (D.bool (!(k == key xs sp))) = _
            congr 3
          by_cases hk : k = key xs sp
          · rw [decide_eq_true hk] at hne
            subst hk
            simp_arith! [ix, hne, ne_eq, not_true_eq_false, if_false, Bool.false_eq_true]
          · rw [decide_eq_false hk] at hne
            simp_arith! [ix, hne, hk, ne_eq, not_false_eq_true, if_true]
    obtain ⟨d, y2, c1, c2, c3⟩ := choice_ok hG (x := y1) (ds := ch.map encA) (m := m + 4 * ((1 + r) * z - (p + 1))) e3 (by simpa using hchn) (by rw [List.length_map]; omega)
    have c3 := c3 (rest ++ [.lst (as'.map encA)])
    obtain ⟨a, ha, rfl⟩ := List.mem_map.mp c1
    have hcal : sp < as'.length := by rw [hc.len]; exact e2
    have pc : putC (.lst (as'.map encA)) (.int (sp : Nat)) (encA a) = some (.lst ((as'.map encA).set sp (encA a))) := putC_l (by rw [List.length_map]; exact hcal)
    have e1 : G [.loc 0 0, .dat (.int (xs.length : Nat))] (y :: (rest ++ [.lst (as'.map encA)])) = _ := e1
    refine ⟨_, _, by (simp_arith! [e1, ec, c3, pc]; try rfl), as'.set sp a, y2, some (.dat (nD p)), some (.dat (.int (sp : Int))), cutW (rest.length + 2) o6, ⟨hc.nd, by rw [List.length_set]; exact hc.len, fun b hb => ?_, hn⟩, c2, ?_, ?_⟩
    · rcases List.mem_or_eq_of_mem_set hb with hb | rfl
      · exact hc.inn b hb
      · exact hcha _ ha
    · rw [List.map_set]
      (simp_arith! []; try rfl)
    · (simp_arith! []; try rfl)
  · rintro ρ S' ⟨as', y, o4, o5, o6, hc, hy, rfl, rfl⟩
    show On _ (sRet _ _ _)
    simp_arith! [On]
    exact ⟨as', y, hc, hy.less (by omega), rfl⟩
/-- a list and anchors, maybe impossible -/
theorem any_ok {x : C} {m most : Nat} (hx : SrcOk (m + 250) x) (hm : most ≤ 12) :
    ∃ (xs : List Int) (as : List Anc) (y : C), Cs xs as ∧ xs.length ≤ most ∧ (∀ i ∈ xs, 0 ≤ i ∧ i < 10 ^ 10) ∧ SrcOk m y ∧ F__law_any [.loc 0 0, .dat (.int (most : Nat))] (x :: rest) = .ok (.dat (.tup .nod [tupI xs, .tup .nod (as.map encA)])) (y :: rest) := by
  have hG : DrawB (F__law_draw 3) := drawB_of
  obtain ⟨xs, as, qs, x1, h1, h2, h3, h4, h5, h6, h7⟩ := case_ok (rest := rest) (x := x) (m := m + 50) (most := most) (hx.less (by omega)) hm
  obtain ⟨r, x2, d1, d2, d3⟩ := draw_nat hG (n := 2) (m := m + 40) (h6.less (by omega)) (by decide) (by decide)
  have d1 := d1 rest
  have d1 : F__law_draw 3 [.loc 0 0, .dat (.int 2)] (x1 :: rest) = _ := d1
  obtain ⟨as', x3, s1, s2, s3⟩ := spoiled_ok (rest := rest) (x := x2) (m := m) h1 rfl d3
  unfold F__law_any b__law_any B__law_any
  generalize F__law_draw 3 = G at d1
  generalize F__law_case = CA at h7
  generalize F__law_spoiled = SP at s3
  by_cases hr : r = 0
  · refine ⟨xs, as', x3, s1, h2, h3, s2, ?_⟩
    subst hr
    have c1 : decide (((0 : Nat) : Int) = 0) = true := rfl
    rw [v_runF]
    simp_arith! [h7, d1, c1, s3]
  · refine ⟨xs, as, x2, h1, h2, h3, d3.less (by omega), ?_⟩
    have c1 : decide (((r : Nat) : Int) = 0) = false := decide_eq_false (by omega)
    rw [v_runF]
    simp_arith! [h7, d1, c1]
end
open PySem PySem.Spec PyProof.Rows L2 Vz Vz.Q
local macro_rules
  | `(tactic| simp_arith! [$hs,*]) => `(tactic| simp -implicitDefEqProofs -dsimp (disch := first | assumption | omega | (simp only [List.length_map, List.length_append, List.length_cons, List.length_nil, List.length_range, List.length_take, List.length_drop, List.length_replicate, List.length_reverse, List.length_zipIdx]; omega)) only [Vz.Q.ifB_t, Vz.Q.ifB_f, Vz.Q.bind_ok, Vz.Q.bind_exc, Vz.Q.then_ok, Vz.Q.then_exc, Vz.Q.andThen_nx, Vz.Q.andThen_rt, Vz.Q.andThen_exc, Vz.Q.andThen_bk, Vz.Q.andThen_ct, Vz.Q.lift_some, Vz.Q.ofo_some, Vz.Q.get_ok, Vz.Q.noX_ok, Vz.Q.ifO_t, Vz.Q.varO_, Vz.Q.v_var, Vz.Q.v_c, Vz.Q.v_bin, Vz.Q.v_b, Vz.Q.asB_, Vz.Q.v_and, Vz.Q.v_or, Vz.Q.v_not, Vz.Q.v_v, Vz.Q.v_andV, Vz.Q.v_orV, Vz.Q.v_notV, Vz.Q.v_if, Vz.Q.v_chain, Vz.Q.v_anil, Vz.Q.v_acons, Vz.Q.v_tup, Vz.Q.v_tupK, Vz.Q.v_frz, Vz.Q.v_cell, Vz.Q.v_disp, Vz.Q.lsO_, Vz.Q.v_cat, Vz.Q.v_call, Vz.Q.v_lcall, Vz.Q.v_app, Vz.Q.v_appK, Vz.Q.v_nil, Vz.Q.v_pass, Vz.Q.v_seq, Vz.Q.v_break, Vz.Q.v_cont, Vz.Q.v_expr, Vz.Q.v_ret, Vz.Q.v_retN, Vz.Q.v_sif, Vz.Q.v_set, Vz.Q.v_setLc, Vz.Q.v_setLf, Vz.Q.v_aug, Vz.Q.parO_, Vz.Q.v_par, Vz.Q.nxO_, Vz.Q.v_asg, Vz.Q.v_oname, Vz.Q.v_onnil, Vz.Q.v_oncons, Vz.Q.v_otup, Vz.Q.v_osub, Vz.Q.v_fz, Vz.Q.v_meth, Vz.Q.v_meth0, Vz.Q.someR_, Vz.Q.v_index, Vz.Q.v_isi, Vz.Q.v_neg, Vz.Q.v_rev, Vz.Q.v_range, Vz.Q.v_sl, Vz.Q.v_no, Vz.Q.v_yesI, Vz.Q.v_dictT, Vz.Q.v_iseq, Vz.Q.v_iargs, Vz.Q.v_ifr, Vz.Q.rd_dat, Vz.Q.rd_loc, Vz.Q.rdC_lst, Vz.Q.rdC_frz, Vz.Q.rdC_dT, Vz.Q.rdC_dK, Vz.Q.rd2_, Vz.Q.rds_nil, Vz.Q.rds_cons, Vz.Q.dats_nil, Vz.Q.dats_cons, Vz.Q.small_1, Vz.Q.small_2, Vz.Q.small_3, Vz.Q.small_0, Vz.Q.small_, Vz.Q.one_, Vz.Q.two_, Vz.Q.frd_dat, Vz.Q.frd_loc, Vz.Q.frdC_frz, Vz.Q.frds_nil, Vz.Q.frds_cons, Vz.Q.LstW_, Vz.Q.lstB_, Vz.Q.lstC_, Vz.Q.lstO_, Vz.Q.v_append, Vz.Q.v_insert, Vz.Q.v_extend, Vz.Q.v_popAt, Vz.Q.asInt_, Vz.Q.asLs_, Vz.Q.v_stB, Vz.Q.lim_app, Vz.Q.lim_le, Vz.Q.lim_lt, Vz.Q.addL_, Vz.Q.addD_ll, Vz.Q.addD_tt, Option.bind_some, Option.map_some, addD_ii, subI_ii, ltI_ii, leI_ii, gtI_ii, geI_ii, eqD_ii, isN_non, isN_int, isN_str, List.getElem?_cons_zero, List.getElem?_cons_succ, List.set_cons_zero, List.set_cons_succ, List.length_cons, List.length_nil, List.length_append, Nat.zero_add, Nat.add_zero, Nat.reduceAdd, Nat.reduceSub, Nat.reduceEqDiff, at_app0, at_appk, set_app0, set_appk, List.append_assoc, List.cons_append, List.nil_append, List.append_nil, List.map_cons, List.map_nil, List.replicate, Vz.Q.fn_dat, Vz.Q.fn_nx, Vz.Q.fn_exc, Vz.Q.fn_exn, Vz.Q.fn_loc, Vz.Q.retC_lst, Vz.Q.retC_frz, Vz.Q.retC_dT, Vz.Q.retC_dK, Vz.Q.bodyF_, Vz.Q.bodyO_, Vz.Q.cutR_nil, Vz.Q.cutR_cons, Vz.Q.cutW_dat, Vz.Q.cutW_none, Vz.Q.cutW_exn, Vz.Q.cutW_loc, Vz.Q.cutW_locN, wipeR, List.take_succ_cons, List.take_length, List.take_left, take_appk, List.take_zero, List.take_nil, Vz.Q.v_yes, Vz.Q.v_lcB, Vz.Q.lcO_, Vz.Q.v_cname, Vz.Q.v_ctup, Vz.Q.v_cnnil, Vz.Q.v_cncons, Vz.Q.bb_tf, Vz.Q.bb_ft, Vz.Q.bb_tt, Vz.Q.bb_ff, Vz.Q.bn_tf, Vz.Q.bn_ft, Vz.Q.bn_tt, Vz.Q.bn_ff, eqD_bb, neD_bb, Bool.not_true, Bool.not_false, Bool.and_true, Bool.true_and, Bool.and_self, decide_true, decide_false, eq_self, Vz.Q.v_setR, Vz.Q.v_cellR, Vz.Q.v_ixR, Vz.Q.v_izd, Vz.Q.par3O_, Vz.Q.v_par3, Vz.Q.v_try, Vz.Q.try_exc, Vz.Q.try_nx, Vz.Q.try_rt, Vz.Q.drop_nx, Vz.Q.drop_rt, Vz.Q.v_raise1, Vz.Q.r1O_, Vz.Q.v_raise0, Vz.Q.v_isNo, Vz.Q.v_isNoN, Vz.Q.isNo_non, Vz.Q.isNo_exn, Vz.Q.v_isX, Vz.Q.isXW_, Vz.Q.v_xf, Vz.Q.xfW_, Vz.Q.v_oseq_t, Vz.Q.v_oseq_l, Vz.Q.enumD_l, Vz.Q.enumD_t, Vz.Q.nums_map, Vz.Q.listD_l, Vz.Q.listD_t, Vz.Q.tupleD_l, Vz.Q.tupleD_t, Vz.Q.lenD_l, Vz.Q.lenD_t, Vz.Q.cutD_l, Vz.Q.cutD_n, Vz.Q.revD_l, Vz.Q.fz_dat, Vz.Q.fz_loc, Vz.Q.fzC_lst, Vz.Q.fzC_frz, Vz.Q.isNN_non, Vz.Q.isNN_int, Vz.Q.isNN_str, Vz.Q.inD_l, Vz.Q.inD_t, Vz.Q.sqB_l, Vz.Q.sqB_t, Bool.false_xor, Bool.true_xor, asI, Vz.Q.walk_dl, Vz.Q.walk_dt, List.length_map, List.map_append, $hs,*])
mutual
/-- how many values stand in one, itself among them -/
def nd : D → Nat
  | .list xs => nds xs + 1
  | .tup _ xs => nds xs + 1
  | _ => 1
def nds : List D → Nat
  | [] => 0
  | x :: xs => nd x + nds xs
end
def flN : Fl → Bool
  | .nod => true
  | _ => false
mutual
/-- numbers up to m, lists up to l, short texts, no dicts -/
def fine (m l : Nat) : D → Bool
  | .none => true
  | .bool _ => true
  | .int i => decide (i.natAbs ≤ m)
  | .str x => PyData.strOk x && decide (x.cps.size ≤ 24)
  | .list xs => fines m l xs && decide (xs.length ≤ l)
  | .tup f xs => flN f && (fines m l xs && decide (xs.length ≤ l))
  | .dT _ => false
  | .dK _ => false
def fines (m l : Nat) : List D → Bool
  | [] => true
  | x :: xs => fine m l x && fines m l xs
end
theorem nd_pos (d : D) : 1 ≤ nd d := by
  cases d <;> first | exact Nat.le_refl _ | exact Nat.succ_le_succ (Nat.zero_le _)
theorem fines_all {m l : Nat} : ∀ {xs : List D}, fines m l xs = true ↔ ∀ d ∈ xs, fine m l d = true
  | [] => ⟨fun _ d h => (nomatch h), fun _ => rfl⟩
  | x :: xs => by
    show (fine m l x && fines m l xs) = true ↔ _
    rw [Bool.and_eq_true_iff, fines_all (xs := xs)]
    constructor
    · rintro ⟨h1, h2⟩ d hd
      rcases List.mem_cons.mp hd with rfl | hd
      · exact h1
      · exact h2 d hd
    · intro h
      exact ⟨h x (List.mem_cons_self ..), fun d hd => h d (List.mem_cons_of_mem _ hd)⟩
theorem deps_all {k : Nat} : ∀ {xs : List D}, deps xs ≤ k ↔ ∀ d ∈ xs, dep d ≤ k
  | [] => ⟨fun _ d h => (nomatch h), fun _ => Nat.zero_le _⟩
  | x :: xs => by
    show max (dep x) (deps xs) ≤ k ↔ _
    rw [Nat.max_le, deps_all (xs := xs)]
    constructor
    · rintro ⟨h1, h2⟩ d hd
      rcases List.mem_cons.mp hd with rfl | hd
      · exact h1
      · exact h2 d hd
    · intro h
      exact ⟨h x (List.mem_cons_self ..), fun d hd => h d (List.mem_cons_of_mem _ hd)⟩
theorem nds_mem {d : D} : ∀ {xs : List D}, d ∈ xs → nd d ≤ nds xs
  | [], h => nomatch h
  | x :: xs, h => by
    show nd d ≤ nd x + nds xs
    rcases List.mem_cons.mp h with rfl | h
    · omega
    · have := nds_mem h; omega
theorem nds_sub : ∀ {a b : List D}, a.Sublist b → nds a ≤ nds b
  | _, _, .slnil => Nat.le_refl _
  | _, _, .cons x h => by
    have := nds_sub h
    show _ ≤ nd x + _
    omega
  | _, _, .cons₂ x h => by
    have := nds_sub h
    show nd x + _ ≤ nd x + _
    omega
theorem nds_perm {a b : List D} (h : a.Perm b) : nds a = nds b := by
  induction h with
  | nil => rfl
  | cons x _ ih => show nd x + _ = nd x + _; omega
  | swap x y l => show nd y + (nd x + _) = nd x + (nd y + _); omega
  | trans _ _ h1 h2 => omega
mutual
theorem fine_mono {m l m' l' : Nat} (h1 : m ≤ m') (h2 : l ≤ l') : ∀ d : D, fine m l d = true → fine m' l' d = true
  | .none, _ => rfl
  | .bool _, _ => rfl
  | .int i, h => decide_eq_true (Nat.le_trans (of_decide_eq_true h) h1)
  | .str _, h => h
  | .list xs, h => by
    obtain ⟨a, b⟩ := Bool.and_eq_true_iff.mp h
    exact Bool.and_eq_true_iff.mpr ⟨fines_mono h1 h2 xs a, decide_eq_true (Nat.le_trans (of_decide_eq_true b) h2)⟩
  | .tup f xs, h => by
    obtain ⟨c, h⟩ := Bool.and_eq_true_iff.mp h
    obtain ⟨a, b⟩ := Bool.and_eq_true_iff.mp h
    exact Bool.and_eq_true_iff.mpr ⟨c, Bool.and_eq_true_iff.mpr ⟨fines_mono h1 h2 xs a, decide_eq_true (Nat.le_trans (of_decide_eq_true b) h2)⟩⟩
  | .dT _, h => nomatch h
  | .dK _, h => nomatch h
theorem fines_mono {m l m' l' : Nat} (h1 : m ≤ m') (h2 : l ≤ l') : ∀ ds : List D, fines m l ds = true → fines m' l' ds = true
  | [], _ => rfl
  | d :: ds, h => by
    obtain ⟨a, b⟩ := Bool.and_eq_true_iff.mp h
    exact Bool.and_eq_true_iff.mpr ⟨fine_mono h1 h2 d a, fines_mono h1 h2 ds b⟩
end
/-- a value: numbers up to m, lists up to l, k deep, n values in it -/
structure Nv (m l k n : Nat) (d : D) : Prop where
  fi : fine m l d = true
  dp : dep d ≤ k
  nn : nd d ≤ n
theorem Nv.le {m l k n m' l' k' n' : Nat} {d : D} (h : Nv m l k n d) (h1 : m ≤ m') (h2 : l ≤ l') (h3 : k ≤ k') (h4 : n ≤ n') : Nv m' l' k' n' d := ⟨fine_mono h1 h2 d h.fi, Nat.le_trans h.dp h3, Nat.le_trans h.nn h4⟩
/-- the items of a list of values -/
structure NvL (m l k n : Nat) (ds : List D) : Prop where
  fi : ∀ d ∈ ds, fine m l d = true
  dp : ∀ d ∈ ds, dep d ≤ k
  nn : nds ds ≤ n
theorem NvL.sub {m l k n : Nat} {a b : List D} (h : NvL m l k n b) (hs : a.Sublist b) : NvL m l k n a := ⟨fun d hd => h.fi d (hs.subset hd), fun d hd => h.dp d (hs.subset hd), Nat.le_trans (nds_sub hs) h.nn⟩
theorem NvL.perm {m l k n : Nat} {a b : List D} (h : NvL m l k n b) (hs : a.Perm b) : NvL m l k n a := ⟨fun d hd => h.fi d (hs.mem_iff.mp hd), fun d hd => h.dp d (hs.mem_iff.mp hd), by rw [nds_perm hs]; exact h.nn⟩
theorem NvL.le {m l k n m' l' k' n' : Nat} {ds : List D} (h : NvL m l k n ds) (h1 : m ≤ m') (h2 : l ≤ l') (h3 : k ≤ k') (h4 : n ≤ n') : NvL m' l' k' n' ds := ⟨fun d hd => fine_mono h1 h2 d (h.fi d hd), fun d hd => Nat.le_trans (h.dp d hd) h3, Nat.le_trans h.nn h4⟩
theorem nv_list {m l k n : Nat} {ds : List D} (h : NvL m l k n ds) (hl : ds.length ≤ l) : Nv m l (k + 1) (n + 1) (.list ds) := ⟨Bool.and_eq_true_iff.mpr ⟨fines_all.mpr h.fi, decide_eq_true hl⟩, Nat.succ_le_succ (deps_all.mpr h.dp), Nat.succ_le_succ h.nn⟩
theorem nv_tup {m l k n : Nat} {ds : List D} (h : NvL m l k n ds) (hl : ds.length ≤ l) : Nv m l (k + 1) (n + 1) (.tup .nod ds) := ⟨by show (true && (fines m l ds && decide (ds.length ≤ l))) = true; rw [Bool.true_and]; exact Bool.and_eq_true_iff.mpr ⟨fines_all.mpr h.fi, decide_eq_true hl⟩, Nat.succ_le_succ (deps_all.mpr h.dp), Nat.succ_le_succ h.nn⟩
/-- the two kinds of lists -/
inductive LT2 (ds : List D) : D → Prop
  | l : LT2 ds (.list ds)
  | t : LT2 ds (.tup .nod ds)
theorem nv_of {m l k n : Nat} {ds : List D} {d : D} (h : NvL m l k n ds) (hl : ds.length ≤ l) (hd : LT2 ds d) : Nv m l (k + 1) (n + 1) d := by
  cases hd with
  | l => exact nv_list h hl
  | t => exact nv_tup h hl
theorem Nv.parts {m l k n : Nat} {ds : List D} {d : D} (h : Nv m l k n d) (hd : LT2 ds d) : ∃ k' n', k = k' + 1 ∧ n = n' + 1 ∧ NvL m l k' n' ds ∧ ds.length ≤ l := by
  obtain ⟨h1, h2, h3⟩ := h
  have key : fines m l ds = true ∧ ds.length ≤ l ∧ deps ds + 1 ≤ k ∧ nds ds + 1 ≤ n := by
    cases hd with
    | l =>
      obtain ⟨a, b⟩ := Bool.and_eq_true_iff.mp h1
      exact ⟨a, of_decide_eq_true b, h2, h3⟩
    | t =>
      have h1 : (true && (fines m l ds && decide (ds.length ≤ l))) = true := h1
      rw [Bool.true_and] at h1
      obtain ⟨a, b⟩ := Bool.and_eq_true_iff.mp h1
      exact ⟨a, of_decide_eq_true b, h2, h3⟩
  obtain ⟨a, b, c, e⟩ := key
  exact ⟨k - 1, n - 1, by omega, by omega, ⟨fines_all.mp a, deps_all.mp (by omega), by omega⟩, b⟩
theorem addX_ll {x y : List D} (h : x.length + y.length ≤ 1000) : addX (.list x) (.list y) = some (.list (x ++ y)) := by
  unfold addX orD
  rw [addD_ll h]
theorem mul2 {x : List D} (h : x.length ≤ 100) : mulD (.list x) (.int 2) = some (.list (x ++ x)) := by
  unfold mulD orD
  rw [show mulI (.list x) (.int 2) = none from rfl, show mulW (.list x) (.int 2) = none from rfl]
  have e : repL (.list x) (.int 2) = some (.list (x ++ x)) := by
    show ifO (decide ((2 : Int).natAbs ≤ 1000000) && decide (x.length * (2 : Int).toNat ≤ lim)) (some (D.list (List.replicate (2 : Int).toNat x).flatten)) = _
    rw [decide_eq_true (by decide), decide_eq_true (by
      have : (2 : Int).toNat = 2 := rfl
      rw [this]
      unfold lim
      omega)]
    show some (D.list ([x, x].flatten)) = _
    simp
  simp only [e]
theorem addX_ii (i j : Int) : addX (.int i) (.int j) = some (.int (i + j)) := by
  unfold addX orD
  rw [addD_ii]
theorem addX_bi (b : Bool) (j : Int) : addX (.bool b) (.int j) = some (.int ((if b = true then (1 : Int) else 0) + j)) := rfl
theorem subX_ii (i j : Int) : subX (.int i) (.int j) = some (.int (i - j)) := rfl
theorem subX_bi (b : Bool) (j : Int) : subX (.bool b) (.int j) = some (.int ((if b = true then (1 : Int) else 0) - j)) := rfl
theorem subX_ib (i : Int) (b : Bool) : subX (.int i) (.bool b) = some (.int (i - if b = true then (1 : Int) else 0)) := rfl
theorem log_lt {i : Int} (h : i.natAbs < 10 ^ 40) : i.natAbs.log2 < 1920 := by
  by_cases h0 : i.natAbs = 0
  · rw [h0]; decide
  · exact (Nat.log2_lt h0).mpr (Nat.lt_trans h (by decide))
theorem str_i {i : Int} (h : i.natAbs < 10 ^ 40) : strD [.int i] = some (.str (toString i)) := by
  show ifO _ _ = _
  rw [decide_eq_true (log_lt h)]
  rfl
theorem str_b (b : Bool) : strD [.bool b] = some (.str (if b then "True" else "False")) := rfl
theorem eq_b1 (b : Bool) : eqD (.bool b) (.int 1) = some (.bool b) := by cases b <;> rfl
def oddC : List D := [.none, .bool true, .bool false, .int 0, .int 1, .int (-1), .str "", .str "node", .tup .nod [], .list [], .tup .nod [.int 0], .list [.int 1], .tup .nod [.tup .nod []], .tup .nod [.tup .nod [], .tup .nod []], .tup .nod [.int 0, .int 1], .tup .nod [.none, .int 0], .tup .nod [.none], .list [.none, .int 0]]
theorem odd_const : ∀ e ∈ oddC, Nv 1 2 2 3 e := by
  have h : (oddC.all fun e => fine 1 2 e && (decide (dep e ≤ 2) && decide (nd e ≤ 3))) = true := by decide +kernel
  intro e he
  have := List.all_eq_true.mp h e he
  obtain ⟨a, b⟩ := Bool.and_eq_true_iff.mp this
  obtain ⟨b, c⟩ := Bool.and_eq_true_iff.mp b
  exact ⟨a, of_decide_eq_true b, of_decide_eq_true c⟩
open PySem PySem.Spec PyProof.Rows L2 Vz Vz.Q
local macro_rules
  | `(tactic| simp_arith! [$hs,*]) => `(tactic| simp -implicitDefEqProofs -dsimp (disch := first | assumption | omega | (simp only [List.length_map, List.length_append, List.length_cons, List.length_nil, List.length_range, List.length_take, List.length_drop, List.length_replicate, List.length_reverse, List.length_zipIdx]; omega)) only [Vz.Q.ifB_t, Vz.Q.ifB_f, Vz.Q.bind_ok, Vz.Q.bind_exc, Vz.Q.then_ok, Vz.Q.then_exc, Vz.Q.andThen_nx, Vz.Q.andThen_rt, Vz.Q.andThen_exc, Vz.Q.andThen_bk, Vz.Q.andThen_ct, Vz.Q.lift_some, Vz.Q.ofo_some, Vz.Q.get_ok, Vz.Q.noX_ok, Vz.Q.ifO_t, Vz.Q.varO_, Vz.Q.v_var, Vz.Q.v_c, Vz.Q.v_bin, Vz.Q.v_b, Vz.Q.asB_, Vz.Q.v_and, Vz.Q.v_or, Vz.Q.v_not, Vz.Q.v_v, Vz.Q.v_andV, Vz.Q.v_orV, Vz.Q.v_notV, Vz.Q.v_if, Vz.Q.v_chain, Vz.Q.v_anil, Vz.Q.v_acons, Vz.Q.v_tup, Vz.Q.v_tupK, Vz.Q.v_frz, Vz.Q.v_cell, Vz.Q.v_disp, Vz.Q.lsO_, Vz.Q.v_cat, Vz.Q.v_call, Vz.Q.v_lcall, Vz.Q.v_app, Vz.Q.v_appK, Vz.Q.v_nil, Vz.Q.v_pass, Vz.Q.v_seq, Vz.Q.v_break, Vz.Q.v_cont, Vz.Q.v_expr, Vz.Q.v_ret, Vz.Q.v_retN, Vz.Q.v_sif, Vz.Q.v_set, Vz.Q.v_setLc, Vz.Q.v_setLf, Vz.Q.v_aug, Vz.Q.parO_, Vz.Q.v_par, Vz.Q.nxO_, Vz.Q.v_asg, Vz.Q.v_oname, Vz.Q.v_onnil, Vz.Q.v_oncons, Vz.Q.v_otup, Vz.Q.v_osub, Vz.Q.v_fz, Vz.Q.v_meth, Vz.Q.v_meth0, Vz.Q.someR_, Vz.Q.v_index, Vz.Q.v_isi, Vz.Q.v_neg, Vz.Q.v_rev, Vz.Q.v_range, Vz.Q.v_sl, Vz.Q.v_no, Vz.Q.v_yesI, Vz.Q.v_dictT, Vz.Q.v_iseq, Vz.Q.v_iargs, Vz.Q.v_ifr, Vz.Q.rd_dat, Vz.Q.rd_loc, Vz.Q.rdC_lst, Vz.Q.rdC_frz, Vz.Q.rdC_dT, Vz.Q.rdC_dK, Vz.Q.rd2_, Vz.Q.rds_nil, Vz.Q.rds_cons, Vz.Q.dats_nil, Vz.Q.dats_cons, Vz.Q.small_1, Vz.Q.small_2, Vz.Q.small_3, Vz.Q.small_0, Vz.Q.small_, Vz.Q.one_, Vz.Q.two_, Vz.Q.frd_dat, Vz.Q.frd_loc, Vz.Q.frdC_frz, Vz.Q.frds_nil, Vz.Q.frds_cons, Vz.Q.LstW_, Vz.Q.lstB_, Vz.Q.lstC_, Vz.Q.lstO_, Vz.Q.v_append, Vz.Q.v_insert, Vz.Q.v_extend, Vz.Q.v_popAt, Vz.Q.asInt_, Vz.Q.asLs_, Vz.Q.v_stB, Vz.Q.lim_app, Vz.Q.lim_le, Vz.Q.lim_lt, Vz.Q.addL_, Vz.Q.addD_ll, Vz.Q.addD_tt, Option.bind_some, Option.map_some, addD_ii, subI_ii, ltI_ii, leI_ii, gtI_ii, geI_ii, eqD_ii, isN_non, isN_int, isN_str, List.getElem?_cons_zero, List.getElem?_cons_succ, List.set_cons_zero, List.set_cons_succ, List.length_cons, List.length_nil, List.length_append, Nat.zero_add, Nat.add_zero, Nat.reduceAdd, Nat.reduceSub, Nat.reduceEqDiff, at_app0, at_appk, set_app0, set_appk, List.append_assoc, List.cons_append, List.nil_append, List.append_nil, List.map_cons, List.map_nil, List.replicate, Vz.Q.fn_dat, Vz.Q.fn_nx, Vz.Q.fn_exc, Vz.Q.fn_exn, Vz.Q.fn_loc, Vz.Q.retC_lst, Vz.Q.retC_frz, Vz.Q.retC_dT, Vz.Q.retC_dK, Vz.Q.bodyF_, Vz.Q.bodyO_, Vz.Q.cutR_nil, Vz.Q.cutR_cons, Vz.Q.cutW_dat, Vz.Q.cutW_none, Vz.Q.cutW_exn, Vz.Q.cutW_loc, Vz.Q.cutW_locN, wipeR, List.take_succ_cons, List.take_length, List.take_left, take_appk, List.take_zero, List.take_nil, Vz.Q.v_yes, Vz.Q.v_lcB, Vz.Q.lcO_, Vz.Q.v_cname, Vz.Q.v_ctup, Vz.Q.v_cnnil, Vz.Q.v_cncons, Vz.Q.bb_tf, Vz.Q.bb_ft, Vz.Q.bb_tt, Vz.Q.bb_ff, Vz.Q.bn_tf, Vz.Q.bn_ft, Vz.Q.bn_tt, Vz.Q.bn_ff, eqD_bb, neD_bb, Bool.not_true, Bool.not_false, Bool.and_true, Bool.true_and, Bool.and_self, decide_true, decide_false, eq_self, Vz.Q.v_count, Vz.Q.cntB_l, Vz.Q.v_lam, Vz.Q.v_cat, Vz.Q.v_cseq_t, Vz.Q.v_cseq_l, Vz.Q.v_bor, Vz.Q.borO_b, Vz.Q.borW_dat, Vz.Q.borW_none, Vz.Q.borW_loc, Vz.Q.borC_lst, Vz.Q.borC_frz, Vz.Q.v_setR, Vz.Q.v_cellR, Vz.Q.v_ixR, Vz.Q.v_izd, Vz.Q.par3O_, Vz.Q.v_par3, Vz.Q.v_try, Vz.Q.try_exc, Vz.Q.try_nx, Vz.Q.try_rt, Vz.Q.drop_nx, Vz.Q.drop_rt, Vz.Q.v_raise1, Vz.Q.r1O_, Vz.Q.v_raise0, Vz.Q.v_isNo, Vz.Q.v_isNoN, Vz.Q.isNo_non, Vz.Q.isNo_exn, Vz.Q.v_isX, Vz.Q.isXW_, Vz.Q.v_xf, Vz.Q.xfW_, Vz.Q.v_oseq_t, Vz.Q.v_oseq_l, Vz.Q.enumD_l, Vz.Q.enumD_t, Vz.Q.nums_map, Vz.Q.listD_l, Vz.Q.listD_t, Vz.Q.tupleD_l, Vz.Q.tupleD_t, Vz.Q.lenD_l, Vz.Q.lenD_t, Vz.Q.cutD_l, Vz.Q.cutD_n, Vz.Q.revD_l, Vz.Q.fz_dat, Vz.Q.fz_loc, Vz.Q.fzC_lst, Vz.Q.fzC_frz, Vz.Q.isNN_non, Vz.Q.isNN_int, Vz.Q.isNN_str, Vz.Q.inD_l, Vz.Q.inD_t, Vz.Q.sqB_l, Vz.Q.sqB_t, Bool.false_xor, Bool.true_xor, asI, Vz.Q.walk_dl, Vz.Q.walk_dt, List.length_map, List.map_append, $hs,*])
section
variable {rest : Sto}
theorem fine_text {s : Str} (h1 : SO s) (h2 : s.cps.size ≤ 24) (m l : Nat) : Nv m l 0 1 (.str s) := ⟨Bool.and_eq_true_iff.mpr ⟨so_iff.mpr h1, decide_eq_true h2⟩, Nat.le_refl _, Nat.le_refl _⟩
theorem text_int {i : Int} (h : i.natAbs < 10 ^ 22) (m l : Nat) : Nv m l 0 1 (.str (toString i)) := by
  have e : (Str.ofString (toString i)).length ≤ 24 := by
    have := int_text_length_le10 (a := i) (k := 22) (by decide) h
    rw [PySem.ofString_length]
    omega
  exact fine_text (so_of _) e m l
theorem nv_int {i : Int} {m l : Nat} (h : i.natAbs ≤ m) : Nv m l 0 1 (.int i) := ⟨decide_eq_true h, Nat.le_refl _, Nat.le_refl _⟩
theorem nv_bool {b : Bool} {m l : Nat} : Nv m l 0 1 (.bool b) := ⟨rfl, Nat.le_refl _, Nat.le_refl _⟩
/-- what stands beside the given values for a number -/
def oddI (i : Int) : List D := [.int (i + 1), .int (i - 1), .int (0 - i), .str (toString i), .bool (decide (i = 1))]
def oddB (b : Bool) : List D := [.int ((if b = true then (1 : Int) else 0) + 1), .int ((if b = true then (1 : Int) else 0) - 1), .int (0 - if b = true then (1 : Int) else 0), .str (if b then "True" else "False"), .bool b]
theorem odd_ok {d : D} {m l k n q : Nat} {x : C} (hd : Nv m l k n d) (hm : 1 ≤ m) (hm2 : m < 10 ^ 21) (hl : 2 ≤ l) (hl2 : l ≤ 400) (hx : SrcOk (q + 2) x) :
    ∃ d' y, Nv (m + 1) l (max k 2) (max n 3) d' ∧ SrcOk q y ∧ F__law_odd [.loc 0 0, .dat d] (x :: rest) = .ok (.dat d') (y :: rest) := by
  have hG : DrawB (F__law_draw 3) := drawB_of
  have hcw : F__law_choice = runF 2 false (bChoice (F__law_draw 3)) := rfl
  have hch : ∀ ds : List D, ds ≠ [] → ds.length ≤ 1000 → ∃ d' y, d' ∈ ds ∧ SrcOk q y ∧ F__law_choice [.loc 0 0, .dat (.list ds)] (x :: rest) = .ok (.dat d') (y :: rest) := fun ds h0 h1 => by
    obtain ⟨d', y, h2, h3, h4⟩ := choice_ok hG hx h0 (by omega)
    exact ⟨d', y, h2, h3, by rw [hcw]; exact h4 rest⟩
  have hC : ∀ e ∈ oddC, Nv (m + 1) l (max k 2) (max n 3) e := fun e he => (odd_const e he).le (by omega) hl (by omega) (by omega)
  have b5 : ∀ ds : List D, ds.length = 5 → (∀ e ∈ ds, Nv (m + 1) l (max k 2) (max n 3) e) → ∀ e ∈ oddC ++ (ds ++ ds), Nv (m + 1) l (max k 2) (max n 3) e := fun ds _ h e he => by
    rcases List.mem_append.mp he with he | he
    · exact hC e he
    · rcases List.mem_append.mp he with he | he
      · exact h e he
      · exact h e he
  unfold F__law_odd b__law_odd B__law_odd
  generalize F__law_choice = CH at hch
  have flat : ∀ d : D, gInt d = false → (gList d || gTup d) = false → ∃ d' y, Nv (m + 1) l (max k 2) (max n 3) d' ∧ SrcOk q y ∧ runF 3 false (B__law_odd CH) [.loc 0 0, .dat d] (x :: rest) = .ok (.dat d') (y :: rest) := fun d g1 g2 => by
    obtain ⟨d', y, h1, h2, h3⟩ := hch oddC (by decide) (by decide)
    refine ⟨d', y, hC d' h1, h2, ?_⟩
    unfold B__law_odd
    unfold oddC at h3
    rw [v_runF]
    simp_arith! [g1, g2, h3]
  have qk : ∀ (d : D) (ds : List D) (c0 c1 c2 : D), LT2 ds d → gInt d = false → (gList d || gTup d) = true → listD [d] = some ds → tupleD [d] = some (.tup .nod ds) → revD d = some c0 → cutD (some 1) none d = some c1 → cutD none (some (-1)) d = some c2 → (∀ e ∈ [D.list ds, .tup .nod ds, c0, c1, c2], Nv (m + 1) l (max k 2) (max n 3) e) → ∃ d' y, Nv (m + 1) l (max k 2) (max n 3) d' ∧ SrcOk q y ∧ runF 3 false (B__law_odd CH) [.loc 0 0, .dat d] (x :: rest) = .ok (.dat d') (y :: rest) := fun d ds c0 c1 c2 _ g1 g2 e1 e2 e3 e4 e5 hh => by
    obtain ⟨d', y, h1, h2, h3⟩ := hch (oddC ++ ([D.list ds, .tup .nod ds, c0, c1, c2] ++ [D.list ds, .tup .nod ds, c0, c1, c2])) (by simp [oddC]) (by simp [oddC])
    refine ⟨d', y, b5 _ rfl hh d' h1, h2, ?_⟩
    unfold B__law_odd
    simp only [oddC, List.cons_append, List.nil_append] at h3
    rw [v_runF]
    simp_arith! [g1, g2, e1, e2, e3, e4, e5, addX_ll, mul2, h3]
  cases d with
  | none => exact flat _ rfl rfl
  | str s => exact flat _ rfl rfl
  | int i =>
    have hi : i.natAbs ≤ m := of_decide_eq_true hd.fi
    have i1 : strD [.int i] = some (.str (toString i)) := str_i (by
      have : (10 : Nat) ^ 21 < 10 ^ 40 := by decide
      omega)
    obtain ⟨d', y, h1, h2, h3⟩ := hch (oddC ++ (oddI i ++ oddI i)) (by simp [oddC]) (by simp [oddC, oddI])
    refine ⟨d', y, b5 _ rfl (fun e he => ?_) d' h1, h2, ?_⟩
    · have t := text_int (i := i) (by
        have : (10 : Nat) ^ 21 < 10 ^ 22 := by decide
        omega) (m + 1) l
      simp only [oddI, List.mem_cons, List.not_mem_nil, or_false] at he
      rcases he with rfl | rfl | rfl | rfl | rfl
      · exact (nv_int (m := m + 1) (l := l) (by omega)).le (Nat.le_refl _) (Nat.le_refl _) (Nat.zero_le _) (by omega)
      · exact (nv_int (m := m + 1) (l := l) (by omega)).le (Nat.le_refl _) (Nat.le_refl _) (Nat.zero_le _) (by omega)
      · exact (nv_int (m := m + 1) (l := l) (by omega)).le (Nat.le_refl _) (Nat.le_refl _) (Nat.zero_le _) (by omega)
      · exact t.le (Nat.le_refl _) (Nat.le_refl _) (Nat.zero_le _) (by omega)
      · exact nv_bool.le (Nat.le_refl _) (Nat.le_refl _) (Nat.zero_le _) (by omega)
    · have g1 : gInt (.int i) = true := rfl
      have g2 : (gList (.int i) || gTup (.int i)) = false := rfl
      simp only [oddC, oddI, List.cons_append, List.nil_append] at h3
      rw [v_runF]
      simp_arith! [g1, g2, i1, addX_ii, subX_ii, addX_ll, mul2, h3]
  | bool b =>
    obtain ⟨d', y, h1, h2, h3⟩ := hch (oddC ++ (oddB b ++ oddB b)) (by simp [oddC]) (by simp [oddC, oddB])
    refine ⟨d', y, b5 _ rfl (fun e he => ?_) d' h1, h2, ?_⟩
    · have t : Nv (m + 1) l 0 1 (.str (if b then "True" else "False")) := fine_text (by cases b <;> exact so_of _) (by cases b <;> decide) _ _
      simp only [oddB, List.mem_cons, List.not_mem_nil, or_false] at he
      rcases he with rfl | rfl | rfl | rfl | rfl
      · exact (nv_int (m := m + 1) (l := l) (by cases b <;> simp <;> omega)).le (Nat.le_refl _) (Nat.le_refl _) (Nat.zero_le _) (by omega)
      · exact (nv_int (m := m + 1) (l := l) (by cases b <;> simp)).le (Nat.le_refl _) (Nat.le_refl _) (Nat.zero_le _) (by omega)
      · exact (nv_int (m := m + 1) (l := l) (by cases b <;> simp)).le (Nat.le_refl _) (Nat.le_refl _) (Nat.zero_le _) (by omega)
      · exact t.le (Nat.le_refl _) (Nat.le_refl _) (Nat.zero_le _) (by omega)
      · exact nv_bool.le (Nat.le_refl _) (Nat.le_refl _) (Nat.zero_le _) (by omega)
    · have g1 : gInt (.bool b) = true := rfl
      have g2 : (gList (.bool b) || gTup (.bool b)) = false := rfl
      simp only [oddC, oddB, List.cons_append, List.nil_append] at h3
      rw [v_runF]
      simp_arith! [g1, g2, str_b, addX_bi, subX_bi, subX_ib, eq_b1, addX_ll, mul2, h3]
  | list ds =>
    obtain ⟨k', n', rfl, rfl, hp, hlen⟩ := hd.parts .l
    have sb : ∀ lo hi, (cutL ds lo hi).Sublist ds := fun lo hi => (List.take_sublist ..).trans (List.drop_sublist ..)
    refine qk (.list ds) ds _ _ _ .l rfl rfl rfl rfl rfl rfl rfl fun e he => ?_
    simp only [List.mem_cons, List.not_mem_nil, or_false] at he
    rcases he with rfl | rfl | rfl | rfl | rfl
    · exact (nv_list hp hlen).le (by omega) (Nat.le_refl _) (by omega) (by omega)
    · exact (nv_tup hp hlen).le (by omega) (Nat.le_refl _) (by omega) (by omega)
    · exact (nv_list (hp.perm (List.reverse_perm ds)) (by rw [List.length_reverse]; exact hlen)).le (by omega) (Nat.le_refl _) (by omega) (by omega)
    · exact (nv_list (hp.sub (sb _ _)) (Nat.le_trans (sb _ _).length_le hlen)).le (by omega) (Nat.le_refl _) (by omega) (by omega)
    · exact (nv_list (hp.sub (sb _ _)) (Nat.le_trans (sb _ _).length_le hlen)).le (by omega) (Nat.le_refl _) (by omega) (by omega)
  | tup f ds =>
    have hf : f = .nod := by
      have h := hd.fi
      cases f with
      | nod => rfl
      | any => exact nomatch h
      | key => exact nomatch h
    subst hf
    obtain ⟨k', n', rfl, rfl, hp, hlen⟩ := hd.parts .t
    have sb : ∀ lo hi, (cutL ds lo hi).Sublist ds := fun lo hi => (List.take_sublist ..).trans (List.drop_sublist ..)
    refine qk (.tup .nod ds) ds _ _ _ .t rfl rfl rfl rfl rfl cut_nod cut_nod fun e he => ?_
    simp only [List.mem_cons, List.not_mem_nil, or_false] at he
    rcases he with rfl | rfl | rfl | rfl | rfl
    · exact (nv_list hp hlen).le (by omega) (Nat.le_refl _) (by omega) (by omega)
    · exact (nv_tup hp hlen).le (by omega) (Nat.le_refl _) (by omega) (by omega)
    · exact (nv_tup (hp.perm (List.reverse_perm ds)) (by rw [List.length_reverse]; exact hlen)).le (by omega) (Nat.le_refl _) (by omega) (by omega)
    · exact (nv_tup (hp.sub (sb _ _)) (Nat.le_trans (sb _ _).length_le hlen)).le (by omega) (Nat.le_refl _) (by omega) (by omega)
    · exact (nv_tup (hp.sub (sb _ _)) (Nat.le_trans (sb _ _).length_le hlen)).le (by omega) (Nat.le_refl _) (by omega) (by omega)
  | dT _ => exact nomatch hd.fi
  | dK _ => exact nomatch hd.fi
end
open PySem PySem.Spec PyProof.Rows L2 Vz Vz.Q
section
theorem v_osl {fo : FE} {f g : Rho → Sto → R (Option Int)} {w : W} {ρ : Rho} {S : Sto} : oSl fo f g w ρ S = (R.get (fo ρ S)).bind fun p => (R.get (f ρ p.2)).bind fun q => (R.get (g ρ q.2)).bind fun r => (stSl p.1 q.1 r.1 w r.2).map fun S' => (ρ, S') := rfl
theorem stSl_at {y : C} {rest : Sto} {xs ys : List D} {a c : Nat} (h1 : a ≤ xs.length) (h2 : a ≤ c) (h3 : xs.length + ys.length ≤ 1000) : stSl (.loc (rest.length + 1) 0) (some (a : Int)) (some (c : Int)) (.dat (.list ys)) (y :: (rest ++ [.lst xs])) = some (y :: (rest ++ [.lst (xs.take a ++ ys ++ xs.drop c)])) := by
  have e1 : (y :: (rest ++ [C.lst xs]))[rest.length + 1]? = some (.lst xs) := by simp
  show (((y :: (rest ++ [C.lst xs]))[rest.length + 1]?).bind fun cc => (some (D.list ys)).bind fun d => (putSl cc (some (Int.ofNat a)) (some (Int.ofNat c)) d).map fun c' => (y :: (rest ++ [C.lst xs])).set (rest.length + 1) c') = _
  rw [e1, Option.bind_some, Option.bind_some]
  show (ifO _ _).map _ = _
  rw [decide_eq_true h1, decide_eq_true h2, decide_eq_true (show xs.length + ys.length ≤ lim by unfold lim; omega)]
  show some _ = _
  simp
theorem nds_set {e e' : D} : ∀ {ds : List D} {i : Nat}, ds[i]? = some e → nds (ds.set i e') + nd e = nds ds + nd e'
  | [], _, h => by simp at h
  | d :: ds, 0, h => by
    cases h
    show nd e' + nds ds + nd e = nd e + nds ds + nd e'
    omega
  | d :: ds, i + 1, h => by
    have := nds_set (e' := e') (ds := ds) (i := i) (by simpa using h)
    show nd d + nds (ds.set i e') + nd e = nd d + nds ds + nd e'
    omega
theorem swap_perm {ds : List D} {a : Nat} (h : a < ds.length) : (ds.take a ++ (cutL ds (some (a : Int)) (some ((a + 2 : Nat) : Int))).reverse ++ ds.drop (a + 2)).Perm ds := by
  have e : cutL ds (some (a : Int)) (some ((a + 2 : Nat) : Int)) = (ds.drop a).take 2 := by
    unfold cutL
    have s1 : HT.sIx ds.length 0 (some (a : Int)) = a := by rw [HT.sIx_nat]; omega
    have s2 : HT.sIx ds.length ds.length (some ((a + 2 : Nat) : Int)) = min (a + 2) ds.length := HT.sIx_nat ..
    rw [s1, s2]
    by_cases c : a + 2 ≤ ds.length
    · rw [Nat.min_eq_left c]
      congr 1
      omega
    · rw [Nat.min_eq_right (by omega), List.take_of_length_le (by rw [List.length_drop]; omega), List.take_of_length_le (by rw [List.length_drop]; omega)]
  rw [e]
  have h1 : (ds.take a ++ ((ds.drop a).take 2).reverse ++ ds.drop (a + 2)).Perm (ds.take a ++ (ds.drop a).take 2 ++ ds.drop (a + 2)) := ((List.reverse_perm _).append_left _).append_right _
  refine h1.trans (.of_eq ?_)
  rw [List.append_assoc, ← List.drop_drop, List.take_append_drop, List.take_append_drop]
theorem bent_ok : ∀ (f : Nat) {d : D} {m l k n q : Nat} {x : C} (rest : Sto), Nv m l k n d → k < f → 1 ≤ m → m < 10 ^ 21 → 2 ≤ l → l ≤ 300 → SrcOk (q + 10 * f) x →
    ∃ d' y, Nv (m + 1) (l + 1) (k + 2) (max (2 * n) 3) d' ∧ SrcOk q y ∧ F__law_bent f [.loc 0 0, .dat d] (x :: rest) = .ok (.dat d') (y :: rest)
  | 0, _, _, _, _, _, _, _, _, _, h, _, _, _, _, _ => by omega
  | f + 1, d, m, l, k, n, q, x, rest, hd, hk, hm, hm2, hl, hl2, hx => by
    have ih := fun {d m l k n q x} rest => @bent_ok f d m l k n q x rest
    have hG : DrawB (F__law_draw 3) := drawB_of
    have hod := fun (z : C) (hz : SrcOk (q + 2) z) => odd_ok (rest := rest) (q := q) hd hm hm2 hl (by omega) hz
    show ∃ d' y, _ ∧ _ ∧ runF 5 false (B__law_bent F__law_odd (F__law_draw 3) (F__law_bent f)) _ _ = _
    generalize F__law_draw 3 = DR at hG
    generalize F__law_odd = OD at hod
    generalize F__law_bent f = SELF at ih
    have up : ∀ e, Nv (m + 1) l (max k 2) (max n 3) e → Nv (m + 1) (l + 1) (k + 2) (max (2 * n) 3) e := fun e he => he.le (Nat.le_refl _) (by omega) (by omega) (by omega)
    by_cases g : (gList d || gTup d) = true
    · obtain ⟨ds, hds⟩ : ∃ ds, LT2 ds d := by
        cases d with
        | list xs => exact ⟨xs, .l⟩
        | tup fl xs =>
          have h := hd.fi
          cases fl with
          | nod => exact ⟨xs, .t⟩
          | any => exact nomatch h
          | key => exact nomatch h
        | _ => exact nomatch g
      obtain ⟨k', n', rfl, rfl, hp, hlen⟩ := hd.parts hds
      have hle : lenD [d] = some (.int (ds.length : Nat)) := by cases hds <;> rfl
      have hli : listD [d] = some ds := by cases hds <;> rfl
      have hcut : ∀ (ds' : List D) (b : Bool), gList d = b → ∃ d', LT2 ds' d' ∧ (b = true → d' = .list ds') ∧ (b = false → tupleD [.list ds'] = some d') := fun ds' b hb => by
        cases hds with
        | l => exact ⟨_, .l, fun _ => rfl, fun h => by rw [← hb] at h; cases h⟩
        | t => exact ⟨_, .t, fun h => (by rw [← hb] at h; cases h), fun _ => rfl⟩
      by_cases h0 : ds.length = 0
      · obtain ⟨d', y, h1, h2, h3⟩ := hod x (hx.less (by omega))
        refine ⟨d', y, up d' h1, h2, ?_⟩
        have c0 : decide (((ds.length : Nat) : Int) = 0) = true := decide_eq_true (by omega)
        unfold B__law_bent
        rw [v_runF]
        simp_arith! [g, hle, c0, h3]
      · obtain ⟨r1, y1, d1, hr1, hy1⟩ := draw_nat hG (n := 6) (m := q + 10 * f + 8) (hx.less (by omega)) (by decide) (by decide)
        have c0 : decide (((ds.length : Nat) : Int) = 0) = false := decide_eq_false (by omega)
        have d1 : DR [.loc 0 0, .dat (.int 6)] (x :: rest) = .ok (.dat (.int (r1 : Nat))) (y1 :: rest) := d1 rest
        by_cases hr0 : r1 = 0
        · obtain ⟨d', y, h1, h2, h3⟩ := hod y1 (hy1.less (by omega))
          refine ⟨d', y, up d' h1, h2, ?_⟩
          have c1 : decide (((r1 : Nat) : Int) = 0) = true := decide_eq_true (by omega)
          unfold B__law_bent
          rw [v_runF]
          simp_arith! [g, hle, c0, d1, c1, h3]
        · have c1 : decide (((r1 : Nat) : Int) = 0) = false := decide_eq_false (by omega)
          obtain ⟨r2, y2, d2, hr2, hy2⟩ := draw_nat hG (n := ds.length) (m := q + 10 * f + 4) (hy1.less (by omega)) (by omega) (by omega)
          obtain ⟨r3, y3, d3, hr3, hy3⟩ := draw_nat hG (n := 8) (m := q + 10 * f) (hy2.less (by omega)) (by decide) (by decide)
          have d2 : DR [.loc 0 0, .dat (.int (ds.length : Nat))] (y1 :: rest) = .ok (.dat (.int (r2 : Nat))) (y2 :: rest) := d2 rest
          have d3 : DR [.loc 0 0, .dat (.int 8)] (y2 :: (rest ++ [.lst ds])) = .ok (.dat (.int (r3 : Nat))) (y3 :: (rest ++ [.lst ds])) := d3 _
          obtain ⟨e, he⟩ : ∃ e, ds[r2]? = some e := ⟨_, List.getElem?_eq_getElem hr2⟩
          have hem := List.mem_of_getElem? he
          have hix : ixD (.list ds) (.int (r2 : Nat)) = some e := ixD_l he
          have hne : nd e ≤ nds ds := nds_mem hem
          have hnn := hp.nn
          have hnp := nd_pos e
          obtain ⟨b, hb⟩ : ∃ b, gList d = b := ⟨_, rfl⟩
          have fin : ∀ (ds' : List D), NvL (m + 1) (l + 1) (k' + 2) (max (2 * (n' + 1)) 3 - 1) ds' → ds'.length ≤ l + 1 → ∃ d', Nv (m + 1) (l + 1) (k' + 1 + 2) (max (2 * (n' + 1)) 3) d' ∧ (b = true → d' = .list ds') ∧ (b = false → tupleD [.list ds'] = some d') := fun ds' hn' hl' => by
            obtain ⟨d', h1, h2, h3⟩ := hcut ds' b hb
            exact ⟨d', (nv_of hn' hl' h1).le (Nat.le_refl _) (Nat.le_refl _) (by omega) (by omega), h2, h3⟩
          have hp1 : NvL (m + 1) (l + 1) (k' + 2) (max (2 * (n' + 1)) 3 - 1) ds := hp.le (by omega) (by omega) (by omega) (by omega)
          by_cases w0 : r3 = 0
          · have a0 : decide (((r3 : Nat) : Int) = 0) = true := decide_eq_true (by omega)
            obtain ⟨d', h1, h2, h3⟩ := fin (ds.eraseIdx r2) (hp1.sub (List.eraseIdx_sublist ..)) (Nat.le_trans (List.eraseIdx_sublist ..).length_le (by omega))
            refine ⟨d', y3, h1, hy3.less (by omega), ?_⟩
            have sq : seqIndex? ((r2 : Nat) : Int) ds.length = some r2 := by unfold seqIndex?; simp; omega
            have small : decide (((r2 : Nat) : Int).natAbs < 2 ^ 63) = true := decide_eq_true (by
              have : (300 : Nat) < 2 ^ 63 := by decide
              omega)
            unfold B__law_bent
            rw [v_runF]
            cases b with
            | true =>
              rw [h2 rfl]
              simp_arith! [g, hle, c0, d1, c1, d2, hli, d3, a0, sq, small, he]
              simp_arith! [hb]
            | false =>
              have h3 := h3 rfl
              simp_arith! [g, hle, c0, d1, c1, d2, hli, d3, a0, sq, small, he]
              simp_arith! [hb, h3]
          · have a0 : decide (((r3 : Nat) : Int) = 0) = false := decide_eq_false (by omega)
            by_cases w1 : r3 = 1
            · have a1 : decide (((r3 : Nat) : Int) = 1) = true := decide_eq_true (by omega)
              have hpm : (ds.take r2 ++ [e] ++ ds.drop r2).Perm (e :: ds) := by
                have h1 : (ds.take r2 ++ [e] ++ ds.drop r2).Perm (e :: (ds.take r2 ++ ds.drop r2)) := by
                  rw [List.append_assoc]
                  exact List.perm_middle
                rwa [List.take_append_drop] at h1
              have hL2 : NvL (m + 1) (l + 1) (k' + 2) (max (2 * (n' + 1)) 3 - 1) (ds.take r2 ++ [e] ++ ds.drop r2) := by
                refine NvL.perm ⟨fun z hz => ?_, fun z hz => ?_, ?_⟩ hpm
                · rcases List.mem_cons.mp hz with rfl | hz
                  · exact hp1.fi _ hem
                  · exact hp1.fi _ hz
                · rcases List.mem_cons.mp hz with rfl | hz
                  · exact hp1.dp _ hem
                  · exact hp1.dp _ hz
                · show nd e + nds ds ≤ _
                  omega
              obtain ⟨d', h1, h2, h3⟩ := fin _ hL2 (by rw [hpm.length_eq, List.length_cons]; omega)
              refine ⟨d', y3, h1, hy3.less (by omega), ?_⟩
              have small : (decide ((0 : Int) ≤ ((r2 : Nat) : Int)) && decide (((r2 : Nat) : Int).natAbs < 2 ^ 63)) = true := by
                rw [decide_eq_true (by omega), decide_eq_true (by
                  have : (300 : Nat) < 2 ^ 63 := by decide
                  omega)]
                rfl
              have tn : ((r2 : Nat) : Int).toNat = r2 := Int.toNat_natCast r2
              rw [List.append_assoc] at h2 h3
              unfold B__law_bent
              rw [v_runF]
              cases b with
              | true =>
                rw [h2 rfl]
                simp_arith! [g, hle, c0, d1, c1, d2, hli, d3, a0, a1, hix, small, tn]
                simp_arith! [hb]
              | false =>
                have h3 := h3 rfl
                rw [List.singleton_append] at h3
                simp_arith! [g, hle, c0, d1, c1, d2, hli, d3, a0, a1, hix, small, tn]
                simp_arith! [hb, h3]
            · have a1 : decide (((r3 : Nat) : Int) = 1) = false := decide_eq_false (by omega)
              by_cases w2 : r3 = 2
              · have a2 : decide (((r3 : Nat) : Int) = 2) = true := decide_eq_true (by omega)
                have hpm := swap_perm hr2
                obtain ⟨d', h1, h2, h3⟩ := fin _ (hp1.perm hpm) (by rw [hpm.length_eq]; omega)
                refine ⟨d', y3, h1, hy3.less (by omega), ?_⟩
                have hcl : (cutL ds (some (r2 : Int)) (some ((r2 + 2 : Nat) : Int))).length ≤ ds.length := Nat.le_trans (List.length_take_le' ..) (by rw [List.length_drop]; omega)
                have st := stSl_at (y := y3) (rest := rest) (xs := ds) (ys := (cutL ds (some (r2 : Int)) (some ((r2 + 2 : Nat) : Int))).reverse) (a := r2) (c := r2 + 2) (by omega) (by omega) (by rw [List.length_reverse]; omega)
                have cz : ((r2 : Nat) : Int) + 2 = ((r2 + 2 : Nat) : Int) := by omega
                obtain ⟨CU, hCU⟩ : ∃ CU, cutL ds (some (r2 : Int)) (some ((r2 + 2 : Nat) : Int)) = CU := ⟨_, rfl⟩
                have hcd : cutD (some (r2 : Int)) (some ((r2 + 2 : Nat) : Int)) (.list ds) = some (.list CU) := by rw [cutD_l, hCU]
                rw [hCU] at h2 h3 st
                generalize ds.take r2 ++ CU.reverse ++ ds.drop (r2 + 2) = DN at h2 h3 st
                unfold B__law_bent
                rw [v_runF]
                cases b with
                | true =>
                  rw [h2 rfl]
                  simp_arith! [g, hle, c0, d1, c1, d2, hli, d3, a0, a1, a2, v_osl, cz, hcd, st]
                  simp_arith! [hb]
                | false =>
                  have h3 := h3 rfl
                  simp_arith! [g, hle, c0, d1, c1, d2, hli, d3, a0, a1, a2, v_osl, cz, hcd, st]
                  simp_arith! [hb, h3]
              · have a2 : decide (((r3 : Nat) : Int) = 2) = false := decide_eq_false (by omega)
                have hnv : Nv m l k' (nd e) e := ⟨hp.fi e hem, hp.dp e hem, Nat.le_refl _⟩
                obtain ⟨e', y4, v1, v2, v3⟩ := ih (q := q) (x := y3) (rest ++ [.lst ds]) hnv (by omega) hm hm2 hl hl2 hy3
                have hns := nds_set (e' := e') he
                have hL2 : NvL (m + 1) (l + 1) (k' + 2) (max (2 * (n' + 1)) 3 - 1) (ds.set r2 e') := by
                  refine ⟨fun z hz => ?_, fun z hz => ?_, ?_⟩
                  · rcases List.mem_or_eq_of_mem_set hz with hz | rfl
                    · exact hp1.fi _ hz
                    · exact v1.fi
                  · rcases List.mem_or_eq_of_mem_set hz with hz | rfl
                    · exact hp1.dp _ hz
                    · exact v1.dp
                  · have := v1.nn
                    omega
                obtain ⟨d', h1, h2, h3⟩ := fin _ hL2 (by rw [List.length_set]; omega)
                refine ⟨d', y4, h1, v2, ?_⟩
                have hpu : putC (.lst ds) (.int (r2 : Nat)) e' = some (.lst (ds.set r2 e')) := putC_l hr2
                unfold B__law_bent
                rw [v_runF]
                cases b with
                | true =>
                  rw [h2 rfl]
                  simp_arith! [g, hle, c0, d1, c1, d2, hli, d3, a0, a1, a2, hix, v3, hpu]
                  simp_arith! [hb]
                | false =>
                  have h3 := h3 rfl
                  simp_arith! [g, hle, c0, d1, c1, d2, hli, d3, a0, a1, a2, hix, v3, hpu]
                  simp_arith! [hb, h3]
    · have g : (gList d || gTup d) = false := by cases h : (gList d || gTup d) with
        | true => exact absurd h g
        | false => rfl
      obtain ⟨d', y, h1, h2, h3⟩ := hod x (hx.less (by omega))
      refine ⟨d', y, up d' h1, h2, ?_⟩
      unfold B__law_bent
      rw [v_runF]
      simp_arith! [g, h3]
end
open PySem PySem.Spec PyProof.Rows L2 Vz Vz.Q
section
mutual
theorem fine_ok {m l : Nat} (hl : l ≤ 1000) : ∀ d : D, fine m l d = true → okD d = true
  | .none, _ => rfl
  | .bool _, _ => rfl
  | .int _, _ => rfl
  | .str x, h => (Bool.and_eq_true_iff.mp h).1
  | .list xs, h => by
    obtain ⟨a, b⟩ := Bool.and_eq_true_iff.mp h
    have b := of_decide_eq_true b
    exact Bool.and_eq_true_iff.mpr ⟨fines_ok hl xs a, decide_eq_true (by unfold lim; omega)⟩
  | .tup f xs, h => by
    obtain ⟨_, h⟩ := Bool.and_eq_true_iff.mp h
    obtain ⟨a, b⟩ := Bool.and_eq_true_iff.mp h
    have b := of_decide_eq_true b
    exact Bool.and_eq_true_iff.mpr ⟨fines_ok hl xs a, decide_eq_true (by unfold lim; omega)⟩
  | .dT _, h => nomatch h
  | .dK _, h => nomatch h
theorem fines_ok {m l : Nat} (hl : l ≤ 1000) : ∀ ds : List D, fines m l ds = true → okDs ds = true
  | [], _ => rfl
  | d :: ds, h => by
    obtain ⟨a, b⟩ := Bool.and_eq_true_iff.mp h
    exact Bool.and_eq_true_iff.mpr ⟨fine_ok hl d a, fines_ok hl ds b⟩
end
theorem show_int {i : Int} (h : i.natAbs < 10 ^ 40) : PyData.showable (.int i) = true ∧ (PyData.shown (.int i)).length ≤ 60 := by
  have hl := log_lt h
  refine ⟨?_, ?_⟩
  · simp only [PyData.showable, decide_eq_true_eq]
    omega
  · have e := int_text_length_le10 (a := i) (k := 40) (by decide) h
    have e2 : (PyData.shown (.int i)).length = (toString i).length := by
      rw [PyData.shown_int]
      exact PySem.ofString_length _
    omega
theorem show_str {x : Str} (h : PyData.strOk x = true) (hs : x.cps.size ≤ 24) : (PyData.shown (.str x)).length ≤ 248 := by
  have h1 : x.cps.all (fun c => decide (c < 1114112)) = true := h
  have hsh : PyData.leavesShort 8 (.str x) = true := by
    simp only [PyData.leavesShort, List.all_eq_true, decide_eq_true_eq]
    intro c hc
    rw [Array.all_eq_true'] at h1
    have := h1 c (Array.mem_toList_iff.mp hc)
    have := of_decide_eq_true this
    omega
  have := PyData.shown_le 8 (by decide) (.str x) hsh
  have hw : PyData.weight (.str x) = x.cps.size := rfl
  rw [hw] at this
  omega
mutual
theorem show_ok {m l : Nat} (hm : m < 10 ^ 40) : ∀ d : D, fine m l d = true → d.py.showable = true ∧ d.py.shown.length + 2 ≤ 255 * nd d
  | .none, _ => ⟨rfl, by show _ ≤ 255 * 1; decide⟩
  | .bool b, _ => ⟨rfl, by show _ ≤ 255 * 1; cases b <;> decide⟩
  | .int i, h => by
    have h : i.natAbs ≤ m := of_decide_eq_true h
    obtain ⟨a, b⟩ := show_int (i := i) (by omega)
    exact ⟨a, by show (PyData.shown (.int i)).length + 2 ≤ 255 * 1; omega⟩
  | .str x, h => by
    obtain ⟨a, b⟩ := Bool.and_eq_true_iff.mp h
    have := show_str a (of_decide_eq_true b)
    exact ⟨rfl, by show (PyData.shown (.str x)).length + 2 ≤ 255 * 1; omega⟩
  | .list xs, h => by
    obtain ⟨a, _⟩ := Bool.and_eq_true_iff.mp h
    obtain ⟨h1, h2, h3⟩ := shows_ok hm xs a
    refine ⟨by show PyData.showable (.list (pyAll xs)) = true; simpa only [PyData.showable] using h1, ?_⟩
    show (listText (PyData.shownAll (pyAll xs))).length + 2 ≤ 255 * (nds xs + 1)
    have := listText_len_le (PyData.shownAll (pyAll xs))
    omega
  | .tup f xs, h => by
    obtain ⟨_, h⟩ := Bool.and_eq_true_iff.mp h
    obtain ⟨a, _⟩ := Bool.and_eq_true_iff.mp h
    obtain ⟨h1, h2, h3⟩ := shows_ok hm xs a
    refine ⟨by show PyData.showable (.tuple (pyAll xs)) = true; simpa only [PyData.showable] using h1, ?_⟩
    show (tupleText (PyData.shownAll (pyAll xs))).length + 2 ≤ 255 * (nds xs + 1)
    have := tupleText_len_le (PyData.shownAll (pyAll xs))
    omega
  | .dT _, h => nomatch h
  | .dK _, h => nomatch h
theorem shows_ok {m l : Nat} (hm : m < 10 ^ 40) : ∀ ds : List D, fines m l ds = true → PyData.showableAll (pyAll ds) = true ∧ ((PyData.shownAll (pyAll ds)).map (·.length)).sum + 2 * (PyData.shownAll (pyAll ds)).length ≤ 255 * nds ds ∧ True
  | [], _ => ⟨rfl, Nat.le_refl _, trivial⟩
  | d :: ds, h => by
    obtain ⟨a, b⟩ := Bool.and_eq_true_iff.mp h
    obtain ⟨h1, h2⟩ := show_ok hm d a
    obtain ⟨h3, h4, _⟩ := shows_ok hm ds b
    refine ⟨?_, ?_, trivial⟩
    · show PyData.showableAll (d.py :: pyAll ds) = true
      simp only [PyData.showableAll, h1, h3, Bool.and_self]
    · show (((PyData.shownAll (d.py :: pyAll ds))).map (·.length)).sum + 2 * (PyData.shownAll (d.py :: pyAll ds)).length ≤ 255 * (nd d + nds ds)
      simp only [PyData.shownAll, List.map_cons, List.sum_cons, List.length_cons]
      omega
end
/-- repr gives a text -/
theorem reprA_ok {m l k n : Nat} {d : D} (h : Nv m l k n d) (hm : m < 10 ^ 40) (hl : l ≤ 1000) (hk : k ≤ 60) (hn : n ≤ 60000) : ∃ s, SO s ∧ reprAD [d] = some (.str s) := by
  obtain ⟨h1, h2⟩ := show_ok hm d h.fi
  have hok := fine_ok hl d h.fi
  have hs := shp_ok hok (by have := h.dp; omega)
  have hnn := h.nn
  cases d with
  | none => exact ⟨_, so_of _, rfl⟩
  | bool b => exact ⟨_, by cases b <;> exact so_of _, rfl⟩
  | int i =>
    have hi : i.natAbs ≤ m := of_decide_eq_true h.fi
    refine ⟨_, so_of (toString i), ?_⟩
    show ifO _ _ = _
    rw [decide_eq_true (log_lt (by omega))]
    rfl
  | str x =>
    refine ⟨reprText x, so_repr (so_iff.mp hok), ?_⟩
    show ifO _ _ = _
    have : (reprText x).length + 2 ≤ 255 * 1 := h2
    rw [decide_eq_true (by unfold lim; omega)]
    rfl
  | list xs =>
    refine ⟨_, so_shown _ hok, ?_⟩
    show ifO _ _ = _
    rw [hs, h1, decide_eq_true (by omega)]
    rfl
  | tup f xs =>
    refine ⟨_, so_shown _ hok, ?_⟩
    show ifO _ _ = _
    rw [hs, h1, decide_eq_true (by omega)]
    rfl
  | dT _ => exact nomatch h.fi
  | dK _ => exact nomatch h.fi
end
open PySem PySem.Spec PyProof.Rows L2 Vz Vz.Q Vz.G
local macro_rules
  | `(tactic| simp_arith! [$hs,*]) => `(tactic| simp -implicitDefEqProofs -dsimp (disch := first | assumption | omega | (simp only [List.length_map, List.length_append, List.length_cons, List.length_nil, List.length_range, List.length_take, List.length_drop, List.length_replicate, List.length_reverse, List.length_zipIdx]; omega)) only [Vz.Q.ifB_t, Vz.Q.ifB_f, Vz.Q.bind_ok, Vz.Q.bind_exc, Vz.Q.then_ok, Vz.Q.then_exc, Vz.Q.andThen_nx, Vz.Q.andThen_rt, Vz.Q.andThen_exc, Vz.Q.andThen_bk, Vz.Q.andThen_ct, Vz.Q.lift_some, Vz.Q.ofo_some, Vz.Q.get_ok, Vz.Q.noX_ok, Vz.Q.ifO_t, Vz.Q.varO_, Vz.Q.v_var, Vz.Q.v_c, Vz.Q.v_bin, Vz.Q.v_b, Vz.Q.asB_, Vz.Q.v_and, Vz.Q.v_or, Vz.Q.v_not, Vz.Q.v_v, Vz.Q.v_andV, Vz.Q.v_orV, Vz.Q.v_notV, Vz.Q.v_if, Vz.Q.v_chain, Vz.Q.v_anil, Vz.Q.v_acons, Vz.Q.v_tup, Vz.Q.v_tupK, Vz.Q.v_frz, Vz.Q.v_cell, Vz.Q.v_disp, Vz.Q.lsO_, Vz.Q.v_cat, Vz.Q.v_call, Vz.Q.v_lcall, Vz.Q.v_app, Vz.Q.v_appK, Vz.Q.v_nil, Vz.Q.v_pass, Vz.Q.v_seq, Vz.Q.v_break, Vz.Q.v_cont, Vz.Q.v_expr, Vz.Q.v_ret, Vz.Q.v_retN, Vz.Q.v_sif, Vz.Q.v_set, Vz.Q.v_setLc, Vz.Q.v_setLf, Vz.Q.v_aug, Vz.Q.parO_, Vz.Q.v_par, Vz.Q.nxO_, Vz.Q.v_asg, Vz.Q.v_oname, Vz.Q.v_onnil, Vz.Q.v_oncons, Vz.Q.v_otup, Vz.Q.v_osub, Vz.Q.v_fz, Vz.Q.v_meth, Vz.Q.v_meth0, Vz.Q.someR_, Vz.Q.v_index, Vz.Q.v_isi, Vz.Q.v_neg, Vz.Q.v_rev, Vz.Q.v_range, Vz.Q.v_sl, Vz.Q.v_no, Vz.Q.v_yesI, Vz.Q.v_dictT, Vz.Q.v_iseq, Vz.Q.v_iargs, Vz.Q.v_ifr, Vz.Q.rd_dat, Vz.Q.rd_loc, Vz.Q.rdC_lst, Vz.Q.rdC_frz, Vz.Q.rdC_dT, Vz.Q.rdC_dK, Vz.Q.rd2_, Vz.Q.rds_nil, Vz.Q.rds_cons, Vz.Q.dats_nil, Vz.Q.dats_cons, Vz.Q.small_1, Vz.Q.small_2, Vz.Q.small_3, Vz.Q.small_0, Vz.Q.small_, Vz.Q.one_, Vz.Q.two_, Vz.Q.frd_dat, Vz.Q.frd_loc, Vz.Q.frdC_frz, Vz.Q.frds_nil, Vz.Q.frds_cons, Vz.Q.LstW_, Vz.Q.lstB_, Vz.Q.lstC_, Vz.Q.lstO_, Vz.Q.v_append, Vz.Q.v_insert, Vz.Q.v_extend, Vz.Q.v_popAt, Vz.Q.asInt_, Vz.Q.asLs_, Vz.Q.v_stB, Vz.Q.lim_app, Vz.Q.lim_le, Vz.Q.lim_lt, Vz.Q.addL_, Vz.Q.addD_ll, Vz.Q.addD_tt, Option.bind_some, Option.map_some, addD_ii, subI_ii, ltI_ii, leI_ii, gtI_ii, geI_ii, eqD_ii, isN_non, isN_int, isN_str, List.getElem?_cons_zero, List.getElem?_cons_succ, List.set_cons_zero, List.set_cons_succ, List.length_cons, List.length_nil, List.length_append, Nat.zero_add, Nat.add_zero, Nat.reduceAdd, Nat.reduceSub, Nat.reduceEqDiff, at_app0, at_appk, set_app0, set_appk, List.append_assoc, List.cons_append, List.nil_append, List.append_nil, List.map_cons, List.map_nil, List.replicate, Vz.Q.fn_dat, Vz.Q.fn_nx, Vz.Q.fn_exc, Vz.Q.fn_exn, Vz.Q.fn_loc, Vz.Q.retC_lst, Vz.Q.retC_frz, Vz.Q.retC_dT, Vz.Q.retC_dK, Vz.Q.bodyF_, Vz.Q.bodyO_, Vz.Q.cutR_nil, Vz.Q.cutR_cons, Vz.Q.cutW_dat, Vz.Q.cutW_none, Vz.Q.cutW_exn, Vz.Q.cutW_loc, Vz.Q.cutW_locN, wipeR, List.take_succ_cons, List.take_length, List.take_left, take_appk, List.take_zero, List.take_nil, Vz.Q.v_yes, Vz.Q.v_lcB, Vz.Q.lcO_, Vz.Q.v_cname, Vz.Q.v_ctup, Vz.Q.v_cnnil, Vz.Q.v_cncons, Vz.Q.bb_tf, Vz.Q.bb_ft, Vz.Q.bb_tt, Vz.Q.bb_ff, Vz.Q.bn_tf, Vz.Q.bn_ft, Vz.Q.bn_tt, Vz.Q.bn_ff, eqD_bb, neD_bb, Bool.not_true, Bool.not_false, Bool.and_true, Bool.true_and, Bool.and_self, decide_true, decide_false, eq_self, Vz.Q.v_izd, Vz.Q.par3O_, Vz.Q.v_par3, Vz.Q.v_try, Vz.Q.try_exc, Vz.Q.try_nx, Vz.Q.try_rt, Vz.Q.drop_nx, Vz.Q.drop_rt, Vz.Q.v_raise1, Vz.Q.r1O_, Vz.Q.v_raise0, Vz.Q.v_isNo, Vz.Q.v_isNoN, Vz.Q.isNo_non, Vz.Q.isNo_exn, Vz.Q.v_isX, Vz.Q.isXW_, Vz.Q.v_xf, Vz.Q.xfW_, Vz.Q.v_oseq_t, Vz.Q.v_oseq_l, Vz.Q.enumD_l, Vz.Q.enumD_t, Vz.Q.nums_map, Vz.Q.listD_l, Vz.Q.listD_t, Vz.Q.tupleD_l, Vz.Q.tupleD_t, Vz.Q.lenD_l, Vz.Q.lenD_t, Vz.Q.cutD_l, Vz.Q.cutD_n, Vz.Q.revD_l, Vz.Q.fz_dat, Vz.Q.fz_loc, Vz.Q.fzC_lst, Vz.Q.fzC_frz, Vz.Q.isNN_non, Vz.Q.isNN_int, Vz.Q.isNN_str, Vz.Q.inD_l, Vz.Q.inD_t, Vz.Q.sqB_l, Vz.Q.sqB_t, Bool.false_xor, Bool.true_xor, asI, Vz.Q.walk_dl, Vz.Q.walk_dt, List.length_map, List.map_append, $hs,*])
section
variable {S : Sto} {xs : List Int} {as : List Anc} {it t : D}
end
end Vz.H
namespace Vz.G
open Vz Vz.H
def wrongB (ms : List Mark) (p : Nat) : Bool := match ms.getD p none with
  | none => false
  | some k => decide ((p : Int) ≤ k)
def crossB (ms : List Mark) (x y : Nat) : Bool := match ms.getD x none with
  | none => false
  | some a => match ms.getD y none with
    | none => false
    | some b => !wrongB ms x && !wrongB ms y && (decide (a < (y : Int)) && decide (y < x) && decide (b < a))
end Vz.G
namespace Vz.H
open PySem PySem.Spec PyProof.Rows L2 Vz Vz.Q Vz.G
local macro_rules
  | `(tactic| simp_arith [$hs,*]) => `(tactic| simp -implicitDefEqProofs -dsimp (disch := first | assumption | omega | (simp only [List.length_map, List.length_append, List.length_cons, List.length_nil, List.length_range, List.length_take, List.length_drop, List.length_replicate, List.length_reverse, List.length_zipIdx]; omega)) only [Vz.Q.ifB_t, Vz.Q.ifB_f, Vz.Q.bind_ok, Vz.Q.bind_exc, Vz.Q.then_ok, Vz.Q.then_exc, Vz.Q.andThen_nx, Vz.Q.andThen_rt, Vz.Q.andThen_exc, Vz.Q.andThen_bk, Vz.Q.andThen_ct, Vz.Q.lift_some, Vz.Q.ofo_some, Vz.Q.get_ok, Vz.Q.noX_ok, Vz.Q.ifO_t, Vz.Q.varO_, Vz.Q.v_var, Vz.Q.v_c, Vz.Q.v_bin, Vz.Q.v_b, Vz.Q.asB_, Vz.Q.v_and, Vz.Q.v_or, Vz.Q.v_not, Vz.Q.v_v, Vz.Q.v_andV, Vz.Q.v_orV, Vz.Q.v_notV, Vz.Q.v_if, Vz.Q.v_chain, Vz.Q.v_anil, Vz.Q.v_acons, Vz.Q.v_tup, Vz.Q.v_tupK, Vz.Q.v_frz, Vz.Q.v_cell, Vz.Q.v_disp, Vz.Q.lsO_, Vz.Q.v_cat, Vz.Q.v_call, Vz.Q.v_lcall, Vz.Q.v_app, Vz.Q.v_appK, Vz.Q.v_nil, Vz.Q.v_pass, Vz.Q.v_seq, Vz.Q.v_break, Vz.Q.v_cont, Vz.Q.v_expr, Vz.Q.v_ret, Vz.Q.v_retN, Vz.Q.v_sif, Vz.Q.v_set, Vz.Q.v_setLc, Vz.Q.v_setLf, Vz.Q.v_aug, Vz.Q.parO_, Vz.Q.v_par, Vz.Q.nxO_, Vz.Q.v_asg, Vz.Q.v_oname, Vz.Q.v_onnil, Vz.Q.v_oncons, Vz.Q.v_otup, Vz.Q.v_osub, Vz.Q.v_fz, Vz.Q.v_meth, Vz.Q.v_meth0, Vz.Q.someR_, Vz.Q.v_index, Vz.Q.v_isi, Vz.Q.v_neg, Vz.Q.v_rev, Vz.Q.v_range, Vz.Q.v_sl, Vz.Q.v_no, Vz.Q.v_yesI, Vz.Q.v_dictT, Vz.Q.v_iseq, Vz.Q.v_iargs, Vz.Q.v_ifr, Vz.Q.rd_dat, Vz.Q.rd_loc, Vz.Q.rdC_lst, Vz.Q.rdC_frz, Vz.Q.rdC_dT, Vz.Q.rdC_dK, Vz.Q.rd2_, Vz.Q.rds_nil, Vz.Q.rds_cons, Vz.Q.dats_nil, Vz.Q.dats_cons, Vz.Q.small_1, Vz.Q.small_2, Vz.Q.small_3, Vz.Q.small_0, Vz.Q.small_, Vz.Q.one_, Vz.Q.two_, Vz.Q.frd_dat, Vz.Q.frd_loc, Vz.Q.frdC_frz, Vz.Q.frds_nil, Vz.Q.frds_cons, Vz.Q.LstW_, Vz.Q.lstB_, Vz.Q.lstC_, Vz.Q.lstO_, Vz.Q.v_append, Vz.Q.v_insert, Vz.Q.v_extend, Vz.Q.v_popAt, Vz.Q.asInt_, Vz.Q.asLs_, Vz.Q.v_stB, Vz.Q.lim_app, Vz.Q.lim_le, Vz.Q.lim_lt, Vz.Q.addL_, Vz.Q.addD_ll, Vz.Q.addD_tt, Option.bind_some, Option.map_some, addD_ii, subI_ii, ltI_ii, leI_ii, gtI_ii, geI_ii, eqD_ii, isN_non, isN_int, isN_str, List.getElem?_cons_zero, List.getElem?_cons_succ, List.set_cons_zero, List.set_cons_succ, List.length_cons, List.length_nil, List.length_append, Nat.zero_add, Nat.add_zero, Nat.reduceAdd, Nat.reduceSub, Nat.reduceEqDiff, at_app0, at_appk, set_app0, set_appk, List.append_assoc, List.cons_append, List.nil_append, List.append_nil, List.map_cons, List.map_nil, List.replicate, Vz.Q.fn_dat, Vz.Q.fn_nx, Vz.Q.fn_exc, Vz.Q.fn_exn, Vz.Q.fn_loc, Vz.Q.retC_lst, Vz.Q.retC_frz, Vz.Q.retC_dT, Vz.Q.retC_dK, Vz.Q.bodyF_, Vz.Q.bodyO_, Vz.Q.cutR_nil, Vz.Q.cutR_cons, Vz.Q.cutW_dat, Vz.Q.cutW_none, Vz.Q.cutW_exn, Vz.Q.cutW_loc, Vz.Q.cutW_locN, wipeR, List.take_succ_cons, List.take_length, List.take_left, take_appk, List.take_zero, List.take_nil, Vz.Q.v_yes, Vz.Q.v_lcB, Vz.Q.lcO_, Vz.Q.v_cname, Vz.Q.v_ctup, Vz.Q.v_cnnil, Vz.Q.v_cncons, Vz.Q.bb_tf, Vz.Q.bb_ft, Vz.Q.bb_tt, Vz.Q.bb_ff, Vz.Q.bn_tf, Vz.Q.bn_ft, Vz.Q.bn_tt, Vz.Q.bn_ff, eqD_bb, neD_bb, Bool.not_true, Bool.not_false, Bool.and_true, Bool.true_and, Bool.and_self, decide_true, decide_false, eq_self, $hs,*])
local macro_rules
  | `(tactic| simp_arith! [$hs,*]) => `(tactic| simp -implicitDefEqProofs -dsimp (disch := first | assumption | omega | (simp only [List.length_map, List.length_append, List.length_cons, List.length_nil, List.length_range, List.length_take, List.length_drop, List.length_replicate, List.length_reverse, List.length_zipIdx]; omega)) only [Vz.Q.ifB_t, Vz.Q.ifB_f, Vz.Q.bind_ok, Vz.Q.bind_exc, Vz.Q.then_ok, Vz.Q.then_exc, Vz.Q.andThen_nx, Vz.Q.andThen_rt, Vz.Q.andThen_exc, Vz.Q.andThen_bk, Vz.Q.andThen_ct, Vz.Q.lift_some, Vz.Q.ofo_some, Vz.Q.get_ok, Vz.Q.noX_ok, Vz.Q.ifO_t, Vz.Q.varO_, Vz.Q.v_var, Vz.Q.v_c, Vz.Q.v_bin, Vz.Q.v_b, Vz.Q.asB_, Vz.Q.v_and, Vz.Q.v_or, Vz.Q.v_not, Vz.Q.v_v, Vz.Q.v_andV, Vz.Q.v_orV, Vz.Q.v_notV, Vz.Q.v_if, Vz.Q.v_chain, Vz.Q.v_anil, Vz.Q.v_acons, Vz.Q.v_tup, Vz.Q.v_tupK, Vz.Q.v_frz, Vz.Q.v_cell, Vz.Q.v_disp, Vz.Q.lsO_, Vz.Q.v_cat, Vz.Q.v_call, Vz.Q.v_lcall, Vz.Q.v_app, Vz.Q.v_appK, Vz.Q.v_nil, Vz.Q.v_pass, Vz.Q.v_seq, Vz.Q.v_break, Vz.Q.v_cont, Vz.Q.v_expr, Vz.Q.v_ret, Vz.Q.v_retN, Vz.Q.v_sif, Vz.Q.v_set, Vz.Q.v_setLc, Vz.Q.v_setLf, Vz.Q.v_aug, Vz.Q.parO_, Vz.Q.v_par, Vz.Q.nxO_, Vz.Q.v_asg, Vz.Q.v_oname, Vz.Q.v_onnil, Vz.Q.v_oncons, Vz.Q.v_otup, Vz.Q.v_osub, Vz.Q.v_fz, Vz.Q.v_meth, Vz.Q.v_meth0, Vz.Q.someR_, Vz.Q.v_index, Vz.Q.v_isi, Vz.Q.v_neg, Vz.Q.v_rev, Vz.Q.v_range, Vz.Q.v_sl, Vz.Q.v_no, Vz.Q.v_yesI, Vz.Q.v_dictT, Vz.Q.v_iseq, Vz.Q.v_iargs, Vz.Q.v_ifr, Vz.Q.rd_dat, Vz.Q.rd_loc, Vz.Q.rdC_lst, Vz.Q.rdC_frz, Vz.Q.rdC_dT, Vz.Q.rdC_dK, Vz.Q.rd2_, Vz.Q.rds_nil, Vz.Q.rds_cons, Vz.Q.dats_nil, Vz.Q.dats_cons, Vz.Q.small_1, Vz.Q.small_2, Vz.Q.small_3, Vz.Q.small_0, Vz.Q.small_, Vz.Q.one_, Vz.Q.two_, Vz.Q.frd_dat, Vz.Q.frd_loc, Vz.Q.frdC_frz, Vz.Q.frds_nil, Vz.Q.frds_cons, Vz.Q.LstW_, Vz.Q.lstB_, Vz.Q.lstC_, Vz.Q.lstO_, Vz.Q.v_append, Vz.Q.v_insert, Vz.Q.v_extend, Vz.Q.v_popAt, Vz.Q.asInt_, Vz.Q.asLs_, Vz.Q.v_stB, Vz.Q.lim_app, Vz.Q.lim_le, Vz.Q.lim_lt, Vz.Q.addL_, Vz.Q.addD_ll, Vz.Q.addD_tt, Option.bind_some, Option.map_some, addD_ii, subI_ii, ltI_ii, leI_ii, gtI_ii, geI_ii, eqD_ii, isN_non, isN_int, isN_str, List.getElem?_cons_zero, List.getElem?_cons_succ, List.set_cons_zero, List.set_cons_succ, List.length_cons, List.length_nil, List.length_append, Nat.zero_add, Nat.add_zero, Nat.reduceAdd, Nat.reduceSub, Nat.reduceEqDiff, at_app0, at_appk, set_app0, set_appk, List.append_assoc, List.cons_append, List.nil_append, List.append_nil, List.map_cons, List.map_nil, List.replicate, Vz.Q.fn_dat, Vz.Q.fn_nx, Vz.Q.fn_exc, Vz.Q.fn_exn, Vz.Q.fn_loc, Vz.Q.retC_lst, Vz.Q.retC_frz, Vz.Q.retC_dT, Vz.Q.retC_dK, Vz.Q.bodyF_, Vz.Q.bodyO_, Vz.Q.cutR_nil, Vz.Q.cutR_cons, Vz.Q.cutW_dat, Vz.Q.cutW_none, Vz.Q.cutW_exn, Vz.Q.cutW_loc, Vz.Q.cutW_locN, wipeR, List.take_succ_cons, List.take_length, List.take_left, take_appk, List.take_zero, List.take_nil, Vz.Q.v_yes, Vz.Q.v_lcB, Vz.Q.lcO_, Vz.Q.v_cname, Vz.Q.v_ctup, Vz.Q.v_cnnil, Vz.Q.v_cncons, Vz.Q.bb_tf, Vz.Q.bb_ft, Vz.Q.bb_tt, Vz.Q.bb_ff, Vz.Q.bn_tf, Vz.Q.bn_ft, Vz.Q.bn_tt, Vz.Q.bn_ff, eqD_bb, neD_bb, Bool.not_true, Bool.not_false, Bool.and_true, Bool.true_and, Bool.and_self, decide_true, decide_false, eq_self, Vz.Q.v_izd, Vz.Q.par3O_, Vz.Q.v_par3, Vz.Q.v_try, Vz.Q.try_exc, Vz.Q.try_nx, Vz.Q.try_rt, Vz.Q.drop_nx, Vz.Q.drop_rt, Vz.Q.v_raise1, Vz.Q.r1O_, Vz.Q.v_raise0, Vz.Q.v_isNo, Vz.Q.v_isNoN, Vz.Q.isNo_non, Vz.Q.isNo_exn, Vz.Q.v_isX, Vz.Q.isXW_, Vz.Q.v_xf, Vz.Q.xfW_, Vz.Q.v_oseq_t, Vz.Q.v_oseq_l, Vz.Q.enumD_l, Vz.Q.enumD_t, Vz.Q.nums_map, Vz.Q.listD_l, Vz.Q.listD_t, Vz.Q.tupleD_l, Vz.Q.tupleD_t, Vz.Q.lenD_l, Vz.Q.lenD_t, Vz.Q.cutD_l, Vz.Q.cutD_n, Vz.Q.revD_l, Vz.Q.fz_dat, Vz.Q.fz_loc, Vz.Q.fzC_lst, Vz.Q.fzC_frz, Vz.Q.isNN_non, Vz.Q.isNN_int, Vz.Q.isNN_str, Vz.Q.inD_l, Vz.Q.inD_t, Vz.Q.sqB_l, Vz.Q.sqB_t, Bool.false_xor, Bool.true_xor, asI, Vz.Q.walk_dl, Vz.Q.walk_dt, List.length_map, List.map_append, $hs,*])
section
variable {S : Sto} {xs : List Int} {as : List Anc} {it t : D} {ms : List Mark}
theorem ixM {p : Nat} (hp : p < ms.length) : ixD (.list (ms.map encM)) (nD p) = some (encM (ms.getD p none)) := ixD_get hp
theorem wrong_ok {p : Nat} (hp : p < ms.length) : F_is_wrong [.dat (.list (ms.map encM)), .dat (nD p)] S = .ok (.dat (.bool (wrongB ms p))) S := by
  have hx := ixM hp
  unfold F_is_wrong b_is_wrong wrongB
  rw [v_runF]
  cases hm : ms.getD p none with
  | none =>
    rw [hm] at hx
    have i0 : isNN (encM none) .none = some (.bool false) := rfl
    simp_arith! [hx, i0]
  | some k =>
    rw [hm] at hx
    have i0 : isNN (encM (some k)) .none = some (.bool true) := rfl
    have i1 : geI (encM (some k)) (nD p) = some (.bool (decide ((p : Int) ≤ k))) := rfl
    simp_arith! [hx, i0, i1]
theorem cross_ok {x y : Nat} (hx : x < ms.length) (hy : y < ms.length) : F_do_cross [.dat (.list (ms.map encM)), .dat (nD x), .dat (nD y)] S = .ok (.dat (.bool (crossB ms x y))) S := by
  have h1 := ixM hx
  have h2 := ixM hy
  have w1 := wrong_ok (S := S) hx
  have w2 := wrong_ok (S := S) hy
  unfold F_do_cross b_do_cross B_do_cross crossB
  generalize F_is_wrong = IW at w1 w2
  rw [v_runF]
  cases hm : ms.getD x none with
  | none =>
    rw [hm] at h1
    have i0 : isN (encM none) .none = some (.bool true) := rfl
    simp_arith! [h1, i0]
  | some a =>
    rw [hm] at h1
    have i0 : isN (encM (some a)) .none = some (.bool false) := rfl
    cases hm2 : ms.getD y none with
    | none =>
      rw [hm2] at h2
      have i1 : isN (encM none) .none = some (.bool true) := rfl
      simp_arith! [h1, h2, i0, i1]
    | some b =>
      rw [hm2] at h2
      have i1 : isN (encM (some b)) .none = some (.bool false) := rfl
      have l1 : ltI (encM (some a)) (nD y) = some (.bool (decide (a < (y : Int)))) := rfl
      have l2 : ltI (nD y) (nD x) = some (.bool (decide (y < x))) := by
        show some (D.bool (decide ((y : Int) < (x : Int)))) = _
        rw [lt_nat]
      have l3 : ltI (encM (some b)) (encM (some a)) = some (.bool (decide (b < a))) := rfl
      cases e1 : wrongB ms x with
      | true =>
        rw [e1] at w1
        simp_arith! [h1, h2, i0, i1, w1, Bool.false_and]
      | false =>
        rw [e1] at w1
        cases e2 : wrongB ms y with
        | true =>
          rw [e2] at w2
          simp_arith! [h1, h2, i0, i1, w1, w2, Bool.and_false, Bool.false_and]
        | false =>
          rw [e2] at w2
          cases c1 : decide (a < (y : Int)) with
          | false =>
            rw [c1] at l1
            simp_arith! [h1, h2, i0, i1, w1, w2, l1, c1, Bool.false_and]
          | true =>
            rw [c1] at l1
            cases c2 : decide (y < x) with
            | false =>
              rw [c2] at l2
              simp_arith! [h1, h2, i0, i1, w1, w2, l1, l2, c1, Bool.and_false, Bool.false_and]
            | true =>
              rw [c2] at l2
              simp_arith! [h1, h2, i0, i1, w1, w2, l1, l2, l3, c1]
theorem rng_nat {n : Nat} (h : n ≤ 1000) : rng1 [.int (n : Nat)] = some ((List.range n).map nD) := by
  show ifO _ (some (rng 0 _)) = _
  rw [decide_eq_true (by omega)]
  show some ((List.range ((n : Nat) : Int).toNat).map fun (i : Nat) => D.int (0 + (i : Int))) = _
  rw [Int.toNat_natCast]
  unfold nD
  simp
end
open PySem PySem.Spec PyProof.Rows L2 Vz Vz.Q Vz.G
section
variable {S : Sto} {xs : List Int} {as : List Anc} {it t : D} {ms : List Mark}
theorem spots_ok (h : Cs xs as) (hx : IsIt it xs) (ht : seqOf t = some (as.map encA)) : F__law_spots [.dat it, .dat t] S = .ok (.dat (.list ((mks xs as).map encM))) S := by
  have hl := h.len
  have hn := h.n12
  have hw : walk S (.dat t) = some (.ds (as.map encA)) := by
    unfold walk
    rw [show (frd S (.dat t)).bind seqOf = some (as.map encA) from ht]
  have hlist : listD [it] = some (xs.map D.int) := hx.seq
  unfold F__law_spots b__law_spots
  rw [v_runF]
  have e : lComp (iSeq (fVar 1)) [2] (cName 2) fYes (fIf (fB (fBin eqD (fVar 2) (fC (.str "?")))) (fC .none) (fIf (fB (fBin isN (fVar 2) (fC .none))) (fNeg (fC (.int 1))) (fIndex (fFrz (lCall listD (aCons (fVar 0) aNil))) (aCons (fVar 2) aNil)))) [some (.dat it), some (.dat t), none] S = .ok ((mks xs as).map encM) S := by
    rw [List.map_map]
    refine x_compM (enc := encA) (xs := as) ?_ (by unfold lim; omega) fun a ha => ⟨[], ?_⟩
    · simp_arith! [hw]
    · rw [List.append_nil]
      cases a with
      | unk =>
        have i2 : eqD (encA .unk) (.str "?") = some (.bool true) := eqA_q
        simp_arith! [i2]
        rfl
      | front =>
        have i2 : eqD (encA .front) (.str "?") = some (.bool false) := eq_nq
        have i1 : isN (encA .front) .none = some (.bool true) := rfl
        simp_arith! [i2, i1]
        rfl
      | it k =>
        have i1 : isN (encA (.it k)) .none = some (.bool false) := rfl
        have i2 : eqD (encA (.it k)) (.str "?") = some (.bool false) := eqA_str _ q_mark k
        have i3 : ixOf false (.list (xs.map D.int)) (encA (.it k)) = some (xs.idxOf k) := ix_list (h.inn _ ha)
        simp_arith! [i1, i2, hlist, i3]
        rfl
  simp_arith! [e]
end
open PySem PySem.Spec PyProof.Rows L2 Vz Vz.Q Vz.G
section
variable {S : Sto}
/-- what the law asks of the last line -/
def RetQ (k : Nat) (o : Out) : Prop := ∃ y, SrcOk k y ∧ Out.fn false 1 o = .ok (.dat (.bool true)) [y]
theorem re3 (a b c : W) : reord (.dat .none) [2, 1, 0] [a, b, c] = [c, b, a] := rfl
end
open PySem PySem.Spec PyProof.Rows L2 Vz Vz.Q Vz.G
section
variable {S : Sto} {xs : List Int} {as : List Anc} {it t : D} {ms : List Mark}
theorem is_int_ok (i : Int) : F_is_integer [.dat (.int i)] S = .ok (.dat (.bool true)) S := by
  unfold F_is_integer b_is_integer
  rw [v_runF]
  have g1 : gInt (.int i) = true := rfl
  have g2 : gBool (.int i) = false := rfl
  simp_arith! [g1, g2]
theorem shows_wrong_ok (h : Cs xs as) (hx : IsIt it xs) (ht : seqOf t = some (as.map encA)) {p : Nat} (hp : p < xs.length) : F_shows_wrong [.dat it, .dat t, .dat (.int (key xs p))] S = .ok (.dat (.bool (wrongB (mks xs as) p))) S := by
  have hl := h.len
  have hn := h.n12
  have hml := h.mlen
  have h1 := marks_it (S := S) hx ht h.inn (by omega)
  have h2 := is_int_ok (S := S) (key xs p)
  have h3 := wrong_ok (S := S) (ms := mks xs as) (p := p) (by omega)
  obtain ⟨hk1, hk2⟩ := key_idx h.nd hp
  have hin := hx.inD (neg := false) (p := key xs p)
  rw [decide_eq_true hk2, Bool.false_xor] at hin
  obtain ⟨b, hb, hix⟩ := hx.sqB
  have hix := hix _ hk2
  rw [hk1] at hix
  unfold F_shows_wrong b_shows_wrong B_shows_wrong
  generalize F_marks_of = MO at h1
  generalize F_is_integer = II at h2
  generalize F_is_wrong = IW at h3
  unfold nD at h3
  rw [v_runF]
  simp_arith! [h1, h2, h3, hin, hb, hix]
def pairT (p : Int × Int) : D := .tup .nod [.int p.1, .int p.2]
theorem shows_cross_ok (h : Cs xs as) (hx : IsIt it xs) (ht : seqOf t = some (as.map encA)) {p q : Nat} (hp : p < xs.length) (hq : q < xs.length) : F_shows_crossing [.dat it, .dat t, .dat (pairT (key xs p, key xs q))] S = .ok (.dat (.bool (crossB (mks xs as) p q))) S := by
  have hl := h.len
  have hn := h.n12
  have hml := h.mlen
  have h1 := marks_it (S := S) hx ht h.inn (by omega)
  have h2 := fun i => is_int_ok (S := S) i
  have h3 := cross_ok (S := S) (ms := mks xs as) (x := p) (y := q) (by omega) (by omega)
  obtain ⟨hk1, hk2⟩ := key_idx h.nd hp
  obtain ⟨hj1, hj2⟩ := key_idx h.nd hq
  have hin1 := hx.inD (neg := false) (p := key xs p)
  rw [decide_eq_true hk2, Bool.false_xor] at hin1
  have hin2 := hx.inD (neg := false) (p := key xs q)
  rw [decide_eq_true hj2, Bool.false_xor] at hin2
  obtain ⟨b, hb, hix⟩ := hx.sqB
  have hix2 := hix _ hj2
  have hix := hix _ hk2
  rw [hk1] at hix
  rw [hj1] at hix2
  unfold F_shows_crossing b_shows_crossing B_shows_crossing
  generalize F_marks_of = MO at h1
  generalize F_is_integer = II at h2
  generalize F_do_cross = IW at h3
  unfold nD at h3
  unfold pairT
  rw [v_runF]
  have g1 : ∀ l, gTup (.tup .nod l) = true := fun l => rfl
  have ew : ∀ T, walk T (.dat (.tup .nod [.int (key xs p), .int (key xs q)])) = some (.ds ([key xs p, key xs q].map D.int)) := fun T => rfl
  have n2 : neD (.int ((2 : Nat) : Int)) (.int 2) = some (.bool false) := rfl
  have e1 : lComp (iSeq (fVar 2)) [3] (cName 3) fYes (fApp 1 II (aCons (fVar 3) aNil)) [some (.dat it), some (.dat t), some (.dat (.tup .nod [.int (key xs p), .int (key xs q)])), none] S = .ok [.bool true, .bool true] S := by
    show _ = R.ok ([key xs p, key xs q].map fun _ => D.bool true) S
    refine x_compM (enc := D.int) ?_ (by show 2 ≤ lim; decide) fun a ha => ⟨[], ?_⟩
    · simp_arith! [ew]
    · have := h2 a
      simp_arith! [this]
  have e2 : lComp (iSeq (fVar 2)) [3] (cName 3) fYes (fBin (inD false) (fVar 3) (fVar 0)) [some (.dat it), some (.dat t), some (.dat (.tup .nod [.int (key xs p), .int (key xs q)])), none] S = .ok [.bool true, .bool true] S := by
    show _ = R.ok ([key xs p, key xs q].map fun _ => D.bool true) S
    refine x_compM (enc := D.int) ?_ (by show 2 ≤ lim; decide) fun a ha => ⟨[], ?_⟩
    · simp_arith! [ew]
    · have : inD false (.int a) it = some (.bool true) := by
        rcases List.mem_cons.mp ha with rfl | ha
        · exact hin1
        · rcases List.mem_singleton.mp ha with rfl
          exact hin2
      simp_arith! [this]
  have al : allD [.list [.bool true, .bool true]] = some (.bool true) := rfl
  have i0 : ixD (.tup .nod [.int (key xs p), .int (key xs q)]) (.int 0) = some (.int (key xs p)) := rfl
  have i1 : ixD (.tup .nod [.int (key xs p), .int (key xs q)]) (.int 1) = some (.int (key xs q)) := rfl
  simp_arith! [g1, n2, e1, e2, al, h1, i0, i1, hb, hix, hix2, h3]
end
open PySem PySem.Spec PyProof.Rows L2 Vz Vz.Q Vz.G
section
variable {S : Sto} {xs : List Int} {as : List Anc} {it t bg : D} {ms : List Mark}
end
end Vz.H
namespace Vz.G
section
variable {α : Type}
/-- one insertion: in front, or behind the first one that bears the anchor's name -/
def insAt (q : Int × α) (a : Int) : List (Int × α) → List (Int × α)
  | [] => []
  | z :: Z => if z.1 = a then z :: q :: Z else z :: insAt q a Z
def insA (q : Int × α) : Option Int → List (Int × α) → List (Int × α)
  | none, Z => q :: Z
  | some a, Z => insAt q a Z
variable (f : Option Int → α)
/-- several insertions -/
def appA (Z : List (Int × α)) (ds : List (Int × Option Int)) : List (Int × α) := ds.foldl (fun Z d => insA (d.1, f d.2) d.2 Z) Z
variable {f}
theorem insAt_sub {q : Int × α} {a : Int} : ∀ Z : List (Int × α), Z.Sublist (insAt q a Z)
  | [] => .slnil
  | z :: Z => by
    unfold insAt
    split
    · exact .cons₂ _ (List.sublist_cons_self ..)
    · exact .cons₂ _ (insAt_sub Z)
theorem insA_sub {q : Int × α} {t : Option Int} (Z : List (Int × α)) : Z.Sublist (insA q t Z) := by
  cases t with
  | none => exact List.sublist_cons_self ..
  | some a => exact insAt_sub Z
theorem appA_sub : ∀ {ds : List (Int × Option Int)} {Z : List (Int × α)}, Z.Sublist (appA f Z ds)
  | [], Z => List.Sublist.refl Z
  | d :: ds, Z => (insA_sub Z).trans (appA_sub (ds := ds))
/-- there or in front -/
def InO (t : Option Int) (Z : List (Int × α)) : Prop := ∀ a, t = some a → a ∈ Z.map Prod.fst
theorem insAt_perm {q : Int × α} {a : Int} : ∀ {Z : List (Int × α)}, a ∈ Z.map Prod.fst → (insAt q a Z).Perm (q :: Z)
  | [], h => nomatch h
  | z :: Z, h => by
    unfold insAt
    split
    · exact List.Perm.swap ..
    · rename_i hz
      have : a ∈ Z.map Prod.fst := by
        rcases List.mem_cons.mp h with e | h
        · exact absurd e.symm hz
        · exact h
      exact ((insAt_perm this).cons z).trans (List.Perm.swap ..)
theorem insA_perm {q : Int × α} {t : Option Int} {Z : List (Int × α)} (h : InO t Z) : (insA q t Z).Perm (q :: Z) := by
  cases t with
  | none => exact List.Perm.refl _
  | some a => exact insAt_perm (h a rfl)
/-- deeds that can be done: new items, anchors that are there -/
def DoOk : List (Int × α) → List (Int × Option Int) → (Option Int → α) → Prop
  | _, [], _ => True
  | Z, d :: ds, f => d.1 ∉ Z.map Prod.fst ∧ InO d.2 Z ∧ DoOk (insA (d.1, f d.2) d.2 Z) ds f
theorem insA_fst {q : Int × α} {t : Option Int} {Z : List (Int × α)} (h : InO t Z) : ((insA q t Z).map Prod.fst).Perm (q.1 :: Z.map Prod.fst) := (insA_perm h).map _
theorem DoOk.mem : ∀ {ds : List (Int × Option Int)} {Z : List (Int × α)} {x : Int}, DoOk Z ds f → (x ∈ (appA f Z ds).map Prod.fst ↔ x ∈ Z.map Prod.fst ∨ x ∈ ds.map Prod.fst)
  | [], Z, x, _ => by simp [appA]
  | d :: ds, Z, x, ⟨h1, h2, h3⟩ => by
    show x ∈ (appA f (insA (d.1, f d.2) d.2 Z) ds).map Prod.fst ↔ _
    rw [h3.mem, (insA_fst h2).mem_iff, List.map_cons, List.mem_cons, List.mem_cons]
    constructor
    · rintro ((h | h) | h)
      · exact .inr (.inl h)
      · exact .inl h
      · exact .inr (.inr h)
    · rintro (h | h | h)
      · exact .inl (.inr h)
      · exact .inl (.inl h)
      · exact .inr h
def Bef (x y : Int) (Z : List (Int × α)) : Prop := [x, y].Sublist (Z.map Prod.fst)
theorem Bef.app {x y : Int} {Z : List (Int × α)} {ds : List (Int × Option Int)} (h : Bef x y Z) : Bef x y (appA f Z ds) := h.trans (appA_sub.map _)
/-- behind its anchor -/
def AB (t : Option Int) (x : Int) (Z : List (Int × α)) : Prop := match t with
  | none => x ∈ Z.map Prod.fst
  | some a => Bef a x Z
theorem AB.app {t : Option Int} {x : Int} {Z : List (Int × α)} {ds : List (Int × Option Int)} (h : AB t x Z) : AB t x (appA f Z ds) := by
  cases t with
  | none => exact ((appA_sub (f := f) (ds := ds) (Z := Z)).map Prod.fst).subset h
  | some a => exact Bef.app h
theorem DoOk.fresh : ∀ {ds : List (Int × Option Int)} {Z : List (Int × α)}, DoOk Z ds f → ∀ d ∈ ds, d.1 ∉ Z.map Prod.fst
  | d :: ds, Z, ⟨h1, h2, h3⟩, e, he => by
    rcases List.mem_cons.mp he with rfl | he
    · exact h1
    · exact fun c => h3.fresh e he ((insA_fst h2).mem_iff.mpr (List.mem_cons_of_mem _ c))
theorem DoOk.anchor : ∀ {ds : List (Int × Option Int)} {Z : List (Int × α)}, DoOk Z ds f → ∀ d ∈ ds, InO d.2 (appA f Z ds)
  | d :: ds, Z, ⟨h1, h2, h3⟩, e, he => by
    rcases List.mem_cons.mp he with rfl | he
    · intro a ha
      exact ((appA_sub (f := f) (ds := e :: ds) (Z := Z)).map Prod.fst).subset (h2 a ha)
    · exact h3.anchor e he
theorem DoOk.more : ∀ {ds : List (Int × Option Int)} {Z Z' : List (Int × α)}, DoOk Z ds f → (∀ x ∈ Z.map Prod.fst, x ∈ Z'.map Prod.fst) → (∀ d ∈ ds, d.1 ∉ Z'.map Prod.fst) → DoOk Z' ds f
  | [], _, _, _, _, _ => trivial
  | d :: ds, Z, Z', ⟨h1, h2, h3⟩, hs, hn => by
    have ho : InO d.2 Z' := fun a ha => hs a (h2 a ha)
    refine ⟨hn d (List.mem_cons_self ..), ho, h3.more (fun x hx => ?_) fun e he c => ?_⟩
    · rcases List.mem_cons.mp ((insA_fst h2).mem_iff.mp hx) with e | hx
      · exact (insA_fst ho).mem_iff.mpr (e ▸ List.mem_cons_self ..)
      · exact (insA_fst ho).mem_iff.mpr (List.mem_cons_of_mem _ (hs x hx))
    · rcases List.mem_cons.mp ((insA_fst ho).mem_iff.mp c) with e1 | c
      · exact h3.fresh e he ((insA_fst h2).mem_iff.mpr (e1 ▸ List.mem_cons_self ..))
      · exact hn e (List.mem_cons_of_mem _ he) c
end
end Vz.G
namespace Vz.H
open PySem PySem.Spec PyProof.Rows L2 Vz Vz.Q Vz.G
local macro_rules
  | `(tactic| simp_arith [$hs,*]) => `(tactic| simp -implicitDefEqProofs -dsimp (disch := first | assumption | omega | (simp only [List.length_map, List.length_append, List.length_cons, List.length_nil, List.length_range, List.length_take, List.length_drop, List.length_replicate, List.length_reverse, List.length_zipIdx]; omega)) only [Vz.Q.ifB_t, Vz.Q.ifB_f, Vz.Q.bind_ok, Vz.Q.bind_exc, Vz.Q.then_ok, Vz.Q.then_exc, Vz.Q.andThen_nx, Vz.Q.andThen_rt, Vz.Q.andThen_exc, Vz.Q.andThen_bk, Vz.Q.andThen_ct, Vz.Q.lift_some, Vz.Q.ofo_some, Vz.Q.get_ok, Vz.Q.noX_ok, Vz.Q.ifO_t, Vz.Q.varO_, Vz.Q.v_var, Vz.Q.v_c, Vz.Q.v_bin, Vz.Q.v_b, Vz.Q.asB_, Vz.Q.v_and, Vz.Q.v_or, Vz.Q.v_not, Vz.Q.v_v, Vz.Q.v_andV, Vz.Q.v_orV, Vz.Q.v_notV, Vz.Q.v_if, Vz.Q.v_chain, Vz.Q.v_anil, Vz.Q.v_acons, Vz.Q.v_tup, Vz.Q.v_tupK, Vz.Q.v_frz, Vz.Q.v_cell, Vz.Q.v_disp, Vz.Q.lsO_, Vz.Q.v_cat, Vz.Q.v_call, Vz.Q.v_lcall, Vz.Q.v_app, Vz.Q.v_appK, Vz.Q.v_nil, Vz.Q.v_pass, Vz.Q.v_seq, Vz.Q.v_break, Vz.Q.v_cont, Vz.Q.v_expr, Vz.Q.v_ret, Vz.Q.v_retN, Vz.Q.v_sif, Vz.Q.v_set, Vz.Q.v_setLc, Vz.Q.v_setLf, Vz.Q.v_aug, Vz.Q.parO_, Vz.Q.v_par, Vz.Q.nxO_, Vz.Q.v_asg, Vz.Q.v_oname, Vz.Q.v_onnil, Vz.Q.v_oncons, Vz.Q.v_otup, Vz.Q.v_osub, Vz.Q.v_fz, Vz.Q.v_meth, Vz.Q.v_meth0, Vz.Q.someR_, Vz.Q.v_index, Vz.Q.v_isi, Vz.Q.v_neg, Vz.Q.v_rev, Vz.Q.v_range, Vz.Q.v_sl, Vz.Q.v_no, Vz.Q.v_yesI, Vz.Q.v_dictT, Vz.Q.v_iseq, Vz.Q.v_iargs, Vz.Q.v_ifr, Vz.Q.rd_dat, Vz.Q.rd_loc, Vz.Q.rdC_lst, Vz.Q.rdC_frz, Vz.Q.rdC_dT, Vz.Q.rdC_dK, Vz.Q.rd2_, Vz.Q.rds_nil, Vz.Q.rds_cons, Vz.Q.dats_nil, Vz.Q.dats_cons, Vz.Q.small_1, Vz.Q.small_2, Vz.Q.small_3, Vz.Q.small_0, Vz.Q.small_, Vz.Q.one_, Vz.Q.two_, Vz.Q.frd_dat, Vz.Q.frd_loc, Vz.Q.frdC_frz, Vz.Q.frds_nil, Vz.Q.frds_cons, Vz.Q.LstW_, Vz.Q.lstB_, Vz.Q.lstC_, Vz.Q.lstO_, Vz.Q.v_append, Vz.Q.v_insert, Vz.Q.v_extend, Vz.Q.v_popAt, Vz.Q.asInt_, Vz.Q.asLs_, Vz.Q.v_stB, Vz.Q.lim_app, Vz.Q.lim_le, Vz.Q.lim_lt, Vz.Q.addL_, Vz.Q.addD_ll, Vz.Q.addD_tt, Option.bind_some, Option.map_some, addD_ii, subI_ii, ltI_ii, leI_ii, gtI_ii, geI_ii, eqD_ii, isN_non, isN_int, isN_str, List.getElem?_cons_zero, List.getElem?_cons_succ, List.set_cons_zero, List.set_cons_succ, List.length_cons, List.length_nil, List.length_append, Nat.zero_add, Nat.add_zero, Nat.reduceAdd, Nat.reduceSub, Nat.reduceEqDiff, at_app0, at_appk, set_app0, set_appk, List.append_assoc, List.cons_append, List.nil_append, List.append_nil, List.map_cons, List.map_nil, List.replicate, Vz.Q.fn_dat, Vz.Q.fn_nx, Vz.Q.fn_exc, Vz.Q.fn_exn, Vz.Q.fn_loc, Vz.Q.retC_lst, Vz.Q.retC_frz, Vz.Q.retC_dT, Vz.Q.retC_dK, Vz.Q.bodyF_, Vz.Q.bodyO_, Vz.Q.cutR_nil, Vz.Q.cutR_cons, Vz.Q.cutW_dat, Vz.Q.cutW_none, Vz.Q.cutW_exn, Vz.Q.cutW_loc, Vz.Q.cutW_locN, wipeR, List.take_succ_cons, List.take_length, List.take_left, take_appk, List.take_zero, List.take_nil, Vz.Q.v_yes, Vz.Q.v_lcB, Vz.Q.lcO_, Vz.Q.v_cname, Vz.Q.v_ctup, Vz.Q.v_cnnil, Vz.Q.v_cncons, Vz.Q.bb_tf, Vz.Q.bb_ft, Vz.Q.bb_tt, Vz.Q.bb_ff, Vz.Q.bn_tf, Vz.Q.bn_ft, Vz.Q.bn_tt, Vz.Q.bn_ff, eqD_bb, neD_bb, Bool.not_true, Bool.not_false, Bool.and_true, Bool.true_and, Bool.and_self, decide_true, decide_false, eq_self, $hs,*])
local macro_rules
  | `(tactic| simp_arith! [$hs,*]) => `(tactic| simp -implicitDefEqProofs -dsimp (disch := first | assumption | omega | (simp only [List.length_map, List.length_append, List.length_cons, List.length_nil, List.length_range, List.length_take, List.length_drop, List.length_replicate, List.length_reverse, List.length_zipIdx]; omega)) only [Vz.Q.ifB_t, Vz.Q.ifB_f, Vz.Q.bind_ok, Vz.Q.bind_exc, Vz.Q.then_ok, Vz.Q.then_exc, Vz.Q.andThen_nx, Vz.Q.andThen_rt, Vz.Q.andThen_exc, Vz.Q.andThen_bk, Vz.Q.andThen_ct, Vz.Q.lift_some, Vz.Q.ofo_some, Vz.Q.get_ok, Vz.Q.noX_ok, Vz.Q.ifO_t, Vz.Q.varO_, Vz.Q.v_var, Vz.Q.v_c, Vz.Q.v_bin, Vz.Q.v_b, Vz.Q.asB_, Vz.Q.v_and, Vz.Q.v_or, Vz.Q.v_not, Vz.Q.v_v, Vz.Q.v_andV, Vz.Q.v_orV, Vz.Q.v_notV, Vz.Q.v_if, Vz.Q.v_chain, Vz.Q.v_anil, Vz.Q.v_acons, Vz.Q.v_tup, Vz.Q.v_tupK, Vz.Q.v_frz, Vz.Q.v_cell, Vz.Q.v_disp, Vz.Q.lsO_, Vz.Q.v_cat, Vz.Q.v_call, Vz.Q.v_lcall, Vz.Q.v_app, Vz.Q.v_appK, Vz.Q.v_nil, Vz.Q.v_pass, Vz.Q.v_seq, Vz.Q.v_break, Vz.Q.v_cont, Vz.Q.v_expr, Vz.Q.v_ret, Vz.Q.v_retN, Vz.Q.v_sif, Vz.Q.v_set, Vz.Q.v_setLc, Vz.Q.v_setLf, Vz.Q.v_aug, Vz.Q.parO_, Vz.Q.v_par, Vz.Q.nxO_, Vz.Q.v_asg, Vz.Q.v_oname, Vz.Q.v_onnil, Vz.Q.v_oncons, Vz.Q.v_otup, Vz.Q.v_osub, Vz.Q.v_fz, Vz.Q.v_meth, Vz.Q.v_meth0, Vz.Q.someR_, Vz.Q.v_index, Vz.Q.v_isi, Vz.Q.v_neg, Vz.Q.v_rev, Vz.Q.v_range, Vz.Q.v_sl, Vz.Q.v_no, Vz.Q.v_yesI, Vz.Q.v_dictT, Vz.Q.v_iseq, Vz.Q.v_iargs, Vz.Q.v_ifr, Vz.Q.rd_dat, Vz.Q.rd_loc, Vz.Q.rdC_lst, Vz.Q.rdC_frz, Vz.Q.rdC_dT, Vz.Q.rdC_dK, Vz.Q.rd2_, Vz.Q.rds_nil, Vz.Q.rds_cons, Vz.Q.dats_nil, Vz.Q.dats_cons, Vz.Q.small_1, Vz.Q.small_2, Vz.Q.small_3, Vz.Q.small_0, Vz.Q.small_, Vz.Q.one_, Vz.Q.two_, Vz.Q.frd_dat, Vz.Q.frd_loc, Vz.Q.frdC_frz, Vz.Q.frds_nil, Vz.Q.frds_cons, Vz.Q.LstW_, Vz.Q.lstB_, Vz.Q.lstC_, Vz.Q.lstO_, Vz.Q.v_append, Vz.Q.v_insert, Vz.Q.v_extend, Vz.Q.v_popAt, Vz.Q.asInt_, Vz.Q.asLs_, Vz.Q.v_stB, Vz.Q.lim_app, Vz.Q.lim_le, Vz.Q.lim_lt, Vz.Q.addL_, Vz.Q.addD_ll, Vz.Q.addD_tt, Option.bind_some, Option.map_some, addD_ii, subI_ii, ltI_ii, leI_ii, gtI_ii, geI_ii, eqD_ii, isN_non, isN_int, isN_str, List.getElem?_cons_zero, List.getElem?_cons_succ, List.set_cons_zero, List.set_cons_succ, List.length_cons, List.length_nil, List.length_append, Nat.zero_add, Nat.add_zero, Nat.reduceAdd, Nat.reduceSub, Nat.reduceEqDiff, at_app0, at_appk, set_app0, set_appk, List.append_assoc, List.cons_append, List.nil_append, List.append_nil, List.map_cons, List.map_nil, List.replicate, Vz.Q.fn_dat, Vz.Q.fn_nx, Vz.Q.fn_exc, Vz.Q.fn_exn, Vz.Q.fn_loc, Vz.Q.retC_lst, Vz.Q.retC_frz, Vz.Q.retC_dT, Vz.Q.retC_dK, Vz.Q.bodyF_, Vz.Q.bodyO_, Vz.Q.cutR_nil, Vz.Q.cutR_cons, Vz.Q.cutW_dat, Vz.Q.cutW_none, Vz.Q.cutW_exn, Vz.Q.cutW_loc, Vz.Q.cutW_locN, wipeR, List.take_succ_cons, List.take_length, List.take_left, take_appk, List.take_zero, List.take_nil, Vz.Q.v_yes, Vz.Q.v_lcB, Vz.Q.lcO_, Vz.Q.v_cname, Vz.Q.v_ctup, Vz.Q.v_cnnil, Vz.Q.v_cncons, Vz.Q.bb_tf, Vz.Q.bb_ft, Vz.Q.bb_tt, Vz.Q.bb_ff, Vz.Q.bn_tf, Vz.Q.bn_ft, Vz.Q.bn_tt, Vz.Q.bn_ff, eqD_bb, neD_bb, Bool.not_true, Bool.not_false, Bool.and_true, Bool.true_and, Bool.and_self, decide_true, decide_false, eq_self, Vz.Q.v_izd, Vz.Q.par3O_, Vz.Q.v_par3, Vz.Q.v_try, Vz.Q.try_exc, Vz.Q.try_nx, Vz.Q.try_rt, Vz.Q.drop_nx, Vz.Q.drop_rt, Vz.Q.v_raise1, Vz.Q.r1O_, Vz.Q.v_raise0, Vz.Q.v_isNo, Vz.Q.v_isNoN, Vz.Q.isNo_non, Vz.Q.isNo_exn, Vz.Q.v_isX, Vz.Q.isXW_, Vz.Q.v_xf, Vz.Q.xfW_, Vz.Q.v_oseq_t, Vz.Q.v_oseq_l, Vz.Q.enumD_l, Vz.Q.enumD_t, Vz.Q.nums_map, Vz.Q.listD_l, Vz.Q.listD_t, Vz.Q.tupleD_l, Vz.Q.tupleD_t, Vz.Q.lenD_l, Vz.Q.lenD_t, Vz.Q.cutD_l, Vz.Q.cutD_n, Vz.Q.revD_l, Vz.Q.fz_dat, Vz.Q.fz_loc, Vz.Q.fzC_lst, Vz.Q.fzC_frz, Vz.Q.isNN_non, Vz.Q.isNN_int, Vz.Q.isNN_str, Vz.Q.inD_l, Vz.Q.inD_t, Vz.Q.sqB_l, Vz.Q.sqB_t, Bool.false_xor, Bool.true_xor, asI, Vz.Q.walk_dl, Vz.Q.walk_dt, List.length_map, List.map_append, $hs,*])
section
variable {S : Sto}
abbrev ZL := List (Int × Anc)
end
open PySem PySem.Spec PyProof.Rows L2 Vz Vz.Q Vz.G
local macro_rules
  | `(tactic| simp_arith! [$hs,*]) => `(tactic| simp -implicitDefEqProofs -dsimp (disch := first | assumption | omega | (simp only [List.length_map, List.length_append, List.length_cons, List.length_nil, List.length_range, List.length_take, List.length_drop, List.length_replicate, List.length_reverse, List.length_zipIdx]; omega)) only [Vz.Q.ifB_t, Vz.Q.ifB_f, Vz.Q.bind_ok, Vz.Q.bind_exc, Vz.Q.then_ok, Vz.Q.then_exc, Vz.Q.andThen_nx, Vz.Q.andThen_rt, Vz.Q.andThen_exc, Vz.Q.andThen_bk, Vz.Q.andThen_ct, Vz.Q.lift_some, Vz.Q.ofo_some, Vz.Q.get_ok, Vz.Q.noX_ok, Vz.Q.ifO_t, Vz.Q.varO_, Vz.Q.v_var, Vz.Q.v_c, Vz.Q.v_bin, Vz.Q.v_b, Vz.Q.asB_, Vz.Q.v_and, Vz.Q.v_or, Vz.Q.v_not, Vz.Q.v_v, Vz.Q.v_andV, Vz.Q.v_orV, Vz.Q.v_notV, Vz.Q.v_if, Vz.Q.v_chain, Vz.Q.v_anil, Vz.Q.v_acons, Vz.Q.v_tup, Vz.Q.v_tupK, Vz.Q.v_frz, Vz.Q.v_cell, Vz.Q.v_disp, Vz.Q.lsO_, Vz.Q.v_cat, Vz.Q.v_call, Vz.Q.v_lcall, Vz.Q.v_app, Vz.Q.v_appK, Vz.Q.v_nil, Vz.Q.v_pass, Vz.Q.v_seq, Vz.Q.v_break, Vz.Q.v_cont, Vz.Q.v_expr, Vz.Q.v_ret, Vz.Q.v_retN, Vz.Q.v_sif, Vz.Q.v_set, Vz.Q.v_setLc, Vz.Q.v_setLf, Vz.Q.v_aug, Vz.Q.parO_, Vz.Q.v_par, Vz.Q.nxO_, Vz.Q.v_asg, Vz.Q.v_oname, Vz.Q.v_onnil, Vz.Q.v_oncons, Vz.Q.v_otup, Vz.Q.v_osub, Vz.Q.v_fz, Vz.Q.v_meth, Vz.Q.v_meth0, Vz.Q.someR_, Vz.Q.v_index, Vz.Q.v_isi, Vz.Q.v_neg, Vz.Q.v_rev, Vz.Q.v_range, Vz.Q.v_sl, Vz.Q.v_no, Vz.Q.v_yesI, Vz.Q.v_dictT, Vz.Q.v_iseq, Vz.Q.v_iargs, Vz.Q.v_ifr, Vz.Q.rd_dat, Vz.Q.rd_loc, Vz.Q.rdC_lst, Vz.Q.rdC_frz, Vz.Q.rdC_dT, Vz.Q.rdC_dK, Vz.Q.rd2_, Vz.Q.rds_nil, Vz.Q.rds_cons, Vz.Q.dats_nil, Vz.Q.dats_cons, Vz.Q.small_1, Vz.Q.small_2, Vz.Q.small_3, Vz.Q.small_0, Vz.Q.small_, Vz.Q.one_, Vz.Q.two_, Vz.Q.frd_dat, Vz.Q.frd_loc, Vz.Q.frdC_frz, Vz.Q.frds_nil, Vz.Q.frds_cons, Vz.Q.LstW_, Vz.Q.lstB_, Vz.Q.lstC_, Vz.Q.lstO_, Vz.Q.v_append, Vz.Q.v_insert, Vz.Q.v_extend, Vz.Q.v_popAt, Vz.Q.asInt_, Vz.Q.asLs_, Vz.Q.v_stB, Vz.Q.lim_app, Vz.Q.lim_le, Vz.Q.lim_lt, Vz.Q.addL_, Vz.Q.addD_ll, Vz.Q.addD_tt, Option.bind_some, Option.map_some, addD_ii, subI_ii, ltI_ii, leI_ii, gtI_ii, geI_ii, eqD_ii, isN_non, isN_int, isN_str, List.getElem?_cons_zero, List.getElem?_cons_succ, List.set_cons_zero, List.set_cons_succ, List.length_cons, List.length_nil, List.length_append, Nat.zero_add, Nat.add_zero, Nat.reduceAdd, Nat.reduceSub, Nat.reduceEqDiff, at_app0, at_appk, set_app0, set_appk, List.append_assoc, List.cons_append, List.nil_append, List.append_nil, List.map_cons, List.map_nil, List.replicate, Vz.Q.fn_dat, Vz.Q.fn_nx, Vz.Q.fn_exc, Vz.Q.fn_exn, Vz.Q.fn_loc, Vz.Q.retC_lst, Vz.Q.retC_frz, Vz.Q.retC_dT, Vz.Q.retC_dK, Vz.Q.bodyF_, Vz.Q.bodyO_, Vz.Q.cutR_nil, Vz.Q.cutR_cons, Vz.Q.cutW_dat, Vz.Q.cutW_none, Vz.Q.cutW_exn, Vz.Q.cutW_loc, Vz.Q.cutW_locN, wipeR, List.take_succ_cons, List.take_length, List.take_left, take_appk, List.take_zero, List.take_nil, Vz.Q.v_yes, Vz.Q.v_lcB, Vz.Q.lcO_, Vz.Q.v_cname, Vz.Q.v_ctup, Vz.Q.v_cnnil, Vz.Q.v_cncons, Vz.Q.bb_tf, Vz.Q.bb_ft, Vz.Q.bb_tt, Vz.Q.bb_ff, Vz.Q.bn_tf, Vz.Q.bn_ft, Vz.Q.bn_tt, Vz.Q.bn_ff, eqD_bb, neD_bb, Bool.not_true, Bool.not_false, Bool.and_true, Bool.true_and, Bool.and_self, decide_true, decide_false, eq_self, Vz.Q.v_count, Vz.Q.cntB_l, Vz.Q.v_lam, Vz.Q.v_cat, Vz.Q.v_cseq_t, Vz.Q.v_cseq_l, Vz.Q.v_izd, Vz.Q.par3O_, Vz.Q.v_par3, Vz.Q.v_try, Vz.Q.try_exc, Vz.Q.try_nx, Vz.Q.try_rt, Vz.Q.drop_nx, Vz.Q.drop_rt, Vz.Q.v_raise1, Vz.Q.r1O_, Vz.Q.v_raise0, Vz.Q.v_isNo, Vz.Q.v_isNoN, Vz.Q.isNo_non, Vz.Q.isNo_exn, Vz.Q.v_isX, Vz.Q.isXW_, Vz.Q.v_xf, Vz.Q.xfW_, Vz.Q.v_oseq_t, Vz.Q.v_oseq_l, Vz.Q.enumD_l, Vz.Q.enumD_t, Vz.Q.nums_map, Vz.Q.listD_l, Vz.Q.listD_t, Vz.Q.tupleD_l, Vz.Q.tupleD_t, Vz.Q.lenD_l, Vz.Q.lenD_t, Vz.Q.cutD_l, Vz.Q.cutD_n, Vz.Q.revD_l, Vz.Q.fz_dat, Vz.Q.fz_loc, Vz.Q.fzC_lst, Vz.Q.fzC_frz, Vz.Q.isNN_non, Vz.Q.isNN_int, Vz.Q.isNN_str, Vz.Q.inD_l, Vz.Q.inD_t, Vz.Q.sqB_l, Vz.Q.sqB_t, Bool.false_xor, Bool.true_xor, asI, Vz.Q.walk_dl, Vz.Q.walk_dt, List.length_map, List.map_append, $hs,*])
section
variable {S : Sto}
end
open PySem PySem.Spec PyProof.Rows L2 Vz Vz.Q Vz.G
section
variable {S : Sto} {Z : ZL} {ds es : List (Int × Option Int)}
theorem places {xs qs : List Int} (hnd : xs.Nodup) (hq : qs.Perm xs) : ∃ π : List Nat, π.Perm (List.range xs.length) ∧ qs = π.map (key xs) := by
  refine ⟨qs.map xs.idxOf, ?_, ?_⟩
  · have e : (List.range xs.length) = xs.map xs.idxOf := by
      refine List.ext_getElem (by simp) fun i h1 h2 => ?_
      rw [List.getElem_map, List.getElem_range]
      rw [List.length_map] at h2
      exact (hnd.idxOf_getElem i h2).symm
    rw [e]
    exact hq.map _
  · rw [List.map_map]
    conv => lhs; rw [← List.map_id qs]
    refine List.map_congr_left fun v hv => ?_
    have hv := List.idxOf_lt_length_of_mem (hq.mem_iff.mp hv)
    show v = key xs (xs.idxOf v)
    unfold key
    rw [List.getD_eq_getElem?_getD, List.getElem?_eq_getElem hv]
    exact (List.getElem_idxOf hv).symm
end
open PySem PySem.Spec PyProof.Rows L2 Vz Vz.Q Vz.G
local macro_rules
  | `(tactic| simp_arith! [$hs,*]) => `(tactic| simp -implicitDefEqProofs -dsimp (disch := first | assumption | omega | (simp only [List.length_map, List.length_append, List.length_cons, List.length_nil, List.length_range, List.length_take, List.length_drop, List.length_replicate, List.length_reverse, List.length_zipIdx]; omega)) only [Vz.Q.ifB_t, Vz.Q.ifB_f, Vz.Q.bind_ok, Vz.Q.bind_exc, Vz.Q.then_ok, Vz.Q.then_exc, Vz.Q.andThen_nx, Vz.Q.andThen_rt, Vz.Q.andThen_exc, Vz.Q.andThen_bk, Vz.Q.andThen_ct, Vz.Q.lift_some, Vz.Q.ofo_some, Vz.Q.get_ok, Vz.Q.noX_ok, Vz.Q.ifO_t, Vz.Q.varO_, Vz.Q.v_var, Vz.Q.v_c, Vz.Q.v_bin, Vz.Q.v_b, Vz.Q.asB_, Vz.Q.v_and, Vz.Q.v_or, Vz.Q.v_not, Vz.Q.v_v, Vz.Q.v_andV, Vz.Q.v_orV, Vz.Q.v_notV, Vz.Q.v_if, Vz.Q.v_chain, Vz.Q.v_anil, Vz.Q.v_acons, Vz.Q.v_tup, Vz.Q.v_tupK, Vz.Q.v_frz, Vz.Q.v_cell, Vz.Q.v_disp, Vz.Q.lsO_, Vz.Q.v_cat, Vz.Q.v_call, Vz.Q.v_lcall, Vz.Q.v_app, Vz.Q.v_appK, Vz.Q.v_nil, Vz.Q.v_pass, Vz.Q.v_seq, Vz.Q.v_break, Vz.Q.v_cont, Vz.Q.v_expr, Vz.Q.v_ret, Vz.Q.v_retN, Vz.Q.v_sif, Vz.Q.v_set, Vz.Q.v_setLc, Vz.Q.v_setLf, Vz.Q.v_aug, Vz.Q.parO_, Vz.Q.v_par, Vz.Q.nxO_, Vz.Q.v_asg, Vz.Q.v_oname, Vz.Q.v_onnil, Vz.Q.v_oncons, Vz.Q.v_otup, Vz.Q.v_osub, Vz.Q.v_fz, Vz.Q.v_meth, Vz.Q.v_meth0, Vz.Q.someR_, Vz.Q.v_index, Vz.Q.v_isi, Vz.Q.v_neg, Vz.Q.v_rev, Vz.Q.v_range, Vz.Q.v_sl, Vz.Q.v_no, Vz.Q.v_yesI, Vz.Q.v_dictT, Vz.Q.v_iseq, Vz.Q.v_iargs, Vz.Q.v_ifr, Vz.Q.rd_dat, Vz.Q.rd_loc, Vz.Q.rdC_lst, Vz.Q.rdC_frz, Vz.Q.rdC_dT, Vz.Q.rdC_dK, Vz.Q.rd2_, Vz.Q.rds_nil, Vz.Q.rds_cons, Vz.Q.dats_nil, Vz.Q.dats_cons, Vz.Q.small_1, Vz.Q.small_2, Vz.Q.small_3, Vz.Q.small_0, Vz.Q.small_, Vz.Q.one_, Vz.Q.two_, Vz.Q.frd_dat, Vz.Q.frd_loc, Vz.Q.frdC_frz, Vz.Q.frds_nil, Vz.Q.frds_cons, Vz.Q.LstW_, Vz.Q.lstB_, Vz.Q.lstC_, Vz.Q.lstO_, Vz.Q.v_append, Vz.Q.v_insert, Vz.Q.v_extend, Vz.Q.v_popAt, Vz.Q.asInt_, Vz.Q.asLs_, Vz.Q.v_stB, Vz.Q.lim_app, Vz.Q.lim_le, Vz.Q.lim_lt, Vz.Q.addL_, Vz.Q.addD_ll, Vz.Q.addD_tt, Option.bind_some, Option.map_some, addD_ii, subI_ii, ltI_ii, leI_ii, gtI_ii, geI_ii, eqD_ii, isN_non, isN_int, isN_str, List.getElem?_cons_zero, List.getElem?_cons_succ, List.set_cons_zero, List.set_cons_succ, List.length_cons, List.length_nil, List.length_append, Nat.zero_add, Nat.add_zero, Nat.reduceAdd, Nat.reduceSub, Nat.reduceEqDiff, at_app0, at_appk, set_app0, set_appk, List.append_assoc, List.cons_append, List.nil_append, List.append_nil, List.map_cons, List.map_nil, List.replicate, Vz.Q.fn_dat, Vz.Q.fn_nx, Vz.Q.fn_exc, Vz.Q.fn_exn, Vz.Q.fn_loc, Vz.Q.retC_lst, Vz.Q.retC_frz, Vz.Q.retC_dT, Vz.Q.retC_dK, Vz.Q.bodyF_, Vz.Q.bodyO_, Vz.Q.cutR_nil, Vz.Q.cutR_cons, Vz.Q.cutW_dat, Vz.Q.cutW_none, Vz.Q.cutW_exn, Vz.Q.cutW_loc, Vz.Q.cutW_locN, wipeR, List.take_succ_cons, List.take_length, List.take_left, take_appk, List.take_zero, List.take_nil, Vz.Q.v_yes, Vz.Q.v_lcB, Vz.Q.lcO_, Vz.Q.v_cname, Vz.Q.v_ctup, Vz.Q.v_cnnil, Vz.Q.v_cncons, Vz.Q.bb_tf, Vz.Q.bb_ft, Vz.Q.bb_tt, Vz.Q.bb_ff, Vz.Q.bn_tf, Vz.Q.bn_ft, Vz.Q.bn_tt, Vz.Q.bn_ff, eqD_bb, neD_bb, Bool.not_true, Bool.not_false, Bool.and_true, Bool.true_and, Bool.and_self, decide_true, decide_false, eq_self, Vz.Q.v_count, Vz.Q.cntB_l, Vz.Q.v_lam, Vz.Q.v_cat, Vz.Q.v_cseq_t, Vz.Q.v_cseq_l, Vz.Q.v_bor, Vz.Q.borO_b, Vz.Q.borW_dat, Vz.Q.borW_none, Vz.Q.borW_loc, Vz.Q.borC_lst, Vz.Q.borC_frz, Vz.Q.v_izd, Vz.Q.par3O_, Vz.Q.v_par3, Vz.Q.v_try, Vz.Q.try_exc, Vz.Q.try_nx, Vz.Q.try_rt, Vz.Q.drop_nx, Vz.Q.drop_rt, Vz.Q.v_raise1, Vz.Q.r1O_, Vz.Q.v_raise0, Vz.Q.v_isNo, Vz.Q.v_isNoN, Vz.Q.isNo_non, Vz.Q.isNo_exn, Vz.Q.v_isX, Vz.Q.isXW_, Vz.Q.v_xf, Vz.Q.xfW_, Vz.Q.v_oseq_t, Vz.Q.v_oseq_l, Vz.Q.enumD_l, Vz.Q.enumD_t, Vz.Q.nums_map, Vz.Q.listD_l, Vz.Q.listD_t, Vz.Q.tupleD_l, Vz.Q.tupleD_t, Vz.Q.lenD_l, Vz.Q.lenD_t, Vz.Q.cutD_l, Vz.Q.cutD_n, Vz.Q.revD_l, Vz.Q.fz_dat, Vz.Q.fz_loc, Vz.Q.fzC_lst, Vz.Q.fzC_frz, Vz.Q.isNN_non, Vz.Q.isNN_int, Vz.Q.isNN_str, Vz.Q.inD_l, Vz.Q.inD_t, Vz.Q.sqB_l, Vz.Q.sqB_t, Bool.false_xor, Bool.true_xor, asI, Vz.Q.walk_dl, Vz.Q.walk_dt, List.length_map, List.map_append, $hs,*])
section
variable {S : Sto} {xs qs : List Int} {it : D}
end
open Vz.Q Vz.G
section
variable {xs : List Int} {as : List Anc}
end
open PySem PySem.Spec PyProof.Rows L2 Vz Vz.Q Vz.G
local macro_rules
  | `(tactic| simp_arith! [$hs,*]) => `(tactic| simp -implicitDefEqProofs -dsimp (disch := first | assumption | omega | (simp only [List.length_map, List.length_append, List.length_cons, List.length_nil, List.length_range, List.length_take, List.length_drop, List.length_replicate, List.length_reverse, List.length_zipIdx]; omega)) only [Vz.Q.ifB_t, Vz.Q.ifB_f, Vz.Q.bind_ok, Vz.Q.bind_exc, Vz.Q.then_ok, Vz.Q.then_exc, Vz.Q.andThen_nx, Vz.Q.andThen_rt, Vz.Q.andThen_exc, Vz.Q.andThen_bk, Vz.Q.andThen_ct, Vz.Q.lift_some, Vz.Q.ofo_some, Vz.Q.get_ok, Vz.Q.noX_ok, Vz.Q.ifO_t, Vz.Q.varO_, Vz.Q.v_var, Vz.Q.v_c, Vz.Q.v_bin, Vz.Q.v_b, Vz.Q.asB_, Vz.Q.v_and, Vz.Q.v_or, Vz.Q.v_not, Vz.Q.v_v, Vz.Q.v_andV, Vz.Q.v_orV, Vz.Q.v_notV, Vz.Q.v_if, Vz.Q.v_chain, Vz.Q.v_anil, Vz.Q.v_acons, Vz.Q.v_tup, Vz.Q.v_tupK, Vz.Q.v_frz, Vz.Q.v_cell, Vz.Q.v_disp, Vz.Q.lsO_, Vz.Q.v_cat, Vz.Q.v_call, Vz.Q.v_lcall, Vz.Q.v_app, Vz.Q.v_appK, Vz.Q.v_nil, Vz.Q.v_pass, Vz.Q.v_seq, Vz.Q.v_break, Vz.Q.v_cont, Vz.Q.v_expr, Vz.Q.v_ret, Vz.Q.v_retN, Vz.Q.v_sif, Vz.Q.v_set, Vz.Q.v_setLc, Vz.Q.v_setLf, Vz.Q.v_aug, Vz.Q.parO_, Vz.Q.v_par, Vz.Q.nxO_, Vz.Q.v_asg, Vz.Q.v_oname, Vz.Q.v_onnil, Vz.Q.v_oncons, Vz.Q.v_otup, Vz.Q.v_osub, Vz.Q.v_fz, Vz.Q.v_meth, Vz.Q.v_meth0, Vz.Q.someR_, Vz.Q.v_index, Vz.Q.v_isi, Vz.Q.v_neg, Vz.Q.v_rev, Vz.Q.v_range, Vz.Q.v_sl, Vz.Q.v_no, Vz.Q.v_yesI, Vz.Q.v_dictT, Vz.Q.v_iseq, Vz.Q.v_iargs, Vz.Q.v_ifr, Vz.Q.rd_dat, Vz.Q.rd_loc, Vz.Q.rdC_lst, Vz.Q.rdC_frz, Vz.Q.rdC_dT, Vz.Q.rdC_dK, Vz.Q.rd2_, Vz.Q.rds_nil, Vz.Q.rds_cons, Vz.Q.dats_nil, Vz.Q.dats_cons, Vz.Q.small_1, Vz.Q.small_2, Vz.Q.small_3, Vz.Q.small_0, Vz.Q.small_, Vz.Q.one_, Vz.Q.two_, Vz.Q.frd_dat, Vz.Q.frd_loc, Vz.Q.frdC_frz, Vz.Q.frds_nil, Vz.Q.frds_cons, Vz.Q.LstW_, Vz.Q.lstB_, Vz.Q.lstC_, Vz.Q.lstO_, Vz.Q.v_append, Vz.Q.v_insert, Vz.Q.v_extend, Vz.Q.v_popAt, Vz.Q.asInt_, Vz.Q.asLs_, Vz.Q.v_stB, Vz.Q.lim_app, Vz.Q.lim_le, Vz.Q.lim_lt, Vz.Q.addL_, Vz.Q.addD_ll, Vz.Q.addD_tt, Option.bind_some, Option.map_some, addD_ii, subI_ii, ltI_ii, leI_ii, gtI_ii, geI_ii, eqD_ii, isN_non, isN_int, isN_str, List.getElem?_cons_zero, List.getElem?_cons_succ, List.set_cons_zero, List.set_cons_succ, List.length_cons, List.length_nil, List.length_append, Nat.zero_add, Nat.add_zero, Nat.reduceAdd, Nat.reduceSub, Nat.reduceEqDiff, at_app0, at_appk, set_app0, set_appk, List.append_assoc, List.cons_append, List.nil_append, List.append_nil, List.map_cons, List.map_nil, List.replicate, Vz.Q.fn_dat, Vz.Q.fn_nx, Vz.Q.fn_exc, Vz.Q.fn_exn, Vz.Q.fn_loc, Vz.Q.retC_lst, Vz.Q.retC_frz, Vz.Q.retC_dT, Vz.Q.retC_dK, Vz.Q.bodyF_, Vz.Q.bodyO_, Vz.Q.cutR_nil, Vz.Q.cutR_cons, Vz.Q.cutW_dat, Vz.Q.cutW_none, Vz.Q.cutW_exn, Vz.Q.cutW_loc, Vz.Q.cutW_locN, wipeR, List.take_succ_cons, List.take_length, List.take_left, take_appk, List.take_zero, List.take_nil, Vz.Q.v_yes, Vz.Q.v_lcB, Vz.Q.lcO_, Vz.Q.v_cname, Vz.Q.v_ctup, Vz.Q.v_cnnil, Vz.Q.v_cncons, Vz.Q.bb_tf, Vz.Q.bb_ft, Vz.Q.bb_tt, Vz.Q.bb_ff, Vz.Q.bn_tf, Vz.Q.bn_ft, Vz.Q.bn_tt, Vz.Q.bn_ff, eqD_bb, neD_bb, Bool.not_true, Bool.not_false, Bool.and_true, Bool.true_and, Bool.and_self, decide_true, decide_false, eq_self, Vz.Q.v_count, Vz.Q.cntB_l, Vz.Q.v_lam, Vz.Q.v_cat, Vz.Q.v_cseq_t, Vz.Q.v_cseq_l, Vz.Q.v_bor, Vz.Q.borO_b, Vz.Q.borW_dat, Vz.Q.borW_none, Vz.Q.borW_loc, Vz.Q.borC_lst, Vz.Q.borC_frz, Vz.Q.v_setR, Vz.Q.v_cellR, Vz.Q.v_ixR, Vz.Q.v_izd, Vz.Q.par3O_, Vz.Q.v_par3, Vz.Q.v_try, Vz.Q.try_exc, Vz.Q.try_nx, Vz.Q.try_rt, Vz.Q.drop_nx, Vz.Q.drop_rt, Vz.Q.v_raise1, Vz.Q.r1O_, Vz.Q.v_raise0, Vz.Q.v_isNo, Vz.Q.v_isNoN, Vz.Q.isNo_non, Vz.Q.isNo_exn, Vz.Q.v_isX, Vz.Q.isXW_, Vz.Q.v_xf, Vz.Q.xfW_, Vz.Q.v_oseq_t, Vz.Q.v_oseq_l, Vz.Q.enumD_l, Vz.Q.enumD_t, Vz.Q.nums_map, Vz.Q.listD_l, Vz.Q.listD_t, Vz.Q.tupleD_l, Vz.Q.tupleD_t, Vz.Q.lenD_l, Vz.Q.lenD_t, Vz.Q.cutD_l, Vz.Q.cutD_n, Vz.Q.revD_l, Vz.Q.fz_dat, Vz.Q.fz_loc, Vz.Q.fzC_lst, Vz.Q.fzC_frz, Vz.Q.isNN_non, Vz.Q.isNN_int, Vz.Q.isNN_str, Vz.Q.inD_l, Vz.Q.inD_t, Vz.Q.sqB_l, Vz.Q.sqB_t, Bool.false_xor, Bool.true_xor, asI, Vz.Q.walk_dl, Vz.Q.walk_dt, List.length_map, List.map_append, $hs,*])
section
variable {S : Sto} {xs : List Int} {as : List Anc} {it t : D} {ms : List Mark}
end
open PySem PySem.Spec PyProof.Rows L2 Vz Vz.Q Vz.G
section
variable {S : Sto} {xs : List Int} {as : List Anc} {it t : D} {ms : List Mark}
end
open Vz.Q Vz.G
section
variable {ms : List Mark} {xs : List Int} {as : List Anc}
end
open Vz.Q Vz.G
section
variable {ms ms' : List Mark}
end
section
variable {xs : List Int} {as : List Anc}
end
open Vz.Q Vz.G
section
variable {xs : List Int} {as : List Anc}
end
open Vz.Q Vz.G
section
variable {ms : List Mark}
/-- v is put directly before r -/
def dB (ms : List Mark) (v r : Nat) : Prop := ms.getD r none = some (v : Int) ∨ ∃ a, ms.getD v none = some a ∧ a < (r : Int) ∧ r < v
theorem getD_lt {p : Nat} {a : Int} (h : ms.getD p none = some a) : p < ms.length := by
  rcases Nat.lt_or_ge p ms.length with c | c
  · exact c
  · rw [List.getD_eq_getElem?_getD, List.getElem?_eq_none c] at h
    cases h
/-- v is before r in every order -/
inductive Bf (ms : List Mark) : Nat → Nat → Prop
  | one {v r} : dB ms v r → Bf ms v r
  | snoc {v r q} : Bf ms v r → dB ms r q → Bf ms v q
theorem Bf.cons {v r q : Nat} (h : dB ms v r) (h2 : Bf ms r q) : Bf ms v q := by
  induction h2 with
  | one h3 => exact .snoc (.one h) h3
  | snoc _ h3 ih => exact .snoc ih h3
theorem Bf.trans {v r q : Nat} (h : Bf ms v r) (h2 : Bf ms r q) : Bf ms v q := by
  induction h2 with
  | one h3 => exact .snoc h h3
  | snoc _ h3 ih => exact .snoc ih h3
/-- marks of which no one is wrong and no two cross -/
structure Nice (ms : List Mark) : Prop where
  low : ∀ (p : Nat) (k : Int), ms.getD p none = some k → -1 ≤ k
  wr : ∀ (p : Nat) (k : Int), ms.getD p none = some k → k < p
  cr : ∀ (x y : Nat) (a b : Int), ms.getD x none = some a → ms.getD y none = some b → y < x → a < y → a ≤ b
theorem Nice.lt {v r : Nat} (h : Nice ms) (hd : dB ms v r) : v < ms.length ∧ r < ms.length ∧ v ≠ r := by
  rcases hd with hd | ⟨a, hd, _, h2⟩
  · have := h.wr _ _ hd
    have := getD_lt hd
    omega
  · have := getD_lt hd
    omega
theorem Nice.bf {v r : Nat} (h : Nice ms) (hd : Bf ms v r) : v < ms.length ∧ r < ms.length := by
  induction hd with
  | one hd => exact ⟨(h.lt hd).1, (h.lt hd).2.1⟩
  | snoc _ h3 ih => exact ⟨ih.1, (h.lt h3).2.1⟩
/-- a gap into which and out of which no known anchor points -/
structure Gp (ms : List Mark) (f l : Nat) : Prop where
  hi : f + l ≤ ms.length
  inl : ∀ (p : Nat) (k : Int), f ≤ p → p < f + l → ms.getD p none = some k → (f : Int) - 1 ≤ k
  out : ∀ (p : Nat) (k : Int), f + l ≤ p → ms.getD p none = some k → k < f ∨ (f : Int) + l ≤ k
def Rt (ms : List Mark) (f l p : Nat) : Prop := f ≤ p ∧ p < f + l ∧ ∀ v, f ≤ v → v < f + l → ¬ dB ms v p
theorem Gp.whole (h : Nice ms) : Gp ms 0 ms.length := ⟨by omega, fun p k _ _ hk => by have := h.low _ _ hk; omega, fun p k hp hk => by have := getD_lt hk; omega⟩
theorem Rt.left {f l p : Nat} (h : Nice ms) (g : Gp ms f l) (r : Rt ms f l p) : Gp ms f (p - f) := by
  obtain ⟨r1, r2, r3⟩ := r
  have := g.hi
  refine ⟨by omega, fun q k h1 h2 hk => g.inl q k h1 (by omega) hk, fun q k hq hk => ?_⟩
  rcases Nat.lt_or_ge q (f + l) with c | c
  · by_cases hb : f ≤ k ∧ k < p
    · obtain ⟨v, rfl⟩ := Int.eq_ofNat_of_zero_le (show 0 ≤ k by omega)
      rcases Nat.lt_or_ge p q with d | d
      · exact absurd (.inr ⟨_, hk, by omega, d⟩) (r3 q (by omega) c)
      · have e : q = p := by omega
        subst e
        exact absurd (.inl hk) (r3 v (by omega) (by omega))
    · omega
  · rcases g.out q k c hk with e | e <;> omega
theorem Rt.right {f l p : Nat} (h : Nice ms) (g : Gp ms f l) (r : Rt ms f l p) : Gp ms (p + 1) (f + l - (p + 1)) := by
  obtain ⟨r1, r2, r3⟩ := r
  have := g.hi
  refine ⟨by omega, fun q k h1 h2 hk => ?_, fun q k hq hk => ?_⟩
  · rcases Int.lt_or_le k p with c | c
    · exact absurd (.inr ⟨_, hk, c, by omega⟩) (r3 q (by omega) (by omega))
    · omega
  · rcases g.out q k (by omega) hk with e | e <;> omega
theorem Rt.can {f l p : Nat} (h : Nice ms) (g : Gp ms f l) (r : Rt ms f l p) : ∀ k, ms.getD p none = some k → k = (f : Int) - 1 := fun k hk => by
  obtain ⟨r1, r2, r3⟩ := r
  have h1 := g.inl p k r1 r2 hk
  have h2 := h.wr _ _ hk
  by_cases c : k = (f : Int) - 1
  · exact c
  · obtain ⟨v, rfl⟩ := Int.eq_ofNat_of_zero_le (show 0 ≤ k by omega)
    exact absurd (.inl hk) (r3 v (by omega) (by omega))
/-- who is after one of a gap is in it -/
theorem Gp.stay {f l p r : Nat} (h : Nice ms) (g : Gp ms f l) (h1 : f ≤ p) (h2 : p < f + l) (hd : dB ms p r) : f ≤ r ∧ r < f + l := by
  rcases hd with hd | ⟨a, hd, h3, h4⟩
  · have := h.wr _ _ hd
    rcases Nat.lt_or_ge r (f + l) with c | c
    · omega
    · rcases g.out r _ c hd with e | e <;> omega
  · have := g.inl p a h1 h2 hd
    omega
theorem Gp.bf {f l p r : Nat} (h : Nice ms) (g : Gp ms f l) (h1 : f ≤ p) (h2 : p < f + l) (hd : Bf ms p r) : f ≤ r ∧ r < f + l := by
  induction hd with
  | one hd => exact g.stay h h1 h2 hd
  | snoc _ h3 ih => exact g.stay h ih.1 ih.2 h3
theorem root_ex {f l : Nat} {ρ : Nat → Nat} (hρ : ∀ v r, dB ms v r → ρ v < ρ r) : ∀ (n q : Nat), ρ q ≤ n → f ≤ q → q < f + l → ∃ p, Rt ms f l p ∧ (p = q ∨ Bf ms p q)
  | n, q, hn, h1, h2 => by
    by_cases c : ∃ v, f ≤ v ∧ v < f + l ∧ dB ms v q
    · obtain ⟨v, h3, h4, h5⟩ := c
      have := hρ _ _ h5
      cases n with
      | zero => omega
      | succ n =>
        obtain ⟨p, hp, e⟩ := root_ex (f := f) (l := l) hρ n v (by omega) h3 h4
        refine ⟨p, hp, .inr ?_⟩
        rcases e with e | e
        · exact .one (e ▸ h5)
        · exact .snoc e h5
    · exact ⟨q, ⟨h1, h2, fun v h3 h4 h5 => c ⟨v, h3, h4, h5⟩⟩, .inl rfl⟩
theorem root_lt {f l p1 p2 q : Nat} (h : Nice ms) (g : Gp ms f l) (r1 : Rt ms f l p1) (r2 : Rt ms f l p2) (hlt : p1 < p2) (e1 : p1 = q ∨ Bf ms p1 q) (e2 : p2 = q ∨ Bf ms p2 q) : False := by
  have g1 := r2.left h g
  have hq1 : q < p2 := by
    rcases e1 with e | e
    · omega
    · have := g1.bf h r1.1 (by have := r2.1; omega) e
      omega
  have hn : ms.getD p2 none = none := by
    cases c : ms.getD p2 none with
    | none => rfl
    | some k =>
      have := r2.can h g k c
      have := r1.1
      exact absurd (.inr ⟨_, c, by omega, hlt⟩) (r1.2.2 p2 r2.1 r2.2.1)
  have hq2 : p2 ≤ q := by
    rcases e2 with e | e
    · omega
    · have g2 := r2.right h g
      have key : ∀ r, Bf ms p2 r → p2 + 1 ≤ r ∧ r < p2 + 1 + (f + l - (p2 + 1)) := fun r hr => by
        induction hr with
        | one hd =>
          have hs := g.stay h r2.1 r2.2.1 hd
          rcases hd with hd | ⟨a, hd, _⟩
          · have := h.wr _ _ hd
            omega
          · rw [hn] at hd
            cases hd
        | snoc _ h3 ih => exact g2.stay h ih.1 ih.2 h3
      have := (key q e).1
      omega
  omega
theorem root_uq {f l p1 p2 q : Nat} (h : Nice ms) (g : Gp ms f l) (r1 : Rt ms f l p1) (r2 : Rt ms f l p2) (e1 : p1 = q ∨ Bf ms p1 q) (e2 : p2 = q ∨ Bf ms p2 q) : p1 = p2 := by
  rcases Nat.lt_trichotomy p1 p2 with c | c | c
  · exact (root_lt h g r1 r2 c e1 e2).elim
  · exact c
  · exact (root_lt h g r2 r1 c e2 e1).elim
open Classical in
noncomputable def hk (ms : List Mark) (p : Nat) : Nat := (List.range ms.length).countP fun q => decide (p = q ∨ Bf ms p q)
end
open Vz.Q Vz.G
section
variable {ms : List Mark} {xs : List Int} {as : List Anc}
end
open PySem PySem.Spec PyProof.Rows L2 Vz Vz.Q Vz.G
section
variable {S : Sto} {xs : List Int} {as : List Anc} {it t : D} {ms : List Mark} {xss : List (List D)} {i : Nat} {F : List D}
/-- v is before r by a chain of k steps more than one -/
def Bk (ms : List Mark) : Nat → Nat → Nat → Prop
  | 0, v, r => dB ms v r
  | k + 1, v, r => ∃ u, dB ms v u ∧ Bk ms k u r
theorem Bk.bf : ∀ {k v r : Nat}, Bk ms k v r → Bf ms v r
  | 0, _, _, h => .one h
  | k + 1, _, _, ⟨u, h1, h2⟩ => .cons h1 h2.bf
theorem Bk.snoc : ∀ {k v r q : Nat}, Bk ms k v r → dB ms r q → Bk ms (k + 1) v q
  | 0, _, r, _, h, hd => ⟨r, h, hd⟩
  | k + 1, _, _, _, ⟨u, h1, h2⟩, hd => ⟨u, h1, h2.snoc hd⟩
end
section
variable {S : Sto} {xs : List Int} {as : List Anc} {ms : List Mark}
end
open PySem PySem.Spec PyProof.Rows L2 Vz Vz.Q Vz.G
section
variable {S : Sto} {xs : List Int} {as : List Anc} {it t bg : D} {ms : List Mark}
theorem ne_nil (hr : ∀ i ∈ xs, 0 ≤ i ∧ i < 10 ^ 10) (hn : xs.length ≤ 20) : neD (.tup .nod (xs.map D.int)) (.tup .nod []) = some (.bool (!xs.isEmpty)) := by
  have h1 : Rp (20 * 81) 1 (.tup .nod (xs.map D.int)) := rp_tup (w := 80) (k := 0) (fun d hd => by
    obtain ⟨v, hv, rfl⟩ := List.mem_map.mp hd
    have := hr v hv
    exact rp_int (by omega)) (by rw [List.length_map]; omega) (by decide)
  have h2 : Rp (20 * 81) 1 (.tup .nod []) := rp_tup (w := 80) (k := 0) (fun d hd => by cases hd) (by simp) (by decide)
  rw [neD_ne h1 h2 (by decide) (by decide)]
  cases xs <;> rfl
end
open PySem PySem.Spec PyProof.Rows L2 Vz Vz.Q Vz.G
local macro_rules
  | `(tactic| simp_arith! [$hs,*]) => `(tactic| simp -implicitDefEqProofs -dsimp (disch := first | assumption | omega | (simp only [List.length_map, List.length_append, List.length_cons, List.length_nil, List.length_range, List.length_take, List.length_drop, List.length_replicate, List.length_reverse, List.length_zipIdx]; omega)) only [Vz.Q.ifB_t, Vz.Q.ifB_f, Vz.Q.bind_ok, Vz.Q.bind_exc, Vz.Q.then_ok, Vz.Q.then_exc, Vz.Q.andThen_nx, Vz.Q.andThen_rt, Vz.Q.andThen_exc, Vz.Q.andThen_bk, Vz.Q.andThen_ct, Vz.Q.lift_some, Vz.Q.ofo_some, Vz.Q.get_ok, Vz.Q.noX_ok, Vz.Q.ifO_t, Vz.Q.varO_, Vz.Q.v_var, Vz.Q.v_c, Vz.Q.v_bin, Vz.Q.v_b, Vz.Q.asB_, Vz.Q.v_and, Vz.Q.v_or, Vz.Q.v_not, Vz.Q.v_v, Vz.Q.v_andV, Vz.Q.v_orV, Vz.Q.v_notV, Vz.Q.v_if, Vz.Q.v_chain, Vz.Q.v_anil, Vz.Q.v_acons, Vz.Q.v_tup, Vz.Q.v_tupK, Vz.Q.v_frz, Vz.Q.v_cell, Vz.Q.v_disp, Vz.Q.lsO_, Vz.Q.v_cat, Vz.Q.v_call, Vz.Q.v_lcall, Vz.Q.v_app, Vz.Q.v_appK, Vz.Q.v_nil, Vz.Q.v_pass, Vz.Q.v_seq, Vz.Q.v_break, Vz.Q.v_cont, Vz.Q.v_expr, Vz.Q.v_ret, Vz.Q.v_retN, Vz.Q.v_sif, Vz.Q.v_set, Vz.Q.v_setLc, Vz.Q.v_setLf, Vz.Q.v_aug, Vz.Q.parO_, Vz.Q.v_par, Vz.Q.nxO_, Vz.Q.v_asg, Vz.Q.v_oname, Vz.Q.v_onnil, Vz.Q.v_oncons, Vz.Q.v_otup, Vz.Q.v_osub, Vz.Q.v_fz, Vz.Q.v_meth, Vz.Q.v_meth0, Vz.Q.someR_, Vz.Q.v_index, Vz.Q.v_isi, Vz.Q.v_neg, Vz.Q.v_rev, Vz.Q.v_range, Vz.Q.v_sl, Vz.Q.v_no, Vz.Q.v_yesI, Vz.Q.v_dictT, Vz.Q.v_iseq, Vz.Q.v_iargs, Vz.Q.v_ifr, Vz.Q.rd_dat, Vz.Q.rd_loc, Vz.Q.rdC_lst, Vz.Q.rdC_frz, Vz.Q.rdC_dT, Vz.Q.rdC_dK, Vz.Q.rd2_, Vz.Q.rds_nil, Vz.Q.rds_cons, Vz.Q.dats_nil, Vz.Q.dats_cons, Vz.Q.small_1, Vz.Q.small_2, Vz.Q.small_3, Vz.Q.small_0, Vz.Q.small_, Vz.Q.one_, Vz.Q.two_, Vz.Q.frd_dat, Vz.Q.frd_loc, Vz.Q.frdC_frz, Vz.Q.frds_nil, Vz.Q.frds_cons, Vz.Q.LstW_, Vz.Q.lstB_, Vz.Q.lstC_, Vz.Q.lstO_, Vz.Q.v_append, Vz.Q.v_insert, Vz.Q.v_extend, Vz.Q.v_popAt, Vz.Q.asInt_, Vz.Q.asLs_, Vz.Q.v_stB, Vz.Q.lim_app, Vz.Q.lim_le, Vz.Q.lim_lt, Vz.Q.addL_, Vz.Q.addD_ll, Vz.Q.addD_tt, Option.bind_some, Option.map_some, addD_ii, subI_ii, ltI_ii, leI_ii, gtI_ii, geI_ii, eqD_ii, isN_non, isN_int, isN_str, List.getElem?_cons_zero, List.getElem?_cons_succ, List.set_cons_zero, List.set_cons_succ, List.length_cons, List.length_nil, List.length_append, Nat.zero_add, Nat.add_zero, Nat.reduceAdd, Nat.reduceSub, Nat.reduceEqDiff, at_app0, at_appk, set_app0, set_appk, List.append_assoc, List.cons_append, List.nil_append, List.append_nil, List.map_cons, List.map_nil, List.replicate, Vz.Q.fn_dat, Vz.Q.fn_nx, Vz.Q.fn_exc, Vz.Q.fn_exn, Vz.Q.fn_loc, Vz.Q.retC_lst, Vz.Q.retC_frz, Vz.Q.retC_dT, Vz.Q.retC_dK, Vz.Q.bodyF_, Vz.Q.bodyO_, Vz.Q.cutR_nil, Vz.Q.cutR_cons, Vz.Q.cutW_dat, Vz.Q.cutW_none, Vz.Q.cutW_exn, Vz.Q.cutW_loc, Vz.Q.cutW_locN, wipeR, List.take_succ_cons, List.take_length, List.take_left, take_appk, List.take_zero, List.take_nil, Vz.Q.v_yes, Vz.Q.v_lcB, Vz.Q.lcO_, Vz.Q.v_cname, Vz.Q.v_ctup, Vz.Q.v_cnnil, Vz.Q.v_cncons, Vz.Q.bb_tf, Vz.Q.bb_ft, Vz.Q.bb_tt, Vz.Q.bb_ff, Vz.Q.bn_tf, Vz.Q.bn_ft, Vz.Q.bn_tt, Vz.Q.bn_ff, eqD_bb, neD_bb, Bool.not_true, Bool.not_false, Bool.and_true, Bool.true_and, Bool.and_self, decide_true, decide_false, eq_self, Vz.Q.v_setR, Vz.Q.v_cellR, Vz.Q.v_ixR, Vz.Q.v_izd, Vz.Q.par3O_, Vz.Q.v_par3, Vz.Q.v_try, Vz.Q.try_exc, Vz.Q.try_nx, Vz.Q.try_rt, Vz.Q.drop_nx, Vz.Q.drop_rt, Vz.Q.v_raise1, Vz.Q.r1O_, Vz.Q.v_raise0, Vz.Q.v_isNo, Vz.Q.v_isNoN, Vz.Q.isNo_non, Vz.Q.isNo_exn, Vz.Q.v_isX, Vz.Q.isXW_, Vz.Q.v_xf, Vz.Q.xfW_, Vz.Q.v_oseq_t, Vz.Q.v_oseq_l, Vz.Q.enumD_l, Vz.Q.enumD_t, Vz.Q.nums_map, Vz.Q.listD_l, Vz.Q.listD_t, Vz.Q.tupleD_l, Vz.Q.tupleD_t, Vz.Q.lenD_l, Vz.Q.lenD_t, Vz.Q.cutD_l, Vz.Q.cutD_n, Vz.Q.revD_l, Vz.Q.fz_dat, Vz.Q.fz_loc, Vz.Q.fzC_lst, Vz.Q.fzC_frz, Vz.Q.isNN_non, Vz.Q.isNN_int, Vz.Q.isNN_str, Vz.Q.inD_l, Vz.Q.inD_t, Vz.Q.sqB_l, Vz.Q.sqB_t, Bool.false_xor, Bool.true_xor, asI, Vz.Q.walk_dl, Vz.Q.walk_dt, List.length_map, List.map_append, $hs,*])
section
variable {S : Sto} {xs : List Int} {as : List Anc} {it t : D} {ms : List Mark}
end
open PySem PySem.Spec PyProof.Rows L2 Vz Vz.Q Vz.G
section
variable {ms : List Mark}
theorem bf_last {q p : Nat} (h : Bf ms q p) : ∃ v, dB ms v p ∧ (q = v ∨ Bf ms q v) := by
  cases h with
  | one h => exact ⟨q, h, .inl rfl⟩
  | snoc h1 h2 => exact ⟨_, h2, .inr h1⟩
theorem chain_gap {ρ : Nat → Nat} (hρ : ∀ v r, dB ms v r → ρ v < ρ r) (h : Nice ms) : ∀ (n l f : Nat), l ≤ n → Gp ms f l → ∀ p q q', f ≤ p → p < f + l → f ≤ q → q < f + l → f ≤ q' → q' < f + l → Bf ms q p → Bf ms q' p → q = q' ∨ Bf ms q q' ∨ Bf ms q' q
  | 0, l, f, hl, g, p, _, _, h1, h2, _, _, _, _, _, _ => by omega
  | n + 1, l, f, hl, g, p, q, q', h1, h2, h3, h4, h5, h6, b1, b2 => by
    obtain ⟨r, hr, e⟩ := root_ex (f := f) (l := l) hρ (ρ p) p (Nat.le_refl _) h1 h2
    have hrp : Bf ms r p := by
      rcases e with e | e
      · subst e
        obtain ⟨v, hv, e⟩ := bf_last b1
        have hvg : f ≤ v ∧ v < f + l := by
          rcases e with e | e
          · rw [← e]; exact ⟨h3, h4⟩
          · exact g.bf h h3 h4 e
        exact absurd hv (hr.2.2 v hvg.1 hvg.2)
      · exact e
    have root : ∀ x, f ≤ x → x < f + l → Bf ms x p → r = x ∨ Bf ms r x := fun x x1 x2 bx => by
      obtain ⟨r', hr', e'⟩ := root_ex (f := f) (l := l) hρ (ρ x) x (Nat.le_refl _) x1 x2
      have : r' = r := root_uq h g hr' hr (q := p) (.inr (by
        rcases e' with e' | e'
        · rw [e']; exact bx
        · exact e'.trans bx)) (.inr hrp)
      rw [← this]
      exact e'
    by_cases c1 : q = r
    · rcases root q' h5 h6 b2 with e | e
      · exact .inl (by rw [c1, e])
      · exact .inr (.inl (by rw [c1]; exact e))
    by_cases c2 : q' = r
    · rcases root q h3 h4 b1 with e | e
      · exact absurd e.symm c1
      · exact .inr (.inr (by rw [c2]; exact e))
    have gl := hr.left h g
    have gr := hr.right h g
    have r1 := hr.1
    have r2 := hr.2.1
    have side : ∀ x, f ≤ x → x < f + l → x ≠ r → Bf ms x p → (x < r ↔ p < r) ∧ p ≠ r := fun x x1 x2 x3 bx => by
      rcases Nat.lt_or_ge x r with c | c
      · have := gl.bf h x1 (by omega) bx
        omega
      · have := gr.bf h (by omega) (by omega) bx
        omega
    obtain ⟨s1, s3⟩ := side q h3 h4 c1 b1
    obtain ⟨s2, _⟩ := side q' h5 h6 c2 b2
    rcases Nat.lt_or_ge p r with c | c
    · have := s1.mpr c
      have := s2.mpr c
      exact chain_gap hρ h n (r - f) f (by omega) gl p q q' h1 (by omega) h3 (by omega) h5 (by omega) b1 b2
    · have : ¬ q < r := fun z => by have := s1.mp z; omega
      have : ¬ q' < r := fun z => by have := s2.mp z; omega
      exact chain_gap hρ h n (f + l - (r + 1)) (r + 1) (by omega) gr p q q' (by omega) (by omega) (by omega) (by omega) (by omega) (by omega) b1 b2
/-- what is certainly before an item forms a chain -/
theorem chain {ρ : Nat → Nat} (hρ : ∀ v r, dB ms v r → ρ v < ρ r) (h : Nice ms) {p q q' : Nat} (b1 : Bf ms q p) (b2 : Bf ms q' p) : q = q' ∨ Bf ms q q' ∨ Bf ms q' q := by
  have h1 := h.bf b1
  have h2 := h.bf b2
  exact chain_gap hρ h ms.length ms.length 0 (Nat.le_refl _) (Gp.whole h) p q q' (by omega) (by omega) (by omega) (by omega) (by omega) (by omega) b1 b2
end
section
variable {S : Sto} {xs : List Int} {as : List Anc} {it t : D}
end
open PySem PySem.Spec PyProof.Rows L2 Vz Vz.Q Vz.G
theorem ne_ints (a b : Int) : neD (.int a) (.int b) = some (.bool (!decide (a = b))) := by
  rw [neD_of rfl rfl]
  show some (D.bool (!PyData.eqv (.int a) (.int b))) = _
  congr 2
section
variable {S : Sto} {xs : List Int} {as : List Anc}
end
end Vz.H
namespace Vz.T
open Vz Vz.G Vz.H
/-- the mixings that begin with a, or with an item of the other sequence -/
def mixIn (a : Nat) (A : List Nat) (rec : List Nat → List (List Nat)) : List Nat → List (List Nat)
  | [] => [a :: A]
  | b :: B => (rec (b :: B)).map (a :: ·) ++ (mixIn a A rec B).map (b :: ·)
def mix : List Nat → List Nat → List (List Nat)
  | [] => fun B => [B]
  | a :: A => mixIn a A (mix A)
/-- in how many mixings of sequences of lengths a and b the item at i of the first one has c items of the second one before it -/
def bm (a i b c : Nat) : Nat := bin (i + c) c * bin (a - 1 - i + (b - c)) (b - c)
end Vz.T
namespace Vz.T
open Vz Vz.G Vz.H
variable {ms : List Mark}
/-- the first place of the gap in which p lies, of a gap that begins at f -/
def lobF (f : Nat) (ps : List Nat) (p : Nat) : Nat := max f (lobP ps p)
def fitG (ms : List Mark) (f : Nat) (ps : List Nat) (p : Nat) : Bool := canB (ms.getD p none) (lobF f ps p : Nat)
def agrG (ms : List Mark) (f : Nat) : List Nat → List Nat → Bool
  | _, [] => true
  | ps, p :: τ => fitG ms f ps p && agrG ms f (ps ++ [p]) τ
/-- L holds the orders of the gap of length l at f, each once -/
structure IsO (ms : List Mark) (l f : Nat) (L : List (List Nat)) : Prop where
  nd : L.Nodup
  mem : ∀ σ, σ ∈ L ↔ σ.Perm (List.range' f l) ∧ agrG ms f [] σ = true
theorem IsO.perm {l f : Nat} {L L' : List (List Nat)} (h : IsO ms l f L) (h' : IsO ms l f L') : L.Perm L' :=
  (List.perm_ext_iff_of_nodup h.nd h'.nd).mpr fun σ => (h.mem σ).trans (h'.mem σ).symm
/-- the orders of the gap of length l at f (n: fuel) -/
def og (ms : List Mark) : Nat → Nat → Nat → List (List Nat)
  | _, 0, _ => [[]]
  | 0, _ + 1, _ => []
  | n + 1, l + 1, f => ((List.range (l + 1)).filter fun u => canB (ms.getD (f + u) none) (f : Nat)).flatMap fun u => (og ms n u f).flatMap fun A => (og ms n (l - u) (f + u + 1)).flatMap fun B => (mix A B).map ((f + u) :: ·)
end Vz.T
namespace Vz.T
open Vz Vz.G Vz.H
variable {ms : List Mark}
/-- how many orders of the gap have p at the time t -/
def tm (ms : List Mark) (l f p t : Nat) : Nat := (og ms l l f).countP fun σ => decide (σ.idxOf p = t)
/-- how many have p before q -/
def bf (ms : List Mark) (l f p q : Nat) : Nat := (og ms l l f).countP fun σ => decide (σ.idxOf p < σ.idxOf q)
end Vz.T
namespace Vz.H
open PySem PySem.Spec PyProof.Rows L2 Vz Vz.Q Vz.G Vz.T
local macro_rules
  | `(tactic| simp_arith [$hs,*]) => `(tactic| simp -implicitDefEqProofs -dsimp (disch := first | assumption | omega | (simp only [List.length_map, List.length_append, List.length_cons, List.length_nil, List.length_range, List.length_take, List.length_drop, List.length_replicate, List.length_reverse, List.length_zipIdx]; omega)) only [Vz.Q.ifB_t, Vz.Q.ifB_f, Vz.Q.bind_ok, Vz.Q.bind_exc, Vz.Q.then_ok, Vz.Q.then_exc, Vz.Q.andThen_nx, Vz.Q.andThen_rt, Vz.Q.andThen_exc, Vz.Q.andThen_bk, Vz.Q.andThen_ct, Vz.Q.lift_some, Vz.Q.ofo_some, Vz.Q.get_ok, Vz.Q.noX_ok, Vz.Q.ifO_t, Vz.Q.varO_, Vz.Q.v_var, Vz.Q.v_c, Vz.Q.v_bin, Vz.Q.v_b, Vz.Q.asB_, Vz.Q.v_and, Vz.Q.v_or, Vz.Q.v_not, Vz.Q.v_v, Vz.Q.v_andV, Vz.Q.v_orV, Vz.Q.v_notV, Vz.Q.v_if, Vz.Q.v_chain, Vz.Q.v_anil, Vz.Q.v_acons, Vz.Q.v_tup, Vz.Q.v_tupK, Vz.Q.v_frz, Vz.Q.v_cell, Vz.Q.v_disp, Vz.Q.lsO_, Vz.Q.v_cat, Vz.Q.v_call, Vz.Q.v_lcall, Vz.Q.v_app, Vz.Q.v_appK, Vz.Q.v_nil, Vz.Q.v_pass, Vz.Q.v_seq, Vz.Q.v_break, Vz.Q.v_cont, Vz.Q.v_expr, Vz.Q.v_ret, Vz.Q.v_retN, Vz.Q.v_sif, Vz.Q.v_set, Vz.Q.v_setLc, Vz.Q.v_setLf, Vz.Q.v_aug, Vz.Q.parO_, Vz.Q.v_par, Vz.Q.nxO_, Vz.Q.v_asg, Vz.Q.v_oname, Vz.Q.v_onnil, Vz.Q.v_oncons, Vz.Q.v_otup, Vz.Q.v_osub, Vz.Q.v_fz, Vz.Q.v_meth, Vz.Q.v_meth0, Vz.Q.someR_, Vz.Q.v_index, Vz.Q.v_isi, Vz.Q.v_neg, Vz.Q.v_rev, Vz.Q.v_range, Vz.Q.v_sl, Vz.Q.v_no, Vz.Q.v_yesI, Vz.Q.v_dictT, Vz.Q.v_iseq, Vz.Q.v_iargs, Vz.Q.v_ifr, Vz.Q.rd_dat, Vz.Q.rd_loc, Vz.Q.rdC_lst, Vz.Q.rdC_frz, Vz.Q.rdC_dT, Vz.Q.rdC_dK, Vz.Q.rd2_, Vz.Q.rds_nil, Vz.Q.rds_cons, Vz.Q.dats_nil, Vz.Q.dats_cons, Vz.Q.small_1, Vz.Q.small_2, Vz.Q.small_3, Vz.Q.small_0, Vz.Q.small_, Vz.Q.one_, Vz.Q.two_, Vz.Q.frd_dat, Vz.Q.frd_loc, Vz.Q.frdC_frz, Vz.Q.frds_nil, Vz.Q.frds_cons, Vz.Q.LstW_, Vz.Q.lstB_, Vz.Q.lstC_, Vz.Q.lstO_, Vz.Q.v_append, Vz.Q.v_insert, Vz.Q.v_extend, Vz.Q.v_popAt, Vz.Q.asInt_, Vz.Q.asLs_, Vz.Q.v_stB, Vz.Q.lim_app, Vz.Q.lim_le, Vz.Q.lim_lt, Vz.Q.addL_, Vz.Q.addD_ll, Vz.Q.addD_tt, Option.bind_some, Option.map_some, addD_ii, subI_ii, ltI_ii, leI_ii, gtI_ii, geI_ii, eqD_ii, isN_non, isN_int, isN_str, List.getElem?_cons_zero, List.getElem?_cons_succ, List.set_cons_zero, List.set_cons_succ, List.length_cons, List.length_nil, List.length_append, Nat.zero_add, Nat.add_zero, Nat.reduceAdd, Nat.reduceSub, Nat.reduceEqDiff, at_app0, at_appk, set_app0, set_appk, List.append_assoc, List.cons_append, List.nil_append, List.append_nil, List.map_cons, List.map_nil, List.replicate, Vz.Q.fn_dat, Vz.Q.fn_nx, Vz.Q.fn_exc, Vz.Q.fn_exn, Vz.Q.fn_loc, Vz.Q.retC_lst, Vz.Q.retC_frz, Vz.Q.retC_dT, Vz.Q.retC_dK, Vz.Q.bodyF_, Vz.Q.bodyO_, Vz.Q.cutR_nil, Vz.Q.cutR_cons, Vz.Q.cutW_dat, Vz.Q.cutW_none, Vz.Q.cutW_exn, Vz.Q.cutW_loc, Vz.Q.cutW_locN, wipeR, List.take_succ_cons, List.take_length, List.take_left, take_appk, List.take_zero, List.take_nil, Vz.Q.v_yes, Vz.Q.v_lcB, Vz.Q.lcO_, Vz.Q.v_cname, Vz.Q.v_ctup, Vz.Q.v_cnnil, Vz.Q.v_cncons, Vz.Q.bb_tf, Vz.Q.bb_ft, Vz.Q.bb_tt, Vz.Q.bb_ff, Vz.Q.bn_tf, Vz.Q.bn_ft, Vz.Q.bn_tt, Vz.Q.bn_ff, eqD_bb, neD_bb, Bool.not_true, Bool.not_false, Bool.and_true, Bool.true_and, Bool.and_self, decide_true, decide_false, eq_self, $hs,*])
local macro_rules
  | `(tactic| simp_arith! [$hs,*]) => `(tactic| simp -implicitDefEqProofs -dsimp (disch := first | assumption | omega | (simp only [List.length_map, List.length_append, List.length_cons, List.length_nil, List.length_range, List.length_take, List.length_drop, List.length_replicate, List.length_reverse, List.length_zipIdx]; omega)) only [Vz.Q.ifB_t, Vz.Q.ifB_f, Vz.Q.bind_ok, Vz.Q.bind_exc, Vz.Q.then_ok, Vz.Q.then_exc, Vz.Q.andThen_nx, Vz.Q.andThen_rt, Vz.Q.andThen_exc, Vz.Q.andThen_bk, Vz.Q.andThen_ct, Vz.Q.lift_some, Vz.Q.ofo_some, Vz.Q.get_ok, Vz.Q.noX_ok, Vz.Q.ifO_t, Vz.Q.varO_, Vz.Q.v_var, Vz.Q.v_c, Vz.Q.v_bin, Vz.Q.v_b, Vz.Q.asB_, Vz.Q.v_and, Vz.Q.v_or, Vz.Q.v_not, Vz.Q.v_v, Vz.Q.v_andV, Vz.Q.v_orV, Vz.Q.v_notV, Vz.Q.v_if, Vz.Q.v_chain, Vz.Q.v_anil, Vz.Q.v_acons, Vz.Q.v_tup, Vz.Q.v_tupK, Vz.Q.v_frz, Vz.Q.v_cell, Vz.Q.v_disp, Vz.Q.lsO_, Vz.Q.v_cat, Vz.Q.v_call, Vz.Q.v_lcall, Vz.Q.v_app, Vz.Q.v_appK, Vz.Q.v_nil, Vz.Q.v_pass, Vz.Q.v_seq, Vz.Q.v_break, Vz.Q.v_cont, Vz.Q.v_expr, Vz.Q.v_ret, Vz.Q.v_retN, Vz.Q.v_sif, Vz.Q.v_set, Vz.Q.v_setLc, Vz.Q.v_setLf, Vz.Q.v_aug, Vz.Q.parO_, Vz.Q.v_par, Vz.Q.nxO_, Vz.Q.v_asg, Vz.Q.v_oname, Vz.Q.v_onnil, Vz.Q.v_oncons, Vz.Q.v_otup, Vz.Q.v_osub, Vz.Q.v_fz, Vz.Q.v_meth, Vz.Q.v_meth0, Vz.Q.someR_, Vz.Q.v_index, Vz.Q.v_isi, Vz.Q.v_neg, Vz.Q.v_rev, Vz.Q.v_range, Vz.Q.v_sl, Vz.Q.v_no, Vz.Q.v_yesI, Vz.Q.v_dictT, Vz.Q.v_iseq, Vz.Q.v_iargs, Vz.Q.v_ifr, Vz.Q.rd_dat, Vz.Q.rd_loc, Vz.Q.rdC_lst, Vz.Q.rdC_frz, Vz.Q.rdC_dT, Vz.Q.rdC_dK, Vz.Q.rd2_, Vz.Q.rds_nil, Vz.Q.rds_cons, Vz.Q.dats_nil, Vz.Q.dats_cons, Vz.Q.small_1, Vz.Q.small_2, Vz.Q.small_3, Vz.Q.small_0, Vz.Q.small_, Vz.Q.one_, Vz.Q.two_, Vz.Q.frd_dat, Vz.Q.frd_loc, Vz.Q.frdC_frz, Vz.Q.frds_nil, Vz.Q.frds_cons, Vz.Q.LstW_, Vz.Q.lstB_, Vz.Q.lstC_, Vz.Q.lstO_, Vz.Q.v_append, Vz.Q.v_insert, Vz.Q.v_extend, Vz.Q.v_popAt, Vz.Q.asInt_, Vz.Q.asLs_, Vz.Q.v_stB, Vz.Q.lim_app, Vz.Q.lim_le, Vz.Q.lim_lt, Vz.Q.addL_, Vz.Q.addD_ll, Vz.Q.addD_tt, Option.bind_some, Option.map_some, addD_ii, subI_ii, ltI_ii, leI_ii, gtI_ii, geI_ii, eqD_ii, isN_non, isN_int, isN_str, List.getElem?_cons_zero, List.getElem?_cons_succ, List.set_cons_zero, List.set_cons_succ, List.length_cons, List.length_nil, List.length_append, Nat.zero_add, Nat.add_zero, Nat.reduceAdd, Nat.reduceSub, Nat.reduceEqDiff, at_app0, at_appk, set_app0, set_appk, List.append_assoc, List.cons_append, List.nil_append, List.append_nil, List.map_cons, List.map_nil, List.replicate, Vz.Q.fn_dat, Vz.Q.fn_nx, Vz.Q.fn_exc, Vz.Q.fn_exn, Vz.Q.fn_loc, Vz.Q.retC_lst, Vz.Q.retC_frz, Vz.Q.retC_dT, Vz.Q.retC_dK, Vz.Q.bodyF_, Vz.Q.bodyO_, Vz.Q.cutR_nil, Vz.Q.cutR_cons, Vz.Q.cutW_dat, Vz.Q.cutW_none, Vz.Q.cutW_exn, Vz.Q.cutW_loc, Vz.Q.cutW_locN, wipeR, List.take_succ_cons, List.take_length, List.take_left, take_appk, List.take_zero, List.take_nil, Vz.Q.v_yes, Vz.Q.v_lcB, Vz.Q.lcO_, Vz.Q.v_cname, Vz.Q.v_ctup, Vz.Q.v_cnnil, Vz.Q.v_cncons, Vz.Q.bb_tf, Vz.Q.bb_ft, Vz.Q.bb_tt, Vz.Q.bb_ff, Vz.Q.bn_tf, Vz.Q.bn_ft, Vz.Q.bn_tt, Vz.Q.bn_ff, eqD_bb, neD_bb, Bool.not_true, Bool.not_false, Bool.and_true, Bool.true_and, Bool.and_self, decide_true, decide_false, eq_self, Vz.Q.v_setR, Vz.Q.v_cellR, Vz.Q.v_ixR, Vz.Q.v_izd, Vz.Q.par3O_, Vz.Q.v_par3, Vz.Q.v_try, Vz.Q.try_exc, Vz.Q.try_nx, Vz.Q.try_rt, Vz.Q.drop_nx, Vz.Q.drop_rt, Vz.Q.v_raise1, Vz.Q.r1O_, Vz.Q.v_raise0, Vz.Q.v_isNo, Vz.Q.v_isNoN, Vz.Q.isNo_non, Vz.Q.isNo_exn, Vz.Q.v_isX, Vz.Q.isXW_, Vz.Q.v_xf, Vz.Q.xfW_, Vz.Q.v_oseq_t, Vz.Q.v_oseq_l, Vz.Q.enumD_l, Vz.Q.enumD_t, Vz.Q.nums_map, Vz.Q.listD_l, Vz.Q.listD_t, Vz.Q.tupleD_l, Vz.Q.tupleD_t, Vz.Q.lenD_l, Vz.Q.lenD_t, Vz.Q.cutD_l, Vz.Q.cutD_n, Vz.Q.revD_l, Vz.Q.fz_dat, Vz.Q.fz_loc, Vz.Q.fzC_lst, Vz.Q.fzC_frz, Vz.Q.isNN_non, Vz.Q.isNN_int, Vz.Q.isNN_str, Vz.Q.inD_l, Vz.Q.inD_t, Vz.Q.sqB_l, Vz.Q.sqB_t, Bool.false_xor, Bool.true_xor, asI, Vz.Q.walk_dl, Vz.Q.walk_dt, List.length_map, List.map_append, $hs,*])
section
variable {S : Sto} {ρ : Rho}
end
open PySem PySem.Spec PyProof.Rows L2 Vz Vz.Q Vz.G Vz.T
section
variable {S : Sto} {ρ : Rho} {ms : List Mark}
/-- what lies below the row that is written -/
structure BOk (S : Sto) (ps : List (List Key × D)) (B : Sto) : Prop where
  at' : ∀ T, (B ++ T)[S.length]? = some (.dT ps)
  st : ∀ T x, (B ++ T).set S.length x = B.set S.length x ++ T
  tk : ∀ T x, (B.set S.length x ++ T).take (S.length + 1) = S ++ [x]
  len : S.length + 1 ≤ B.length
theorem BOk.start {ps : List (List Key × D)} : BOk S ps (S ++ [.dT ps]) := by
  refine ⟨fun T => ?_, fun T x => ?_, fun T x => ?_, by rw [List.length_append]; exact Nat.le_refl _⟩
  · rw [List.append_assoc, List.getElem?_append_right (Nat.le_refl _), Nat.sub_self]; rfl
  · rw [List.set_append_left _ _ (by rw [List.length_append]; simp)]
  · rw [List.set_append_right _ _ (Nat.le_refl _), Nat.sub_self]
    exact List.take_left' (by simp)
theorem BOk.snoc {ps : List (List Key × D)} {B : Sto} (h : BOk S ps B) (y : C) : BOk S ps (B ++ [y]) := by
  refine ⟨fun T => ?_, fun T x => ?_, fun T x => ?_, by rw [List.length_append]; have := h.len; omega⟩
  · rw [List.append_assoc]; exact h.at' _
  · rw [List.append_assoc, h.st, h.st, List.append_assoc]
  · rw [h.st, List.append_assoc]; exact h.tk _ _
end
open PySem PySem.Spec PyProof.Rows L2 Vz Vz.Q Vz.G Vz.T
section
variable {S : Sto} {ρ : Rho} {ms : List Mark}
end
open PySem PySem.Spec PyProof.Rows L2 Vz Vz.Q Vz.G Vz.T
section
variable {S : Sto} {xs : List Int} {as : List Anc} {it t : D}
end
open PySem PySem.Spec PyProof.Rows L2 Vz Vz.Q Vz.G Vz.T
local macro_rules
  | `(tactic| simp_arith! [$hs,*]) => `(tactic| simp -implicitDefEqProofs -dsimp (disch := first | assumption | omega | (simp only [List.length_map, List.length_append, List.length_cons, List.length_nil, List.length_range, List.length_take, List.length_drop, List.length_replicate, List.length_reverse, List.length_zipIdx]; omega)) only [Vz.Q.ifB_t, Vz.Q.ifB_f, Vz.Q.bind_ok, Vz.Q.bind_exc, Vz.Q.then_ok, Vz.Q.then_exc, Vz.Q.andThen_nx, Vz.Q.andThen_rt, Vz.Q.andThen_exc, Vz.Q.andThen_bk, Vz.Q.andThen_ct, Vz.Q.lift_some, Vz.Q.ofo_some, Vz.Q.get_ok, Vz.Q.noX_ok, Vz.Q.ifO_t, Vz.Q.varO_, Vz.Q.v_var, Vz.Q.v_c, Vz.Q.v_bin, Vz.Q.v_b, Vz.Q.asB_, Vz.Q.v_and, Vz.Q.v_or, Vz.Q.v_not, Vz.Q.v_v, Vz.Q.v_andV, Vz.Q.v_orV, Vz.Q.v_notV, Vz.Q.v_if, Vz.Q.v_chain, Vz.Q.v_anil, Vz.Q.v_acons, Vz.Q.v_tup, Vz.Q.v_tupK, Vz.Q.v_frz, Vz.Q.v_cell, Vz.Q.v_disp, Vz.Q.lsO_, Vz.Q.v_cat, Vz.Q.v_call, Vz.Q.v_lcall, Vz.Q.v_app, Vz.Q.v_appK, Vz.Q.v_nil, Vz.Q.v_pass, Vz.Q.v_seq, Vz.Q.v_break, Vz.Q.v_cont, Vz.Q.v_expr, Vz.Q.v_ret, Vz.Q.v_retN, Vz.Q.v_sif, Vz.Q.v_set, Vz.Q.v_setLc, Vz.Q.v_setLf, Vz.Q.v_aug, Vz.Q.parO_, Vz.Q.v_par, Vz.Q.nxO_, Vz.Q.v_asg, Vz.Q.v_oname, Vz.Q.v_onnil, Vz.Q.v_oncons, Vz.Q.v_otup, Vz.Q.v_osub, Vz.Q.v_fz, Vz.Q.v_meth, Vz.Q.v_meth0, Vz.Q.someR_, Vz.Q.v_index, Vz.Q.v_isi, Vz.Q.v_neg, Vz.Q.v_rev, Vz.Q.v_range, Vz.Q.v_sl, Vz.Q.v_no, Vz.Q.v_yesI, Vz.Q.v_dictT, Vz.Q.v_iseq, Vz.Q.v_iargs, Vz.Q.v_ifr, Vz.Q.rd_dat, Vz.Q.rd_loc, Vz.Q.rdC_lst, Vz.Q.rdC_frz, Vz.Q.rdC_dT, Vz.Q.rdC_dK, Vz.Q.rd2_, Vz.Q.rds_nil, Vz.Q.rds_cons, Vz.Q.dats_nil, Vz.Q.dats_cons, Vz.Q.small_1, Vz.Q.small_2, Vz.Q.small_3, Vz.Q.small_0, Vz.Q.small_, Vz.Q.one_, Vz.Q.two_, Vz.Q.frd_dat, Vz.Q.frd_loc, Vz.Q.frdC_frz, Vz.Q.frds_nil, Vz.Q.frds_cons, Vz.Q.LstW_, Vz.Q.lstB_, Vz.Q.lstC_, Vz.Q.lstO_, Vz.Q.v_append, Vz.Q.v_insert, Vz.Q.v_extend, Vz.Q.v_popAt, Vz.Q.asInt_, Vz.Q.asLs_, Vz.Q.v_stB, Vz.Q.lim_app, Vz.Q.lim_le, Vz.Q.lim_lt, Vz.Q.addL_, Vz.Q.addD_ll, Vz.Q.addD_tt, Option.bind_some, Option.map_some, addD_ii, subI_ii, ltI_ii, leI_ii, gtI_ii, geI_ii, eqD_ii, isN_non, isN_int, isN_str, List.getElem?_cons_zero, List.getElem?_cons_succ, List.set_cons_zero, List.set_cons_succ, List.length_cons, List.length_nil, List.length_append, Nat.zero_add, Nat.add_zero, Nat.reduceAdd, Nat.reduceSub, Nat.reduceEqDiff, at_app0, at_appk, set_app0, set_appk, List.append_assoc, List.cons_append, List.nil_append, List.append_nil, List.map_cons, List.map_nil, List.replicate, Vz.Q.fn_dat, Vz.Q.fn_nx, Vz.Q.fn_exc, Vz.Q.fn_exn, Vz.Q.fn_loc, Vz.Q.retC_lst, Vz.Q.retC_frz, Vz.Q.retC_dT, Vz.Q.retC_dK, Vz.Q.bodyF_, Vz.Q.bodyO_, Vz.Q.cutR_nil, Vz.Q.cutR_cons, Vz.Q.cutW_dat, Vz.Q.cutW_none, Vz.Q.cutW_exn, Vz.Q.cutW_loc, Vz.Q.cutW_locN, wipeR, List.take_succ_cons, List.take_length, List.take_left, take_appk, List.take_zero, List.take_nil, Vz.Q.v_yes, Vz.Q.v_lcB, Vz.Q.lcO_, Vz.Q.v_cname, Vz.Q.v_ctup, Vz.Q.v_cnnil, Vz.Q.v_cncons, Vz.Q.bb_tf, Vz.Q.bb_ft, Vz.Q.bb_tt, Vz.Q.bb_ff, Vz.Q.bn_tf, Vz.Q.bn_ft, Vz.Q.bn_tt, Vz.Q.bn_ff, eqD_bb, neD_bb, Bool.not_true, Bool.not_false, Bool.and_true, Bool.true_and, Bool.and_self, decide_true, decide_false, eq_self, Vz.Q.v_count, Vz.Q.cntB_l, Vz.Q.v_lam, Vz.Q.v_cat, Vz.Q.v_cseq_t, Vz.Q.v_cseq_l, Vz.Q.v_bor, Vz.Q.borO_b, Vz.Q.borW_dat, Vz.Q.borW_none, Vz.Q.borW_loc, Vz.Q.borC_lst, Vz.Q.borC_frz, Vz.Q.v_setR, Vz.Q.v_cellR, Vz.Q.v_ixR, Vz.Q.v_izd, Vz.Q.par3O_, Vz.Q.v_par3, Vz.Q.v_try, Vz.Q.try_exc, Vz.Q.try_nx, Vz.Q.try_rt, Vz.Q.drop_nx, Vz.Q.drop_rt, Vz.Q.v_raise1, Vz.Q.r1O_, Vz.Q.v_raise0, Vz.Q.v_isNo, Vz.Q.v_isNoN, Vz.Q.isNo_non, Vz.Q.isNo_exn, Vz.Q.v_isX, Vz.Q.isXW_, Vz.Q.v_xf, Vz.Q.xfW_, Vz.Q.v_oseq_t, Vz.Q.v_oseq_l, Vz.Q.enumD_l, Vz.Q.enumD_t, Vz.Q.nums_map, Vz.Q.listD_l, Vz.Q.listD_t, Vz.Q.tupleD_l, Vz.Q.tupleD_t, Vz.Q.lenD_l, Vz.Q.lenD_t, Vz.Q.cutD_l, Vz.Q.cutD_n, Vz.Q.revD_l, Vz.Q.fz_dat, Vz.Q.fz_loc, Vz.Q.fzC_lst, Vz.Q.fzC_frz, Vz.Q.isNN_non, Vz.Q.isNN_int, Vz.Q.isNN_str, Vz.Q.inD_l, Vz.Q.inD_t, Vz.Q.sqB_l, Vz.Q.sqB_t, Bool.false_xor, Bool.true_xor, asI, Vz.Q.walk_dl, Vz.Q.walk_dt, List.length_map, List.map_append, $hs,*])
section
variable {S : Sto} {xs : List Int} {as : List Anc} {it t : D} {ms : List Mark}
end
open PySem PySem.Spec PyProof.Rows L2 Vz Vz.Q Vz.G Vz.T
section
variable {S : Sto} {xs : List Int} {as : List Anc} {it t : D} {ms : List Mark}
end
end Vz.H
namespace Vz.T
open Vz Vz.G Vz.H
variable {ms : List Mark}
structure AscP (P : List Nat) (n : Nat) : Prop where
  pw : P.Pairwise (· < ·)
  lt : ∀ p ∈ P, p < n
theorem AscP.nd {P : List Nat} {n : Nat} (h : AscP P n) : P.Nodup := h.pw.imp fun h => by omega
end Vz.T
namespace Vz.H
open Vz Vz.G Vz.T
variable {xs : List Int} {as : List Anc}
end Vz.H
namespace Vz.H
open PySem PySem.Spec PyProof.Rows L2 Vz Vz.Q Vz.G Vz.T
local macro_rules
  | `(tactic| simp_arith [$hs,*]) => `(tactic| simp -implicitDefEqProofs -dsimp (disch := first | assumption | omega | (simp only [List.length_map, List.length_append, List.length_cons, List.length_nil, List.length_range, List.length_take, List.length_drop, List.length_replicate, List.length_reverse, List.length_zipIdx]; omega)) only [Vz.Q.ifB_t, Vz.Q.ifB_f, Vz.Q.bind_ok, Vz.Q.bind_exc, Vz.Q.then_ok, Vz.Q.then_exc, Vz.Q.andThen_nx, Vz.Q.andThen_rt, Vz.Q.andThen_exc, Vz.Q.andThen_bk, Vz.Q.andThen_ct, Vz.Q.lift_some, Vz.Q.ofo_some, Vz.Q.get_ok, Vz.Q.noX_ok, Vz.Q.ifO_t, Vz.Q.varO_, Vz.Q.v_var, Vz.Q.v_c, Vz.Q.v_bin, Vz.Q.v_b, Vz.Q.asB_, Vz.Q.v_and, Vz.Q.v_or, Vz.Q.v_not, Vz.Q.v_v, Vz.Q.v_andV, Vz.Q.v_orV, Vz.Q.v_notV, Vz.Q.v_if, Vz.Q.v_chain, Vz.Q.v_anil, Vz.Q.v_acons, Vz.Q.v_tup, Vz.Q.v_tupK, Vz.Q.v_frz, Vz.Q.v_cell, Vz.Q.v_disp, Vz.Q.lsO_, Vz.Q.v_cat, Vz.Q.v_call, Vz.Q.v_lcall, Vz.Q.v_app, Vz.Q.v_appK, Vz.Q.v_nil, Vz.Q.v_pass, Vz.Q.v_seq, Vz.Q.v_break, Vz.Q.v_cont, Vz.Q.v_expr, Vz.Q.v_ret, Vz.Q.v_retN, Vz.Q.v_sif, Vz.Q.v_set, Vz.Q.v_setLc, Vz.Q.v_setLf, Vz.Q.v_aug, Vz.Q.parO_, Vz.Q.v_par, Vz.Q.nxO_, Vz.Q.v_asg, Vz.Q.v_oname, Vz.Q.v_onnil, Vz.Q.v_oncons, Vz.Q.v_otup, Vz.Q.v_osub, Vz.Q.v_fz, Vz.Q.v_meth, Vz.Q.v_meth0, Vz.Q.someR_, Vz.Q.v_index, Vz.Q.v_isi, Vz.Q.v_neg, Vz.Q.v_rev, Vz.Q.v_range, Vz.Q.v_sl, Vz.Q.v_no, Vz.Q.v_yesI, Vz.Q.v_dictT, Vz.Q.v_iseq, Vz.Q.v_iargs, Vz.Q.v_ifr, Vz.Q.rd_dat, Vz.Q.rd_loc, Vz.Q.rdC_lst, Vz.Q.rdC_frz, Vz.Q.rdC_dT, Vz.Q.rdC_dK, Vz.Q.rd2_, Vz.Q.rds_nil, Vz.Q.rds_cons, Vz.Q.dats_nil, Vz.Q.dats_cons, Vz.Q.small_1, Vz.Q.small_2, Vz.Q.small_3, Vz.Q.small_0, Vz.Q.small_, Vz.Q.one_, Vz.Q.two_, Vz.Q.frd_dat, Vz.Q.frd_loc, Vz.Q.frdC_frz, Vz.Q.frds_nil, Vz.Q.frds_cons, Vz.Q.LstW_, Vz.Q.lstB_, Vz.Q.lstC_, Vz.Q.lstO_, Vz.Q.v_append, Vz.Q.v_insert, Vz.Q.v_extend, Vz.Q.v_popAt, Vz.Q.asInt_, Vz.Q.asLs_, Vz.Q.v_stB, Vz.Q.lim_app, Vz.Q.lim_le, Vz.Q.lim_lt, Vz.Q.addL_, Vz.Q.addD_ll, Vz.Q.addD_tt, Option.bind_some, Option.map_some, addD_ii, subI_ii, ltI_ii, leI_ii, gtI_ii, geI_ii, eqD_ii, isN_non, isN_int, isN_str, List.getElem?_cons_zero, List.getElem?_cons_succ, List.set_cons_zero, List.set_cons_succ, List.length_cons, List.length_nil, List.length_append, Nat.zero_add, Nat.add_zero, Nat.reduceAdd, Nat.reduceSub, Nat.reduceEqDiff, at_app0, at_appk, set_app0, set_appk, List.append_assoc, List.cons_append, List.nil_append, List.append_nil, List.map_cons, List.map_nil, List.replicate, Vz.Q.fn_dat, Vz.Q.fn_nx, Vz.Q.fn_exc, Vz.Q.fn_exn, Vz.Q.fn_loc, Vz.Q.retC_lst, Vz.Q.retC_frz, Vz.Q.retC_dT, Vz.Q.retC_dK, Vz.Q.bodyF_, Vz.Q.bodyO_, Vz.Q.cutR_nil, Vz.Q.cutR_cons, Vz.Q.cutW_dat, Vz.Q.cutW_none, Vz.Q.cutW_exn, Vz.Q.cutW_loc, Vz.Q.cutW_locN, wipeR, List.take_succ_cons, List.take_length, List.take_left, take_appk, List.take_zero, List.take_nil, Vz.Q.v_yes, Vz.Q.v_lcB, Vz.Q.lcO_, Vz.Q.v_cname, Vz.Q.v_ctup, Vz.Q.v_cnnil, Vz.Q.v_cncons, Vz.Q.bb_tf, Vz.Q.bb_ft, Vz.Q.bb_tt, Vz.Q.bb_ff, Vz.Q.bn_tf, Vz.Q.bn_ft, Vz.Q.bn_tt, Vz.Q.bn_ff, eqD_bb, neD_bb, Bool.not_true, Bool.not_false, Bool.and_true, Bool.true_and, Bool.and_self, decide_true, decide_false, eq_self, $hs,*])
local macro_rules
  | `(tactic| simp_arith! [$hs,*]) => `(tactic| simp -implicitDefEqProofs -dsimp (disch := first | assumption | omega | (simp only [List.length_map, List.length_append, List.length_cons, List.length_nil, List.length_range, List.length_take, List.length_drop, List.length_replicate, List.length_reverse, List.length_zipIdx]; omega)) only [Vz.Q.ifB_t, Vz.Q.ifB_f, Vz.Q.bind_ok, Vz.Q.bind_exc, Vz.Q.then_ok, Vz.Q.then_exc, Vz.Q.andThen_nx, Vz.Q.andThen_rt, Vz.Q.andThen_exc, Vz.Q.andThen_bk, Vz.Q.andThen_ct, Vz.Q.lift_some, Vz.Q.ofo_some, Vz.Q.get_ok, Vz.Q.noX_ok, Vz.Q.ifO_t, Vz.Q.varO_, Vz.Q.v_var, Vz.Q.v_c, Vz.Q.v_bin, Vz.Q.v_b, Vz.Q.asB_, Vz.Q.v_and, Vz.Q.v_or, Vz.Q.v_not, Vz.Q.v_v, Vz.Q.v_andV, Vz.Q.v_orV, Vz.Q.v_notV, Vz.Q.v_if, Vz.Q.v_chain, Vz.Q.v_anil, Vz.Q.v_acons, Vz.Q.v_tup, Vz.Q.v_tupK, Vz.Q.v_frz, Vz.Q.v_cell, Vz.Q.v_disp, Vz.Q.lsO_, Vz.Q.v_cat, Vz.Q.v_call, Vz.Q.v_lcall, Vz.Q.v_app, Vz.Q.v_appK, Vz.Q.v_nil, Vz.Q.v_pass, Vz.Q.v_seq, Vz.Q.v_break, Vz.Q.v_cont, Vz.Q.v_expr, Vz.Q.v_ret, Vz.Q.v_retN, Vz.Q.v_sif, Vz.Q.v_set, Vz.Q.v_setLc, Vz.Q.v_setLf, Vz.Q.v_aug, Vz.Q.parO_, Vz.Q.v_par, Vz.Q.nxO_, Vz.Q.v_asg, Vz.Q.v_oname, Vz.Q.v_onnil, Vz.Q.v_oncons, Vz.Q.v_otup, Vz.Q.v_osub, Vz.Q.v_fz, Vz.Q.v_meth, Vz.Q.v_meth0, Vz.Q.someR_, Vz.Q.v_index, Vz.Q.v_isi, Vz.Q.v_neg, Vz.Q.v_rev, Vz.Q.v_range, Vz.Q.v_sl, Vz.Q.v_no, Vz.Q.v_yesI, Vz.Q.v_dictT, Vz.Q.v_iseq, Vz.Q.v_iargs, Vz.Q.v_ifr, Vz.Q.rd_dat, Vz.Q.rd_loc, Vz.Q.rdC_lst, Vz.Q.rdC_frz, Vz.Q.rdC_dT, Vz.Q.rdC_dK, Vz.Q.rd2_, Vz.Q.rds_nil, Vz.Q.rds_cons, Vz.Q.dats_nil, Vz.Q.dats_cons, Vz.Q.small_1, Vz.Q.small_2, Vz.Q.small_3, Vz.Q.small_0, Vz.Q.small_, Vz.Q.one_, Vz.Q.two_, Vz.Q.frd_dat, Vz.Q.frd_loc, Vz.Q.frdC_frz, Vz.Q.frds_nil, Vz.Q.frds_cons, Vz.Q.LstW_, Vz.Q.lstB_, Vz.Q.lstC_, Vz.Q.lstO_, Vz.Q.v_append, Vz.Q.v_insert, Vz.Q.v_extend, Vz.Q.v_popAt, Vz.Q.asInt_, Vz.Q.asLs_, Vz.Q.v_stB, Vz.Q.lim_app, Vz.Q.lim_le, Vz.Q.lim_lt, Vz.Q.addL_, Vz.Q.addD_ll, Vz.Q.addD_tt, Option.bind_some, Option.map_some, addD_ii, subI_ii, ltI_ii, leI_ii, gtI_ii, geI_ii, eqD_ii, isN_non, isN_int, isN_str, List.getElem?_cons_zero, List.getElem?_cons_succ, List.set_cons_zero, List.set_cons_succ, List.length_cons, List.length_nil, List.length_append, Nat.zero_add, Nat.add_zero, Nat.reduceAdd, Nat.reduceSub, Nat.reduceEqDiff, at_app0, at_appk, set_app0, set_appk, List.append_assoc, List.cons_append, List.nil_append, List.append_nil, List.map_cons, List.map_nil, List.replicate, Vz.Q.fn_dat, Vz.Q.fn_nx, Vz.Q.fn_exc, Vz.Q.fn_exn, Vz.Q.fn_loc, Vz.Q.retC_lst, Vz.Q.retC_frz, Vz.Q.retC_dT, Vz.Q.retC_dK, Vz.Q.bodyF_, Vz.Q.bodyO_, Vz.Q.cutR_nil, Vz.Q.cutR_cons, Vz.Q.cutW_dat, Vz.Q.cutW_none, Vz.Q.cutW_exn, Vz.Q.cutW_loc, Vz.Q.cutW_locN, wipeR, List.take_succ_cons, List.take_length, List.take_left, take_appk, List.take_zero, List.take_nil, Vz.Q.v_yes, Vz.Q.v_lcB, Vz.Q.lcO_, Vz.Q.v_cname, Vz.Q.v_ctup, Vz.Q.v_cnnil, Vz.Q.v_cncons, Vz.Q.bb_tf, Vz.Q.bb_ft, Vz.Q.bb_tt, Vz.Q.bb_ff, Vz.Q.bn_tf, Vz.Q.bn_ft, Vz.Q.bn_tt, Vz.Q.bn_ff, eqD_bb, neD_bb, Bool.not_true, Bool.not_false, Bool.and_true, Bool.true_and, Bool.and_self, decide_true, decide_false, eq_self, Vz.Q.v_count, Vz.Q.cntB_l, Vz.Q.v_lam, Vz.Q.v_cat, Vz.Q.v_cseq_t, Vz.Q.v_cseq_l, Vz.Q.v_bor, Vz.Q.borO_b, Vz.Q.borW_dat, Vz.Q.borW_none, Vz.Q.borW_loc, Vz.Q.borC_lst, Vz.Q.borC_frz, Vz.Q.v_setR, Vz.Q.v_cellR, Vz.Q.v_ixR, Vz.Q.v_izd, Vz.Q.par3O_, Vz.Q.v_par3, Vz.Q.v_try, Vz.Q.try_exc, Vz.Q.try_nx, Vz.Q.try_rt, Vz.Q.drop_nx, Vz.Q.drop_rt, Vz.Q.v_raise1, Vz.Q.r1O_, Vz.Q.v_raise0, Vz.Q.v_isNo, Vz.Q.v_isNoN, Vz.Q.isNo_non, Vz.Q.isNo_exn, Vz.Q.v_isX, Vz.Q.isXW_, Vz.Q.v_xf, Vz.Q.xfW_, Vz.Q.v_oseq_t, Vz.Q.v_oseq_l, Vz.Q.enumD_l, Vz.Q.enumD_t, Vz.Q.nums_map, Vz.Q.listD_l, Vz.Q.listD_t, Vz.Q.tupleD_l, Vz.Q.tupleD_t, Vz.Q.lenD_l, Vz.Q.lenD_t, Vz.Q.cutD_l, Vz.Q.cutD_n, Vz.Q.revD_l, Vz.Q.fz_dat, Vz.Q.fz_loc, Vz.Q.fzC_lst, Vz.Q.fzC_frz, Vz.Q.isNN_non, Vz.Q.isNN_int, Vz.Q.isNN_str, Vz.Q.inD_l, Vz.Q.inD_t, Vz.Q.sqB_l, Vz.Q.sqB_t, Bool.false_xor, Bool.true_xor, asI, Vz.Q.walk_dl, Vz.Q.walk_dt, List.length_map, List.map_append, $hs,*])
section
variable {S : Sto} {xs : List Int} {as : List Anc} {it t : D} {ms : List Mark}
/-- a list that is seen, as data: the items at the places P -/
structure IsSee (xs : List Int) (d : D) (P : List Nat) : Prop where
  wk : ∀ T, walk T (.dat d) = some (.ds ((P.map (key xs)).map D.int))
end
open Vz Vz.G Vz.T
variable {xs : List Int} {as : List Anc}
structure InA (xs : List Int) (as : List Anc) (σ : List Nat) : Prop where
  pm : σ.Perm (List.range xs.length)
  nd : σ.Nodup
open PySem PySem.Spec PyProof.Rows L2 Vz Vz.Q Vz.G Vz.T
section
variable {S : Sto} {xs : List Int} {as : List Anc} {it t : D} {ms : List Mark} {ρ : Rho}
end
open PySem PySem.Spec PyProof.Rows L2 Vz Vz.Q
section
variable {S : Sto}
theorem forF_invU {n : Nat} {bd : D → Rho → Sto → Out} {wk : Wk} {α : Type} {enc : α → D} {xs : List α} {I : Nat → Rho → Sto → Prop} (hw : ∀ i ρ S, I i ρ S → wk.ls S = some (xs.map enc))
    (hs : ∀ i a, xs[i]? = some a → ∀ ρ S, I i ρ S → ∃ ρ' S', bd (enc a) ρ S = .nx ρ' S' ∧ I (i + 1) (cutR n ρ') (S'.take n)) : ∀ (m i : Nat) (ρ : Rho) (S : Sto), i + m = xs.length → I i ρ S → ∃ ρ' S', forF n bd wk m i ρ S = .nx ρ' S' ∧ I xs.length ρ' S'
  | 0, i, ρ, S, hm, hI => by
    have hi : i = xs.length := by omega
    subst hi
    refine ⟨ρ, S, ?_, hI⟩
    unfold forF
    simp [hw _ _ _ hI]
  | m + 1, i, ρ, S, hm, hI => by
    have hi : i < xs.length := by omega
    have ha : xs[i]? = some xs[i] := List.getElem?_eq_getElem hi
    obtain ⟨ρ', S', e, h'⟩ := hs i _ ha ρ S hI
    obtain ⟨ρ2, S2, e2, h2⟩ := forF_invU hw hs m (i + 1) _ _ (by omega) h'
    refine ⟨ρ2, S2, ?_, h2⟩
    rw [← e2]
    conv => lhs; unfold forF
    have hd : (xs.map enc)[i]? = some (enc xs[i]) := by rw [List.getElem?_map, ha]; rfl
    simp only [hw _ _ _ hI, hd, e]
/-- a loop over a list that is held -/
theorem q_forCu {P : Out → Prop} {fi : FI} {gg : FG} {g h : FS} {t : Tag h} {ρ : Rho} {S S1 : Sto} {wk : Wk} {α : Type} (enc : α → D) (xs : List α) (I : Nat → Rho → Sto → Prop) (hi : fi ρ S = .ok wk S1) (hw : ∀ i ρ S, I i ρ S → wk.ls S = some (xs.map enc)) (h0 : I 0 ρ S1)
    (hs : ∀ i a, xs[i]? = some a → ∀ ρ S, I i ρ S → ∃ ρ' S', bodyF gg g (enc a) ρ S = .nx ρ' S' ∧ I (i + 1) (cutR S1.length ρ') (S'.take S1.length)) (hk : ∀ ρ' S', I xs.length ρ' S' → On P (h ρ' S')) : On P (andT (sFor fi gg g ρ S) h t) := by
  obtain ⟨ρ', S', e, h'⟩ := forF_invU (n := S1.length) (bd := bodyF gg g) hw hs xs.length 0 ρ S1 (Nat.zero_add _) h0
  have : sFor fi gg g ρ S = .nx ρ' S' := by
    unfold sFor
    rw [hi]
    show (match wk.ls S1 with | some ds => forF S1.length (bodyF gg g) wk ds.length 0 ρ S1 | none => .bad) = _
    rw [hw _ _ _ h0]
    show forF S1.length (bodyF gg g) wk (xs.map enc).length 0 ρ S1 = _
    rw [List.length_map]
    exact e
  rw [this]
  exact hk ρ' S' h'
def intD0 (d : D) : Bool := gInt d && !gBool d
theorem isint_any (d : D) : F_is_integer [.dat d] S = .ok (.dat (.bool (intD0 d))) S := by
  unfold F_is_integer b_is_integer
  rw [v_runF]
  unfold intD0
  cases ha : gInt d with
  | false => simp_arith! [ha, Bool.false_and]
  | true => cases hb : gBool d <;> simp_arith! [ha, hb]
theorem lawint_any (d : D) : F__law_integer [.dat d] S = .ok (.dat (.bool (intD0 d))) S := by
  unfold F__law_integer b__law_integer
  rw [v_runF]
  unfold intD0
  cases ha : gInt d with
  | false => simp_arith! [ha, Bool.false_and]
  | true => cases hb : gBool d <;> simp_arith! [ha, hb]
theorem int_of {d : D} (h : intD0 d = true) : ∃ i, d = .int i := by
  cases d with
  | int i => exact ⟨i, rfl⟩
  | _ => exact Bool.noConfusion (show false = true from h)
end
open PySem PySem.Spec PyProof.Rows L2 Vz Vz.Q
section
variable {S : Sto} {xs : List Int} {as : List Anc} {it t : D}
theorem ne_lens (a b : Nat) : neD (.int (a : Nat)) (.int (b : Nat)) = some (.bool (!decide (a = b))) := by
  rw [ne_ints]
  congr 3
  exact decide_eq_decide.mpr (by omega)
theorem eq_lens (a b : Nat) : eqD (.int (a : Nat)) (.int (b : Nat)) = some (.bool (decide (a = b))) := by
  rw [eqD_ii]
  congr 2
  exact decide_eq_decide.mpr (by omega)
/-- all numbers -/
def intsB (ds : List D) : Bool := (ds.map intD0).all id
theorem ints_all {ds : List D} (h : intsB ds = true) : ∃ ns : List Int, ds = ns.map D.int := by
  induction ds with
  | nil => exact ⟨[], rfl⟩
  | cons d ds ih =>
    have h : (intD0 d && intsB ds) = true := h
    obtain ⟨a, b⟩ := Bool.and_eq_true_iff.mp h
    obtain ⟨ns, rfl⟩ := ih b
    obtain ⟨i, rfl⟩ := int_of a
    exact ⟨i :: ns, rfl⟩
theorem all_ints (ds : List D) : allD [.list (ds.map fun d => D.bool (intD0 d))] = some (.bool (intsB ds)) := by
  have := allD_b (ds.map fun d => intD0 d)
  rw [List.map_map] at this
  exact this
end
end Vz.H
namespace K07
open PySem PySem.Spec PyProof.Rows L2 Vz
def d__law_source : He.DefD := ⟨("_law_source", none), "_law_source", "_law_source", defArgs s__law_source, defBody s__law_source, defScope s__law_source, [], []⟩
def d__law_draw : He.DefD := ⟨("_law_draw", none), "_law_draw", "_law_draw", defArgs s__law_draw, defBody s__law_draw, defScope s__law_draw, [], []⟩
def d__law_strand : He.DefD := ⟨("_law_strand", none), "_law_strand", "_law_strand", defArgs s__law_strand, defBody s__law_strand, defScope s__law_strand, [], []⟩
def d__law_shuffled : He.DefD := ⟨("_law_shuffled", none), "_law_shuffled", "_law_shuffled", defArgs s__law_shuffled, defBody s__law_shuffled, defScope s__law_shuffled, [], []⟩
def d__law_choice : He.DefD := ⟨("_law_choice", none), "_law_choice", "_law_choice", defArgs s__law_choice, defBody s__law_choice, defScope s__law_choice, [], []⟩
def d__law_veiled : He.DefD := ⟨("_law_veiled", none), "_law_veiled", "_law_veiled", defArgs s__law_veiled, defBody s__law_veiled, defScope s__law_veiled, [], []⟩
def d__law_ties : He.DefD := ⟨("_law_ties", none), "_law_ties", "_law_ties", defArgs s__law_ties, defBody s__law_ties, defScope s__law_ties, [], []⟩
def d__law_case : He.DefD := ⟨("_law_case", none), "_law_case", "_law_case", defArgs s__law_case, defBody s__law_case, defScope s__law_case, [], []⟩
def d__law_spoiled : He.DefD := ⟨("_law_spoiled", none), "_law_spoiled", "_law_spoiled", defArgs s__law_spoiled, defBody s__law_spoiled, defScope s__law_spoiled, [], []⟩
def d__law_any : He.DefD := ⟨("_law_any", none), "_law_any", "_law_any", defArgs s__law_any, defBody s__law_any, defScope s__law_any, [], []⟩
def d__law_spots : He.DefD := ⟨("_law_spots", none), "_law_spots", "_law_spots", defArgs s__law_spots, defBody s__law_spots, defScope s__law_spots, [], []⟩
def d__law_odd : He.DefD := ⟨("_law_odd", none), "_law_odd", "_law_odd", defArgs s__law_odd, defBody s__law_odd, defScope s__law_odd, [], []⟩
def d__law_bent : He.DefD := ⟨("_law_bent", none), "_law_bent", "_law_bent", defArgs s__law_bent, defBody s__law_bent, defScope s__law_bent, [], []⟩
def d__law_is_wrong : He.DefD := ⟨("_law_is_wrong", none), "_law_is_wrong", "_law_is_wrong", defArgs s__law_is_wrong, defBody s__law_is_wrong, defScope s__law_is_wrong, [], []⟩
def d__law_cross : He.DefD := ⟨("_law_cross", none), "_law_cross", "_law_cross", defArgs s__law_cross, defBody s__law_cross, defScope s__law_cross, [], []⟩
def d_is_integer : He.DefD := ⟨("is_integer", none), "is_integer", "is_integer", defArgs s_is_integer, defBody s_is_integer, defScope s_is_integer, [], []⟩
def d_is_wrong : He.DefD := ⟨("is_wrong", none), "is_wrong", "is_wrong", defArgs s_is_wrong, defBody s_is_wrong, defScope s_is_wrong, [], []⟩
def d_marks_of : He.DefD := ⟨("marks_of", none), "marks_of", "marks_of", defArgs s_marks_of, defBody s_marks_of, defScope s_marks_of, [], []⟩
def d_shows_wrong : He.DefD := ⟨("shows_wrong", none), "shows_wrong", "shows_wrong", defArgs s_shows_wrong, defBody s_shows_wrong, defScope s_shows_wrong, [], []⟩
def d_do_cross : He.DefD := ⟨("do_cross", none), "do_cross", "do_cross", defArgs s_do_cross, defBody s_do_cross, defScope s_do_cross, [], []⟩
def d_shows_crossing : He.DefD := ⟨("shows_crossing", none), "shows_crossing", "shows_crossing", defArgs s_shows_crossing, defBody s_shows_crossing, defScope s_shows_crossing, [], []⟩
def d__law_integer : He.DefD := ⟨("_law_integer", none), "_law_integer", "_law_integer", defArgs s__law_integer, defBody s__law_integer, defScope s__law_integer, [], []⟩
def d__law_equal : He.DefD := ⟨("_law_equal", none), "_law_equal", "_law_equal", defArgs s__law_equal, defBody s__law_equal, defScope s__law_equal, [], []⟩
def d__law_holds : He.DefD := ⟨("_law_holds", none), "_law_holds", "_law_holds", defArgs s__law_holds, defBody s__law_holds, defScope s__law_holds, [], []⟩
def d_law : He.DefD := ⟨("law", none), "law", "law", defArgs s_law, defBody s_law, defScope s_law, [], []⟩
def fn : List He.DefD := [d__law_source, d__law_draw, d__law_strand, d__law_shuffled, d__law_choice, d__law_veiled, d__law_ties, d__law_case, d__law_spoiled, d__law_any, d__law_spots, d__law_odd, d__law_bent, d__law_is_wrong, d__law_cross, d_is_integer, d_is_wrong, d_marks_of, d_shows_wrong, d_do_cross, d_shows_crossing, d__law_integer, d__law_equal, d__law_holds, d_law]
def fa : List He.Fa := [.glo "_law_source", .glo "_law_draw", .glo "_law_strand", .glo "_law_shuffled", .glo "_law_choice", .glo "_law_veiled", .glo "_law_ties", .glo "_law_case", .glo "_law_spoiled", .glo "_law_any", .glo "_law_spots", .glo "_law_odd", .glo "_law_bent", .glo "_law_is_wrong", .glo "_law_cross", .glo "is_integer", .glo "is_wrong", .glo "marks_of", .glo "shows_wrong", .glo "do_cross", .glo "shows_crossing", .glo "_law_integer", .glo "_law_equal", .glo "_law_holds", .glo "law", .free "abs", .free "all", .free "bool", .free "dict", .free "enumerate", .free "int", .free "isinstance", .free "len", .free "list", .free "max", .free "min", .free "range", .free "repr", .free "str", .free "tuple", .free "zip", .str "UNKNOWN" "?", .int "PAIR" 2]
def xl : List XcD := []
abbrev Rw : PySem.W.OpenRow := PySem.W.OpenLaw.row PySem.Challenge.rw_afterlist_k07_reasons_shown_or_not
abbrev hk : PySem.W.Hook := hookX 4 xl (extB LX BX tbP flX) fa fn
def ob (s : PySem.W.SharedT) : AlX := obsXG 4 xl (extB LX BX tbP flX) fa fn (HandSHeadRun.getT s)
theorem ob_eq (s : PySem.W.SharedT) : ob s = hk.obs s.abs := obsXG_eq (HandSHeadRun.getT_eq s)

def loose : List Str := (["UNKNOWN", "is_integer", "marks_of", "PAIR", "is_wrong", "do_cross", "shows_wrong", "shows_crossing", "_law_source", "_law_draw", "_law_choice", "_law_equal", "_law_shuffled", "_law_odd", "_law_bent", "_law_integer", "_law_strand", "_law_ties", "_law_veiled", "_law_case", "_law_spoiled", "_law_any", "_law_spots", "_law_is_wrong", "_law_cross", "_law_holds"] : List Str)
theorem run (w : World) : HandSHeadRun.RunEq Rw (PySem.W.view Rw.prog [30]) hk ob 4000 loose w := by
  intro os
  kernel_rfl
theorem tx {K : PySem.W.Frag} {h : Heap} {mg : Str → Option Value} (X : K.In h) (G : h.Ns mainGlobals mg) (c : SaysX xl (extB LX BX tbP flX) fa fn K) : Tx K mg :=
  {
    g__law_source := He.glo_ok X G (c.d.fact 0 (f := .glo "_law_source") rfl)
    g__law_draw := He.glo_ok X G (c.d.fact 1 (f := .glo "_law_draw") rfl)
    g__law_strand := He.glo_ok X G (c.d.fact 2 (f := .glo "_law_strand") rfl)
    g__law_shuffled := He.glo_ok X G (c.d.fact 3 (f := .glo "_law_shuffled") rfl)
    g__law_choice := He.glo_ok X G (c.d.fact 4 (f := .glo "_law_choice") rfl)
    g__law_veiled := He.glo_ok X G (c.d.fact 5 (f := .glo "_law_veiled") rfl)
    g__law_ties := He.glo_ok X G (c.d.fact 6 (f := .glo "_law_ties") rfl)
    g__law_case := He.glo_ok X G (c.d.fact 7 (f := .glo "_law_case") rfl)
    g__law_spoiled := He.glo_ok X G (c.d.fact 8 (f := .glo "_law_spoiled") rfl)
    g__law_any := He.glo_ok X G (c.d.fact 9 (f := .glo "_law_any") rfl)
    g__law_spots := He.glo_ok X G (c.d.fact 10 (f := .glo "_law_spots") rfl)
    g__law_odd := He.glo_ok X G (c.d.fact 11 (f := .glo "_law_odd") rfl)
    g__law_bent := He.glo_ok X G (c.d.fact 12 (f := .glo "_law_bent") rfl)
    g__law_is_wrong := He.glo_ok X G (c.d.fact 13 (f := .glo "_law_is_wrong") rfl)
    g__law_cross := He.glo_ok X G (c.d.fact 14 (f := .glo "_law_cross") rfl)
    g_is_integer := He.glo_ok X G (c.d.fact 15 (f := .glo "is_integer") rfl)
    g_is_wrong := He.glo_ok X G (c.d.fact 16 (f := .glo "is_wrong") rfl)
    g_marks_of := He.glo_ok X G (c.d.fact 17 (f := .glo "marks_of") rfl)
    g_shows_wrong := He.glo_ok X G (c.d.fact 18 (f := .glo "shows_wrong") rfl)
    g_do_cross := He.glo_ok X G (c.d.fact 19 (f := .glo "do_cross") rfl)
    g_shows_crossing := He.glo_ok X G (c.d.fact 20 (f := .glo "shows_crossing") rfl)
    g__law_integer := He.glo_ok X G (c.d.fact 21 (f := .glo "_law_integer") rfl)
    g__law_equal := He.glo_ok X G (c.d.fact 22 (f := .glo "_law_equal") rfl)
    g__law_holds := He.glo_ok X G (c.d.fact 23 (f := .glo "_law_holds") rfl)
    g_law := He.glo_ok X G (c.d.fact 24 (f := .glo "law") rfl)
    n_abs := He.free_ok X G (c.d.fact 25 (f := .free "abs") rfl)
    n_all := He.free_ok X G (c.d.fact 26 (f := .free "all") rfl)
    n_bool := He.free_ok X G (c.d.fact 27 (f := .free "bool") rfl)
    n_dict := He.free_ok X G (c.d.fact 28 (f := .free "dict") rfl)
    n_enumerate := He.free_ok X G (c.d.fact 29 (f := .free "enumerate") rfl)
    n_int := He.free_ok X G (c.d.fact 30 (f := .free "int") rfl)
    n_isinstance := He.free_ok X G (c.d.fact 31 (f := .free "isinstance") rfl)
    n_len := He.free_ok X G (c.d.fact 32 (f := .free "len") rfl)
    n_list := He.free_ok X G (c.d.fact 33 (f := .free "list") rfl)
    n_max := He.free_ok X G (c.d.fact 34 (f := .free "max") rfl)
    n_min := He.free_ok X G (c.d.fact 35 (f := .free "min") rfl)
    n_range := He.free_ok X G (c.d.fact 36 (f := .free "range") rfl)
    n_repr := He.free_ok X G (c.d.fact 37 (f := .free "repr") rfl)
    n_str := He.free_ok X G (c.d.fact 38 (f := .free "str") rfl)
    n_tuple := He.free_ok X G (c.d.fact 39 (f := .free "tuple") rfl)
    n_zip := He.free_ok X G (c.d.fact 40 (f := .free "zip") rfl)
    v_UNKNOWN := He.str_ok X G (c.d.fact 41 (f := .str "UNKNOWN" "?") rfl)
    v_PAIR := He.int_ok X G (c.d.fact 42 (f := .int "PAIR" 2) rfl)
    d__law_source := c.d.def_ 0 (d := d__law_source) rfl
    d__law_draw := c.d.def_ 1 (d := d__law_draw) rfl
    d__law_strand := c.d.def_ 2 (d := d__law_strand) rfl
    d__law_shuffled := c.d.def_ 3 (d := d__law_shuffled) rfl
    d__law_choice := c.d.def_ 4 (d := d__law_choice) rfl
    d__law_veiled := c.d.def_ 5 (d := d__law_veiled) rfl
    d__law_ties := c.d.def_ 6 (d := d__law_ties) rfl
    d__law_case := c.d.def_ 7 (d := d__law_case) rfl
    d__law_spoiled := c.d.def_ 8 (d := d__law_spoiled) rfl
    d__law_any := c.d.def_ 9 (d := d__law_any) rfl
    d__law_spots := c.d.def_ 10 (d := d__law_spots) rfl
    d__law_odd := c.d.def_ 11 (d := d__law_odd) rfl
    d__law_bent := c.d.def_ 12 (d := d__law_bent) rfl
    d__law_is_wrong := c.d.def_ 13 (d := d__law_is_wrong) rfl
    d__law_cross := c.d.def_ 14 (d := d__law_cross) rfl
    d_is_integer := c.d.def_ 15 (d := d_is_integer) rfl
    d_is_wrong := c.d.def_ 16 (d := d_is_wrong) rfl
    d_marks_of := c.d.def_ 17 (d := d_marks_of) rfl
    d_shows_wrong := c.d.def_ 18 (d := d_shows_wrong) rfl
    d_do_cross := c.d.def_ 19 (d := d_do_cross) rfl
    d_shows_crossing := c.d.def_ 20 (d := d_shows_crossing) rfl
    d__law_integer := c.d.def_ 21 (d := d__law_integer) rfl
    d__law_equal := c.d.def_ 22 (d := d__law_equal) rfl
    d__law_holds := c.d.def_ 23 (d := d__law_holds) rfl
    d_law := c.d.def_ 24 (d := d_law) rfl
  }
open Vz.Q Vz.G Vz.H
local macro_rules
  | `(tactic| simp_arith [$hs,*]) => `(tactic| simp -implicitDefEqProofs -dsimp (disch := first | assumption | omega | (simp only [List.length_map, List.length_append, List.length_cons, List.length_nil, List.length_range, List.length_take, List.length_drop, List.length_replicate, List.length_reverse, List.length_zipIdx]; omega)) only [Vz.Q.ifB_t, Vz.Q.ifB_f, Vz.Q.bind_ok, Vz.Q.bind_exc, Vz.Q.then_ok, Vz.Q.then_exc, Vz.Q.andThen_nx, Vz.Q.andThen_rt, Vz.Q.andThen_exc, Vz.Q.andThen_bk, Vz.Q.andThen_ct, Vz.Q.lift_some, Vz.Q.ofo_some, Vz.Q.get_ok, Vz.Q.noX_ok, Vz.Q.ifO_t, Vz.Q.varO_, Vz.Q.v_var, Vz.Q.v_c, Vz.Q.v_bin, Vz.Q.v_b, Vz.Q.asB_, Vz.Q.v_and, Vz.Q.v_or, Vz.Q.v_not, Vz.Q.v_v, Vz.Q.v_andV, Vz.Q.v_orV, Vz.Q.v_notV, Vz.Q.v_if, Vz.Q.v_chain, Vz.Q.v_anil, Vz.Q.v_acons, Vz.Q.v_tup, Vz.Q.v_tupK, Vz.Q.v_frz, Vz.Q.v_cell, Vz.Q.v_disp, Vz.Q.lsO_, Vz.Q.v_cat, Vz.Q.v_call, Vz.Q.v_lcall, Vz.Q.v_app, Vz.Q.v_appK, Vz.Q.v_nil, Vz.Q.v_pass, Vz.Q.v_seq, Vz.Q.v_break, Vz.Q.v_cont, Vz.Q.v_expr, Vz.Q.v_ret, Vz.Q.v_retN, Vz.Q.v_sif, Vz.Q.v_set, Vz.Q.v_setLc, Vz.Q.v_setLf, Vz.Q.v_aug, Vz.Q.parO_, Vz.Q.v_par, Vz.Q.nxO_, Vz.Q.v_asg, Vz.Q.v_oname, Vz.Q.v_onnil, Vz.Q.v_oncons, Vz.Q.v_otup, Vz.Q.v_osub, Vz.Q.v_fz, Vz.Q.v_meth, Vz.Q.v_meth0, Vz.Q.someR_, Vz.Q.v_index, Vz.Q.v_isi, Vz.Q.v_neg, Vz.Q.v_rev, Vz.Q.v_range, Vz.Q.v_sl, Vz.Q.v_no, Vz.Q.v_yesI, Vz.Q.v_dictT, Vz.Q.v_iseq, Vz.Q.v_iargs, Vz.Q.v_ifr, Vz.Q.rd_dat, Vz.Q.rd_loc, Vz.Q.rdC_lst, Vz.Q.rdC_frz, Vz.Q.rdC_dT, Vz.Q.rdC_dK, Vz.Q.rd2_, Vz.Q.rds_nil, Vz.Q.rds_cons, Vz.Q.dats_nil, Vz.Q.dats_cons, Vz.Q.small_1, Vz.Q.small_2, Vz.Q.small_3, Vz.Q.small_0, Vz.Q.small_, Vz.Q.one_, Vz.Q.two_, Vz.Q.frd_dat, Vz.Q.frd_loc, Vz.Q.frdC_frz, Vz.Q.frds_nil, Vz.Q.frds_cons, Vz.Q.LstW_, Vz.Q.lstB_, Vz.Q.lstC_, Vz.Q.lstO_, Vz.Q.v_append, Vz.Q.v_insert, Vz.Q.v_extend, Vz.Q.v_popAt, Vz.Q.asInt_, Vz.Q.asLs_, Vz.Q.v_stB, Vz.Q.lim_app, Vz.Q.lim_le, Vz.Q.lim_lt, Vz.Q.addL_, Vz.Q.addD_ll, Vz.Q.addD_tt, Option.bind_some, Option.map_some, addD_ii, subI_ii, ltI_ii, leI_ii, gtI_ii, geI_ii, eqD_ii, isN_non, isN_int, isN_str, List.getElem?_cons_zero, List.getElem?_cons_succ, List.set_cons_zero, List.set_cons_succ, List.length_cons, List.length_nil, List.length_append, Nat.zero_add, Nat.add_zero, Nat.reduceAdd, Nat.reduceSub, Nat.reduceEqDiff, at_app0, at_appk, set_app0, set_appk, List.append_assoc, List.cons_append, List.nil_append, List.append_nil, List.map_cons, List.map_nil, List.replicate, Vz.Q.fn_dat, Vz.Q.fn_nx, Vz.Q.fn_exc, Vz.Q.fn_exn, Vz.Q.fn_loc, Vz.Q.retC_lst, Vz.Q.retC_frz, Vz.Q.retC_dT, Vz.Q.retC_dK, Vz.Q.bodyF_, Vz.Q.bodyO_, Vz.Q.cutR_nil, Vz.Q.cutR_cons, Vz.Q.cutW_dat, Vz.Q.cutW_none, Vz.Q.cutW_exn, Vz.Q.cutW_loc, Vz.Q.cutW_locN, wipeR, List.take_succ_cons, List.take_length, List.take_left, take_appk, List.take_zero, List.take_nil, Vz.Q.v_yes, Vz.Q.v_lcB, Vz.Q.lcO_, Vz.Q.v_cname, Vz.Q.v_ctup, Vz.Q.v_cnnil, Vz.Q.v_cncons, Vz.Q.bb_tf, Vz.Q.bb_ft, Vz.Q.bb_tt, Vz.Q.bb_ff, Vz.Q.bn_tf, Vz.Q.bn_ft, Vz.Q.bn_tt, Vz.Q.bn_ff, eqD_bb, neD_bb, Bool.not_true, Bool.not_false, Bool.and_true, Bool.true_and, Bool.and_self, decide_true, decide_false, eq_self, $hs,*])
local macro_rules
  | `(tactic| simp_arith! [$hs,*]) => `(tactic| simp -implicitDefEqProofs -dsimp (disch := first | assumption | omega | (simp only [List.length_map, List.length_append, List.length_cons, List.length_nil, List.length_range, List.length_take, List.length_drop, List.length_replicate, List.length_reverse, List.length_zipIdx]; omega)) only [Vz.Q.ifB_t, Vz.Q.ifB_f, Vz.Q.bind_ok, Vz.Q.bind_exc, Vz.Q.then_ok, Vz.Q.then_exc, Vz.Q.andThen_nx, Vz.Q.andThen_rt, Vz.Q.andThen_exc, Vz.Q.andThen_bk, Vz.Q.andThen_ct, Vz.Q.lift_some, Vz.Q.ofo_some, Vz.Q.get_ok, Vz.Q.noX_ok, Vz.Q.ifO_t, Vz.Q.varO_, Vz.Q.v_var, Vz.Q.v_c, Vz.Q.v_bin, Vz.Q.v_b, Vz.Q.asB_, Vz.Q.v_and, Vz.Q.v_or, Vz.Q.v_not, Vz.Q.v_v, Vz.Q.v_andV, Vz.Q.v_orV, Vz.Q.v_notV, Vz.Q.v_if, Vz.Q.v_chain, Vz.Q.v_anil, Vz.Q.v_acons, Vz.Q.v_tup, Vz.Q.v_tupK, Vz.Q.v_frz, Vz.Q.v_cell, Vz.Q.v_disp, Vz.Q.lsO_, Vz.Q.v_cat, Vz.Q.v_call, Vz.Q.v_lcall, Vz.Q.v_app, Vz.Q.v_appK, Vz.Q.v_nil, Vz.Q.v_pass, Vz.Q.v_seq, Vz.Q.v_break, Vz.Q.v_cont, Vz.Q.v_expr, Vz.Q.v_ret, Vz.Q.v_retN, Vz.Q.v_sif, Vz.Q.v_set, Vz.Q.v_setLc, Vz.Q.v_setLf, Vz.Q.v_aug, Vz.Q.parO_, Vz.Q.v_par, Vz.Q.nxO_, Vz.Q.v_asg, Vz.Q.v_oname, Vz.Q.v_onnil, Vz.Q.v_oncons, Vz.Q.v_otup, Vz.Q.v_osub, Vz.Q.v_fz, Vz.Q.v_meth, Vz.Q.v_meth0, Vz.Q.someR_, Vz.Q.v_index, Vz.Q.v_isi, Vz.Q.v_neg, Vz.Q.v_rev, Vz.Q.v_range, Vz.Q.v_sl, Vz.Q.v_no, Vz.Q.v_yesI, Vz.Q.v_dictT, Vz.Q.v_iseq, Vz.Q.v_iargs, Vz.Q.v_ifr, Vz.Q.rd_dat, Vz.Q.rd_loc, Vz.Q.rdC_lst, Vz.Q.rdC_frz, Vz.Q.rdC_dT, Vz.Q.rdC_dK, Vz.Q.rd2_, Vz.Q.rds_nil, Vz.Q.rds_cons, Vz.Q.dats_nil, Vz.Q.dats_cons, Vz.Q.small_1, Vz.Q.small_2, Vz.Q.small_3, Vz.Q.small_0, Vz.Q.small_, Vz.Q.one_, Vz.Q.two_, Vz.Q.frd_dat, Vz.Q.frd_loc, Vz.Q.frdC_frz, Vz.Q.frds_nil, Vz.Q.frds_cons, Vz.Q.LstW_, Vz.Q.lstB_, Vz.Q.lstC_, Vz.Q.lstO_, Vz.Q.v_append, Vz.Q.v_insert, Vz.Q.v_extend, Vz.Q.v_popAt, Vz.Q.asInt_, Vz.Q.asLs_, Vz.Q.v_stB, Vz.Q.lim_app, Vz.Q.lim_le, Vz.Q.lim_lt, Vz.Q.addL_, Vz.Q.addD_ll, Vz.Q.addD_tt, Option.bind_some, Option.map_some, addD_ii, subI_ii, ltI_ii, leI_ii, gtI_ii, geI_ii, eqD_ii, isN_non, isN_int, isN_str, List.getElem?_cons_zero, List.getElem?_cons_succ, List.set_cons_zero, List.set_cons_succ, List.length_cons, List.length_nil, List.length_append, Nat.zero_add, Nat.add_zero, Nat.reduceAdd, Nat.reduceSub, Nat.reduceEqDiff, at_app0, at_appk, set_app0, set_appk, List.append_assoc, List.cons_append, List.nil_append, List.append_nil, List.map_cons, List.map_nil, List.replicate, Vz.Q.fn_dat, Vz.Q.fn_nx, Vz.Q.fn_exc, Vz.Q.fn_exn, Vz.Q.fn_loc, Vz.Q.retC_lst, Vz.Q.retC_frz, Vz.Q.retC_dT, Vz.Q.retC_dK, Vz.Q.bodyF_, Vz.Q.bodyO_, Vz.Q.cutR_nil, Vz.Q.cutR_cons, Vz.Q.cutW_dat, Vz.Q.cutW_none, Vz.Q.cutW_exn, Vz.Q.cutW_loc, Vz.Q.cutW_locN, wipeR, List.take_succ_cons, List.take_length, List.take_left, take_appk, List.take_zero, List.take_nil, Vz.Q.v_yes, Vz.Q.v_lcB, Vz.Q.lcO_, Vz.Q.v_cname, Vz.Q.v_ctup, Vz.Q.v_cnnil, Vz.Q.v_cncons, Vz.Q.bb_tf, Vz.Q.bb_ft, Vz.Q.bb_tt, Vz.Q.bb_ff, Vz.Q.bn_tf, Vz.Q.bn_ft, Vz.Q.bn_tt, Vz.Q.bn_ff, eqD_bb, neD_bb, Bool.not_true, Bool.not_false, Bool.and_true, Bool.true_and, Bool.and_self, decide_true, decide_false, eq_self, Vz.Q.v_count, Vz.Q.cntB_l, Vz.Q.v_lam, Vz.Q.v_cat, Vz.Q.v_cseq_t, Vz.Q.v_cseq_l, Vz.Q.v_bor, Vz.Q.borO_b, Vz.Q.borW_dat, Vz.Q.borW_none, Vz.Q.borW_loc, Vz.Q.borC_lst, Vz.Q.borC_frz, Vz.Q.v_setR, Vz.Q.v_cellR, Vz.Q.v_ixR, Vz.Q.v_izd, Vz.Q.par3O_, Vz.Q.v_par3, Vz.Q.v_try, Vz.Q.try_exc, Vz.Q.try_nx, Vz.Q.try_rt, Vz.Q.drop_nx, Vz.Q.drop_rt, Vz.Q.v_raise1, Vz.Q.r1O_, Vz.Q.v_raise0, Vz.Q.v_isNo, Vz.Q.v_isNoN, Vz.Q.isNo_non, Vz.Q.isNo_exn, Vz.Q.v_isX, Vz.Q.isXW_, Vz.Q.v_xf, Vz.Q.xfW_, Vz.Q.v_oseq_t, Vz.Q.v_oseq_l, Vz.Q.enumD_l, Vz.Q.enumD_t, Vz.Q.nums_map, Vz.Q.listD_l, Vz.Q.listD_t, Vz.Q.tupleD_l, Vz.Q.tupleD_t, Vz.Q.lenD_l, Vz.Q.lenD_t, Vz.Q.cutD_l, Vz.Q.cutD_n, Vz.Q.revD_l, Vz.Q.fz_dat, Vz.Q.fz_loc, Vz.Q.fzC_lst, Vz.Q.fzC_frz, Vz.Q.isNN_non, Vz.Q.isNN_int, Vz.Q.isNN_str, Vz.Q.inD_l, Vz.Q.inD_t, Vz.Q.sqB_l, Vz.Q.sqB_t, Bool.false_xor, Bool.true_xor, asI, Vz.Q.walk_dl, Vz.Q.walk_dt, List.length_map, List.map_append, $hs,*])
variable {S : Sto} {xs : List Int} {as : List Anc} {it t : D}
def wrD (xs : List Int) (ms : List Mark) : D → Bool
  | .int i => decide (i ∈ xs) && wrongB ms (xs.idxOf i)
  | _ => false
def crD (xs : List Int) (ms : List Mark) : D → Bool
  | .tup _ [.int a, .int b] => (decide (a ∈ xs) && decide (b ∈ xs)) && crossB ms (xs.idxOf a) (xs.idxOf b)
  | _ => false
theorem lw_ok {ms : List Mark} {p : Nat} (hp : p < ms.length) : F__law_is_wrong [.dat (.list (ms.map encM)), .dat (nD p)] S = .ok (.dat (.bool (wrongB ms p))) S := wrong_ok hp
theorem lc_ok {ms : List Mark} {x y : Nat} (hx : x < ms.length) (hy : y < ms.length) : F__law_cross [.dat (.list (ms.map encM)), .dat (nD x), .dat (nD y)] S = .ok (.dat (.bool (crossB ms x y))) S := cross_ok hx hy
theorem wrong_any (h : Cs xs as) (hx : IsIt it xs) (ht : seqOf t = some (as.map encA)) (d : D) : F_shows_wrong [.dat it, .dat t, .dat d] S = .ok (.dat (.bool (wrD xs (mks xs as) d))) S := by
  have hn := h.n12
  have hal := h.len
  have h2 := isint_any (S := S) d
  cases hb : intD0 d with
  | false =>
    rw [hb] at h2
    have e : wrD xs (mks xs as) d = false := by
      cases d with
      | int i => exact Bool.noConfusion (show true = false from hb)
      | _ => rfl
    rw [e]
    unfold F_shows_wrong b_shows_wrong B_shows_wrong
    generalize F_is_integer = II at h2
    rw [v_runF]
    simp_arith! [h2]
  | true =>
    obtain ⟨i, rfl⟩ := int_of hb
    by_cases hi : i ∈ xs
    · have hp := List.idxOf_lt_length_of_mem hi
      have := shows_wrong_ok (S := S) h hx ht hp
      have ek : key xs (xs.idxOf i) = i := by
        unfold key
        rw [List.getD_eq_getElem?_getD, List.getElem?_eq_getElem hp]
        exact List.getElem_idxOf hp
      rw [ek] at this
      rw [this]
      show _ = R.ok (W.dat (D.bool (decide (i ∈ xs) && wrongB (mks xs as) (xs.idxOf i)))) S
      rw [decide_eq_true hi, Bool.true_and]
    · rw [hb] at h2
      have hin := hx.inD (neg := false) (p := i)
      rw [decide_eq_false hi, Bool.false_xor] at hin
      show _ = R.ok (W.dat (D.bool (decide (i ∈ xs) && wrongB (mks xs as) (xs.idxOf i)))) S
      rw [decide_eq_false hi, Bool.false_and]
      unfold F_shows_wrong b_shows_wrong B_shows_wrong
      generalize F_is_integer = II at h2
      rw [v_runF]
      simp_arith! [h2, hin]
theorem key_of {i : Int} (hi : i ∈ xs) : key xs (xs.idxOf i) = i := by
  have hp := List.idxOf_lt_length_of_mem hi
  unfold key
  rw [List.getD_eq_getElem?_getD, List.getElem?_eq_getElem hp]
  exact List.getElem_idxOf hp
theorem cross_any (h : Cs xs as) (hx : IsIt it xs) (ht : seqOf t = some (as.map encA)) {d : D} {m l k n : Nat} (hd : Nv m l k n d) (hl : l ≤ 1000) : F_shows_crossing [.dat it, .dat t, .dat d] S = .ok (.dat (.bool (crD xs (mks xs as) d))) S := by
  have hn := h.n12
  have hal := h.len
  have hI := fun d S => isint_any (S := S) d
  have main := fun (a b : Int) (ha : a ∈ xs) (hb : b ∈ xs) => shows_cross_ok (S := S) h hx ht (List.idxOf_lt_length_of_mem ha) (List.idxOf_lt_length_of_mem hb)
  have hinG := fun i => hx.inD (neg := false) (p := i)
  cases d with
  | tup f ds =>
    have hf : f = .nod := by
      have h := hd.fi
      cases f with
      | nod => rfl
      | any => exact nomatch h
      | key => exact nomatch h
    subst hf
    have hlen : ds.length ≤ 1000 := by
      have h : (true && (fines m l ds && decide (ds.length ≤ l))) = true := hd.fi
      rw [Bool.true_and] at h
      have := of_decide_eq_true (Bool.and_eq_true_iff.mp h).2
      omega
    by_cases hok : ∃ a b : Int, a ∈ xs ∧ b ∈ xs ∧ ds = [.int a, .int b]
    · obtain ⟨a, b, ha, hb, rfl⟩ := hok
      have := main a b ha hb
      rw [key_of ha, key_of hb] at this
      refine this.trans ?_
      show _ = R.ok (W.dat (D.bool ((decide (a ∈ xs) && decide (b ∈ xs)) && crossB (mks xs as) (xs.idxOf a) (xs.idxOf b)))) S
      rw [decide_eq_true ha, decide_eq_true hb]
      rfl
    · have e : crD xs (mks xs as) (.tup .nod ds) = false := by
        unfold crD
        split
        · rename_i f' a b heq
          by_cases ha : a ∈ xs
          · by_cases hb : b ∈ xs
            · injection heq with _ h2
              exact absurd ⟨a, b, ha, hb, h2⟩ hok
            · rw [decide_eq_false hb, Bool.and_false, Bool.false_and]
          · rw [decide_eq_false ha, Bool.false_and, Bool.false_and]
        · rfl
      rw [e]
      have hw : ∀ T, walk T (.dat (.tup .nod ds)) = some (.ds ds) := fun T => rfl
      have g1 : gTup (.tup .nod ds) = true := rfl
      have ln : lenD [.tup .nod ds] = some (.int (ds.length : Nat)) := lenD_t
      have nl : neD (.int (ds.length : Nat)) (.int 2) = some (.bool (!decide (ds.length = 2))) := ne_lens ds.length 2
      unfold F_shows_crossing b_shows_crossing B_shows_crossing
      generalize F_is_integer = II at hI
      have e1 : ∀ o, lComp (iSeq (fVar 2)) [3] (cName 3) fYes (fApp 1 II (aCons (fVar 3) aNil)) [some (.dat it), some (.dat t), some (.dat (.tup .nod ds)), o] S = .ok (ds.map fun d => D.bool (intD0 d)) S := fun o => by
        refine x_compM (enc := id) (g := fun d => D.bool (intD0 d)) (xs := ds) (by rw [List.map_id]; simp_arith! [hw]) (by unfold lim; omega) fun d hd => ⟨[], ?_⟩
        have h3 := hI d
        rw [List.append_nil]
        simp_arith! [id, h3]
      have al := all_ints ds
      cases hc : decide (ds.length = 2) with
      | false =>
        rw [hc] at nl
        generalize D.tup .nod ds = X at g1 ln ⊢
        rw [v_runF]
        simp_arith! [g1, ln, nl]
      | true =>
        rw [hc] at nl
        cases hb : intsB ds with
        | false =>
          rw [hb] at al
          generalize D.tup .nod ds = X at g1 ln e1 ⊢
          generalize ds.map (fun d => D.bool (intD0 d)) = BL at e1 al
          rw [v_runF]
          simp_arith! [g1, ln, nl, e1, al]
        | true =>
          rw [hb] at al
          obtain ⟨ns, rfl⟩ := ints_all hb
          rw [List.length_map] at ln nl
          have e2 : ∀ o, lComp (iSeq (fVar 2)) [3] (cName 3) fYes (fBin (inD false) (fVar 3) (fVar 0)) [some (.dat it), some (.dat t), some (.dat (.tup .nod (ns.map D.int))), o] S = .ok ((ns.map fun i => decide (i ∈ xs)).map D.bool) S := fun o => by
            rw [List.map_map]
            refine x_compM (enc := D.int) (g := fun i => D.bool (decide (i ∈ xs))) (xs := ns) (by simp_arith! [hw]) (by rw [List.length_map] at hlen; unfold lim; omega) fun i hi => ⟨[], ?_⟩
            have h3 := hinG i
            rw [Bool.false_xor] at h3
            rw [List.append_nil]
            simp_arith! [h3]
          have al2 := allD_b (ns.map fun i => decide (i ∈ xs))
          have hf2 : (ns.map fun i => decide (i ∈ xs)).all id = false := by
            rw [Bool.eq_false_iff]
            intro hall
            rw [List.all_eq_true] at hall
            have hm : ∀ i ∈ ns, i ∈ xs := fun i hi => of_decide_eq_true (hall _ (List.mem_map.mpr ⟨i, hi, rfl⟩))
            have hc := of_decide_eq_true hc
            rw [List.length_map] at hc
            match ns, hc, hm with
            | [a, b], _, hm => exact hok ⟨a, b, hm a (by simp), hm b (by simp), rfl⟩
          rw [hf2] at al2
          generalize D.tup .nod (ns.map D.int) = X at g1 ln e1 e2 ⊢
          generalize (ns.map D.int).map (fun d => D.bool (intD0 d)) = BL at e1 al
          generalize (ns.map fun i => decide (i ∈ xs)).map D.bool = BL2 at e2 al2
          rw [v_runF]
          simp_arith! [g1, ln, nl, e1, al, e2, al2]
  | none => unfold F_shows_crossing b_shows_crossing B_shows_crossing; rw [v_runF]; have g : gTup .none = false := rfl; show _ = R.ok (W.dat (D.bool false)) S; simp_arith! [g]
  | bool b => unfold F_shows_crossing b_shows_crossing B_shows_crossing; rw [v_runF]; have g : gTup (.bool b) = false := rfl; show _ = R.ok (W.dat (D.bool false)) S; simp_arith! [g]
  | int b => unfold F_shows_crossing b_shows_crossing B_shows_crossing; rw [v_runF]; have g : gTup (.int b) = false := rfl; show _ = R.ok (W.dat (D.bool false)) S; simp_arith! [g]
  | str b => unfold F_shows_crossing b_shows_crossing B_shows_crossing; rw [v_runF]; have g : gTup (.str b) = false := rfl; show _ = R.ok (W.dat (D.bool false)) S; simp_arith! [g]
  | list b => unfold F_shows_crossing b_shows_crossing B_shows_crossing; rw [v_runF]; have g : gTup (.list b) = false := rfl; show _ = R.ok (W.dat (D.bool false)) S; simp_arith! [g]
  | dT _ => exact nomatch hd.fi
  | dK _ => exact nomatch hd.fi
theorem due1 (h : Cs xs as) {LI LW : List W → Sto → R W} (hI : ∀ d S, LI [.dat d] S = .ok (.dat (.bool (intD0 d))) S) (hLW : ∀ p S, p < xs.length → LW [.dat (.list ((mks xs as).map encM)), .dat (nD p)] S = .ok (.dat (.bool (wrongB (mks xs as) p))) S) (d : D) (o0 o1 o3 o4 o5 o7 o8 o9 o10 o11 o13 o14 : Option W) :
    fAndV (fApp 1 LI (aCons (fVar 6) aNil)) (fAndV (fBin (inD false) (fVar 6) (fVar 12)) (fApp 2 LW (aCons (fVar 2) (aCons (fIndex (fVar 12) (aCons (fVar 6) aNil)) aNil)))) [o0, o1, some (.dat (.list ((mks xs as).map encM))), o3, o4, o5, some (.dat d), o7, o8, o9, o10, o11, some (.dat (.list (xs.map D.int))), o13, o14] S = .ok (.dat (.bool (wrD xs (mks xs as) d))) S := by
  have h2 := hI d S
  cases hb : intD0 d with
  | false =>
    rw [hb] at h2
    have e : wrD xs (mks xs as) d = false := by
      cases d with
      | int i => exact Bool.noConfusion (show true = false from hb)
      | _ => rfl
    rw [e]
    simp_arith! [h2]
  | true =>
    obtain ⟨i, rfl⟩ := int_of hb
    rw [hb] at h2
    show _ = R.ok (W.dat (D.bool (decide (i ∈ xs) && wrongB (mks xs as) (xs.idxOf i)))) S
    have hin : inD false (.int i) (.list (xs.map D.int)) = some (.bool (decide (i ∈ xs))) := by rw [inD_l, Bool.false_xor]
    by_cases hi : i ∈ xs
    · have hp := List.idxOf_lt_length_of_mem hi
      have h3 := hLW _ S hp
      have h4 : sqB (.list (xs.map D.int)) = some false := rfl
      have h5 : ixOf false (.list (xs.map D.int)) (.int i) = some (xs.idxOf i) := ix_list hi
      unfold nD at h3
      rw [decide_eq_true hi] at hin ⊢
      rw [Bool.true_and]
      generalize D.list (xs.map D.int) = L at hin h4 h5 ⊢
      generalize D.list ((mks xs as).map encM) = M at h3 ⊢
      simp_arith! [h2, hin, h4, h5, h3]
    · rw [decide_eq_false hi] at hin ⊢
      rw [Bool.false_and]
      generalize D.list (xs.map D.int) = L at hin ⊢
      simp_arith! [h2, hin]
theorem due2 (h : Cs xs as) {LI LC : List W → Sto → R W} (hI : ∀ d S, LI [.dat d] S = .ok (.dat (.bool (intD0 d))) S) (hLC : ∀ p q S, p < xs.length → q < xs.length → LC [.dat (.list ((mks xs as).map encM)), .dat (nD p), .dat (nD q)] S = .ok (.dat (.bool (crossB (mks xs as) p q))) S) {d : D} {m l k n : Nat} (hd : Nv m l k n d) (hl : l ≤ 1000) (b0 : Bool) (y c1 c2 c3 : C) (o0 o1 o3 o4 o5 o7 o9 o10 o11 o13 o14 : Option W) :
    sIf (fAnd (fB (fIsi gTup (fVar 6))) (fAnd (fB (fBin eqD (fCall lenD (aCons (fVar 6) aNil)) (fC (.int 2)))) (fB (fCall allD (aCons (fFrz (lComp (iSeq (fVar 6)) [14] (cName 14) fYes (fAndV (fApp 1 LI (aCons (fVar 14) aNil)) (fBin (inD false) (fVar 14) (fVar 12))))) aNil))))) (sAsg (fApp 3 LC (aCons (fVar 2) (aCons (fIndex (fVar 12) (aCons (fBin ixD (fVar 6) (fC (.int 0))) aNil)) (aCons (fIndex (fVar 12) (aCons (fBin ixD (fVar 6) (fC (.int 1))) aNil)) aNil)))) (oSub (fVar 8) (fC (.int 1)))) sNil
      [o0, o1, some (.dat (.list ((mks xs as).map encM))), o3, o4, o5, some (.dat d), o7, some (.loc 4 0), o9, o10, o11, some (.dat (.list (xs.map D.int))), o13, o14] [y, c1, c2, c3, .lst [.bool b0, .bool false]]
    = .nx [o0, o1, some (.dat (.list ((mks xs as).map encM))), o3, o4, o5, some (.dat d), o7, some (.loc 4 0), o9, o10, o11, some (.dat (.list (xs.map D.int))), o13, o14] [y, c1, c2, c3, .lst [.bool b0, .bool (crD xs (mks xs as) d)]] := by
  have hn := h.n12
  have hinG : ∀ i : Int, inD false (.int i) (.list (xs.map D.int)) = some (.bool (decide (i ∈ xs))) := fun i => by rw [inD_l, Bool.false_xor]
  have h4 : sqB (.list (xs.map D.int)) = some false := rfl
  have h5 : ∀ i ∈ xs, ixOf false (.list (xs.map D.int)) (.int i) = some (xs.idxOf i) := fun i hi => ix_list hi
  generalize D.list (xs.map D.int) = L at hinG h4 h5 ⊢
  generalize D.list ((mks xs as).map encM) = M at hLC ⊢
  cases d with
  | tup f ds =>
    have hf : f = .nod := by
      have h := hd.fi
      cases f with
      | nod => rfl
      | any => exact nomatch h
      | key => exact nomatch h
    subst hf
    have hlen : ds.length ≤ 1000 := by
      have h : (true && (fines m l ds && decide (ds.length ≤ l))) = true := hd.fi
      rw [Bool.true_and] at h
      have := of_decide_eq_true (Bool.and_eq_true_iff.mp h).2
      omega
    have hw : ∀ T, walk T (.dat (.tup .nod ds)) = some (.ds ds) := fun T => rfl
    have g1 : gTup (.tup .nod ds) = true := rfl
    have ln : lenD [.tup .nod ds] = some (.int (ds.length : Nat)) := lenD_t
    have nl : eqD (.int (ds.length : Nat)) (.int 2) = some (.bool (decide (ds.length = 2))) := eq_lens ds.length 2
    let inB : D → Bool := fun e => match e with
      | .int i => decide (i ∈ xs)
      | _ => false
    have e1 : ∀ o0 o1 o2 o3 o4 o5 o7 o8 o9 o10 o11 o13 o14 S, lComp (iSeq (fVar 6)) [14] (cName 14) fYes (fAndV (fApp 1 LI (aCons (fVar 14) aNil)) (fBin (inD false) (fVar 14) (fVar 12))) [o0, o1, o2, o3, o4, o5, some (.dat (.tup .nod ds)), o7, o8, o9, o10, o11, some (.dat L), o13, o14] S = .ok ((ds.map inB).map D.bool) S := fun o0 o1 o2 o3 o4 o5 o7 o8 o9 o10 o11 o13 o14 S => by
      rw [List.map_map]
      refine x_compM (enc := id) (g := fun d => D.bool (inB d)) (xs := ds) (by rw [List.map_id]; simp_arith! [hw]) (by unfold lim; omega) fun d hd => ⟨[], ?_⟩
      have h3 := hI d S
      rw [List.append_nil]
      cases hb : intD0 d with
      | false =>
        rw [hb] at h3
        have e : inB d = false := by
          cases d with
          | int i => exact Bool.noConfusion (show true = false from hb)
          | _ => rfl
        rw [e]
        simp_arith! [id, h3]
      | true =>
        obtain ⟨i, rfl⟩ := int_of hb
        rw [hb] at h3
        have h6 := hinG i
        show _ = R.ok (some (D.bool (decide (i ∈ xs)))) S
        simp_arith! [id, h3, h6]
    have al := allD_b (ds.map inB)
    by_cases hok : ∃ a b : Int, a ∈ xs ∧ b ∈ xs ∧ ds = [.int a, .int b]
    · obtain ⟨a, b, ha, hb, rfl⟩ := hok
      have e : crD xs (mks xs as) (.tup .nod [.int a, .int b]) = crossB (mks xs as) (xs.idxOf a) (xs.idxOf b) := by
        show ((decide (a ∈ xs) && decide (b ∈ xs)) && _) = _
        rw [decide_eq_true ha, decide_eq_true hb]
        rfl
      rw [e]
      have ea : ([D.int a, D.int b].map inB).all id = true := by
        show (decide (a ∈ xs) && (decide (b ∈ xs) && true)) = true
        rw [decide_eq_true ha, decide_eq_true hb]
        rfl
      rw [ea] at al
      have h7 := fun S => hLC _ _ S (List.idxOf_lt_length_of_mem ha) (List.idxOf_lt_length_of_mem hb)
      unfold nD at h7
      have i1 : ixD (.tup .nod [.int a, .int b]) (.int 0) = some (.int a) := rfl
      have i2 : ixD (.tup .nod [.int a, .int b]) (.int 1) = some (.int b) := rfl
      have h8 := h5 a ha
      have h9 := h5 b hb
      have nl : eqD (.int (([D.int a, D.int b].length : Nat) : Int)) (.int 2) = some (.bool true) := nl
      have pc : ∀ z : D, putC (.lst [.bool b0, .bool false]) (.int 1) z = some (.lst [.bool b0, z]) := fun z => rfl
      generalize ([D.int a, D.int b].map inB).map D.bool = BL at e1 al
      generalize [D.int a, D.int b].length = n2 at ln nl
      generalize D.tup .nod [.int a, .int b] = X at g1 ln e1 i1 i2 ⊢
      generalize crossB (mks xs as) (xs.idxOf a) (xs.idxOf b) = rb at h7 ⊢
      simp_arith! [g1, ln, nl, e1, al, i1, i2, h4, h8, h9, h7, pc]
    · have e : crD xs (mks xs as) (.tup .nod ds) = false := by
        unfold crD
        split
        · rename_i f' a b heq
          by_cases ha : a ∈ xs
          · by_cases hb : b ∈ xs
            · injection heq with _ h2
              exact absurd ⟨a, b, ha, hb, h2⟩ hok
            · rw [decide_eq_false hb, Bool.and_false, Bool.false_and]
          · rw [decide_eq_false ha, Bool.false_and, Bool.false_and]
        · rfl
      rw [e]
      cases hc : decide (ds.length = 2) with
      | false =>
        rw [hc] at nl
        generalize D.tup .nod ds = X at g1 ln ⊢
        simp_arith! [g1, ln, nl]
      | true =>
        rw [hc] at nl
        have hf2 : (ds.map inB).all id = false := by
          rw [Bool.eq_false_iff]
          intro hall
          rw [List.all_eq_true] at hall
          have hm : ∀ e ∈ ds, inB e = true := fun e he => hall _ (List.mem_map.mpr ⟨e, he, rfl⟩)
          have hc := of_decide_eq_true hc
          match ds, hc, hm with
          | [.int a, .int b], _, hm => exact hok ⟨a, b, of_decide_eq_true (hm (.int a) (by simp)), of_decide_eq_true (hm (.int b) (by simp)), rfl⟩
          | [.none, _], _, hm => exact Bool.noConfusion (hm .none (by simp))
          | [.bool v, _], _, hm => exact Bool.noConfusion (hm (.bool v) (by simp))
          | [.str v, _], _, hm => exact Bool.noConfusion (hm (.str v) (by simp))
          | [.list v, _], _, hm => exact Bool.noConfusion (hm (.list v) (by simp))
          | [.tup f v, _], _, hm => exact Bool.noConfusion (hm (.tup f v) (by simp))
          | [.dT v, _], _, hm => exact Bool.noConfusion (hm (.dT v) (by simp))
          | [.dK v, _], _, hm => exact Bool.noConfusion (hm (.dK v) (by simp))
          | [.int a, .none], _, hm => exact Bool.noConfusion (hm .none (by simp))
          | [.int a, .bool v], _, hm => exact Bool.noConfusion (hm (.bool v) (by simp))
          | [.int a, .str v], _, hm => exact Bool.noConfusion (hm (.str v) (by simp))
          | [.int a, .list v], _, hm => exact Bool.noConfusion (hm (.list v) (by simp))
          | [.int a, .tup f v], _, hm => exact Bool.noConfusion (hm (.tup f v) (by simp))
          | [.int a, .dT v], _, hm => exact Bool.noConfusion (hm (.dT v) (by simp))
          | [.int a, .dK v], _, hm => exact Bool.noConfusion (hm (.dK v) (by simp))
        rw [hf2] at al
        generalize D.tup .nod ds = X at g1 ln e1 ⊢
        generalize (ds.map inB).map D.bool = BL at e1 al
        simp_arith! [g1, ln, nl, e1, al]
  | none => have g : gTup .none = false := rfl; rw [show crD xs (mks xs as) .none = false from rfl]; simp_arith! [g]
  | bool b => have g : gTup (.bool b) = false := rfl; rw [show crD xs (mks xs as) (.bool b) = false from rfl]; simp_arith! [g]
  | int b => have g : gTup (.int b) = false := rfl; rw [show crD xs (mks xs as) (.int b) = false from rfl]; simp_arith! [g]
  | str b => have g : gTup (.str b) = false := rfl; rw [show crD xs (mks xs as) (.str b) = false from rfl]; simp_arith! [g]
  | list b => have g : gTup (.list b) = false := rfl; rw [show crD xs (mks xs as) (.list b) = false from rfl]; simp_arith! [g]
  | dT _ => exact nomatch hd.fi
  | dK _ => exact nomatch hd.fi
theorem choice_okC {G : List W → Sto → R W} (hG : DrawB G) {x : C} {m : Nat} {ds : List D} {k : Nat} {rest : Sto} (hx : SrcOk (m + 2) x) (h0 : ds ≠ []) (hn : ds.length ≤ 1000) (hk : ∀ y : C, (y :: rest)[k]? = some (.lst ds)) : ∃ d y, d ∈ ds ∧ SrcOk m y ∧ runF 2 false (bChoice G) [.loc 0 0, .loc k 0] (x :: rest) = .ok (.dat d) (y :: rest) := by
  obtain ⟨r, y, h1, h2, h3⟩ := draw_nat hG (n := ds.length) hx (List.length_pos_iff.mpr h0) (by omega)
  refine ⟨ds[r], y, List.getElem_mem _, h3, ?_⟩
  have e : (ds[r]?) = some ds[r] := List.getElem?_eq_getElem h2
  have hh := h1 rest
  have e2 := ixD_l e
  have k1 := hk x
  have k2 := hk y
  rw [v_runF]
  unfold bChoice
  simp_arith! [lenD_l, k1, k2, hh, e2]
/-- one of the values, after i changes -/
abbrev Nk (i : Nat) (d : D) : Prop := Nv (10 ^ 20 + i) (26 + i) (1 + 2 * i) (3 * 2 ^ i) d
theorem Nk.up {i j : Nat} {d : D} (h : Nk i d) (hij : i ≤ j) : Nk j d := h.le (by omega) (by omega) (by omega) (Nat.mul_le_mul_left _ (Nat.pow_le_pow_right (by decide) hij))
theorem nk_bent {i : Nat} {d : D} (h : Nv (10 ^ 20 + i + 1) (26 + i + 1) (1 + 2 * i + 2) (max (2 * (3 * 2 ^ i)) 3) d) : Nk (i + 1) d := by
  refine h.le (by omega) (by omega) (by omega) ?_
  have : 1 ≤ 2 ^ i := Nat.one_le_two_pow
  rw [Nat.pow_succ]
  omega
theorem nk_consts : ∀ e ∈ [D.none, .tup .nod [], .list [], .int 0, .str "wrong", .bool true, .bool false, .int (-1), .int (10 ^ 20), .tup .nod [.int 0], .tup .nod [.int 0, .int 0], .tup .nod [.bool true, .int 0], .list [.int 0, .int 1], .tup .nod [.none, .none]], Nk 0 e := by
  have h : (([D.none, .tup .nod [], .list [], .int 0, .str "wrong", .bool true, .bool false, .int (-1), .int (10 ^ 20), .tup .nod [.int 0], .tup .nod [.int 0, .int 0], .tup .nod [.bool true, .int 0], .list [.int 0, .int 1], .tup .nod [.none, .none]] : List D).all fun e => fine (10 ^ 20) 26 e && (decide (dep e ≤ 1) && decide (nd e ≤ 3))) = true := by decide +kernel
  intro e he
  have := List.all_eq_true.mp h e he
  obtain ⟨a, b⟩ := Bool.and_eq_true_iff.mp this
  obtain ⟨b, c⟩ := Bool.and_eq_true_iff.mp b
  exact ⟨a, of_decide_eq_true b, of_decide_eq_true c⟩
theorem nk_int {i : Int} (h : 0 ≤ i ∧ i < 10 ^ 10) : Nk 0 (.int i) := ⟨decide_eq_true (by omega), Nat.zero_le _, (by show 1 ≤ 3 * 2 ^ 0; decide)⟩
theorem nk_pair {i j : Int} (h : 0 ≤ i ∧ i < 10 ^ 10) (h' : 0 ≤ j ∧ j < 10 ^ 10) : Nk 0 (.tup .nod [.int i, .int j]) := by
  have : NvL (10 ^ 20 + 0) (26 + 0) 0 2 [.int i, .int j] := ⟨fun d hd => by
    rcases List.mem_cons.mp hd with rfl | hd
    · exact decide_eq_true (by omega)
    · rw [List.mem_singleton.mp hd]; exact decide_eq_true (by omega), fun d hd => by
    rcases List.mem_cons.mp hd with rfl | hd
    · exact Nat.le_refl _
    · rw [List.mem_singleton.mp hd]; exact Nat.le_refl _, Nat.le_refl _⟩
  exact (nv_tup this (by simp)).le (Nat.le_refl _) (Nat.le_refl _) (by decide) (by decide)
theorem holds07 : HoldsQ 16000 F__law_holds := by
  intro k x hx
  suffices h : On (RetQ k) (b__law_holds ([.loc 0 0].map some ++ List.replicate 14 none) [x]) from h
  have hG : DrawB (F__law_draw 3) := drawB_of
  obtain ⟨xs, as0, y1, h0, hn7, hrg, hy1, ha⟩ := any_ok (rest := []) (x := x) (m := k + 15000) (most := 7) (hx.less (by omega)) (by decide)
  have ha : F__law_any [.loc 0 0, .dat (.int 7)] [x] = .ok (.dat (.tup .nod [.tup .nod (xs.map D.int), .tup .nod (as0.map encA)])) [y1] := ha
  obtain ⟨as, y2, h, hy2, hsp⟩ := spoiled_ok (rest := []) (x := y1) (t := .tup .nod (as0.map encA)) h0 rfl (m := k + 14000) (hy1.less (by omega))
  have hsp : F__law_spoiled [.loc 0 0, .dat (.tup .nod (xs.map D.int)), .dat (.tup .nod (as0.map encA))] [y1] = .ok (.dat (.tup .nod (as.map encA))) [y2] := hsp
  have hml := h.mlen
  have hspt := spots_ok (S := [y2]) h (it := .tup .nod (xs.map D.int)) (.inl rfl) (t := .tup .nod (as.map encA)) rfl
  have hwr := fun d S => wrong_any (S := S) h (it := .tup .nod (xs.map D.int)) (.inl rfl) (t := .tup .nod (as.map encA)) rfl d
  have hwrL := fun d S => wrong_any (S := S) h (it := .list (xs.map D.int)) (.inr rfl) (t := .list (as.map encA)) rfl d
  have hcr := fun (d : D) S (hd : Nk 14 d) => cross_any (S := S) h (it := .tup .nod (xs.map D.int)) (.inl rfl) (t := .tup .nod (as.map encA)) rfl hd (by decide)
  have hcrL := fun (d : D) S (hd : Nk 14 d) => cross_any (S := S) h (it := .list (xs.map D.int)) (.inr rfl) (t := .list (as.map encA)) rfl hd (by decide)
  have hre := fun (d : D) (h : Nk 14 d) => reprA_ok h (by decide) (by decide) (by decide) (by decide)
  have hle := fun (a b : Bool) S => leq_ok (S := S) 8 (.list [.list [.bool a, .bool b], .list [.bool a, .bool b]]) (.list [.list [.bool a, .bool b], .list [.bool a, .bool b]]) rfl rfl (by cases a <;> cases b <;> decide) (by cases a <;> cases b <;> decide)
  have heT : ∀ a b : Bool, eqT (.list [.list [.bool a, .bool b], .list [.bool a, .bool b]]) (.list [.list [.bool a, .bool b], .list [.bool a, .bool b]]) = true := fun a b => by cases a <;> cases b <;> rfl
  have hI := fun d S => lawint_any (S := S) d
  have hLW : ∀ p S, p < xs.length → F__law_is_wrong [.dat (.list ((mks xs as).map encM)), .dat (nD p)] S = .ok (.dat (.bool (wrongB (mks xs as) p))) S := fun p S hp => lw_ok (by omega)
  have hLC : ∀ p q S, p < xs.length → q < xs.length → F__law_cross [.dat (.list ((mks xs as).map encM)), .dat (nD p), .dat (nD q)] S = .ok (.dat (.bool (crossB (mks xs as) p q))) S := fun p q S hp hq => lc_ok (by omega) (by omega)
  have q5 : F__law_choice = runF 2 false (bChoice (F__law_draw 3)) := rfl
  have hch := fun (y : C) (m : Nat) (c1 c2 : C) (ds : List D) (hy : SrcOk (m + 2) y) (h0 : ds ≠ []) (hn : ds.length ≤ 1000) => choice_okC hG (m := m) (ds := ds) (k := 3) (rest := [c1, c2, .lst ds]) hy h0 hn (fun y => rfl)
  rw [← q5] at hch
  have hbe := fun (i : Nat) (hi : i < 14) (d : D) (y : C) (q : Nat) (rest : Sto) (hd : Nk i d) (hy : SrcOk (q + 340) y) => bent_ok 34 (q := q) rest hd (by omega) (by omega) (by omega) (by omega) (by omega) hy
  have hr14 : rng1 [.int 14] = some ((List.range 14).map nD) := rng_nat (n := 14) (by decide)
  have lX : listD [.tup .nod (xs.map D.int)] = some (xs.map D.int) := rfl
  have lT : listD [.tup .nod (as.map encA)] = some (as.map encA) := rfl
  have hwX : ∀ T, walk T (.dat (.tup .nod (xs.map D.int))) = some (.ds (xs.map D.int)) := fun T => rfl
  have hp20 : powI (.int 10) (.int 20) = some (.int (10 ^ 20)) := rfl
  have hV0 : ∀ e ∈ ([D.none, .tup .nod [], .list [], .int 0, .str "wrong", .bool true, .bool false, .int (-1), .int (10 ^ 20), .tup .nod [.int 0], .tup .nod [.int 0, .int 0], .tup .nod [.bool true, .int 0], .list [.int 0, .int 1], .tup .nod [.none, .none]] : List D) ++ xs.map D.int, Nk 0 e := fun e he => by
    rcases List.mem_append.mp he with he | he
    · exact nk_consts e he
    · obtain ⟨i, hi, rfl⟩ := List.mem_map.mp he
      exact nk_int (hrg i hi)
  have hd1 := fun (d : D) (S : Sto) => due1 (S := S) h hI hLW d
  have hd2 := fun (d : D) (hd : Nk 14 d) => due2 h hI hLC hd (by decide)
  unfold b__law_holds B__law_holds
  generalize F__law_any = AN at ha
  generalize F__law_spoiled = SP at hsp
  generalize F__law_spots = SO1 at hspt
  generalize F__law_draw 3 = DR at hG
  generalize F__law_bent 34 = BE at hbe
  generalize F__law_choice = CH at hch
  generalize F__law_equal 8 = LE at hle
  generalize F_shows_wrong = SW at hwr hwrL
  generalize F_shows_crossing = SC at hcr hcrL
  generalize F__law_integer = LI at hI hd1 hd2 ⊢
  generalize F__law_is_wrong = LW at hLW hd1 ⊢
  generalize F__law_cross = LC at hLC hd2 ⊢
  generalize (fAndV (fApp 1 LI (aCons (fVar 6) aNil)) (fAndV (fBin (inD false) (fVar 6) (fVar 12)) (fApp 2 LW (aCons (fVar 2) (aCons (fIndex (fVar 12) (aCons (fVar 6) aNil)) aNil))))) = E1 at hd1 ⊢
  generalize (sIf (fAnd (fB (fIsi gTup (fVar 6))) (fAnd (fB (fBin eqD (fCall lenD (aCons (fVar 6) aNil)) (fC (.int 2)))) (fB (fCall allD (aCons (fFrz (lComp (iSeq (fVar 6)) [14] (cName 14) fYes (fAndV (fApp 1 LI (aCons (fVar 14) aNil)) (fBin (inD false) (fVar 14) (fVar 12))))) aNil))))) (sAsg (fApp 3 LC (aCons (fVar 2) (aCons (fIndex (fVar 12) (aCons (fBin ixD (fVar 6) (fC (.int 0))) aNil)) (aCons (fIndex (fVar 12) (aCons (fBin ixD (fVar 6) (fC (.int 1))) aNil)) aNil)))) (oSub (fVar 8) (fC (.int 1)))) sNil) = B2 at hd2 ⊢
  generalize hXg : D.tup .nod (xs.map D.int) = X at ha hsp hspt hwr hcr lX hwX
  generalize hXL : xs.map D.int = XL at lX hwX hwrL hcrL hd1 hd2 hV0
  generalize D.tup .nod (as.map encA) = T at hsp hspt hwr hcr lT
  generalize as.map encA = TL at hwrL hcrL lT
  generalize D.tup .nod (as0.map encA) = T0 at ha hsp
  generalize D.list ((mks xs as).map encM) = M at hspt hd1 hd2
  have hxl : XL.length = xs.length := by rw [← hXL, List.length_map]
  simp_arith! [ha, hsp, hspt, hp20, lX]
  have ext : ∀ (v : Int), v ∈ xs → ∀ o0 o1 o2 o3 o5 o6 o8 o9 o10 o11 o12 o13 o14 S, lComp (iSeq (fVar 7)) [13] (cName 13) fYes (fTup (aCons (fVar 4) (aCons (fVar 13) aNil))) [o0, o1, o2, o3, some (.dat (.int v)), o5, o6, some (.dat X), o8, o9, o10, o11, o12, o13, o14] S = .ok (xs.map fun w => D.tup .nod [.int v, .int w]) S := fun v hv o0 o1 o2 o3 o5 o6 o8 o9 o10 o11 o12 o13 o14 S => by
    refine x_compM (enc := D.int) (g := fun w => D.tup .nod [.int v, .int w]) (xs := xs) (by rw [hXL]; simp_arith! [hwX]) (by unfold lim; omega) fun w hw => ⟨[], ?_⟩
    rw [List.append_nil]
    simp_arith! []
  refine q_forI D.int xs (fun i ρ S' => ∃ (o4 o13 : Option W) (vs : List D) (c1 c2 : C), (∀ e ∈ vs, Nk 0 e) ∧ vs.length = 14 + xs.length + i * xs.length ∧ S' = [y2, c1, c2, .lst vs] ∧ ρ = [some (.loc 0 0), some (.dat T), some (.dat M), some (.loc 3 0), o4, none, none, some (.dat X), none, none, none, none, none, o13, none]) (S1 := [y2, .lst [D.none, .tup .nod [], .list [], .int 0, .str "wrong", .bool true, .bool false, .int (-1), .int (10 ^ 20), .tup .nod [.int 0], .tup .nod [.int 0, .int 0], .tup .nod [.bool true, .int 0], .list [.int 0, .int 1]], .lst [D.none, .tup .nod [], .list [], .int 0, .str "wrong", .bool true, .bool false, .int (-1), .int (10 ^ 20), .tup .nod [.int 0], .tup .nod [.int 0, .int 0], .tup .nod [.bool true, .int 0], .list [.int 0, .int 1], .tup .nod [.none, .none]], .lst ([D.none, .tup .nod [], .list [], .int 0, .str "wrong", .bool true, .bool false, .int (-1), .int (10 ^ 20), .tup .nod [.int 0], .tup .nod [.int 0, .int 0], .tup .nod [.bool true, .int 0], .list [.int 0, .int 1], .tup .nod [.none, .none]] ++ XL)]) (by rw [hXL]; (simp_arith! [hwX]; try rfl)) ⟨_, _, _, _, _, hV0, by rw [List.length_append, hxl]; simp, rfl, rfl⟩ ?_ ?_
  · rintro i v hv ρ S' ⟨o4, o13, vs, c1, c2, hvs, hvl, rfl, rfl⟩
    have hvm := List.mem_of_getElem? hv
    have hil := (List.getElem?_eq_some_iff.mp hv).1
    have e1 := ext v hvm
    have hm : i * xs.length ≤ 7 * 7 := Nat.mul_le_mul (by omega) hn7
    have hnew : ∀ e ∈ xs.map fun w => D.tup .nod [.int v, .int w], Nk 0 e := fun e he => by
      obtain ⟨w, hw, rfl⟩ := List.mem_map.mp he
      exact nk_pair (hrg v hvm) (hrg w hw)
    have hnl : (xs.map fun w => D.tup .nod [.int v, .int w]).length = xs.length := List.length_map ..
    generalize (xs.map fun w => D.tup .nod [.int v, .int w]) = NW at e1 hnew hnl
    exact ⟨_, _, by (simp_arith! [e1]; try rfl), _, _, vs ++ NW, _, _, fun e he => (by
      rcases List.mem_append.mp he with he | he
      · exact hvs e he
      · exact hnew e he), by rw [List.length_append, hvl, hnl, Nat.add_mul, Nat.one_mul]; omega, by (simp_arith! []; try rfl), by (simp_arith! []; try rfl)⟩
  · rintro ρ S' ⟨o4, o13, vs, c1, c2, hvs, hvl, rfl, rfl⟩
    have hvl2 : vs.length ≤ 70 := by
      have : xs.length * xs.length ≤ 7 * 7 := Nat.mul_le_mul hn7 hn7
      omega
    have hvl3 : 14 ≤ vs.length := by omega
    rw [v_seq]
    refine q_forI nD (List.range 14) (fun i ρ S' => ∃ (o4 o5 o13 : Option W) (y : C) (ws : List D), SrcOk (k + 14000 - 400 * i) y ∧ (∀ e ∈ ws, Nk i e) ∧ ws.length = vs.length + i ∧ S' = [y, c1, c2, .lst ws] ∧ ρ = [some (.loc 0 0), some (.dat T), some (.dat M), some (.loc 3 0), o4, o5, none, some (.dat X), none, none, none, none, none, o13, none]) (S1 := [y2, c1, c2, .lst vs]) (by (simp_arith! [hr14]; try rfl)) ⟨_, _, _, y2, vs, hy2.less (by omega), hvs, rfl, rfl, rfl⟩ ?_ ?_
    · rintro i a hi ρ S' ⟨o4, o5, o13, y, ws, hy, hws, hwl, rfl, rfl⟩
      have hi16 : i < 14 := by
        have := (List.getElem?_eq_some_iff.mp hi).1
        rwa [List.length_range] at this
      obtain ⟨d, z0, v1, v2, v3⟩ := hch y (k + 14000 - 400 * i - 2) c1 c2 ws (hy.less (by omega)) (fun z => by rw [z, List.length_nil] at hwl; omega) (by omega)
      obtain ⟨d2, z1, b1, b2, b3⟩ := hbe i hi16 d z0 (k + 14000 - 400 * (i + 1)) [c1, c2, .lst ws] (hws d v1) (v2.less (by omega))
      have b1 := nk_bent b1
      exact ⟨_, _, by (simp_arith! [v3, b3]; try rfl), _, _, _, z1, ws ++ [d2], b2, fun e he => (by
        rcases List.mem_append.mp he with he | he
        · exact (hws e he).up (by omega)
        · rw [List.mem_singleton.mp he]; exact b1), by rw [List.length_append, List.length_singleton]; omega, by (simp_arith! []; try rfl), by (simp_arith! []; try rfl)⟩
    · rintro ρ S' ⟨o4, o5, o13, y, ws, hy, hws, hwl, rfl, rfl⟩
      rw [List.length_range] at hwl hy hws
      rw [v_seq]
      refine q_forCu id ws (fun i ρ S' => ∃ (o4 o5 o6 o8 o9 o10 o11 o12 o13 o14 : Option W), S' = [y, c1, c2, .lst ws] ∧ ρ = [some (.loc 0 0), some (.dat T), some (.dat M), some (.loc 3 0), o4, o5, o6, some (.dat X), o8, o9, o10, o11, o12, o13, o14]) (wk := .cell 3 0) (S1 := [y, c1, c2, .lst ws]) (by (simp_arith! []; try rfl)) ?_ ⟨_, _, _, _, _, _, _, _, _, _, rfl, rfl⟩ ?_ ?_
      · rintro i ρ S' ⟨o4, o5, o6, o8, o9, o10, o11, o12, o13, o14, rfl, rfl⟩
        rw [List.map_id]
        rfl
      · rintro i d hi ρ S' ⟨o4, o5, o6, o8, o9, o10, o11, o12, o13, o14, rfl, rfl⟩
        have hd := hws d (List.mem_of_getElem? hi)
        obtain ⟨s, s1, s2⟩ := hre d hd
        have t0 := hd1 d
        have t1 := hd2 d hd (wrD xs (mks xs as) d)
        have t2 := hwr d
        have t3 := fun S => hcr d S hd
        have t4 := hwrL d
        have t5 := fun S => hcrL d S hd
        have t6 := hle (wrD xs (mks xs as) d) (crD xs (mks xs as) d)
        rw [heT] at t6
        have t7 := ne_str s1
        generalize wrD xs (mks xs as) d = b1 at t0 t1 t2 t4 t6
        generalize crD xs (mks xs as) d = b2 at t1 t3 t5 t6
        exact ⟨_, _, by (simp_arith! [id, s2, lX, t0, t1, t2, t3, lT, re3, t4, t5, t6, t7]; try rfl), _, _, _, _, _, _, _, _, _, _, by (simp_arith! []; try rfl), by (simp_arith! []; try rfl)⟩
      · rintro ρ S' ⟨o4, o5, o6, o8, o9, o10, o11, o12, o13, o14, rfl, rfl⟩
        simp_arith! []
        exact ⟨y, hy.less (by omega), rfl⟩
theorem law_true (ns : List Int) (h : ns.length ≤ 63) : ∃ S, F_law [.scr ns] [] = .ok (.dat (.bool true)) S :=
  ⟨_, law_for 3 2 16000 F__law_source F__law_holds ns (by decide) (by decide) _ (fun i => source_eq ns i) (fun i => src_start _ _ (by decide)) holds07⟩

end K07
open PySem PySem.W PySem.Calls PyProof.Rows
set_option maxRecDepth 100000 in
set_option maxHeartbeats 0 in
theorem PySem.Challenge.cw_afterlist_k07_reasons_shown_or_not_holds : PySem.Challenge.rw_afterlist_k07_reasons_shown_or_not.Holds := by
  w_on; o_law
  refine HandSHeadRun.head_any (r := OpenLaw.row PySem.Challenge.rw_afterlist_k07_reasons_shown_or_not) (q := view (OpenLaw.row PySem.Challenge.rw_afterlist_k07_reasons_shown_or_not).prog [30]) (H := K07.hk) (ob := K07.ob) (M := 4000) (loose := K07.loose) (d := HandSHeadRun.topDef (OpenLaw.row PySem.Challenge.rw_afterlist_k07_reasons_shown_or_not).prog 30) (kwd := []) K07.ob_eq
    (by kernel_rfl) (fun s => by kernel_rfl) K07.run (by kernel_rfl) (by kernel_rfl) (by kernel_rfl) (by rfl) (by first | assumption | decide +kernel) (by decide +kernel) ⟨rfl, rfl, rfl, rfl, rfl, by decide +kernel⟩ ?hw ?hc
  case hw => w_witness2
  case hc =>
    refine Vz.walk_K (l := PySem.Challenge.rw_afterlist_k07_reasons_shown_or_not) (n := 63) (k := 41) (x := "_law_script") (CX := Vz.CXL) rfl (by decide) (by kernel_rfl) ⟨rfl, by decide, by decide⟩ ?F Vz.cxl_end
    intro w mg fa h Y G hmg0
    obtain ⟨K, KX, c⟩ := Y
    have hmg : mg ("law" : PySem.Str) = some (.ref fa) := by
      have e : (HandSHeadRun.topDef (OpenLaw.row PySem.Challenge.rw_afterlist_k07_reasons_shown_or_not).prog 30).name = ("law" : PySem.Str) := by kernel_rfl
      rw [← e]
      exact hmg0
    have t := K07.tx KX G c
    have e := hmg.symm.trans t.g_law
    cases e
    obtain ⟨fd, F⟩ := t.d_law
    have b := L2.FunD.bindsA (ps := ["_law_script"]) F fun _ _ _ _ _ _ us hl => match us, hl with | [_], _ => rfl
    refine ⟨K, fd, Vz.spV (Vz.TT K) K 1 K07.F_law, KX, fun s v => b s [v] rfl, fun H a ns hl _ hS => Vz.sp_law hS (K07.law_true ns hl) (fun p hp => nomatch hp), fun base _ _ => ?_⟩
    exact Vz.fnK_cxl (((K07.ok_law t)).at_fd (Vz.look_of F))
