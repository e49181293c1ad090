import PyProof.Rows.All
import Wide.All
import OpenK.AllK
import Wide.FinOn
import KE.KStateDown
import HandS.ForMost
import HandS.ForExc
import HandS.Defaults
import HandS.IsInst
import HandS.Wide
import HandS.Flow
import HandS.ExcIs
import KE.KExcIs
import KE.KDictKeyed
import KE.KeyNested
import HandS.Words
import HandS.Exc
import HandS.Head0
import HandS.Head1
import HandS.Head2
import HandS.HeadHook1
import HandS.HeadHook2
import HandS.TupAny
import HandS.TupMul
import HandS.Walk
import HandS.Zip
import HandS.Style
import HandS.Deep
import HandS.WideBits
import HandS.Dict
import KE.KRevSl
import KE.KDictCopyH
import HandS.Conv
import HandS.SortInts
import HandS.Strs
import KE.GoesEnum
import KE.KDictDisplayH
import HandS.SetFor
import HandS.ExcInit
import HandS.ClsMeth
import HandS.ExcOwn
import HandS.ExcField
import HandS.TryOnly
import HandS.Text
import PyProof.SumWalkG
import PyProof.TwoTypesSub
import HandS.ExcValue
import KE.SortData
import KE.KDictSum
import KE.KOwnCellsLaws
import HandS.Ends
import HandS.HeadEnd
import Lean
import PySem.Challenge.RW_onewithin_k46_steps_of_pairs
set_option Elab.async false
set_option linter.all false
set_option maxRecDepth 100000
set_option maxHeartbeats 0
namespace Ow
open PySem PySem.Spec PyProof.Rows L2

/-- plain data: tuples are data; ref: an object of the store; fl: a list that is only read; glo: what a module's name stands for -/
inductive D where
  | non | bl (b : Bool) | int (i : Int) | str (x : Str) | tup (l : List D) | fl (l : List D) | ref (a : Addr) | ty (n : String) | glo (x : Str)
  /-- an exception that was caught: its class's name; its one field, if it has one -/
  | ex0 (c : Str) | ex1 (c f : Str) (d : D)

/-- an object of the store: a list; a dict whose keys are tuples, with its count of changes; one whose keys are texts; an instance -/
inductive MO where
  | lst (l : List D)
  | dct (ep : Nat) (l : List (D × D))
  | dcs (l : List (Str × D))
  | ins (c : Str) (l : List (Str × D))
/-- the module's names; the world -/
structure GW where
  g : Str → Option Value
  w : World

abbrev Sto := Addr → Option MO
def put (S : Sto) (a : Addr) (o : MO) : Sto := fun b => if b = a then some o else S b
theorem put_same {S : Sto} {a : Addr} {o : MO} : put S a o a = some o := by unfold put; rw [if_pos rfl]
theorem put_ne {S : Sto} {a b : Addr} {o : MO} (h : b ≠ a) : put S a o b = S b := by unfold put; rw [if_neg h]
abbrev En := List (Option D)
/-- an exception: its class's name, its field -/
structure Xn where
  cls : Str
  arg : Option (Str × D)

/-- what a list that stands for good is: locked, or the module's own -/
def SqF (K : PySem.W.Frag) (H : Hp) (a : Addr) (xs : List V) : Prop :=
  (∃ o, H a = some (.frz o (.lst xs))) ∨
    ∃ (o : Obj) (its : Array Value) (n : Nat), K.lookup a = some o ∧ o.cls = .type "list" ∧ o.dict = none ∧ o.data = .seq its n ∧ its.size ≤ sizeLine ∧ Vals xs its.toList
theorem SqF.sql {K : PySem.W.Frag} {H : Hp} {a : Addr} {xs : List V} (h : SqF K H a xs) : SqL K H a xs := by
  rcases h with ⟨o, h⟩ | h
  · exact .inl (.inr ⟨o, h⟩)
  · exact .inr h

mutual
/-- data as a key -/
def keyN : D → Option NestedKey
  | .non => some .none
  | .bl b => some (.num (if b then 1 else 0))
  | .int i => some (.num i)
  | .str x => some (.text x)
  | .tup l => (keyNs l).map .tup
  | _ => none
def keyNs : List D → Option (List NestedKey)
  | [] => some []
  | x :: xs => (keyN x).bind fun k => (keyNs xs).map (k :: ·)
end
/-- a dict's object: its keys, where they are, its values -/
def DctO (w : World) (a : Addr) (ep : Nat) (xs : List (NestedKey × Addr × Value)) : HO := .ext fun h => (a == sysModules) = false ∧ xs.length ≤ sizeLine ∧ (∀ x ∈ xs, x.1.depth ≤ 8) ∧ (xs.map (·.1)).Nodup ∧
  ∃ o es, h.get? a = some o ∧ o.ExactDict ∧ o.data = .dict es ep ∧ es.toList = xs.map fun x => ⟨x.1.hash w, .ref x.2.1, x.2.2⟩
/-- a caught exception's object -/
def ExV (oe : Obj) : HO := .frz oe (.ext fun _ => True)
/-- an exception's object: its class has the name c -/
def ExO (K : PySem.W.Frag) (mg : GW) (c : Str) (dd : Option Addr) (oe : Obj) : Prop := ∃ C vs, mg.g c = some (.ref C) ∧ ExcC K C ∧ oe.cls = .ref C ∧ oe.dict = dd ∧ oe.data = .fields vs
/-- no attribute of the class has the field's name -/
def ExF (K : PySem.W.Frag) (mg : GW) (c f : Str) : Prop := ∀ C, mg.g c = some (.ref C) → PySem.W.findIn K (.ref C) f = some none
section
variable (K : PySem.W.Frag) (mg : GW) (H : Hp)
mutual
inductive Rep : D → V → Prop
  | non : Rep .non .non
  | bl (b : Bool) : Rep (.bl b) (.bl b)
  | int (i : Int) : Rep (.int i) (.int i)
  | str (x : Str) : Rep (.str x) (.str x)
  | tup {a : Addr} {ds : List D} {vs : List V} : SqT K H a vs → Reps ds vs → Rep (.tup ds) (.ref a)
  | fl {a : Addr} {ds : List D} {vs : List V} : SqF K H a vs → Reps ds vs → Rep (.fl ds) (.ref a)
  | ref (a : Addr) : Rep (.ref a) (.ref a)
  | ty (n : String) : Rep (.ty n) (.ty n)
  | glo {x : Str} {f : Addr} : mg.g x = some (.ref f) → Rep (.glo x) (.ref f)
  | ex0 {c : Str} {a : Addr} {oe : Obj} : ExO K mg c none oe → H a = some (ExV oe) → Rep (.ex0 c) (.ref a)
  | ex1 {c f : Str} {a dd : Addr} {oe : Obj} {d : D} {v : V} : ExO K mg c (some dd) oe → ExF K mg c f → H a = some (ExV oe) → H dd = some (.xd [(f, v)]) → Rep d v → Rep (.ex1 c f d) (.ref a)
inductive Reps : List D → List V → Prop
  | nil : Reps [] []
  | cons {d : D} {v : V} {ds : List D} {vs : List V} : Rep d v → Reps ds vs → Reps (d :: ds) (v :: vs)
end
inductive DReps : List (D × D) → List (NestedKey × Addr × Value) → Prop
  | nil : DReps [] []
  | cons {k d : D} {n : NestedKey} {b : Addr} {v : V} {u : Value} {kvs : List (D × D)} {xs : List (NestedKey × Addr × Value)} : keyN k = some n → Rep K mg H k (.ref b) → Rep K mg H d v → RelV v u → DReps kvs xs → DReps ((k, d) :: kvs) ((n, b, u) :: xs)
inductive SReps : List (Str × D) → List (Key × V) → Prop
  | nil : SReps [] []
  | cons {k : Str} {d : D} {v : V} {kvs : List (Str × D)} {xs : List (Key × V)} : Rep K mg H d v → SReps kvs xs → SReps ((k, d) :: kvs) ((.inr k, v) :: xs)
inductive FReps : List (Str × D) → List (Str × V) → Prop
  | nil : FReps [] []
  | cons {k : Str} {d : D} {v : V} {kvs : List (Str × D)} {xs : List (Str × V)} : Rep K mg H d v → FReps kvs xs → FReps ((k, d) :: kvs) ((k, v) :: xs)
/-- what stands at an address of the store -/
def OkO (a : Addr) : MO → Prop
  | .lst l => ∃ vs, H a = some (.lst vs) ∧ Reps K mg H l vs
  | .dct ep l => ∃ xs, H a = some (DctO mg.w a ep xs) ∧ DReps K mg H l xs
  | .dcs l => ∃ xs, H a = some (.dK xs) ∧ SReps K mg H l xs
  | .ins c l => ∃ C dx vs, mg.g c = some (.ref C) ∧ H a = some (.ins C dx vs) ∧ FReps K mg H l vs
def Sim (S : Sto) : Prop := ∀ a o, S a = some o → OkO K mg H a o
def EnvR (ρ : En) (σ : L2.St) : Prop := ρ.length = σ.length ∧ ∀ (i : Nat) (d : D), ρ[i]? = some (some d) → ∃ v, σ[i]? = some (some v) ∧ Rep K mg H d v
def XR (x : Xn) (cls : Value) (d : Option Addr) : Prop := (∃ C, mg.g x.cls = some (.ref C) ∧ cls = .ref C ∧ ExcC K C) ∧
  match x.arg with
  | none => d = none
  | some (f, dv) => ExF K mg x.cls f ∧ ∃ dd v, d = some dd ∧ H dd = some (.xd [(f, v)]) ∧ Rep K mg H dv v
end
/-- what isn't in the store stays -/
def Fm (S : Sto) (H : Hp) (S' : Sto) (H' : Hp) : Prop := ∀ a o, H a = some o → S a = none → H' a = some o ∧ S' a = none

section
variable {K : PySem.W.Frag} {mg : GW} {H H' H1 H2 : Hp} {S S' S1 S2 : Sto}
theorem Fm.refl : Fm S H S H := fun _ _ h n => ⟨h, n⟩
theorem Fm.trans (f : Fm S H S1 H1) (g : Fm S1 H1 S2 H2) : Fm S H S2 H2 := fun a o h n => g a o (f a o h n).1 (f a o h n).2
theorem OkO.some {a : Addr} {o : MO} (h : OkO K mg H a o) : ∃ u, H a = some u ∧ (∀ xs, u ≠ .tup xs) ∧ (∀ q xs, u ≠ .frz q xs) ∧ ∀ fs, u ≠ .xd fs := by
  cases o with
  | lst l => obtain ⟨vs, q, _⟩ := h; exact ⟨_, q, (fun _ z => by cases z), (fun _ _ z => by cases z), (fun _ z => by cases z)⟩
  | dct ep l => obtain ⟨vs, q, _⟩ := h; exact ⟨_, q, (fun _ z => by cases z), (fun _ _ z => by cases z), (fun _ z => by cases z)⟩
  | dcs l => obtain ⟨vs, q, _⟩ := h; exact ⟨_, q, (fun _ z => by cases z), (fun _ _ z => by cases z), (fun _ z => by cases z)⟩
  | ins c l => obtain ⟨C, dx, vs, _, q, _⟩ := h; exact ⟨_, q, (fun _ z => by cases z), (fun _ _ z => by cases z), (fun _ z => by cases z)⟩
theorem Sim.free (s : Sim K mg H S) {a : Addr} (h : H a = none) : S a = none := by
  cases e : S a with
  | none => rfl
  | some o =>
    obtain ⟨u, q, _⟩ := (s a _ e).some
    rw [h] at q; cases q
theorem Sim.tup (s : Sim K mg H S) {a : Addr} {xs : List V} (h : H a = some (.tup xs)) : S a = none := by
  cases e : S a with
  | none => rfl
  | some o =>
    obtain ⟨u, q, n, _⟩ := (s a _ e).some
    rw [h] at q; cases q
    exact absurd rfl (n xs)
theorem Sim.frz (s : Sim K mg H S) {a : Addr} {q : Obj} {u : HO} (h : H a = some (.frz q u)) : S a = none := by
  cases e : S a with
  | none => rfl
  | some o =>
    obtain ⟨u', q', _, n, _⟩ := (s a _ e).some
    rw [h] at q'; cases q'
    exact absurd rfl (n q u)
theorem Sim.xd (s : Sim K mg H S) {a : Addr} {fs : List (Str × V)} (h : H a = some (.xd fs)) : S a = none := by
  cases e : S a with
  | none => rfl
  | some o =>
    obtain ⟨u', q', _, _, n⟩ := (s a _ e).some
    rw [h] at q'; cases q'
    exact absurd rfl (n fs)
/-- tuples, locked things, fields of exceptions stay -/
structure Kp (H H' : Hp) : Prop where
  tup : ∀ a xs, H a = some (.tup xs) → H' a = some (.tup xs)
  frz : ∀ a o u, H a = some (.frz o u) → H' a = some (.frz o u)
  xd : ∀ a fs, H a = some (.xd fs) → H' a = some (.xd fs)
theorem Fm.kp (s : Sim K mg H S) (f : Fm S H S' H') : Kp H H' := ⟨fun a _ h => (f a _ h (s.tup h)).1, fun a _ _ h => (f a _ h (s.frz h)).1, fun a _ h => (f a _ h (s.xd h)).1⟩
theorem SqT.kp {a : Addr} {xs : List V} (k : Kp H H') (h : SqT K H a xs) : SqT K H' a xs := by
  rcases h with (h | ⟨o, h⟩) | h
  · exact .inl (.inl (k.tup a _ h))
  · exact .inl (.inr ⟨o, k.frz a _ _ h⟩)
  · exact .inr h
theorem SqF.kp {a : Addr} {xs : List V} (k : Kp H H') (h : SqF K H a xs) : SqF K H' a xs := by
  rcases h with ⟨o, h⟩ | h
  · exact .inl ⟨o, k.frz a _ _ h⟩
  · exact .inr h
theorem SqT.fm {a : Addr} {xs : List V} (s : Sim K mg H S) (f : Fm S H S' H') (h : SqT K H a xs) : SqT K H' a xs := SqT.kp (f.kp s) h
theorem SqF.fm {a : Addr} {xs : List V} (s : Sim K mg H S) (f : Fm S H S' H') (h : SqF K H a xs) : SqF K H' a xs := SqF.kp (f.kp s) h
mutual
theorem Rep.kp (k : Kp H H') : ∀ {d : D} {v : V}, Rep K mg H d v → Rep K mg H' d v
  | _, _, .non => .non
  | _, _, .bl b => .bl b
  | _, _, .int i => .int i
  | _, _, .str x => .str x
  | _, _, .tup h r => .tup (SqT.kp k h) (Reps.kp k r)
  | _, _, .fl h r => .fl (SqF.kp k h) (Reps.kp k r)
  | _, _, .ref a => .ref a
  | _, _, .ty n => .ty n
  | _, _, .glo h => .glo h
  | _, _, .ex0 h1 h4 => .ex0 h1 (k.frz _ _ _ h4)
  | _, _, .ex1 h1 h2 h4 h5 r => .ex1 h1 h2 (k.frz _ _ _ h4) (k.xd _ _ h5) (Rep.kp k r)
theorem Reps.kp (k : Kp H H') : ∀ {ds : List D} {vs : List V}, Reps K mg H ds vs → Reps K mg H' ds vs
  | _, _, .nil => .nil
  | _, _, .cons h r => .cons (Rep.kp k h) (Reps.kp k r)
end
theorem DReps.kp (k : Kp H H') {l : List (D × D)} {xs : List (NestedKey × Addr × Value)} (h : DReps K mg H l xs) : DReps K mg H' l xs := by
  induction h with
  | nil => exact .nil
  | cons h1 h2 h3 h4 _ ih => exact .cons h1 (h2.kp k) (h3.kp k) h4 ih
theorem SReps.kp (k : Kp H H') {l : List (Str × D)} {xs : List (Key × V)} (h : SReps K mg H l xs) : SReps K mg H' l xs := by
  induction h with
  | nil => exact .nil
  | cons h3 _ ih => exact .cons (h3.kp k) ih
theorem FReps.kp (k : Kp H H') {l : List (Str × D)} {xs : List (Str × V)} (h : FReps K mg H l xs) : FReps K mg H' l xs := by
  induction h with
  | nil => exact .nil
  | cons h3 _ ih => exact .cons (h3.kp k) ih
theorem OkO.kp (k : Kp H H') {a : Addr} {o : MO} (h : OkO K mg H a o) (e : H' a = H a) : OkO K mg H' a o := by
  cases o with
  | lst l => obtain ⟨vs, q, r⟩ := h; exact ⟨vs, e.trans q, r.kp k⟩
  | dct ep l => obtain ⟨vs, q, r⟩ := h; exact ⟨vs, e.trans q, r.kp k⟩
  | dcs l => obtain ⟨vs, q, r⟩ := h; exact ⟨vs, e.trans q, r.kp k⟩
  | ins c l => obtain ⟨C, dx, vs, g, q, r⟩ := h; exact ⟨C, dx, vs, g, e.trans q, r.kp k⟩
theorem Rep.fm (s : Sim K mg H S) (f : Fm S H S' H') {d : D} {v : V} (h : Rep K mg H d v) : Rep K mg H' d v := h.kp (f.kp s)
theorem Reps.fm (s : Sim K mg H S) (f : Fm S H S' H') {d : List D} {v : List V} (h : Reps K mg H d v) : Reps K mg H' d v := h.kp (f.kp s)
theorem DReps.fm (s : Sim K mg H S) (f : Fm S H S' H') {l : List (D × D)} {xs : List (NestedKey × Addr × Value)} (h : DReps K mg H l xs) : DReps K mg H' l xs := h.kp (f.kp s)
theorem SReps.fm (s : Sim K mg H S) (f : Fm S H S' H') {l : List (Str × D)} {xs : List (Key × V)} (h : SReps K mg H l xs) : SReps K mg H' l xs := h.kp (f.kp s)
theorem FReps.fm (s : Sim K mg H S) (f : Fm S H S' H') {l : List (Str × D)} {xs : List (Str × V)} (h : FReps K mg H l xs) : FReps K mg H' l xs := h.kp (f.kp s)
theorem OkO.fm (s : Sim K mg H S) (f : Fm S H S' H') {a : Addr} {o : MO} (h : OkO K mg H a o) (e : H' a = H a) : OkO K mg H' a o := h.kp (f.kp s) e
theorem EnvR.fm {ρ : En} {σ : L2.St} (s : Sim K mg H S) (f : Fm S H S' H') (h : EnvR K mg H ρ σ) : EnvR K mg H' ρ σ :=
  ⟨h.1, fun i d e => let ⟨v, q, r⟩ := h.2 i d e; ⟨v, q, r.fm s f⟩⟩
theorem XR.fm {x : Xn} {cls : Value} {d : Option Addr} (s : Sim K mg H S) (f : Fm S H S' H') (h : XR K mg H x cls d) : XR K mg H' x cls d := by
  obtain ⟨h1, h2⟩ := h
  refine ⟨h1, ?_⟩
  obtain ⟨c, arg⟩ := x
  cases arg with
  | none => exact h2
  | some q =>
    obtain ⟨fl, dv⟩ := q
    obtain ⟨hf, dd, v, e, hd, r⟩ := h2
    exact ⟨hf, dd, v, e, (f dd _ hd (s.xd hd)).1, r.fm s f⟩
theorem Reps.length : ∀ {ds : List D} {vs : List V}, Reps K mg H ds vs → ds.length = vs.length
  | _, _, .nil => rfl
  | _, _, .cons _ r => by simp [Reps.length r]
theorem Reps.get : ∀ {ds : List D} {vs : List V} {i : Nat} {d : D}, Reps K mg H ds vs → ds[i]? = some d → ∃ v, vs[i]? = some v ∧ Rep K mg H d v
  | _, _, _, _, .nil, e => by simp at e
  | _, _, 0, _, .cons h _, e => by simp at e; subst e; exact ⟨_, rfl, h⟩
  | _, _, i + 1, d, .cons _ r, e => by
    obtain ⟨v, h1, h2⟩ := Reps.get (i := i) (d := d) r (by simpa using e)
    exact ⟨v, by simpa using h1, h2⟩
theorem Reps.getV : ∀ {ds : List D} {vs : List V} {i : Nat} {v : V}, Reps K mg H ds vs → vs[i]? = some v → ∃ d, ds[i]? = some d ∧ Rep K mg H d v
  | _, _, _, _, .nil, e => by simp at e
  | _, _, 0, _, .cons h _, e => by simp at e; subst e; exact ⟨_, rfl, h⟩
  | _, _, i + 1, v, .cons _ r, e => by
    obtain ⟨d, h1, h2⟩ := Reps.getV (i := i) (v := v) r (by simpa using e)
    exact ⟨d, by simpa using h1, h2⟩
theorem Reps.append : ∀ {ds es : List D} {vs us : List V}, Reps K mg H ds vs → Reps K mg H es us → Reps K mg H (ds ++ es) (vs ++ us)
  | _, _, _, _, .nil, s => s
  | _, _, _, _, .cons h r, s => .cons h (Reps.append r s)
theorem Reps.take : ∀ {ds : List D} {vs : List V} (n : Nat), Reps K mg H ds vs → Reps K mg H (ds.take n) (vs.take n)
  | _, _, 0, _ => .nil
  | _, _, _ + 1, .nil => .nil
  | _, _, n + 1, .cons h r => .cons h (Reps.take n r)
theorem Reps.drop : ∀ {ds : List D} {vs : List V} (n : Nat), Reps K mg H ds vs → Reps K mg H (ds.drop n) (vs.drop n)
  | _, _, 0, r => r
  | _, _, _ + 1, .nil => .nil
  | _, _, n + 1, .cons _ r => Reps.drop n r
theorem Reps.set {d : D} {v : V} (h : Rep K mg H d v) : ∀ {ds : List D} {vs : List V} (i : Nat), Reps K mg H ds vs → Reps K mg H (ds.set i d) (vs.set i v)
  | _, _, _, .nil => .nil
  | _, _, 0, .cons _ r => .cons h r
  | _, _, i + 1, .cons q r => .cons q (Reps.set h i r)
theorem Reps.rep {ds : List D} {vs : List V} (h : Reps K mg H ds vs) : ∀ k : Nat, Reps K mg H (List.replicate k ds).flatten (List.replicate k vs).flatten
  | 0 => .nil
  | k + 1 => by
    rw [List.replicate_succ, List.replicate_succ, List.flatten_cons, List.flatten_cons]
    exact Reps.append h (Reps.rep h k)
theorem Reps.one {d : D} {v : V} (h : Rep K mg H d v) : Reps K mg H [d] [v] := .cons h .nil
theorem Reps.reverse : ∀ {ds : List D} {vs : List V}, Reps K mg H ds vs → Reps K mg H ds.reverse vs.reverse
  | _, _, .nil => .nil
  | _, _, .cons h r => by
    rw [List.reverse_cons, List.reverse_cons]
    exact Reps.append (Reps.reverse r) (Reps.one h)
theorem Reps.dropLast {ds : List D} {vs : List V} (h : Reps K mg H ds vs) : Reps K mg H ds.dropLast vs.dropLast := by
  rw [List.dropLast_eq_take, List.dropLast_eq_take, h.length]
  exact h.take _
theorem Reps.eraseIdx : ∀ {ds : List D} {vs : List V} (i : Nat), Reps K mg H ds vs → Reps K mg H (ds.eraseIdx i) (vs.eraseIdx i)
  | _, _, _, .nil => .nil
  | _, _, 0, .cons _ r => r
  | _, _, i + 1, .cons h r => .cons h (Reps.eraseIdx i r)
/-- something that no store holds is laid -/
theorem Sim.hid {p : Addr} {o : HO} (s : Sim K mg H S) (h : H p = none) : Fm S H S (upd H p o) := fun a u e n => by
  refine ⟨?_, n⟩
  rw [upd_ne (ne_of_none e h)]
  exact e
theorem Sim.hidS {p : Addr} {o : HO} (s : Sim K mg H S) (h : H p = none) : Sim K mg (upd H p o) S := fun a u e => by
  obtain ⟨q, hq, _⟩ := (s a u e).some
  exact (s a u e).fm s (s.hid h) (upd_ne (ne_of_none hq h))
/-- a new object of the store -/
theorem Sim.newG {p : Addr} {o : MO} {u : HO} (s : Sim K mg H S) (h : H p = none) (k : OkO K mg (upd H p u) p o) :
    Sim K mg (upd H p u) (put S p o) ∧ Fm S H (put S p o) (upd H p u) := by
  refine ⟨fun a v e => ?_, fun a v e n => ?_⟩
  · by_cases ha : a = p
    · subst ha
      rw [put_same] at e
      cases e
      exact k
    · rw [put_ne ha] at e
      exact s.hidS h a v e
  · have ne := ne_of_none e h
    rw [put_ne ne]
    exact s.hid h a v e n
/-- a new list of the store -/
theorem Sim.new {p : Addr} {ds : List D} {vs : List V} (s : Sim K mg H S) (h : H p = none) (r : Reps K mg H ds vs) :
    Sim K mg (upd H p (.lst vs)) (put S p (.lst ds)) ∧ Fm S H (put S p (.lst ds)) (upd H p (.lst vs)) :=
  s.newG h ⟨vs, upd_same, r.fm s (s.hid h)⟩
/-- an object of the store is changed -/
theorem Sim.mutF {p : Addr} {o0 o : MO} {u : HO} (hp : S p = some o0) : Fm S H (put S p o) (upd H p u) := fun a v e n => by
  have ne : a ≠ p := fun z => by rw [z, hp] at n; cases n
  rw [put_ne ne, upd_ne ne]
  exact ⟨e, n⟩
theorem Sim.mutG {p : Addr} {o0 o : MO} {u : HO} (s : Sim K mg H S) (hp : S p = some o0) (k : OkO K mg (upd H p u) p o) : Sim K mg (upd H p u) (put S p o) ∧ Fm S H (put S p o) (upd H p u) := by
  have f : Fm S H (put S p o) (upd H p u) := Sim.mutF hp
  refine ⟨fun a v e => ?_, f⟩
  by_cases ha : a = p
  · subst ha
    rw [put_same] at e
    cases e
    exact k
  · rw [put_ne ha] at e
    exact (s a v e).fm s f (upd_ne ha)
/-- a list of the store is changed -/
theorem Sim.mut {p : Addr} {l ds : List D} {us vs : List V} (s : Sim K mg H S) (hp : S p = some (.lst l)) (r : Reps K mg H ds vs) :
    Sim K mg (upd H p (.lst vs)) (put S p (.lst ds)) ∧ Fm S H (put S p (.lst ds)) (upd H p (.lst vs)) :=
  s.mutG hp ⟨vs, upd_same, r.fm s (Sim.mutF (o := .lst ds) hp)⟩
/-- fewer objects -/
def Sub (S S' : Sto) : Prop := ∀ a o, S a = some o → S' a = some o
theorem Sub.refl : Sub S S := fun _ _ e => e
theorem Sub.trans (h : Sub S S1) (h' : Sub S1 S2) : Sub S S2 := fun a o e => h' a o (h a o e)
theorem Sub.put {p : Addr} {o : MO} (h : S p = none) : Sub S (put S p o) := fun a u e => by
  have ne : a ≠ p := fun z => by rw [z, h] at e; cases e
  rw [put_ne ne]; exact e
theorem Sub.put2 {p : Addr} {o : MO} (h : Sub S S') (n : S p = none) : Sub S (Ow.put S' p o) := fun a u e => by
  have ne : a ≠ p := fun z => by rw [z, n] at e; cases e
  rw [put_ne ne]; exact h a u e
theorem Sub.none (h : Sub S S') {a : Addr} (e : S' a = none) : S a = none := by
  cases q : S a with
  | none => rfl
  | some o => rw [h a o q] at e; cases e
theorem Sim.sub (s : Sim K mg H S') (h : Sub S S') : Sim K mg H S := fun a o e => s a o (h a o e)
theorem Fm.sub (f : Fm S H S2 H') (h : Sub S1 S2) : Fm S H S1 H' := fun a o e n => ⟨(f a o e n).1, h.none (f a o e n).2⟩
theorem EnvR.set {ρ : En} {σ : L2.St} {d : D} {v : V} (h : EnvR K mg H ρ σ) (i : Nat) (r : Rep K mg H d v) : EnvR K mg H (ρ.set i (some d)) (σ.set i (some v)) := by
  refine ⟨by simp [h.1], fun j e q => ?_⟩
  by_cases hij : i = j
  · subst hij
    have hi : i < ρ.length := by
      have := (List.getElem?_eq_some_iff.mp q).1
      simpa using this
    rw [List.getElem?_set_self hi] at q
    cases q
    exact ⟨v, by rw [List.getElem?_set_self (by rw [← h.1]; exact hi)], r⟩
  · rw [List.getElem?_set_ne hij] at q
    rw [List.getElem?_set_ne hij]
    exact h.2 j e q
theorem EnvR.unset {ρ : En} {σ : L2.St} (h : EnvR K mg H ρ σ) (i : Nat) : EnvR K mg H (ρ.set i none) (σ.set i none) := by
  refine ⟨by simp [h.1], fun j e q => ?_⟩
  by_cases hij : i = j
  · subst hij
    have hi : i < ρ.length := by
      have := (List.getElem?_eq_some_iff.mp q).1
      simpa using this
    rw [List.getElem?_set_self hi] at q
    cases q
  · rw [List.getElem?_set_ne hij] at q
    rw [List.getElem?_set_ne hij]
    exact h.2 j e q
end
end Ow

namespace Ow
open PySem PySem.Spec PyProof.Rows L2
def subX (c x : Str) : Bool := c == x || x == "WayError"
/-- classes with an own __init__ -/
def ownI : List Str := ["NoStep", "NoText", "NoCall", "NoKept"]
/-- the field that such a class's __init__ keeps -/
def fldI (c : Str) : Str := if (c == "NoStep") = true then "number" else if (c == "NoText") = true then "part" else if (c == "NoCall") = true then "row" else "name"
def tyL : List String := ["NoneType", "bool", "int", "str", "tuple", "list", "dict"]
mutual
/-- a value that is such data, by what K holds -/
def relD (K : PySem.W.Frag) : Nat → D → Value → Bool
  | _, .non, .none => true
  | _, .bl a, .bool b => decide (a = b)
  | _, .int i, .int j _ => decide (i = j)
  | _, .str x, .str y _ => decide (x = y)
  | n + 1, .tup l, .ref a => (match K.lookup a with
    | some ⟨.type c, _, .seq its _, _⟩ => decide (c = "tuple") && (decide (its.size ≤ sizeLine) && relDs K n l its.toList)
    | _ => false)
  | _, _, _ => false
def relDs (K : PySem.W.Frag) : Nat → List D → List Value → Bool
  | _, [], [] => true
  | n, d :: ds, v :: vs => relD K n d v && relDs K n ds vs
  | _, _, _ => false
end
def valB (K : PySem.W.Frag) (q : Str × D) : Bool := match PySem.W.nsIn K mainGlobals q.1 with
  | some (some u) => relD K 6 q.2 u
  | _ => false
/-- the exceptions' classes -/
def excB (K : PySem.W.Frag) (D : Addr) : Bool := decide (PySem.W.findIn K (.ref D) "__getattribute__" = some (some (.builtin "BaseException.__getattribute__"))) && (decide (PySem.W.findIn K (.ref D) "__getattr__" = some none) && (decide (PySem.W.subIn K (.ref D) (.type "BaseException") = some true) && (PySem.W.hasDictIn K D &&
  (decide (PySem.W.findIn K (.ref D) "__class__" = some (some (.builtin "object.__class__"))) && (decide (PySem.W.specialIn K (.builtin "object.__class__") "__get__" = some (some (.builtin "getset_descriptor.__get__"))) && (decide (PySem.W.takesIn K (.builtin "object.__class__") = some true) && decide (PySem.W.mroIn K D (.type "object") = some true)))))))
/-- a class with its own __init__ -/
def oexB (K : PySem.W.Frag) (C : Addr) : Bool := (match K.lookup C with
  | some ⟨.type c, _, .cls cd, sl⟩ => (match cd.mro, sl.toList with
    | .ref C' :: bm, [_, _, _, _, some (.builtin n), _] => decide (c = "type") && (decide (C' = C) && (decide (n = "ValueError.__new__") && (!cd.hasDel && (cd.hasDict && PySem.HandSPX.refsVE bm))))
    | _, _ => false)
  | _ => false) && (decide (PySem.W.findIn K (.ref C) "__setattr__" = some (some (.builtin "object.__setattr__"))) && (decide (PySem.W.subIn K (.ref C) (.type "BaseException") = some true) && (decide (PySem.W.typeIn K (.ref C) = some (.type "type")) && PySem.W.keepIn K (.ref C))))
def xiB (K : PySem.W.Frag) (c f : Str) : Bool := oexB K (He.ga K c) && (decide (PySem.W.findIn K (.ref (He.ga K c)) "__init__" = some (some (.ref (He.fAd K (c, some "__init__"))))) && (decide (PySem.W.typeIn K (.ref (He.fAd K (c, some "__init__"))) = some (.type "function")) && (decide (PySem.W.findIn K (.ref (He.ga K c)) f = some none) &&
  (PySem.W.readsIn K (He.ga K "WayError") (.type "type") && (decide (PySem.W.specialIn K (.ref (He.ga K "WayError")) "__getattribute__" = some (some (.builtin "type.__getattribute__"))) && ((match PySem.W.findCls K (.ref (He.ga K "WayError")) (.type "type") "__init__" with
  | some (.val (.builtin n)) => decide (n = "ValueError.__init__")
  | _ => false) && ((He.Fa.glo c).ok K && (He.Fa.glo "WayError").ok K)))))))
def xc1 (K : PySem.W.Frag) (xs : List Str) (c : Str) : Bool := (He.Fa.glo c).ok K && (excB K (He.ga K c) && ((xs.all fun y => decide (PySem.W.kitOne K (.ref (He.ga K c)) (.ref (He.ga K y)) = some (subX c y)) && decide (PySem.W.exmOne K (.ref (He.ga K c)) (.ref (He.ga K y)) = some (subX c y))) &&
  (decide (PySem.W.kitOne K (.ref (He.ga K c)) (.type "ValueError") = some true) && ((tyL.all fun T => decide (PySem.W.kitOne K (.type T) (.ref (He.ga K c)) = some false)) && ((ownI.contains c && xiB K c (fldI c)) || (!ownI.contains c && (He.Fa.exc c).ok K))))))
def xcB (K : PySem.W.Frag) (xs : List Str) : Bool := (tyL.all fun T => decide (PySem.W.kitOne K (.type T) (.type "ValueError") = some false)) && xs.all (xc1 K xs)
abbrev AlV : Type := Bool × He.AlD
/-- the addresses looked at: what is read of classes wants cStatics too -/
def asV (g : Addr → Option Obj) (n : Nat) : List Addr := PySem.cStatics :: He.asD g n
def obsV (n : Nat) (fa : List He.Fa) (fn : List He.DefD) (vs : List (Str × D)) (xs : List Str) (g : Addr → Option Obj) : AlV := (vs.all (valB (He.frG g (asV g n))) && xcB (He.frG g (asV g n)) xs, He.obsD fa fn (He.frG g (asV g n)))
def SaysV (fa : List He.Fa) (fn : List He.DefD) (vs : List (Str × D)) (xs : List Str) (K : PySem.W.Frag) : Prop := He.SaysD fa fn K ∧ (vs.all (valB K) && xcB K xs) = true
def hookV (n : Nat) (fa : List He.Fa) (fn : List He.DefD) (vs : List (Str × D)) (xs : List Str) : PySem.W.Hook where
  α := AlV
  obs := fun s => obsV n fa fn vs xs s.heap.get?
  val := fun _ => (true, He.valD fn)
  says := fun _ h => ∃ K : PySem.W.Frag, K.In h ∧ SaysV fa fn vs xs K
  of := fun _ _ e => ⟨_, He.frG_in, congrArg (fun z : AlV => z.2) e, congrArg (fun z : AlV => z.1) e⟩
  keeps := fun _ _ _ ⟨K, hK, c⟩ k => ⟨K, PySem.W.Frag.In.keeps hK k, c⟩
theorem obsV_eq {n : Nat} {fa : List He.Fa} {fn : List He.DefD} {vs : List (Str × D)} {xs : List Str} {g : Addr → Option Obj} {s : Shared} (h : ∀ a, g a = s.heap.get? a) : obsV n fa fn vs xs g = (hookV n fa fn vs xs).obs s := by
  have e : g = s.heap.get? := funext h
  rw [e] <;> rfl
theorem obs_all {n : Nat} {g : Addr → Option Obj} : ∀ {cs : List (List He.Fa × List He.DefD)}, (∀ c ∈ cs, He.obsD c.1 c.2 (He.frG g (asV g n)) = He.valD c.2) → He.obsD (cs.map (·.1)).flatten (cs.map (·.2)).flatten (He.frG g (asV g n)) = He.valD (cs.map (·.2)).flatten
  | [], _ => rfl
  | c :: cs, h => by
    have h1 := h c (by simp)
    have h2 := obs_all (n := n) (g := g) (cs := cs) fun d hd => h d (by simp [hd])
    simp only [He.obsD, He.valD, Prod.mk.injEq, Bool.and_eq_true] at h1 h2 ⊢
    simp only [List.map_cons, List.flatten_cons, List.all_append, List.map_append, Bool.and_eq_true]
    obtain ⟨⟨a1, a2⟩, a3⟩ := h1
    obtain ⟨⟨b1, b2⟩, b3⟩ := h2
    exact ⟨⟨⟨a1, b1⟩, a2, b2⟩, by rw [a3, b3]⟩
theorem run_join {st : Option PySem.W.SharedT} {A : PySem.W.SharedT → Bool} {β : Type} {B : PySem.W.SharedT → β} {b : β} {n : Nat} {fa : List He.Fa} {fn : List He.DefD} {vs : List (Str × D)} {xs : List Str} (cs : List (List He.Fa × List He.DefD))
    (h0 : st.map (fun s => (A s, B s, vs.all (valB (He.frG (HandSHeadRun.getT s) (asV (HandSHeadRun.getT s) n))) && xcB (He.frG (HandSHeadRun.getT s) (asV (HandSHeadRun.getT s) n)) xs)) = some (true, b, true))
    (hs : ∀ c ∈ cs, st.map (fun s => He.obsD c.1 c.2 (He.frG (HandSHeadRun.getT s) (asV (HandSHeadRun.getT s) n))) = some (He.valD c.2)) (efa : fa = (cs.map (·.1)).flatten) (efn : fn = (cs.map (·.2)).flatten) :
    st.map (fun s => (A s, B s, obsV n fa fn vs xs (HandSHeadRun.getT s))) = some (true, b, (true, He.valD fn)) := by
  cases st with
  | none => cases h0
  | some s =>
    simp only [Option.map_some, Option.some.injEq, Prod.mk.injEq] at h0 ⊢
    obtain ⟨h1, h2, h3⟩ := h0
    refine ⟨h1, h2, ?_⟩
    unfold obsV
    rw [h3]
    congr 1
    rw [efa, efn]
    exact obs_all fun c hc => by
      have := hs c hc
      simpa using this
end Ow

namespace Ow.K46
open PySem PySem.Spec PyProof.Rows L2
def top (i : Nat) : Stmt := PySem.Challenge.pw_onewithin_k46_steps_of_pairs.main.body.getD i (.Pass ⟨0, 0, 0, 0⟩)
def d_law_put : He.DefD := ⟨("_law_put", none), "_law_put", "_law_put", defArgs (top 44), defBody (top 44), defScope (top 44), [], []⟩
def d_law_has : He.DefD := ⟨("_law_has", none), "_law_has", "_law_has", defArgs (top 47), defBody (top 47), defScope (top 47), [], []⟩
def d_law_heard : He.DefD := ⟨("_law_heard", none), "_law_heard", "_law_heard", defArgs (top 48), defBody (top 48), defScope (top 48), [], []⟩
def d_law_pair_hand : He.DefD := ⟨("_law_pair_hand", none), "_law_pair_hand", "_law_pair_hand", defArgs (top 49), defBody (top 49), defScope (top 49), [], []⟩
def d_law_pair_next : He.DefD := ⟨("_law_pair_next", none), "_law_pair_next", "_law_pair_next", defArgs (top 50), defBody (top 50), defScope (top 50), [], []⟩
def d_law_first_pairs : He.DefD := ⟨("_law_first_pairs", none), "_law_first_pairs", "_law_first_pairs", defArgs (top 51), defBody (top 51), defScope (top 51), [], []⟩
def d_law_take : He.DefD := ⟨("_law_take", none), "_law_take", "_law_take", defArgs (top 42), defBody (top 42), defScope (top 42), [], []⟩
def d_law_spot : He.DefD := ⟨("_law_spot", none), "_law_spot", "_law_spot", defArgs (top 52), defBody (top 52), defScope (top 52), [], []⟩
def d_law_drawn_pair : He.DefD := ⟨("_law_drawn_pair", none), "_law_drawn_pair", "_law_drawn_pair", defArgs (top 53), defBody (top 53), defScope (top 53), [], []⟩
def d_is_kind : He.DefD := ⟨("is_kind", none), "is_kind", "is_kind", defArgs (top 10), defBody (top 10), defScope (top 10), [], []⟩
def d_is_whole : He.DefD := ⟨("is_whole", none), "is_whole", "is_whole", defArgs (top 8), defBody (top 8), defScope (top 8), [], []⟩
def d_is_between : He.DefD := ⟨("is_between", none), "is_between", "is_between", defArgs (top 9), defBody (top 9), defScope (top 9), [], []⟩
def d_is_box : He.DefD := ⟨("is_box", none), "is_box", "is_box", defArgs (top 11), defBody (top 11), defScope (top 11), [], []⟩
def d_are_boxes : He.DefD := ⟨("are_boxes", none), "are_boxes", "are_boxes", defArgs (top 12), defBody (top 12), defScope (top 12), [], []⟩
def d_has_ends : He.DefD := ⟨("has_ends", none), "has_ends", "has_ends", defArgs (top 16), defBody (top 16), defScope (top 16), [], []⟩
def d_is_write : He.DefD := ⟨("is_write", none), "is_write", "is_write", defArgs (top 14), defBody (top 14), defScope (top 14), [], []⟩
def d_are_numbers : He.DefD := ⟨("are_numbers", none), "are_numbers", "are_numbers", defArgs (top 13), defBody (top 13), defScope (top 13), [], []⟩
def d_is_look : He.DefD := ⟨("is_look", none), "is_look", "is_look", defArgs (top 15), defBody (top 15), defScope (top 15), [], []⟩
def d_is_template_look : He.DefD := ⟨("is_template_look", none), "is_template_look", "is_template_look", defArgs (top 22), defBody (top 22), defScope (top 22), [], []⟩
def d_together : He.DefD := ⟨("together", none), "together", "together", defArgs (top 23), defBody (top 23), defScope (top 23), [], []⟩
def d_is_template : He.DefD := ⟨("is_template", none), "is_template", "is_template", defArgs (top 24), defBody (top 24), defScope (top 24), [], []⟩
def d_check_template : He.DefD := ⟨("check_template", none), "check_template", "check_template", defArgs (top 25), defBody (top 25), defScope (top 25), [], []⟩
def d_first_pair : He.DefD := ⟨("first_pair", none), "first_pair", "first_pair", defArgs (top 31), defBody (top 31), defScope (top 31), [], []⟩
def d_has_other : He.DefD := ⟨("has_other", none), "has_other", "has_other", defArgs (top 28), defBody (top 28), defScope (top 28), [], []⟩
def d_is_pair_spot : He.DefD := ⟨("is_pair_spot", none), "is_pair_spot", "is_pair_spot", defArgs (top 29), defBody (top 29), defScope (top 29), [], []⟩
def d_is_pair : He.DefD := ⟨("is_pair", none), "is_pair", "is_pair", defArgs (top 30), defBody (top 30), defScope (top 30), [], []⟩
def d_moved : He.DefD := ⟨("moved", none), "moved", "moved", defArgs (top 32), defBody (top 32), defScope (top 32), [], []⟩
def d_spot_behind : He.DefD := ⟨("spot_behind", none), "spot_behind", "spot_behind", defArgs (top 33), defBody (top 33), defScope (top 33), [], []⟩
def d_write_moves : He.DefD := ⟨("write_moves", none), "write_moves", "write_moves", defArgs (top 35), defBody (top 35), defScope (top 35), [], []⟩
def d_tellable : He.DefD := ⟨("tellable", none), "tellable", "tellable", defArgs (top 34), defBody (top 34), defScope (top 34), [], []⟩
def d_look_moves : He.DefD := ⟨("look_moves", none), "look_moves", "look_moves", defArgs (top 36), defBody (top 36), defScope (top 36), [], []⟩
def d_moves_of : He.DefD := ⟨("moves_of", none), "moves_of", "moves_of", defArgs (top 37), defBody (top 37), defScope (top 37), [], []⟩
def d_pair_steps : He.DefD := ⟨("pair_steps", none), "pair_steps", "pair_steps", defArgs (top 38), defBody (top 38), defScope (top 38), [], []⟩
def d_law_right : He.DefD := ⟨("_law_right", none), "_law_right", "_law_right", defArgs (top 54), defBody (top 54), defScope (top 54), [], []⟩
def d_law_mixed : He.DefD := ⟨("_law_mixed", none), "_law_mixed", "_law_mixed", defArgs (top 40), defBody (top 40), defScope (top 40), [], []⟩
def d_law_pack : He.DefD := ⟨("_law_pack", none), "_law_pack", "_law_pack", defArgs (top 41), defBody (top 41), defScope (top 41), [], []⟩
def d_law_numbers : He.DefD := ⟨("_law_numbers", none), "_law_numbers", "_law_numbers", defArgs (top 43), defBody (top 43), defScope (top 43), [], []⟩
def d_law_template_row : He.DefD := ⟨("_law_template_row", none), "_law_template_row", "_law_template_row", defArgs (top 45), defBody (top 45), defScope (top 45), [], []⟩
def d_law_template : He.DefD := ⟨("_law_template", none), "_law_template", "_law_template", defArgs (top 46), defBody (top 46), defScope (top 46), [], []⟩
def d_law : He.DefD := ⟨("law", none), "law", "law", defArgs (top 55), defBody (top 55), defScope (top 55), [], []⟩
def fn : List He.DefD := [d_law_put, d_law_has, d_law_heard, d_law_pair_hand, d_law_pair_next, d_law_first_pairs, d_law_take, d_law_spot, d_law_drawn_pair, d_is_kind, d_is_whole, d_is_between, d_is_box, d_are_boxes, d_has_ends, d_is_write, d_are_numbers, d_is_look, d_is_template_look, d_together, d_is_template, d_check_template, d_first_pair, d_has_other, d_is_pair_spot, d_is_pair, d_moved, d_spot_behind, d_write_moves, d_tellable, d_look_moves, d_moves_of, d_pair_steps, d_law_right, d_law_mixed, d_law_pack, d_law_numbers, d_law_template_row, d_law_template, d_law]
def fa : List He.Fa := [.glo "_law_put", .glo "_law_has", .glo "_law_heard", .glo "_law_pair_hand", .glo "_law_pair_next", .glo "_law_first_pairs", .glo "_law_take", .glo "_law_spot", .glo "_law_drawn_pair", .glo "is_kind", .glo "is_whole", .glo "is_between", .glo "is_box", .glo "are_boxes", .glo "has_ends", .glo "is_write", .glo "are_numbers", .glo "is_look", .glo "is_template_look", .glo "together", .glo "is_template", .glo "check_template", .glo "first_pair", .glo "has_other", .glo "is_pair_spot", .glo "is_pair", .glo "moved", .glo "spot_behind", .glo "write_moves", .glo "tellable", .glo "look_moves", .glo "moves_of", .glo "pair_steps", .glo "_law_right", .glo "_law_mixed", .glo "_law_pack", .glo "_law_numbers", .glo "_law_template_row", .glo "_law_template", .glo "law", .free "all", .free "any", .free "bool", .free "divmod", .free "enumerate", .free "int", .free "isinstance", .free "len", .free "list", .free "max", .free "min", .free "range", .free "set", .free "sorted", .free "str", .free "sum", .free "tuple", .free "zip"]
def xs : List Str := ["WayError", "NoTemplate", "NoPair"]
def cs : List (Str × D) := [("KINDS", (.tup [(.str "whole"), (.str "either"), (.str "torn")])), ("LEAST_SIZE", (.int 2)), ("MOST_SIZE", (.int 5)), ("WHOM", (.tup [(.str "others"), (.str "lower"), (.str "higher")])), ("MOST_KINDS", (.int 2)), ("MOST_TEMPLATE_ROWS", (.int 8)), ("MOST_TOGETHER", (.int 16)), ("HAVE_OTHER", (.tup [(.tup [(.str "others"), (.str "higher")]), (.tup [(.str "others"), (.str "lower")])]))]
def loose0 : List PySem.Str := ["WayError", "NoTemplate", "NoPair", "KINDS", "LEAST_SIZE", "MOST_SIZE", "is_whole", "is_between", "is_kind", "is_box", "are_boxes", "are_numbers", "is_write", "is_look", "has_ends", "WHOM", "MOST_KINDS", "MOST_TEMPLATE_ROWS", "MOST_TOGETHER", "is_template_look", "together", "is_template", "check_template", "HAVE_OTHER", "has_other", "is_pair_spot", "is_pair", "first_pair", "moved", "spot_behind"]
def loose1 : List PySem.Str := ["tellable", "write_moves", "look_moves", "moves_of", "pair_steps", "_law_mixed", "_law_pack", "_law_take", "_law_numbers", "_law_put", "_law_template_row", "_law_template", "_law_has", "_law_heard", "_law_pair_hand", "_law_pair_next", "_law_first_pairs", "_law_spot", "_law_drawn_pair", "_law_right"]
def loose : List PySem.Str := loose0 ++ loose1
def ch0 : List He.Fa × List He.DefD := ([.glo "_law_put", .glo "_law_has", .glo "_law_heard", .glo "_law_pair_hand", .glo "_law_pair_next", .glo "_law_first_pairs", .glo "_law_take", .glo "_law_spot", .glo "_law_drawn_pair", .glo "is_kind", .glo "is_whole", .glo "is_between", .glo "is_box", .glo "are_boxes", .glo "has_ends", .glo "is_write", .glo "are_numbers", .glo "is_look", .glo "is_template_look", .glo "together", .glo "is_template", .glo "check_template", .glo "first_pair", .glo "has_other", .glo "is_pair_spot", .glo "is_pair", .glo "moved", .glo "spot_behind", .glo "write_moves"], [d_law_put, d_law_has, d_law_heard, d_law_pair_hand, d_law_pair_next, d_law_first_pairs, d_law_take, d_law_spot, d_law_drawn_pair, d_is_kind, d_is_whole, d_is_between, d_is_box, d_are_boxes, d_has_ends, d_is_write, d_are_numbers, d_is_look, d_is_template_look, d_together])
def ch1 : List He.Fa × List He.DefD := ([.glo "tellable", .glo "look_moves", .glo "moves_of", .glo "pair_steps", .glo "_law_right", .glo "_law_mixed", .glo "_law_pack", .glo "_law_numbers", .glo "_law_template_row", .glo "_law_template", .glo "law", .free "all", .free "any", .free "bool", .free "divmod", .free "enumerate", .free "int", .free "isinstance", .free "len", .free "list", .free "max", .free "min", .free "range", .free "set", .free "sorted", .free "str", .free "sum", .free "tuple", .free "zip"], [d_is_template, d_check_template, d_first_pair, d_has_other, d_is_pair_spot, d_is_pair, d_moved, d_spot_behind, d_write_moves, d_tellable, d_look_moves, d_moves_of, d_pair_steps, d_law_right, d_law_mixed, d_law_pack, d_law_numbers, d_law_template_row, d_law_template, d_law])
abbrev R : PySem.W.OpenRow := PySem.W.OpenLaw.row PySem.Challenge.rw_onewithin_k46_steps_of_pairs
abbrev hk : PySem.W.Hook := hookV 4 fa fn cs xs
def ob (s : PySem.W.SharedT) : AlV := obsV 4 fa fn cs xs (HandSHeadRun.getT s)
theorem ob_eq (s : PySem.W.SharedT) : ob s = hk.obs s.abs := obsV_eq (HandSHeadRun.getT_eq s)
section
open PySem PySem.W PySem.Calls PyProof.Rows HandSHeadRun
theorem run0 (w : World) (os : OsState) : (HandSHeadRun.endF (HandSHeadRun.stepQ (HandSHeadRun.denQ HandSHeadRun.tabQ) R.prog w) 40000 R.prog w os).map (fun s => (looksF R.prog (boot_heap w.params) s.abs, seenQ (PySem.W.view R.prog [55]) loose (importedModules R.prog.main.body) (fun s => xlAt (PySem.W.view R.prog [55]) [] s && recOk R.toRowW.records s) s.abs, cs.all (valB (He.frG (HandSHeadRun.getT s) (asV (HandSHeadRun.getT s) 4))) && xcB (He.frG (HandSHeadRun.getT s) (asV (HandSHeadRun.getT s) 4)) xs)) = some (true, openGood (PySem.W.view R.prog [55]) loose, true) := by
  kernel_rfl
theorem runc0 (w : World) (os : OsState) : (HandSHeadRun.endF (HandSHeadRun.stepQ (HandSHeadRun.denQ HandSHeadRun.tabQ) R.prog w) 40000 R.prog w os).map (fun s => He.obsD ch0.1 ch0.2 (He.frG (HandSHeadRun.getT s) (asV (HandSHeadRun.getT s) 4))) = some (He.valD ch0.2) := by
  kernel_rfl
theorem runc1 (w : World) (os : OsState) : (HandSHeadRun.endF (HandSHeadRun.stepQ (HandSHeadRun.denQ HandSHeadRun.tabQ) R.prog w) 40000 R.prog w os).map (fun s => He.obsD ch1.1 ch1.2 (He.frG (HandSHeadRun.getT s) (asV (HandSHeadRun.getT s) 4))) = some (He.valD ch1.2) := by
  kernel_rfl
end
theorem run (w : World) : HandSHeadRun.RunEq R (PySem.W.view R.prog [55]) hk ob 40000 loose w := fun os =>
  run_join [ch0, ch1] (run0 w os) (fun c hc => by
    simp only [List.mem_cons, List.not_mem_nil, or_false] at hc
    rcases hc with rfl | rfl
    · exact runc0 w os
    · exact runc1 w os) rfl rfl
end Ow.K46

namespace L2
open PySem PySem.Spec PyProof.Rows
theorem PE.imp {X : Cx} {e : Expr} {t t' : TE} (h : PE X e t) (i : ∀ σ H Q, t' σ H Q → t σ H Q) : PE X e t' := ⟨fun pins s σ H Q I q => h.run pins s σ H Q I (i σ H Q q)⟩
theorem PT.imp {X : Cx} {e : Expr} {t t' : TT} (h : PT X e t) (i : ∀ σ H Q, t' σ H Q → t σ H Q) : PT X e t' := ⟨fun pins s σ H Q I q => h.run pins s σ H Q I (i σ H Q q)⟩
theorem PW.imp {X : Cx} {e : Expr} {t t' : TT} (h : PW X e t) (i : ∀ σ H Q, t' σ H Q → t σ H Q) : PW X e t' := ⟨fun wh pins s σ H Q I q => h.run wh pins s σ H Q I (i σ H Q q)⟩
theorem PA.imp {X : Cx} {e : List Expr} {t t' : TA} (h : PA X e t) (i : ∀ σ H Q, t' σ H Q → t σ H Q) : PA X e t' := ⟨fun pos pins s σ H Q I q => h.run pos pins s σ H Q I (i σ H Q q)⟩
theorem PS.imp {X : Cx} {e : Stmt} {t t' : TS} (h : PS X e t) (i : ∀ D σ H, t' D σ H → t D σ H) : PS X e t' := ⟨fun pins s σ H D I q => h.run pins s σ H D I (i D σ H q)⟩
theorem PSs.imp {X : Cx} {e : List Stmt} {t t' : TS} (h : PSs X e t) (i : ∀ D σ H, t' D σ H → t D σ H) : PSs X e t' := ⟨fun pins s σ H D I q => h.run pins s σ H D I (i D σ H q)⟩
theorem PI.imp {X : Cx} {tg e : Expr} {t t' : TI} (h : PI X tg e t) (i : ∀ σ H R, t' σ H R → t σ H R) : PI X tg e t' := ⟨fun pins s σ H R I q => h.run pins s σ H R I (i σ H R q)⟩
theorem PG.imp {X : Cx} {e : Expr} {t t' : TG} (h : PG X e t) (i : ∀ v σ H Q, t' v σ H Q → t v σ H Q) : PG X e t' := ⟨fun pins s σ H v u Q I r q => h.run pins s σ H v u Q I r (i v σ H Q q)⟩
theorem PGs.imp {X : Cx} {e : List Expr} {t t' : TGs} (h : PGs X e t) (i : ∀ v σ H Q, t' v σ H Q → t v σ H Q) : PGs X e t' := ⟨fun pins s σ H v u Q I r q => h.run pins s σ H v u Q I r (i v σ H Q q)⟩
/-- the module's names, the world -/
abbrev Cx.gw (X : Cx) : Ow.GW := ⟨X.mg, X.w⟩
end L2
namespace Ow
open PySem PySem.Spec PyProof.Rows L2
abbrev QX := Xn → Sto → Prop
abbrev WG (α : Type) := En → Sto → (α → Sto → Prop) → QX → Prop
abbrev WE := WG D
abbrev WT := WG Bool
abbrev WA := WG (List D)
def Mono {α : Type} (t : WG α) : Prop := ∀ (ρ : En) (S : Sto) (Q Q' : α → Sto → Prop) (E E' : QX), t ρ S Q E → (∀ d S', Q d S' → Q' d S') → (∀ x S', E x S' → E' x S') → t ρ S Q' E'
section
variable {α β : Type} (K : PySem.W.Frag) (mg : GW)
/-- a transformer as the layer's reading -/
def lG (RR : Sto → Hp → α → β → Prop) (W : WX) (t : WG α) : L2.St → Hp → (β → Hp → Prop) → Prop := fun σ H Q => ∃ ρ S, Sim K mg H S ∧ EnvR K mg H ρ σ ∧
  t ρ S (fun a S' => ∀ b H', Sim K mg H' S' → RR S' H' a b → Fm S H S' H' → Q b H') (fun x S' => ∀ cls d H', Sim K mg H' S' → XR K mg H' x cls d → Fm S H S' H' → W cls d σ H')
abbrev lE (W : WX) (t : WE) : TE := lG K mg (fun _ => Rep K mg) W t
abbrev lT (W : WX) (t : WT) : TT := lG K mg (fun _ _ a b => a = b) W t
abbrev lA (W : WX) (t : WA) : TA := lG K mg (fun _ => Reps K mg) W t
end
section
variable {α β : Type} {K : PySem.W.Frag} {mg : GW} {W : WX}
/-- run a part, then go on -/
theorem lG_bind {RR : Sto → Hp → α → β → Prop} {t : WG α} (mt : Mono t) {ρ : En} {S : Sto} {σ : L2.St} {H : Hp} (hS : Sim K mg H S) (hρ : EnvR K mg H ρ σ) {P : α → Sto → Prop} {E : QX} (h : t ρ S P E) {G : β → Hp → Prop}
    (hk : ∀ a S1 b H1, P a S1 → Sim K mg H1 S1 → EnvR K mg H1 ρ σ → RR S1 H1 a b → Fm S H S1 H1 → G b H1)
    (hx : ∀ x S1 cls d H1, E x S1 → Sim K mg H1 S1 → XR K mg H1 x cls d → Fm S H S1 H1 → W cls d σ H1) : lG K mg RR W t σ H G :=
  ⟨ρ, S, hS, hρ, mt _ _ _ _ _ _ h (fun a S1 p b H1 s1 r f => hk a S1 b H1 p s1 (hρ.fm hS f) r f) fun x S1 e cls d H1 s1 r f => hx x S1 cls d H1 e s1 r f⟩
end

def wC (d : D) : WE := fun _ S Q _ => Q d S
def wVar (i : Nat) : WE := fun ρ S Q _ => ∃ d, ρ[i]? = some (some d) ∧ Q d S
theorem mono_C {d : D} : Mono (wC d) := fun _ _ _ _ _ _ h q _ => q _ _ h
theorem mono_Var {i : Nat} : Mono (wVar i) := fun _ _ _ _ _ _ ⟨d, e, h⟩ q _ => ⟨d, e, q _ _ h⟩
/-- two parts, then what the values give -/
abbrev F2 := D → D → Sto → (D → Sto → Prop) → Prop
abbrev F1 := D → Sto → (D → Sto → Prop) → Prop
def MonoF2 (f : F2) : Prop := ∀ d e S Q Q', f d e S Q → (∀ x S', Q x S' → Q' x S') → f d e S Q'
def MonoF1 (f : F1) : Prop := ∀ d S Q Q', f d S Q → (∀ x S', Q x S' → Q' x S') → f d S Q'
def wBin (f : F2) (a b : WE) : WE := fun ρ S Q E => a ρ S (fun d S1 => b ρ S1 (fun e S2 => f d e S2 Q) E) E
def wUn (f : F1) (a : WE) : WE := fun ρ S Q E => a ρ S (fun d S1 => f d S1 Q) E
theorem mono_Bin {f : F2} {a b : WE} (mf : MonoF2 f) (ma : Mono a) (mb : Mono b) : Mono (wBin f a b) := fun ρ S Q Q' E E' h q x =>
  ma _ _ _ _ _ _ h (fun d S1 h1 => mb _ _ _ _ _ _ h1 (fun e S2 h2 => mf _ _ _ _ _ h2 q) x) x
theorem mono_Un {f : F1} {a : WE} (mf : MonoF1 f) (ma : Mono a) : Mono (wUn f a) := fun ρ S Q Q' E E' h q x =>
  ma _ _ _ _ _ _ h (fun d S1 h1 => mf _ _ _ _ h1 q) x
def wNil : WA := fun _ S Q _ => Q [] S
def wCons (a : WE) (b : WA) : WA := fun ρ S Q E => a ρ S (fun d S1 => b ρ S1 (fun ds S2 => Q (d :: ds) S2) E) E
theorem mono_Nil : Mono wNil := fun _ _ _ _ _ _ h q _ => q _ _ h
theorem mono_Cons {a : WE} {b : WA} (ma : Mono a) (mb : Mono b) : Mono (wCons a b) := fun ρ S Q Q' E E' h q x =>
  ma _ _ _ _ _ _ h (fun d S1 h1 => mb _ _ _ _ _ _ h1 (fun e S2 h2 => q _ _ h2) x) x
def LenA (n : Nat) (t : WA) : Prop := ∀ (ρ : En) (S : Sto) (Q : List D → Sto → Prop) (E : QX), t ρ S Q E → t ρ S (fun ds S' => ds.length = n ∧ Q ds S') E
theorem len_Nil : LenA 0 wNil := fun _ _ _ _ h => ⟨rfl, h⟩
theorem len_Cons {n : Nat} {a : WE} {b : WA} (ma : Mono a) (lb : LenA n b) (mb : Mono b) : LenA (n + 1) (wCons a b) := fun ρ S Q E h =>
  ma _ _ _ _ _ _ h (fun d S1 h1 => mb _ _ _ _ _ _ (lb _ _ _ _ h1) (fun ds S2 h2 => ⟨by simp [h2.1], h2.2⟩) fun _ _ z => z) fun _ _ z => z
def wTup (a : WA) : WE := fun ρ S Q E => a ρ S (fun ds S1 => Q (.tup ds) S1) E
theorem mono_Tup {a : WA} (ma : Mono a) : Mono (wTup a) := fun ρ S Q Q' E E' h q x => ma _ _ _ _ _ _ h (fun _ _ h1 => q _ _ h1) x
/-- what a list's making gives -/
def newL (l : List D) (S : Sto) (Q : D → Sto → Prop) : Prop := ∀ p, S p = none → Q (.ref p) (put S p (.lst l))
theorem newL.mono {l : List D} {S : Sto} {Q Q' : D → Sto → Prop} (h : newL l S Q) (q : ∀ x S', Q x S' → Q' x S') : newL l S Q' := fun p n => q _ _ (h p n)
def wLst (a : WA) : WE := fun ρ S Q E => a ρ S (fun ds S1 => newL ds S1 Q) E
theorem mono_Lst {a : WA} (ma : Mono a) : Mono (wLst a) := fun ρ S Q Q' E E' h q x => ma _ _ _ _ _ _ h (fun _ _ h1 => h1.mono q) x

section
variable {X : Cx} {W : WX} {a b c : Expr} {ta tb tc : WE} {pos : Pos} {f : F2} {g : F1}
/-- a two-place rule by values -/
def Says2 (K : PySem.W.Frag) (mg : GW) (r : R2) (f : F2) : Prop :=
  ∀ (d e : D) (v u : V) (S : Sto) (H : Hp) (Q : VK), Sim K mg H S → Rep K mg H d v → Rep K mg H e u →
    f d e S (fun x S' => ∀ y H', Sim K mg H' S' → Rep K mg H' x y → Fm S H S' H' → Q y H') → r v u H Q
def Says1 (K : PySem.W.Frag) (mg : GW) (r : V → Hp → VK → Prop) (f : F1) : Prop :=
  ∀ (d : D) (v : V) (S : Sto) (H : Hp) (Q : VK), Sim K mg H S → Rep K mg H d v →
    f d S (fun x S' => ∀ y H', Sim K mg H' S' → Rep K mg H' x y → Fm S H S' H' → Q y H') → r v H Q
theorem bin_lift {r : R2} (mf : MonoF2 f) (sy : Says2 X.K X.gw r f) (ma : Mono ta) (mb : Mono tb) {σ : L2.St} {H : Hp} {Q : VK} (h : lE X.K X.gw W (wBin f ta tb) σ H Q) : tOp r (lE X.K X.gw W ta) (lE X.K X.gw W tb) σ H Q := by
  obtain ⟨ρ, S, hS, hρ, h⟩ := h
  refine lG_bind ma hS hρ h (fun d S1 v H1 h1 s1 e1 r1 f1 => ?_) fun x S1 cls d H1 h1 s1 r1 f1 => h1 cls d H1 s1 r1 f1
  refine lG_bind mb s1 e1 h1 (fun e S2 u H2 h2 s2 e2 r2 f2 => ?_) fun x S1 cls d H1 h1 s1 r1 f2 => h1 cls d H1 s1 r1 (f1.trans f2)
  refine sy d e v u S2 H2 Q s2 (r1.fm s1 f2) r2 (mf _ _ _ _ _ h2 fun x S3 h3 y H3 s3 r3 f3 => h3 y H3 s3 r3 ((f1.trans f2).trans f3))
theorem pe_bin {op : Operator} {r : R2} (ho : OpR X (binaryOp op) r) (mf : MonoF2 f) (sy : Says2 X.K X.gw r f) (ma : Mono ta) (mb : Mono tb) (ha : PE X a (lE X.K X.gw W ta)) (hb : PE X b (lE X.K X.gw W tb)) :
    PE X (.BinOp a op b pos) (lE X.K X.gw W (wBin f ta tb)) := (pe_op ho ha hb).imp fun _ _ _ h => bin_lift mf sy ma mb h
theorem pe_ixB {r : R2} (hr : IxR X r) (mf : MonoF2 f) (sy : Says2 X.K X.gw r f) (ma : Mono ta) (mb : Mono tb) (ha : PE X a (lE X.K X.gw W ta)) (hb : PE X b (lE X.K X.gw W tb)) (hs : PlainIx b) :
    PE X (.Subscript a b pos) (lE X.K X.gw W (wBin f ta tb)) := (pe_ix hr ha hb hs).imp fun _ _ _ h => bin_lift mf sy ma mb h
theorem un_lift {r : V → Hp → VK → Prop} (mf : MonoF1 g) (sy : Says1 X.K X.gw r g) (ma : Mono ta) {σ : L2.St} {H : Hp} {Q : VK} (h : lE X.K X.gw W (wUn g ta) σ H Q) : tUn r (lE X.K X.gw W ta) σ H Q := by
  obtain ⟨ρ, S, hS, hρ, h⟩ := h
  refine lG_bind ma hS hρ h (fun d S1 v H1 h1 s1 e1 r1 f1 => ?_) fun x S1 cls d H1 h1 s1 r1 f1 => h1 cls d H1 s1 r1 f1
  exact sy d v S1 H1 Q s1 r1 (mf _ _ _ _ h1 fun x S3 h3 y H3 s3 r3 f3 => h3 y H3 s3 r3 (f1.trans f3))
theorem pe_unW {op : UnaryOp} {r : V → Hp → VK → Prop} (ho : UnR X (unaryOp op) r) (mf : MonoF1 g) (sy : Says1 X.K X.gw r g) (ma : Mono ta) (ha : PE X a (lE X.K X.gw W ta)) :
    PE X (.UnaryOp op a pos) (lE X.K X.gw W (wUn g ta)) := (pe_un ho ha).imp fun _ _ _ h => un_lift mf sy ma h
theorem pe_cW {d : D} {v : V} {e : Expr} (h : PE X e (tC v)) (r : ∀ H, Rep X.K X.gw H d v) : PE X e (lE X.K X.gw W (wC d)) := h.imp fun σ H Q q => by
  obtain ⟨ρ, S, hS, hρ, q⟩ := q
  exact q v H hS (r H) Fm.refl
theorem pe_varW {i : Nat} {x : Str} (hN : X.N[i]? = some x) (hv : Vis X.env.scope x) (hd : (x == ("__debug__" : Str)) = false) (hcd : (x == ("__classdict__" : Str)) = false) : PE X (.Name x pos) (lE X.K X.gw W (wVar i)) :=
  (pe_var hN hv hd hcd).imp fun σ H Q q => by
    obtain ⟨ρ, S, hS, hρ, d, e, q⟩ := q
    obtain ⟨v, ev, r⟩ := hρ.2 i d e
    exact ⟨v, ev, q v H hS r Fm.refl⟩
theorem pa_nilW : PA X [] (lA X.K X.gw W wNil) := pa_nil.imp fun σ H Q q => by
  obtain ⟨ρ, S, hS, hρ, q⟩ := q
  exact q [] H hS .nil Fm.refl
theorem pa_consW {e : Expr} {es : List Expr} {te : WE} {t : WA} (me : Mono te) (mt : Mono t) (ha : PE X e (lE X.K X.gw W te)) (hr : PA X es (lA X.K X.gw W t)) (hs : starEach (e :: es) X.env = (false, eval e X.env) :: starEach es X.env) :
    PA X (e :: es) (lA X.K X.gw W (wCons te t)) := (pa_cons ha hr hs).imp fun σ H Q q => by
  obtain ⟨ρ, S, hS, hρ, h⟩ := q
  refine lG_bind me hS hρ h (fun d S1 v H1 h1 s1 e1 r1 f1 => ?_) fun x S1 cls d H1 h1 s1 r1 f1 => h1 cls d H1 s1 r1 f1
  refine lG_bind mt s1 e1 h1 (fun e S2 u H2 h2 s2 e2 r2 f2 => ?_) fun x S1 cls d H1 h1 s1 r1 f2 => h1 cls d H1 s1 r1 (f1.trans f2)
  exact h2 (v :: u) H2 s2 (.cons (r1.fm s1 f2) r2) (f1.trans f2)
/-- a new tuple, a new list -/
theorem new_tup {S : Sto} {H : Hp} {ds : List D} {vs : List V} {Q : VK} (s : Sim X.K X.gw H S) (r : Reps X.K X.gw H ds vs) (q : ∀ y H', Sim X.K X.gw H' S → Rep X.K X.gw H' (.tup ds) y → Fm S H S H' → Q y H') :
    ∀ p, H p = none → Q (.ref p) (upd H p (.tup vs)) := fun p hp => q _ _ (s.hidS hp) (.tup (.of upd_same) (r.fm s (s.hid hp))) (s.hid hp)
theorem new_lst {S : Sto} {H : Hp} {ds : List D} {vs : List V} {Q : VK} (s : Sim X.K X.gw H S) (r : Reps X.K X.gw H ds vs) (q : newL ds S fun x S' => ∀ y H', Sim X.K X.gw H' S' → Rep X.K X.gw H' x y → Fm S H S' H' → Q y H') :
    ∀ p, H p = none → Q (.ref p) (upd H p (.lst vs)) := fun p hp => q p (s.free hp) _ _ (s.new hp r).1 (.ref p) (s.new hp r).2
theorem pe_tupW {es : List Expr} {t : WA} {k : Nat} (mt : Mono t) (h : PA X es (lA X.K X.gw W t)) (hl : es.length ≤ 1000) (hlen : LenA es.length t) :
    PE X (.Tuple es k pos) (lE X.K X.gw W (wTup t)) := (pe_tup h).imp fun σ H Q q => by
  obtain ⟨ρ, S, hS, hρ, h⟩ := q
  refine lG_bind mt hS hρ (hlen _ _ _ _ h) (fun ds S1 vs H1 h1 s1 e1 r1 f1 => ⟨?_, new_tup s1 r1 fun y H' s2 r2 f2 => h1.2 y H' s2 r2 (f1.trans f2)⟩) fun x S1 cls d H1 h1 s1 r1 f1 => h1 cls d H1 s1 r1 f1
  rw [← r1.length, h1.1]
  exact Nat.le_trans hl (by rw [sizeLine_eq]; decide)
theorem pe_lstW {es : List Expr} {t : WA} (mt : Mono t) (h : PA X es (lA X.K X.gw W t)) (hl : es.length ≤ 1000) (hlen : LenA es.length t) :
    PE X (.List es pos) (lE X.K X.gw W (wLst t)) := (pe_lst h).imp fun σ H Q q => by
  obtain ⟨ρ, S, hS, hρ, h⟩ := q
  refine lG_bind mt hS hρ (hlen _ _ _ _ h) (fun ds S1 vs H1 h1 s1 e1 r1 f1 => ⟨?_, new_lst s1 r1 (h1.2.mono fun x S2 q y H' s2 r2 f2 => q y H' s2 r2 (f1.trans f2))⟩) fun x S1 cls d H1 h1 s1 r1 f1 => h1 cls d H1 s1 r1 f1
  rw [← r1.length, h1.1]
  exact Nat.le_trans hl (by rw [sizeLine_eq]; decide)
end
end Ow

namespace Ow
open PySem PySem.Spec PyProof.Rows L2
/-- the items of a list -/
def itemsL (S : Sto) : D → Option (List D)
  | .ref a => match S a with
    | some (.lst l) => some l
    | _ => none
  | .fl l => some l
  | _ => none
/-- the items of a tuple or a list (true: a tuple) -/
def itemsQ (S : Sto) : D → Option (Bool × List D)
  | .tup l => some (true, l)
  | d => (itemsL S d).map fun l => (false, l)
section
variable {K : PySem.W.Frag} {mg : GW} {H : Hp} {S : Sto}
theorem itemsL_ref {a : Addr} {l : List D} (h : itemsL S (.ref a) = some l) : S a = some (.lst l) := by
  unfold itemsL at h
  cases e : S a with
  | none => simp only [e] at h; cases h
  | some o =>
    cases o with
    | lst m => simp only [e] at h; cases h; rfl
    | _ => simp only [e] at h; cases h
theorem rep_items {d : D} {v : V} {l : List D} (s : Sim K mg H S) (r : Rep K mg H d v) (h : itemsL S d = some l) : ∃ a vs, v = .ref a ∧ SqL K H a vs ∧ Reps K mg H l vs := by
  cases r with
  | ref a =>
    obtain ⟨vs, h1, h2⟩ := s a _ (itemsL_ref h)
    exact ⟨a, vs, rfl, .of h1, h2⟩
  | fl hs hr =>
    cases h
    exact ⟨_, _, rfl, hs.sql, hr⟩
  | _ => cases h
theorem rep_itemsQ {d : D} {v : V} {b : Bool} {l : List D} (s : Sim K mg H S) (r : Rep K mg H d v) (h : itemsQ S d = some (b, l)) :
    ∃ a vs, v = .ref a ∧ (if b = true then SqT K H a vs else SqL K H a vs) ∧ Reps K mg H l vs := by
  have key : itemsL S d = some l → b = false → ∃ a vs, v = .ref a ∧ (if b = true then SqT K H a vs else SqL K H a vs) ∧ Reps K mg H l vs := fun h' hb => by
    subst hb
    obtain ⟨a, vs, h1, h2, h3⟩ := rep_items s r h'
    exact ⟨a, vs, h1, by simpa using h2, h3⟩
  cases d with
  | tup m =>
    cases h
    cases r with
    | tup h1 h2 => exact ⟨_, _, rfl, by simpa using h1, h2⟩
  | _ =>
    unfold itemsQ at h
    simp only [Option.map_eq_some_iff] at h
    obtain ⟨m, h1, h2⟩ := h
    cases h2
    exact key h1 rfl
end
theorem list_add_any (l : Addr) (items : Array Value) (n : Nat) (sl : Array (Option Value)) (b : Addr) (items2 : Array Value) (n2 : Nat) (sl2 : Array (Option Value)) (hc0 : items.size + items2.size ≤ sizeLine) :
    Meets (Builtin.«list.__add__» ⟨[.ref l, .ref b], []⟩) (fun _ R s =>
      s.heap.get? l = some { cls := .type "list", dict := none, data := .seq items n, slots := sl } ∧
      s.heap.get? b = some { cls := .type "list", dict := none, data := .seq items2 n2, slots := sl2 } ∧
      R (.ok (.ret (Value.ref s.heap.objs.size))) { s with heap := s.heap.push { cls := Value.type "list", data := Data.seq (items ++ items2) }, toks := s.toks }) :=
  .of_wp fun prog w A R s h => by
    obtain ⟨hp, g, d, tk, os⟩ := s
    obtain ⟨hl, hb, h⟩ := h
    have f1 := AutoSeq1.idx_int
    have f2 := AutoSeq1.sub_tuple_tuple
    have f3 := AutoSeq1.sub_list_list
    have f4 := AutoSeq1.sub_tuple_list
    have f5 := AutoSeq1.sub_list_tuple
    wp_walk using AutoSeq1.wpAny_loadPart' hl, AutoSeq1.wpAny_loadPart' hb
    exact ⟨_, rfl, h⟩
section
variable {X : Cx}
def rCatL (K : PySem.W.Frag) : R2 := fun x y H Q => ∃ l b xs zs, x = .ref l ∧ y = .ref b ∧ SqL K H l xs ∧ SqL K H b zs ∧ xs.length + zs.length ≤ sizeLine ∧
  ∀ p, H p = none → Q (.ref p) (upd H p (.lst (xs ++ zs)))
theorem op_catL : OpR X (binaryOp .Add) (rCatL X.K) := by
  intro pins s σ H x y v u Q I rx ry h
  obtain ⟨l, b, xs, zs, rfl, rfl, h1, h2, hz, q⟩ := h
  cases rx
  cases ry
  obtain ⟨its, r1, ⟨⟨c1, d1, t1, sl1⟩, n1, e1, k1, k2, k3⟩, z1⟩ := I.list h1
  obtain ⟨its2, r2, ⟨⟨c2, d2, t2, sl2⟩, n2, e2, k4, k5, k6⟩, z2⟩ := I.list h2
  simp only at k1 k2 k3 k4 k5 k6
  subst k1 k2 k3 k4 k5 k6
  have hz' : its.toArray.size + its2.toArray.size ≤ sizeLine := by
    rw [List.size_toArray, List.size_toArray, ← r1.length, ← r2.length]
    exact hz
  refine PySem.concat_meets ⟨_, e1, rfl⟩ ⟨_, e2, rfl⟩ noFill_list_add seq_list_add F.slot_list_add F.entry_list_add (F.args_list_add_2 _ _) (list_add_any l its.toArray n1 sl1 b its2.toArray n2 sl2 hz') ⟨e1, e2, ?_⟩
  have ea : its.toArray ++ its2.toArray = (its ++ its2).toArray := by simp
  rw [ea]
  exact ⟨.ref _, _, I.lnew (t' := s.toks) (r1.append r2) (by rw [List.length_append]; exact hz), rfl, q _ I.fresh⟩
end

theorem tuple_mul_once (l : Addr) (items : Array Value) (n : Nat) (dd : Option Addr) (sl : Array (Option Value)) (u : Tok) :
    Meets (Builtin.«tuple.__mul__» ⟨[.ref l, .int 1 u], []⟩) (fun _ R s =>
      s.heap.get? l = some { cls := .type "tuple", dict := dd, data := .seq items n, slots := sl } ∧ R (.ok (.ret (Value.ref l))) s) :=
  .of_wp fun prog w A R s h => by
    obtain ⟨hp, g, d, tk, os⟩ := s
    obtain ⟨hl, h⟩ := h
    have f1 := AutoSeq1.idx_int
    wp_walk using AutoSeq1.wpAny_loadPart' hl
    repeat (first
      | (refine wpAny_ite_true (decide_eq_true (by rw [Bool.or_eq_true]; exact .inr rfl)) ?_; wp_walk using AutoSeq1.wpAny_loadPart' hl))
    all_goals exact ⟨_, rfl, h⟩
section
variable {X : Cx}
def rOnceT (K : PySem.W.Frag) : R2 := fun x y H Q => ∃ l xs, x = .ref l ∧ y = .int 1 ∧ SqT K H l xs ∧ Q (.ref l) H
theorem op_onceT : OpR X (binaryOp .Mult) (rOnceT X.K) := by
  intro pins s σ H x y v u Q I rx ry h
  obtain ⟨l, xs, rfl, rfl, hT, q⟩ := h
  cases rx
  obtain ⟨t, rfl⟩ := ry
  obtain ⟨its, r, ⟨⟨cls, dd, data, sl⟩, ho, hc, n, hd⟩, hs⟩ := I.tuple hT
  simp only at hc hd
  subst hc hd
  exact wpAny_binaryOp_repeat_ref (T := "tuple") (U := "int") (by decide) ⟨_, ho, rfl⟩ (fun s' => typeIs_int s' 1 t) noFill_tuple_mul F.fills_int_mul F.slot_int_rmul repeat_tuple F.slot_int_index.lookup
    (call_meets F.slot_int_rmul (typeIs_int s 1 t) F.entry_int_rmul (F.args_int_rmul_2 _ _) (int_rmul_tuple 1 t l its.toArray n dd sl)
      ⟨ho, rfl, ⟨_, ho, rfl⟩, call_meets F.slot_tuple_mul ⟨_, ho, rfl⟩ F.entry_tuple_mul (F.args_tuple_mul_2 _ _) (tuple_mul_once l its.toArray n dd sl t) ⟨ho, .ref l, H, I, rfl, q⟩⟩)
end

theorem tuple_mul_zero (l : Addr) (items : Array Value) (n : Nat) (dd : Option Addr) (sl : Array (Option Value)) (u : Tok) (hi : items.isEmpty = false) :
    Meets (Builtin.«tuple.__mul__» ⟨[.ref l, .int 0 u], []⟩) (fun _ R s => s.heap.get? l = some { cls := .type "tuple", dict := dd, data := .seq items n, slots := sl } ∧
      R (.ok (.ret (Value.ref s.heap.objs.size))) { s with heap := s.heap.push { cls := Value.type "tuple", data := Data.seq #[] }, toks := s.toks }) :=
  .of_wp fun prog w A R s h => by
    obtain ⟨hp, g, d, tk, os⟩ := s
    obtain ⟨hl, h⟩ := h
    have f1 := AutoSeq1.idx_int
    have c0 : (decide ((0:Int) < -(2 ^ 63)) || decide ((0:Int) ≥ 2 ^ 63)) = false := by decide
    have c1 : (items.isEmpty || (0:Int) == 1) = false := by rw [hi]; rfl
    have c2 : (decide ((0:Int) ≤ 0) || items.isEmpty) = true := by rfl
    have c5 : ¬ (#[] : Array Value).size > sizeLine := by rw [sizeLine_eq]; decide
    wp_walk using wpAny_loadPart' hl
    repeat (first
      | (refine wpAny_ite_false (decide_eq_false (by rw [c0]; exact Bool.false_ne_true)) ?_; wp_walk using wpAny_loadPart' hl)
      | (refine wpAny_ite_false (decide_eq_false (by rw [c1]; exact Bool.false_ne_true)) ?_; wp_walk using wpAny_loadPart' hl)
      | (refine wpAny_ite_true (decide_eq_true c2) ?_; wp_walk using wpAny_loadPart' hl)
      | (refine wpAny_ite_false (decide_eq_false c5) ?_; wp_walk using wpAny_loadPart' hl))
    exact ⟨_, rfl, h⟩
def rZeroT (K : PySem.W.Frag) : R2 := fun x y H Q => ∃ l xs, x = .ref l ∧ y = .int 0 ∧ SqT K H l xs ∧ xs ≠ [] ∧ ∀ p, H p = none → Q (.ref p) (upd H p (.tup []))
section
variable {X : Cx}
theorem op_zeroT : OpR X (binaryOp .Mult) (rZeroT X.K) := by
  intro pins s σ H x y v u Q I rx ry h
  obtain ⟨l, xs, rfl, rfl, hT, hne, q⟩ := h
  cases rx
  obtain ⟨t, rfl⟩ := ry
  obtain ⟨its, r, ⟨⟨cls, dd, data, sl⟩, ho, hc, n, hd⟩, hs⟩ := I.tuple hT
  simp only at hc hd
  subst hc hd
  have hle : its.length = xs.length := r.length.symm
  have hi : its.toArray.isEmpty = false := by
    cases its with
    | nil => exact absurd (List.eq_nil_of_length_eq_zero hle.symm) hne
    | cons a b => rfl
  refine wpAny_binaryOp_repeat_ref (T := "tuple") (U := "int") (by decide) ⟨_, ho, rfl⟩ (fun s' => typeIs_int s' 0 t) noFill_tuple_mul F.fills_int_mul F.slot_int_rmul repeat_tuple F.slot_int_index.lookup
    (call_meets F.slot_int_rmul (typeIs_int s 0 t) F.entry_int_rmul (F.args_int_rmul_2 _ _) (int_rmul_tuple 0 t l its.toArray n dd sl)
      ⟨ho, rfl, ⟨_, ho, rfl⟩, call_meets F.slot_tuple_mul ⟨_, ho, rfl⟩ F.entry_tuple_mul (F.args_tuple_mul_2 _ _) (tuple_mul_zero l its.toArray n dd sl t hi) ⟨ho, ?_⟩⟩)
  refine ⟨.ref s.heap.objs.size, _, I.laid (t' := s.toks) (o := .tup []) (fun b ob q => Heap.get?_push_of_some _ q) (Nat.le_refl _) ?_, rfl, q _ (I.hok.fresh (Nat.le_refl _))⟩
  exact ⟨by decide, [], .nil, IsTup.new _ _⟩
end
end Ow

namespace Ow
open PySem PySem.Spec PyProof.Rows L2
def mulOk (i j : Int) : Prop := (-(2 ^ 64) < i ∧ i < 2 ^ 64) ∨ (-(2 ^ 64) < j ∧ j < 2 ^ 64) ∨ (i.natAbs < 2 ^ 4000 ∧ j.natAbs < 2 ^ 4000)
def repD (k : Int) (l : List D) : List D := (List.replicate k.toNat l).flatten
def addF : F2 := fun d e S Q => match d, e with
  | .int i, .int j => Q (.int (i + j)) S
  | .str a, .str b => a.length + b.length ≤ sizeLine ∧ Q (.str (a ++ b)) S
  | .tup a, .tup b => a.length + b.length ≤ sizeLine ∧ Q (.tup (a ++ b)) S
  | d, e => ∃ l m, itemsL S d = some l ∧ itemsL S e = some m ∧ l.length + m.length ≤ sizeLine ∧ newL (l ++ m) S Q
def subF : F2 := fun d e S Q => ∃ i j, d = .int i ∧ e = .int j ∧ Q (.int (i - j)) S
def mulF : F2 := fun d e S Q => match d, e with
  | .int i, .int j => mulOk i j ∧ Q (.int (i * j)) S
  | .tup l, .int k => l ≠ [] ∧ 0 ≤ k ∧ k ≤ 1000 ∧ l.length ≤ 1000 ∧ Q (.tup (repD k l)) S
  | .ref a, .int k => ∃ l, S a = some (.lst l) ∧ 0 ≤ k ∧ k ≤ 1000 ∧ l.length ≤ 1000 ∧ newL (repD k l) S Q
  | _, _ => False
def fdivF : F2 := fun d e S Q => ∃ i j, d = .int i ∧ e = .int j ∧ (0 < j ∧ j < 10 ^ 100) ∧ Q (.int (i / j)) S
def modF : F2 := fun d e S Q => ∃ i j, d = .int i ∧ e = .int j ∧ 0 < j ∧ Q (.int (i % j)) S
def powF : F2 := fun d e S Q => ∃ i j, d = .int i ∧ e = .int j ∧ (0 ≤ j ∧ j ≤ 1000000 ∧ i.natAbs < 2 ^ 64) ∧ Q (.int (i ^ j.toNat)) S
def shlF : F2 := fun d e S Q => ∃ i j, d = .int i ∧ e = .int j ∧ (0 ≤ j ∧ j ≤ 1000000 ∧ i.natAbs < 2 ^ 64) ∧ Q (.int (i * 2 ^ j.toNat)) S
def shrF : F2 := fun d e S Q => ∃ i j, d = .int i ∧ e = .int j ∧ 0 ≤ j ∧ Q (.int (i / 2 ^ j.toNat)) S
def bandF : F2 := fun d e S Q => ∃ i j, d = .int i ∧ e = .int j ∧ Q (.int (Builtin.bitAnd i j)) S
def negF : F1 := fun d S Q => ∃ i, d = .int i ∧ Q (.int (-i)) S
theorem m_add : MonoF2 addF := fun d e S Q Q' h q => by
  unfold addF at h ⊢
  split at h
  · exact q _ _ h
  · exact ⟨h.1, q _ _ h.2⟩
  · exact ⟨h.1, q _ _ h.2⟩
  · obtain ⟨l, m, a, b, c, h⟩ := h
    exact ⟨l, m, a, b, c, h.mono q⟩
theorem m_mul : MonoF2 mulF := fun d e S Q Q' h q => by
  unfold mulF at h ⊢
  split at h
  · exact ⟨h.1, q _ _ h.2⟩
  · obtain ⟨a, b, c, e, h⟩ := h; exact ⟨a, b, c, e, q _ _ h⟩
  · obtain ⟨l, a, b, c, e, h⟩ := h; exact ⟨l, a, b, c, e, h.mono q⟩
  · exact h
theorem m_sub : MonoF2 subF := fun d e S Q Q' ⟨i, j, a, b, h⟩ q => ⟨i, j, a, b, q _ _ h⟩
theorem m_fdiv : MonoF2 fdivF := fun d e S Q Q' ⟨i, j, a, b, c, h⟩ q => ⟨i, j, a, b, c, q _ _ h⟩
theorem m_mod : MonoF2 modF := fun d e S Q Q' ⟨i, j, a, b, c, h⟩ q => ⟨i, j, a, b, c, q _ _ h⟩
theorem m_pow : MonoF2 powF := fun d e S Q Q' ⟨i, j, a, b, c, h⟩ q => ⟨i, j, a, b, c, q _ _ h⟩
theorem m_shl : MonoF2 shlF := fun d e S Q Q' ⟨i, j, a, b, c, h⟩ q => ⟨i, j, a, b, c, q _ _ h⟩
theorem m_shr : MonoF2 shrF := fun d e S Q Q' ⟨i, j, a, b, c, h⟩ q => ⟨i, j, a, b, c, q _ _ h⟩
theorem m_band : MonoF2 bandF := fun d e S Q Q' ⟨i, j, a, b, h⟩ q => ⟨i, j, a, b, q _ _ h⟩
theorem m_neg : MonoF1 negF := fun d S Q Q' ⟨i, a, h⟩ q => ⟨i, a, q _ _ h⟩
section
variable {X : Cx}
theorem Rep.intV {K : PySem.W.Frag} {mg : GW} {H : Hp} {i : Int} {v : V} (r : Rep K mg H (.int i) v) : v = .int i := by cases r; rfl
theorem Rep.strV {K : PySem.W.Frag} {mg : GW} {H : Hp} {i : Str} {v : V} (r : Rep K mg H (.str i) v) : v = .str i := by cases r; rfl
theorem Rep.blV {K : PySem.W.Frag} {mg : GW} {H : Hp} {i : Bool} {v : V} (r : Rep K mg H (.bl i) v) : v = .bl i := by cases r; rfl
theorem Rep.tupV {K : PySem.W.Frag} {mg : GW} {H : Hp} {l : List D} {v : V} (r : Rep K mg H (.tup l) v) : ∃ a vs, v = .ref a ∧ SqT K H a vs ∧ Reps K mg H l vs := by
  cases r with
  | tup h1 h2 => exact ⟨_, _, rfl, h1, h2⟩
/-- an answer that leaves the store -/
theorem ans {K : PySem.W.Frag} {mg : GW} {S : Sto} {H : Hp} {Q : VK} {d : D} {v : V} (s : Sim K mg H S) (r : Rep K mg H d v) (h : ∀ y H', Sim K mg H' S → Rep K mg H' d y → Fm S H S H' → Q y H') : Q v H := h v H s r Fm.refl
theorem says_int {C : Int → Int → Prop} {g : Int → Int → D} {h : Int → Int → V} (hg : ∀ i j H, Rep X.K X.gw H (g i j) (h i j)) :
    Says2 X.K X.gw (rI C h) (fun d e S Q => ∃ i j, d = .int i ∧ e = .int j ∧ C i j ∧ Q (g i j) S) := fun d e v u S H Q s r1 r2 q => by
  obtain ⟨i, j, rfl, rfl, c, q⟩ := q
  exact ⟨i, j, r1.intV, r2.intV, c, ans s (hg i j H) q⟩
theorem says_int0 {g : Int → Int → D} {h : Int → Int → V} (hg : ∀ i j H, Rep X.K X.gw H (g i j) (h i j)) :
    Says2 X.K X.gw (rI0 h) (fun d e S Q => ∃ i j, d = .int i ∧ e = .int j ∧ Q (g i j) S) := fun d e v u S H Q s r1 r2 q => by
  obtain ⟨i, j, rfl, rfl, q⟩ := q
  exact ⟨i, j, r1.intV, r2.intV, ans s (hg i j H) q⟩
theorem op_addA : OpR X (binaryOp .Add) (fun x y H Q => rI0 (fun i j => .int (i + j)) x y H Q ∨ (∃ i j, x = .str i ∧ y = .str j ∧ i.length + j.length ≤ sizeLine ∧ Q (.str (i ++ j)) H) ∨ rCatA X.K x y H Q ∨ rCatL X.K x y H Q) :=
  OpR.or op_add (OpR.or op_add_str (OpR.or op_catA op_catL))
theorem says_cat {d e : D} {v u : V} {S : Sto} {H : Hp} {Q : VK} {l m : List D} (s : Sim X.K X.gw H S) (r1 : Rep X.K X.gw H d v) (r2 : Rep X.K X.gw H e u) (h1 : itemsL S d = some l) (h2 : itemsL S e = some m) (hz : l.length + m.length ≤ sizeLine)
    (q : newL (l ++ m) S fun x S' => ∀ y H', Sim X.K X.gw H' S' → Rep X.K X.gw H' x y → Fm S H S' H' → Q y H') : rCatL X.K v u H Q := by
  obtain ⟨a, xs, rfl, p1, t1⟩ := rep_items s r1 h1
  obtain ⟨b, ys, rfl, p2, t2⟩ := rep_items s r2 h2
  exact ⟨a, b, xs, ys, rfl, rfl, p1, p2, by rw [← t1.length, ← t2.length]; exact hz, new_lst s (t1.append t2) q⟩
theorem says_add : Says2 X.K X.gw (fun x y H Q => rI0 (fun i j => .int (i + j)) x y H Q ∨ (∃ i j, x = .str i ∧ y = .str j ∧ i.length + j.length ≤ sizeLine ∧ Q (.str (i ++ j)) H) ∨ rCatA X.K x y H Q ∨ rCatL X.K x y H Q) addF := fun d e v u S H Q s r1 r2 q => by
  unfold addF at q
  split at q
  · exact .inl ⟨_, _, r1.intV, r2.intV, ans s (.int _) q⟩
  · exact .inr (.inl ⟨_, _, r1.strV, r2.strV, q.1, ans s (.str _) q.2⟩)
  · rename_i a b
    obtain ⟨p1, vs, rfl, h1, t1⟩ := r1.tupV
    obtain ⟨p2, us, rfl, h2, t2⟩ := r2.tupV
    obtain ⟨hz, q⟩ := q
    refine .inr (.inr (.inl ⟨p1, p2, vs, us, rfl, rfl, h1, h2, by rw [← t1.length, ← t2.length]; exact hz, ?_⟩))
    refine ⟨fun z => ?_, fun _ z => ?_, fun _ _ => new_tup s (t1.append t2) q⟩
    · subst z
      cases t1
      exact ans s (.tup h2 t2) q
    · subst z
      cases t2
      rw [List.append_nil] at q
      exact ans s (.tup h1 t1) q
  · obtain ⟨l, m, h1, h2, hz, q⟩ := q
    exact .inr (.inr (.inr (says_cat s r1 r2 h1 h2 hz q)))
theorem says_sub : Says2 X.K X.gw (rI0 fun i j => .int (i - j)) subF := says_int0 fun i j H => .int _
theorem says_fdiv : Says2 X.K X.gw (rI CDivW fun i j => .int (i / j)) fdivF := fun d e v u S H Q s r1 r2 q => by
  obtain ⟨i, j, rfl, rfl, c, q⟩ := q
  refine ⟨i, j, r1.intV, r2.intV, wide_div c.1 (b := 400) ?_ (by decide) (by decide), ans s (.int _) q⟩
  have h1 : j.natAbs < 10 ^ 100 := by
    have h2 := c.1
    have h3 := c.2
    omega
  exact Nat.lt_trans h1 (by decide +kernel)
theorem says_mod : Says2 X.K X.gw (rI (fun _ j => 0 < j) fun i j => .int (i % j)) modF := says_int fun i j H => .int _
theorem says_pow : Says2 X.K X.gw (rI CPow fun i j => .int (i ^ j.toNat)) powF := says_int (C := CPow) (g := fun i j => .int (i ^ j.toNat)) fun i j H => .int _
theorem says_shl : Says2 X.K X.gw (rI CPow fun i j => .int (i * 2 ^ j.toNat)) shlF := says_int (C := CPow) (g := fun i j => .int (i * 2 ^ j.toNat)) fun i j H => .int _
theorem says_shr : Says2 X.K X.gw (rI (fun _ j => 0 ≤ j) fun i j => .int (i / 2 ^ j.toNat)) shrF := says_int (C := fun _ j => 0 ≤ j) (g := fun i j => .int (i / 2 ^ j.toNat)) fun i j H => .int _
theorem says_band : Says2 X.K X.gw (rI0 fun i j => .int (Builtin.bitAnd i j)) bandF := says_int0 fun i j H => .int _
theorem says_neg : Says1 X.K X.gw (rU fun i => .int (-i)) negF := fun d v S H Q s r q => by
  obtain ⟨i, rfl, q⟩ := q
  exact ⟨i, r.intV, ans s (.int _) q⟩
theorem op_mulA : OpR X (binaryOp .Mult) (fun x y H Q => (rI CMul (fun i j => .int (i * j)) x y H Q ∨ rI CMulX (fun i j => .int (i * j)) x y H Q) ∨ ((rRepT X.K x y H Q ∨ rOnceT X.K x y H Q) ∨ rZeroT X.K x y H Q) ∨ rRep x y H Q) :=
  OpR.or (OpR.or op_mul op_mulX) (OpR.or (OpR.or (OpR.or op_repT op_onceT) op_zeroT) op_rep)
theorem says_mul : Says2 X.K X.gw (fun x y H Q => (rI CMul (fun i j => .int (i * j)) x y H Q ∨ rI CMulX (fun i j => .int (i * j)) x y H Q) ∨ ((rRepT X.K x y H Q ∨ rOnceT X.K x y H Q) ∨ rZeroT X.K x y H Q) ∨ rRep x y H Q) mulF := fun d e v u S H Q s r1 r2 q => by
  unfold mulF at q
  split at q
  · rename_i i j
    obtain ⟨c, q⟩ := q
    refine .inl ?_
    rcases c with c | c | c
    · exact .inl ⟨i, j, r1.intV, r2.intV, .inl c, ans s (.int _) q⟩
    · exact .inl ⟨i, j, r1.intV, r2.intV, .inr c, ans s (.int _) q⟩
    · exact .inr ⟨i, j, r1.intV, r2.intV, mulx_ok c.1 c.2 (by decide), ans s (.int _) q⟩
  · rename_i l k
    obtain ⟨h0, h1, h2, h3, q⟩ := q
    obtain ⟨p1, vs, rfl, g1, t1⟩ := r1.tupV
    refine .inr (.inl ?_)
    by_cases hk0 : k = 0
    · subst hk0
      refine .inr ⟨p1, vs, rfl, r2.intV, g1, fun z => h0 ?_, new_tup s .nil q⟩
      have := t1.length
      rw [z] at this
      exact List.eq_nil_of_length_eq_zero this
    by_cases hk : k = 1
    · subst hk
      refine .inl (.inr ⟨p1, vs, rfl, r2.intV, g1, ?_⟩)
      have e : repD 1 l = l := by
        show (List.replicate 1 l).flatten = l
        simp
      rw [e] at q
      exact ans s (.tup g1 t1) q
    · refine .inl (.inl ⟨p1, k, vs, rfl, r2.intV, g1, fun z => h0 ?_, by omega, h2, by rw [← t1.length]; exact h3, new_tup s (t1.rep k.toNat) q⟩)
      have := t1.length
      rw [z] at this
      exact List.eq_nil_of_length_eq_zero this
  · rename_i a k
    obtain ⟨l, h0, h1, h2, h3, q⟩ := q
    obtain ⟨vs, g1, t1⟩ := s a _ h0
    cases r1
    refine .inr (.inr ⟨a, k, vs, rfl, r2.intV, g1, by omega, by omega, ?_, new_lst s (t1.rep k.toNat) q⟩)
    rw [← t1.length, sizeLine_eq]
    have a1 : l.length * k.toNat ≤ 1000 * 1000 := Nat.mul_le_mul h3 (by omega)
    omega
  · exact q.elim
end
end Ow

namespace Ow
open PySem PySem.Spec PyProof.Rows L2
section
variable (K : PySem.W.Frag) (H : Hp)
mutual
/-- a value that is a key -/
inductive KeyV : NestedKey → V → Prop
  | non : KeyV .none .non
  | bl (b : Bool) : KeyV (.num (if b then 1 else 0)) (.bl b)
  | int (i : Int) : KeyV (.num i) (.int i)
  | str (x : Str) : KeyV (.text x) (.str x)
  | tup {a : Addr} {ks : List NestedKey} {vs : List V} : SqT K H a vs → KeyVs ks vs → KeyV (.tup ks) (.ref a)
inductive KeyVs : List NestedKey → List V → Prop
  | nil : KeyVs [] []
  | cons {k : NestedKey} {v : V} {ks : List NestedKey} {vs : List V} : KeyV k v → KeyVs ks vs → KeyVs (k :: ks) (v :: vs)
end
end
section
variable {K : PySem.W.Frag} {mg : GW} {H : Hp} {X : Cx} {pins : List (Addr × Obj)} {σ : L2.St} {s : Shared}
mutual
theorem Rep.key : ∀ {d : D} {v : V} {n : NestedKey}, Rep K mg H d v → keyN d = some n → KeyV K H n v
  | _, _, _, .non, h => by simp only [keyN] at h; cases h; exact .non
  | _, _, _, .bl b, h => by simp only [keyN] at h; cases h; exact .bl b
  | _, _, _, .int b, h => by simp only [keyN] at h; cases h; exact .int b
  | _, _, _, .str b, h => by simp only [keyN] at h; cases h; exact .str b
  | _, _, _, .tup h1 h2, h => by
    simp only [keyN, Option.map_eq_some_iff] at h
    obtain ⟨ks, h3, rfl⟩ := h
    exact .tup h1 (Reps.key h2 h3)
  | _, _, _, .fl _ _, h => by simp [keyN] at h
  | _, _, _, .ref _, h => by simp [keyN] at h
  | _, _, _, .ty _, h => by simp [keyN] at h
  | _, _, _, .glo _, h => by simp [keyN] at h
  | _, _, _, .ex0 _ _, h => by simp [keyN] at h
  | _, _, _, .ex1 _ _ _ _ _, h => by simp [keyN] at h
theorem Reps.key : ∀ {d : List D} {v : List V} {n : List NestedKey}, Reps K mg H d v → keyNs d = some n → KeyVs K H n v
  | _, _, _, .nil, h => by simp only [keyNs] at h; cases h; exact .nil
  | _, _, _, .cons h1 h2, h => by
    simp only [keyNs, Option.bind_eq_some_iff, Option.map_eq_some_iff] at h
    obtain ⟨k, h3, ks, h4, rfl⟩ := h
    exact .cons (Rep.key h1 h3) (Reps.key h2 h4)
end
mutual
theorem KeyV.is (I : Inv X pins σ H s) : ∀ {n : NestedKey} {v : V} {u : Value}, KeyV X.K H n v → RelV v u → NestedIs s.heap n u
  | _, _, u, .non, r => by cases (show u = Value.none from r); exact .none
  | _, _, u, .bl b, r => by cases (show u = Value.bool b from r); exact .bool rfl
  | _, _, u, .int i, r => by obtain ⟨t, e⟩ := (show ∃ t, u = Value.int i t from r); cases e; exact .int i t
  | _, _, u, .str x, r => by obtain ⟨t, e⟩ := (show ∃ t, u = Value.str x t from r); cases e; exact .text x t
  | _, _, u, .tup (a := a) h ks, r => by
    cases (show u = Value.ref a from r)
    obtain ⟨its, rv, ⟨o, h1, h2, n, h3⟩, _⟩ := I.tuple h
    exact .tup h1 h2 h3 (by simpa using KeyVs.is I ks rv)
theorem KeyVs.is (I : Inv X pins σ H s) : ∀ {n : List NestedKey} {v : List V} {u : List Value}, KeyVs X.K H n v → Vals v u → NestedAll s.heap n u
  | _, _, _, .nil, r => by cases r; exact .nil
  | _, _, _, .cons h1 h2, r => by
    cases r with
    | cons r1 r2 => exact .cons (KeyV.is I h1 r1) (KeyVs.is I h2 r2)
end
/-- all keys stand -/
def KeysV (K : PySem.W.Frag) (H : Hp) (xs : List (NestedKey × Addr × Value)) : Prop := ∀ x ∈ xs, KeyV K H x.1 (.ref x.2.1)
theorem dct_of {a : Addr} {ep : Nat} {xs : List (NestedKey × Addr × Value)} (I : Inv X pins σ H s) (e : H a = some (DctO X.w a ep xs)) (k : KeysV X.K H xs) : (a == sysModules) = false ∧ xs.length ≤ sizeLine ∧ (∀ x ∈ xs, x.1.depth ≤ 8) ∧ s.heap.DictOfH (nestedKind X.prog X.w) a xs := by
  obtain ⟨⟨h1, h2, h3, h4, o, es, h5, h6, h7, h8⟩, _⟩ := (show ObjOk X.prog X.w H s.heap a (DctO X.w a ep xs) from I.hok a _ e)
  refine ⟨h1, h2, h3, o, es, ep, h5, h6, h7, h8, fun x hx => ⟨?_, h3 x hx⟩, h4⟩
  exact (k x hx).is I rfl
theorem dctO_ok {h : Heap} {a : Addr} {xs : List (NestedKey × Addr × Value)} {P : Program} {w : World} (h1 : (a == sysModules) = false) (h2 : xs.length ≤ sizeLine) (h3 : ∀ x ∈ xs, x.1.depth ≤ 8) (d : h.DictOfH (nestedKind P w) a xs) : ∃ ep, ∀ H : Hp, ObjOk P w H h a (DctO w a ep xs) := by
  obtain ⟨o, es, ep, h5, h6, h7, h8, _, h4⟩ := d
  refine ⟨ep, fun H => ⟨⟨h1, h2, h3, h4, o, es, h5, h6, h7, h8⟩, ⟨o, h5⟩, fun g1 g2 ⟨k1, k2, k3, k4, o', es', k5, k6, k7, k8⟩ keep => ⟨k1, k2, k3, k4, o', es', keep _ k5, k6, k7, k8⟩⟩⟩
def rDIn (K : PySem.W.Frag) (w : World) (neg : Bool) : R2 := fun x y H Q => ∃ (a b : Addr) (ep : Nat) (xs : List (NestedKey × Addr × Value)) (n : NestedKey), x = .ref b ∧ y = .ref a ∧ H a = some (DctO w a ep xs) ∧ KeysV K H xs ∧ KeyV K H n (.ref b) ∧ n.depth ≤ 8 ∧ Q (.bl (if neg = true then !(atKey xs n).isSome else (atKey xs n).isSome)) H
theorem room8 {A : Around} {P : Program} {w : World} (hu : A.units + 64 < cLine) : (nestedKind P w).room A.in1 := by
  show A.units + 1 + 8 < cLine
  omega
theorem op_dIn (hu : X.A.units + 64 < cLine) : OpR X (compareOp .In) (rDIn X.K X.w false) := by
  intro pins s σ H x y v u Q I rx ry h
  obtain ⟨a, b, ep, xs, n, rfl, rfl, ha, hk, hn, hd, q⟩ := h
  cases (show v = Value.ref b from rx)
  cases (show u = Value.ref a from ry)
  obtain ⟨z, _, _, dd⟩ := dct_of I ha hk
  exact wpAny_in_heap (room8 hu) ⟨hn.is I rfl, hd⟩ z dd ⟨.bl (atKey xs n).isSome, H, I.tok _, rfl, q⟩
theorem op_dNotIn (hu : X.A.units + 64 < cLine) : OpR X (compareOp .NotIn) (rDIn X.K X.w true) := by
  intro pins s σ H x y v u Q I rx ry h
  obtain ⟨a, b, ep, xs, n, rfl, rfl, ha, hk, hn, hd, q⟩ := h
  cases (show v = Value.ref b from rx)
  cases (show u = Value.ref a from ry)
  obtain ⟨z, _, _, dd⟩ := dct_of I ha hk
  exact wpAny_notIn_heap (room8 hu) ⟨hn.is I rfl, hd⟩ z dd ⟨.bl (!(atKey xs n).isSome), H, I.tok _, rfl, q⟩
def rDIx (K : PySem.W.Frag) (w : World) : R2 := fun x y H Q => ∃ (a b : Addr) (ep : Nat) (xs : List (NestedKey × Addr × Value)) (n : NestedKey) (p : Addr × Value) (z : V), x = .ref a ∧ y = .ref b ∧ H a = some (DctO w a ep xs) ∧ KeysV K H xs ∧ KeyV K H n (.ref b) ∧ n.depth ≤ 8 ∧ atKey xs n = some p ∧ RelV z p.2 ∧ Q z H
theorem ix_dct (hu : X.A.units + 64 < cLine) : IxR X (rDIx X.K X.w) := by
  intro value slice pins s σ H x y v u Q I rx ry h hs
  obtain ⟨a, b, ep, xs, n, p, z, rfl, rfl, ha, hk, hn, hd, hp, rz, q⟩ := h
  cases (show v = Value.ref a from rx)
  cases (show u = Value.ref b from ry)
  obtain ⟨_, _, _, dd⟩ := dct_of I ha hk
  refine subscriptTail_builtinR (x := p.2) dd.typeIs PySem.F.slot_dict_getitem.lookup ?_ hs
  exact wpAny_getItem_heap (Q := fun r s' => r = p.2 ∧ EP X pins σ Q r s') (room8 hu) ⟨hn.is I rfl, hd⟩ dd hp ⟨rfl, z, H, I.tok _, rz, q⟩
def rDSet (K : PySem.W.Frag) (w : World) : TSet := fun o i v H Q => ∃ (a b : Addr) (ep : Nat) (xs : List (NestedKey × Addr × Value)) (n : NestedKey), o = .ref a ∧ i = .ref b ∧ H a = some (DctO w a ep xs) ∧ KeysV K H xs ∧ KeyV K H n (.ref b) ∧ n.depth ≤ 8 ∧ xs.length < sizeLine ∧ ∀ u ep', RelV v u → Q (upd H a (DctO w a ep' (storedH xs n b u)))
theorem stored_len {xs : List (NestedKey × Addr × Value)} {n : NestedKey} {b : Addr} {u : Value} : (storedH xs n b u).length ≤ xs.length + 1 := by
  unfold storedH
  split
  · rw [List.length_map]; omega
  · rw [List.length_append]; exact Nat.le_refl _
theorem stored_mem {xs : List (NestedKey × Addr × Value)} {n : NestedKey} {b : Addr} {u : Value} {x : NestedKey × Addr × Value} (h : x ∈ storedH xs n b u) : (∃ y ∈ xs, y.1 = x.1 ∧ y.2.1 = x.2.1) ∨ (x.1 = n ∧ x.2.1 = b) := by
  unfold storedH at h
  split at h
  · obtain ⟨y, hy, rfl⟩ := List.mem_map.mp h
    unfold putAt
    split
    · exact .inl ⟨y, hy, rfl, rfl⟩
    · exact .inl ⟨y, hy, rfl, rfl⟩
  · rcases List.mem_append.mp h with h | h
    · exact .inl ⟨x, h, rfl, rfl⟩
    · rw [List.mem_singleton.mp h]; exact .inr ⟨rfl, rfl⟩
theorem set_dct (hu : X.A.units + 64 < cLine) : PSet X (rDSet X.K X.w) := by
  intro pins s σ H o i v ov iv u Q I ro ri rv h
  obtain ⟨a, b, ep, xs, n, rfl, rfl, ha, hk, hn, hd, hz, q⟩ := h
  cases (show ov = Value.ref a from ro)
  cases (show iv = Value.ref b from ri)
  obtain ⟨z, l, dp, dd⟩ := dct_of I ha hk
  refine wpAny_setItem_heap (hsz := l) (room8 hu) ⟨hn.is I rfl, hd⟩ dd fun h' dd' hs => ?_
  have he : ∃ q, h'.get? a = some q := let ⟨q, _, _, hq, _⟩ := dd'; ⟨q, hq⟩
  have dp' : ∀ x ∈ storedH xs n b u, x.1.depth ≤ 8 := fun x hx => by
    rcases stored_mem hx with ⟨y, hy, e, _⟩ | ⟨e, _⟩
    · rw [← e]; exact dp y hy
    · rw [e]; exact hd
  obtain ⟨ep', new⟩ := dctO_ok z (by have := @stored_len xs n b u; omega) dp' dd'
  exact ⟨_, d_write (ob := DctO X.w a ep' (storedH xs n b u)) I (by rw [ha]; exact True.intro) hs he (new _), q u ep' rv⟩
def rSIn (neg : Bool) : R2 := fun x y H Q => ∃ (a : Addr) (k : Str) (kvs : List (Key × V)), x = .str k ∧ y = .ref a ∧ H a = some (.dK kvs) ∧ Q (.bl (if neg = true then !(valV kvs (.inr k)).isSome else (valV kvs (.inr k)).isSome)) H
theorem op_sIn (hu : X.A.units + 64 < cLine) : OpR X (compareOp .In) (rSIn false) := by
  intro pins s σ H x y v u Q I rx ry h
  obtain ⟨a, k, kvs, rfl, rfl, ha, q⟩ := h
  cases (show u = Value.ref a from ry)
  exact d_in (by omega) I (DGet.k (k := .inr k) ha) rx fun s' I' => ⟨.bl _, H, I', rfl, q⟩
theorem op_sNotIn (hu : X.A.units + 64 < cLine) : OpR X (compareOp .NotIn) (rSIn true) := by
  intro pins s σ H x y v u Q I rx ry h
  obtain ⟨a, k, kvs, rfl, rfl, ha, q⟩ := h
  cases (show u = Value.ref a from ry)
  exact d_notIn (by omega) I (DGet.k (k := .inr k) ha) rx fun s' I' => ⟨.bl _, H, I', rfl, q⟩
def rSIx : R2 := fun x y H Q => ∃ (a : Addr) (k : Str) (kvs : List (Key × V)) (z : V), x = .ref a ∧ y = .str k ∧ H a = some (.dK kvs) ∧ valV kvs (.inr k) = some z ∧ Q z H
theorem ix_dcs (hu : X.A.units + 64 < cLine) : IxR X rSIx := by
  intro value slice pins s σ H x y v u Q I rx ry h hs
  obtain ⟨a, k, kvs, z, rfl, rfl, ha, hz, q⟩ := h
  cases (show v = Value.ref a from rx)
  have g : DGet H a (.str k) (some z) := hz ▸ DGet.k (k := .inr k) ha
  have ty := dict_typeIs I g
  obtain ⟨w', hw⟩ : ∃ w' : Value, RelV z w' ∧ ∀ {Q' : Value → Shared → Prop} {E : Value → Shared → Prop}, (∀ s', Inv X pins σ H s' → Q' w' s') → wpAny (model X.prog X.w) X.A (getItem (.ref a) u) Q' E s := by
    obtain ⟨z', hd, vs, rel, dd⟩ := dk_rd I.hok (.inl ha)
    obtain ⟨w', hw, rw'⟩ := RelO.some_of (v := z) (o := valueAt vs (.inr k)) (by rw [← hz]; exact rel.val (.inr k))
    exact ⟨w', rw', fun {Q' E} h => wpAny_getItem_of (kV_is (k := .inr k) ry) dd.mapOf hw (h _ (I.tok _))⟩
  refine subscriptTail_builtinR (x := w') ty PySem.F.slot_dict_getitem.lookup ?_ hs
  exact hw.2 fun s' I' => ⟨rfl, z, H, I', hw.1, q⟩
def rSSet : TSet := fun o i v H Q => ∃ (a : Addr) (k : Str) (kvs : List (Key × V)), o = .ref a ∧ i = .str k ∧ H a = some (.dK kvs) ∧ kvs.length < sizeLine ∧ Q (upd H a (.dK (putK kvs (.inr k) v)))
theorem set_dcs (hu : X.A.units + 64 < cLine) : PSet X rSSet := by
  intro pins s σ H o i v ov iv u Q I ro ri rv h
  obtain ⟨a, k, kvs, rfl, rfl, ha, hz, q⟩ := h
  cases (show ov = Value.ref a from ro)
  exact d_setItem (by omega) I (DPut.k (k := .inr k) ha hz) ri rv fun s' I' => ⟨_, I', q⟩
end
def valK (l : List (D × D)) (n : NestedKey) : Option D := (l.find? fun kv => decide (keyN kv.1 = some n)).map (·.2)
def hasK (l : List (D × D)) (n : NestedKey) : Bool := l.any fun kv => decide (keyN kv.1 = some n)
def putD (l : List (D × D)) (k : D) (n : NestedKey) (d : D) : List (D × D) := if hasK l n = true then l.map fun kv => if keyN kv.1 = some n then (kv.1, d) else kv else l ++ [(k, d)]
def valS (l : List (Str × D)) (k : Str) : Option D := (l.find? fun kv => decide (kv.1 = k)).map (·.2)
def putS (l : List (Str × D)) (k : Str) (d : D) : List (Str × D) := if (l.any fun kv => decide (kv.1 = k)) = true then l.map fun kv => if kv.1 = k then (kv.1, d) else kv else l ++ [(k, d)]
section
variable {K : PySem.W.Frag} {mg : GW} {H : Hp}
theorem DReps.keys {l : List (D × D)} {xs : List (NestedKey × Addr × Value)} (h : DReps K mg H l xs) : KeysV K H xs := by
  induction h with
  | nil => intro x hx; cases hx
  | cons h1 h2 _ _ _ ih =>
    intro x hx
    rcases List.mem_cons.mp hx with rfl | hx
    · exact h2.key h1
    · exact ih x hx
theorem DReps.len {l : List (D × D)} {xs : List (NestedKey × Addr × Value)} (h : DReps K mg H l xs) : l.length = xs.length := by
  induction h with
  | nil => rfl
  | cons _ _ _ _ _ ih => simp [ih]
theorem DReps.at {l : List (D × D)} {xs : List (NestedKey × Addr × Value)} (h : DReps K mg H l xs) (n : NestedKey) : (valK l n = none ∧ atKey xs n = none) ∨ ∃ d p v, valK l n = some d ∧ atKey xs n = some p ∧ Rep K mg H d v ∧ RelV v p.2 := by
  induction h with
  | nil => exact .inl ⟨rfl, rfl⟩
  | @cons k d m b v u kvs xs h1 h2 h3 h4 h5 ih =>
    by_cases e : m = n
    · subst e
      exact .inr ⟨d, (b, u), v, by simp [valK, h1], by simp [atKey], h3, h4⟩
    · have e1 : valK ((k, d) :: kvs) n = valK kvs n := by
        unfold valK
        rw [List.find?_cons_of_neg (by simp [h1, e])]
      have e2 : atKey ((m, b, u) :: xs) n = atKey xs n := by simp [atKey, List.find?_cons, e]
      rw [e1, e2]
      exact ih
theorem valK_has {l : List (D × D)} {n : NestedKey} : hasK l n = (valK l n).isSome := by
  unfold hasK valK
  induction l with
  | nil => rfl
  | cons x l ih =>
    rw [List.any_cons, ih]
    by_cases h : keyN x.1 = some n
    · rw [List.find?_cons_of_pos (by simpa using h)]; simp [h]
    · rw [List.find?_cons_of_neg (by simpa using h)]; simp [h]
theorem DReps.isSome {l : List (D × D)} {xs : List (NestedKey × Addr × Value)} (h : DReps K mg H l xs) (n : NestedKey) : (atKey xs n).isSome = (valK l n).isSome := by
  rcases h.at n with ⟨h1, h2⟩ | ⟨d, p, v, h1, h2, _⟩ <;> rw [h1, h2] <;> rfl
theorem DReps.repl {l : List (D × D)} {xs : List (NestedKey × Addr × Value)} (h : DReps K mg H l xs) (n : NestedKey) {d : D} {v : V} {u : Value} (r : Rep K mg H d v) (ru : RelV v u) : DReps K mg H (l.map fun kv => if keyN kv.1 = some n then (kv.1, d) else kv) (xs.map (putAt n u)) := by
  induction h with
  | nil => exact .nil
  | @cons k d' m b v' u' kvs xs h1 h2 h3 h4 h5 ih =>
    rw [List.map_cons, List.map_cons]
    unfold putAt
    by_cases e : m = n
    · rw [if_pos (by rw [h1, e]), if_pos e]
      exact .cons h1 h2 r ru ih
    · rw [if_neg (by rw [h1]; simpa using e), if_neg e]
      exact .cons h1 h2 h3 h4 ih
theorem DReps.snoc {l : List (D × D)} {xs : List (NestedKey × Addr × Value)} {k d : D} {n : NestedKey} {b : Addr} {v : V} {u : Value} (h : DReps K mg H l xs) (h1 : keyN k = some n) (h2 : Rep K mg H k (.ref b)) (r : Rep K mg H d v) (ru : RelV v u) : DReps K mg H (l ++ [(k, d)]) (xs ++ [(n, b, u)]) := by
  induction h with
  | nil => exact .cons h1 h2 r ru .nil
  | cons g1 g2 g3 g4 _ ih => exact .cons g1 g2 g3 g4 ih
theorem DReps.put {l : List (D × D)} {xs : List (NestedKey × Addr × Value)} {k d : D} {n : NestedKey} {b : Addr} {v : V} {u : Value} (h : DReps K mg H l xs) (h1 : keyN k = some n) (h2 : Rep K mg H k (.ref b)) (r : Rep K mg H d v) (ru : RelV v u) : DReps K mg H (putD l k n d) (storedH xs n b u) := by
  unfold putD storedH
  rw [valK_has, ← h.isSome n]
  split
  · exact h.repl n r ru
  · exact h.snoc h1 h2 r ru
theorem SReps.val {l : List (Str × D)} {xs : List (Key × V)} (h : SReps K mg H l xs) (k : Str) : (valS l k = none ∧ valV xs (.inr k) = none) ∨ ∃ d v, valS l k = some d ∧ valV xs (.inr k) = some v ∧ Rep K mg H d v := by
  induction h with
  | nil => exact .inl ⟨rfl, rfl⟩
  | @cons m d v kvs xs h1 h2 ih =>
    by_cases e : m = k
    · subst e
      exact .inr ⟨d, v, by simp [valS], valV_pos (p := ((Sum.inr m : Key), v)) rfl, h1⟩
    · have e1 : valS ((m, d) :: kvs) k = valS kvs k := by
        unfold valS
        rw [List.find?_cons_of_neg (by simpa using e)]
      have e2 : valV ((.inr m, v) :: xs) (.inr k) = valV xs (.inr k) := valV_neg (p := ((Sum.inr m : Key), v)) (fun z => e (by simpa using z))
      rw [e1, e2]
      exact ih
theorem SReps.len {l : List (Str × D)} {xs : List (Key × V)} (h : SReps K mg H l xs) : l.length = xs.length := by
  induction h with
  | nil => rfl
  | cons _ _ ih => simp [ih]
theorem SReps.any {l : List (Str × D)} {xs : List (Key × V)} (h : SReps K mg H l xs) (k : Str) : (xs.any fun kv => decide (kv.1 = .inr k)) = l.any fun kv => decide (kv.1 = k) := by
  induction h with
  | nil => rfl
  | cons _ _ ih => rw [List.any_cons, List.any_cons, ih]; simp
theorem SReps.repl {l : List (Str × D)} {xs : List (Key × V)} (h : SReps K mg H l xs) (k : Str) {d : D} {v : V} (r : Rep K mg H d v) : SReps K mg H (l.map fun kv => if kv.1 = k then (kv.1, d) else kv) (xs.map fun kv => if kv.1 = .inr k then (kv.1, v) else kv) := by
  induction h with
  | nil => exact .nil
  | @cons m d' v' kvs xs h1 _ ih =>
    rw [List.map_cons, List.map_cons]
    by_cases e : m = k
    · rw [if_pos e, if_pos (by rw [e])]
      exact .cons r ih
    · rw [if_neg e, if_neg (by simpa using e)]
      exact .cons h1 ih
theorem SReps.snoc {l : List (Str × D)} {xs : List (Key × V)} {k : Str} {d : D} {v : V} (h : SReps K mg H l xs) (r : Rep K mg H d v) : SReps K mg H (l ++ [(k, d)]) (xs ++ [(.inr k, v)]) := by
  induction h with
  | nil => exact .cons r .nil
  | cons g1 _ ih => exact .cons g1 ih
theorem SReps.put {l : List (Str × D)} {xs : List (Key × V)} {k : Str} {d : D} {v : V} (h : SReps K mg H l xs) (r : Rep K mg H d v) : SReps K mg H (putS l k d) (putK xs (.inr k) v) := by
  unfold putS putK
  rw [h.any k]
  split
  · exact h.repl k r
  · exact h.snoc r
end
end Ow

namespace Ow
open PySem PySem.Spec PyProof.Rows L2
mutual
def pyEq : D → D → Bool
  | .non, .non => true
  | .bl a, .bl b => a == b
  | .bl a, .int j => (if a then 1 else 0) == j
  | .int i, .bl b => i == (if b then 1 else 0)
  | .int i, .int j => i == j
  | .str x, .str y => x == y
  | .tup l, .tup m => pyEqs l m
  | _, _ => false
def pyEqs : List D → List D → Bool
  | [], [] => true
  | x :: xs, y :: ys => pyEq x y && pyEqs xs ys
  | _, _ => false
end
mutual
/-- data of at most so many tuples one in another -/
def okD : Nat → D → Bool
  | _, .non => true
  | _, .bl _ => true
  | _, .int _ => true
  | _, .str x => PyData.strOk x
  | n + 1, .tup l => okDs n l
  | _, _ => false
def okDs : Nat → List D → Bool
  | _, [] => true
  | n, x :: xs => okD n x && okDs n xs
end
mutual
def toPy : D → PyData
  | .bl b => .bool b
  | .int i => .int i
  | .str x => .str x
  | .tup l => .tuple (toPys l)
  | _ => .none
def toPys : List D → List PyData
  | [] => []
  | x :: xs => toPy x :: toPys xs
end

mutual
theorem eqv_toPy : ∀ (n m : Nat) (d e : D), okD n d = true → okD m e = true → PyData.eqv (toPy d) (toPy e) = pyEq d e
  | _, _, .non, e, _, h => by cases e <;> first | (exfalso; simp [okD] at h; done) | (simp [toPy, PyData.eqv, pyEq]; done) | rfl | (cases h)
  | _, _, .bl b, e, _, h => by cases e <;> first | (exfalso; simp [okD] at h; done) | (simp [toPy, PyData.eqv, pyEq]; done) | rfl | (cases h)
  | _, _, .int b, e, _, h => by cases e <;> first | (exfalso; simp [okD] at h; done) | (simp [toPy, PyData.eqv, pyEq]; done) | rfl | (cases h)
  | _, _, .str b, e, _, h => by cases e <;> first | (exfalso; simp [okD] at h; done) | (simp [toPy, PyData.eqv, pyEq]; done) | rfl | (cases h)
  | n + 1, m, .tup l, e, h', h => by
    cases e with
    | tup k =>
      cases m with
      | zero => cases h
      | succ m => exact eqv_toPys n m l k h' h
    | _ => first | (exfalso; simp [okD] at h; done) | (simp [toPy, PyData.eqv, pyEq]; done) | rfl | (cases h)
  | 0, _, .tup _, _, h, _ => by cases h
  | _, _, .fl _, _, h, _ => by simp [okD] at h
  | _, _, .ref _, _, h, _ => by simp [okD] at h
  | _, _, .ty _, _, h, _ => by simp [okD] at h
  | _, _, .glo _, _, h, _ => by simp [okD] at h
  | _, _, .ex0 _, _, h, _ => by simp [okD] at h
  | _, _, .ex1 _ _ _, _, h, _ => by simp [okD] at h
theorem eqv_toPys : ∀ (n m : Nat) (d e : List D), okDs n d = true → okDs m e = true → PyData.eqvAll (toPys d) (toPys e) = pyEqs d e
  | _, _, [], [], _, _ => rfl
  | _, _, [], _ :: _, _, _ => rfl
  | _, _, _ :: _, [], _, _ => rfl
  | n, m, x :: xs, y :: ys, h, h' => by
    have h1 : okD n x = true ∧ okDs n xs = true := by simpa [okDs] using h
    have h2 : okD m y = true ∧ okDs m ys = true := by simpa [okDs] using h'
    show (PyData.eqv (toPy x) (toPy y) && PyData.eqvAll (toPys xs) (toPys ys)) = (pyEq x y && pyEqs xs ys)
    rw [eqv_toPy n m x y h1.1 h2.1, eqv_toPys n m xs ys h1.2 h2.2]
end
mutual
theorem lay_toPy : ∀ (n : Nat) (d : D), okD n d = true → (toPy d).canLay0 = true ∧ (toPy d).depth ≤ n
  | n, .non, _ => ⟨by simp [toPy, PyData.canLay0], by simp [toPy, PyData.depth]⟩
  | n, .bl b, _ => ⟨by simp [toPy, PyData.canLay0], by simp [toPy, PyData.depth]⟩
  | n, .int b, _ => ⟨by simp [toPy, PyData.canLay0], by simp [toPy, PyData.depth]⟩
  | n, .str b, h => ⟨by simpa [toPy, PyData.canLay0, okD] using h, by simp [toPy, PyData.depth]⟩
  | n + 1, .tup l, h => by
    obtain ⟨h1, h2⟩ := lay_toPys n l h
    exact ⟨by simpa [toPy, PyData.canLay0] using h1, by simp only [toPy, PyData.depth]; omega⟩
  | 0, .tup _, h => by cases h
  | _, .fl _, h => by simp [okD] at h
  | _, .ref _, h => by simp [okD] at h
  | _, .ty _, h => by simp [okD] at h
  | _, .glo _, h => by simp [okD] at h
  | _, .ex0 _, h => by simp [okD] at h
  | _, .ex1 _ _ _, h => by simp [okD] at h
theorem lay_toPys : ∀ (n : Nat) (d : List D), okDs n d = true → PyData.canLayAll0 (toPys d) = true ∧ PyData.depthAll (toPys d) ≤ n
  | n, [], _ => ⟨by simp [toPys, PyData.canLayAll0], by simp [toPys, PyData.depthAll]⟩
  | n, x :: xs, h => by
    have h1 : okD n x = true ∧ okDs n xs = true := by simpa [okDs] using h
    obtain ⟨a1, a2⟩ := lay_toPy n x h1.1
    obtain ⟨b1, b2⟩ := lay_toPys n xs h1.2
    exact ⟨by simp [toPys, PyData.canLayAll0, a1, b1], by simp only [toPys, PyData.depthAll]; omega⟩
end
section
variable {K : PySem.W.Frag} {mg : GW} {H : Hp} {S : Sto}
mutual
theorem Rep.dp : ∀ {n : Nat} {d : D} {v : V}, okD n d = true → Rep K mg H d v → Dp K H v (toPy d)
  | _, _, _, _, .non => .non
  | _, _, _, _, .bl b => .bl b
  | _, _, _, _, .int b => .int b
  | _, _, _, _, .str b => .str b
  | n + 1, _, _, h, .tup h1 h2 => .tup h1 (Reps.dp h h2)
  | 0, _, _, h, .tup _ _ => by cases h
  | _, _, _, h, .fl _ _ => by simp [okD] at h
  | _, _, _, h, .ref _ => by simp [okD] at h
  | _, _, _, h, .ty _ => by simp [okD] at h
  | _, _, _, h, .glo _ => by simp [okD] at h
  | _, _, _, h, .ex0 _ _ => by simp [okD] at h
  | _, _, _, h, .ex1 _ _ _ _ _ => by simp [okD] at h
theorem Reps.dp : ∀ {n : Nat} {d : List D} {v : List V}, okDs n d = true → Reps K mg H d v → DpAll K H v (toPys d)
  | _, _, _, _, .nil => .nil
  | n, d :: ds, _, h, .cons h1 h2 => by
    have h' : okD n d = true ∧ okDs n ds = true := by simpa [okDs] using h
    exact .cons (Rep.dp h'.1 h1) (Reps.dp h'.2 h2)
end
end
theorem shaped_of {d : D} (h : okD 60 d = true) : SeqAt.shaped (toPy d) = true := by
  obtain ⟨h1, h2⟩ := lay_toPy 60 d h
  unfold SeqAt.shaped
  rw [h1, Bool.true_and]
  exact decide_eq_true (by omega)
theorem shaped_ofs {l : List D} (h : okDs 60 l = true) : SeqAt.shaped (.list (toPys l)) = true := by
  obtain ⟨h1, h2⟩ := lay_toPys 60 l h
  unfold SeqAt.shaped
  have : (PyData.list (toPys l)).canLay0 = true := by simpa [PyData.canLay0] using h1
  rw [this, Bool.true_and]
  exact decide_eq_true (by simp only [PyData.depth]; omega)
/-- scalars that compare by themselves -/
def scalD : D → D → Bool
  | .non, .non => true | .non, .int _ => true | .int _, .non => true | .non, .bl _ => true | .bl _, .non => true | .non, .str _ => true | .str _, .non => true
  | .int _, .int _ => true | .bl _, .bl _ => true | .str _, .str _ => true
  | .int _, .str _ => true | .str _, .int _ => true | .bl _, .str _ => true | .str _, .bl _ => true
  | _, _ => false
/-- what == tells, None where nothing is promised -/
def eqD (S : Sto) (d e : D) : Option Bool :=
  if scalD d e = true then some (pyEq d e) else
  match itemsL S d, itemsL S e with
  | some l, some m => if okDs 60 l && okDs 60 m then some (pyEqs l m) else none
  | none, none => if okD 60 d && okD 60 e then some (pyEq d e) else none
  | some l, none => if okDs 60 l && okD 60 e then some false else none
  | none, some m => if okD 60 d && okDs 60 m then some false else none
section
variable {K : PySem.W.Frag} {mg : GW} {H : Hp} {S : Sto}
theorem scal_of {d e : D} {v u : V} (h : scalD d e = true) (r1 : Rep K mg H d v) (r2 : Rep K mg H e u) : scal v u = true ∧ decide (v = u) = pyEq d e := by
  cases r1 <;> cases r2 <;> first | exact ⟨rfl, by simp [pyEq, Bool.beq_eq_decide_eq]⟩ | (cases h; done)
theorem dp_items {d : D} {v : V} {l : List D} (s : Sim K mg H S) (r : Rep K mg H d v) (h : itemsL S d = some l) (k : okDs 60 l = true) : Dp K H v (.list (toPys l)) := by
  obtain ⟨a, vs, rfl, h1, h2⟩ := rep_items s r h
  exact .lst h1 (h2.dp k)
def rEqA (K : PySem.W.Frag) : R2 := fun x y H Q => rEq x y H Q ∨ rEqD K x y H Q
def rNeA (K : PySem.W.Frag) : R2 := fun x y H Q => rNe x y H Q ∨ rNeD K x y H Q
theorem eqD_core {d e : D} {v u : V} {b : Bool} (s : Sim K mg H S) (r1 : Rep K mg H d v) (r2 : Rep K mg H e u) (h : eqD S d e = some b) :
    (scal v u = true ∧ decide (v = u) = b) ∨ ∃ p q, Dp K H v p ∧ Dp K H u q ∧ SeqAt.shaped p = true ∧ SeqAt.shaped q = true ∧ PyData.eqv p q = b := by
  unfold eqD at h
  by_cases c : scalD d e = true
  · rw [if_pos c] at h
    cases h
    exact .inl (scal_of c r1 r2)
  · rw [if_neg c] at h
    refine .inr ?_
    cases h1 : itemsL S d with
    | some l =>
      cases h2 : itemsL S e with
      | some m =>
        simp only [h1, h2] at h
        split at h
        · rename_i hc
          rw [Bool.and_eq_true] at hc
          cases h
          exact ⟨_, _, dp_items s r1 h1 hc.1, dp_items s r2 h2 hc.2, shaped_ofs hc.1, shaped_ofs hc.2, eqv_toPys 60 60 _ _ hc.1 hc.2⟩
        · cases h
      | none =>
        simp only [h1, h2] at h
        split at h
        · rename_i hc
          rw [Bool.and_eq_true] at hc
          cases h
          refine ⟨_, _, dp_items s r1 h1 hc.1, r2.dp hc.2, shaped_ofs hc.1, shaped_of hc.2, ?_⟩
          cases e <;> first | rfl | (cases hc.2) | (simp [toPy, PyData.eqv])
        · cases h
    | none =>
      cases h2 : itemsL S e with
      | some m =>
        simp only [h1, h2] at h
        split at h
        · rename_i hc
          rw [Bool.and_eq_true] at hc
          cases h
          refine ⟨_, _, r1.dp hc.1, dp_items s r2 h2 hc.2, shaped_of hc.1, shaped_ofs hc.2, ?_⟩
          cases d <;> first | rfl | (cases hc.1) | (simp [toPy, PyData.eqv])
        · cases h
      | none =>
        simp only [h1, h2] at h
        split at h
        · rename_i hc
          rw [Bool.and_eq_true] at hc
          cases h
          exact ⟨_, _, r1.dp hc.1, r2.dp hc.2, shaped_of hc.1, shaped_of hc.2, eqv_toPy 60 60 _ _ hc.1 hc.2⟩
        · cases h
end
def flatD : D → Bool
  | .non => true
  | .bl _ => true
  | .int _ => true
  | .str _ => true
  | _ => false
def dinD (S : Sto) (x y : D) : Option Bool := match y with
  | .ref a => (match S a with
    | some (.dct _ l) => (match x with
      | .tup k => (keyN (.tup k)).bind fun n => if n.depth ≤ 8 then some (valK l n).isSome else none
      | _ => none)
    | some (.dcs l) => (match x with
      | .str k => some (valS l k).isSome
      | _ => none)
    | _ => none)
  | _ => none
def inD (S : Sto) (x y : D) : Option Bool := match dinD S x y with
  | some b => some b
  | none => match y with
  | .str b => (match x with
    | .str a => some (!(Builtin.Str.occurrences b a 0 b.length 1).isEmpty)
    | _ => none)
  | y => match itemsQ S y with
    | some (t, l) => if flatD x && l.all flatD then some (l.any fun z => pyEq z x) else if !t && (okD 60 x && okDs 60 l) then some (l.any fun z => pyEq z x) else if t && (okD 60 x && okDs 59 l) then some (l.any fun z => pyEq z x) else none
    | none => none
def isD (x y : D) : Option Bool := match x, y with
  | .bl a, .bl b => some (decide (a = b))
  | .non, .non => some true
  | .bl _, .non => some false
  | .int _, .non => some false
  | .str _, .non => some false
  | .tup _, .non => some false
  | .fl _, .non => some false
  | .ref _, .non => some false
  | .ex0 _, .non => some false
  | .ex1 _ _ _, .non => some false
  | _, _ => none
def ltD (f : Int → Int → Bool) (x y : D) : Option Bool := match x, y with
  | .int i, .int j => some (f i j)
  | _, _ => none
/-- what a comparison tells -/
def cmpD (S : Sto) (op : CmpOp) (x y : D) : Option Bool := match op with
  | .Eq => eqD S x y
  | .NotEq => (eqD S x y).map (!·)
  | .Lt => ltD (fun i j => decide (i < j)) x y
  | .LtE => ltD (fun i j => decide (i ≤ j)) x y
  | .Gt => ltD (fun i j => decide (j < i)) x y
  | .GtE => ltD (fun i j => decide (j ≤ i)) x y
  | .Is => isD x y
  | .IsNot => (isD x y).map (!·)
  | .In => inD S x y
  | .NotIn => (inD S x y).map (!·)
def cmpF (op : CmpOp) : F2 := fun d e S Q => ∃ b, cmpD S op d e = some b ∧ Q (.bl b) S
theorem m_cmp {op : CmpOp} : MonoF2 (cmpF op) := fun d e S Q Q' ⟨b, h, q⟩ m => ⟨b, h, m _ _ q⟩
section
variable {K : PySem.W.Frag} {mg : GW} {H : Hp} {S : Sto}
theorem flat_rep {d : D} {v : V} (r : Rep K mg H d v) (h : flatD d = true) : flatV v = true := by
  cases r <;> first | rfl | (cases h)
theorem flat_reps : ∀ {l : List D} {vs : List V}, Reps K mg H l vs → l.all flatD = true → vs.all flatV = true
  | _, _, .nil, _ => rfl
  | _, _, .cons h r, k => by
    rw [List.all_cons, Bool.and_eq_true] at k
    rw [List.all_cons, flat_rep h k.1, flat_reps r k.2]
    rfl
theorem eqV_rep {d e : D} {v u : V} (r1 : Rep K mg H d v) (r2 : Rep K mg H e u) (h : flatD d = true) (k : flatD e = true) : eqV v u = pyEq d e := by
  cases r1 <;> cases r2 <;> first | rfl | (cases h) | (cases k) | (simp [eqV, pyEq])
theorem inV_rep {x : D} {v : V} (r : Rep K mg H x v) (h : flatD x = true) : ∀ {l : List D} {vs : List V}, Reps K mg H l vs → l.all flatD = true → inV v vs = l.any fun z => pyEq z x
  | _, _, .nil, _ => rfl
  | _, _, .cons q t, k => by
    rw [List.all_cons, Bool.and_eq_true] at k
    show (List.any (_ :: _) fun y => eqV y v) = _
    rw [List.any_cons, List.any_cons, eqV_rep q r k.1 h]
    have := inV_rep r h t k.2
    unfold inV at this
    rw [this]
theorem itemsQ_sq {d : D} {v : V} {b : Bool} {l : List D} (s : Sim K mg H S) (r : Rep K mg H d v) (h : itemsQ S d = some (b, l)) : ∃ a vs, v = .ref a ∧ (SqL K H a vs ∨ SqT K H a vs) ∧ Reps K mg H l vs := by
  obtain ⟨a, vs, h1, h2, h3⟩ := rep_itemsQ s r h
  refine ⟨a, vs, h1, ?_, h3⟩
  cases b with
  | true => exact .inr (by simpa using h2)
  | false => exact .inl (by simpa using h2)
theorem isD_non {x : D} {v : V} {b : Bool} (r : Rep K mg H x v) (h : isD x .non = some b) : decide (v = .non) = b := by
  cases r <;> first | (cases h; rfl) | (cases h; simp) | (cases h)
theorem isD_cases {x y : D} {b : Bool} (h : isD x y = some b) : (∃ a c, x = .bl a ∧ y = .bl c ∧ b = decide (a = c)) ∨ y = .non := by
  cases y with
  | bl c => cases x <;> first | (cases h; exact .inl ⟨_, _, rfl, rfl, rfl⟩) | (cases h)
  | non => exact .inr rfl
  | _ => cases x <;> cases h
end
section
variable {X : Cx}
/-- in a tuple of data -/
def rInT (K : PySem.W.Frag) (neg : Bool) : R2 := fun x y H Q => ∃ d ds, Dp K H x d ∧ Dp K H y (.tuple ds) ∧ SeqAt.shaped d = true ∧ SeqAt.shaped (.tuple ds) = true ∧ Q (.bl (if neg = true then !ds.any (fun z => PyData.eqv z d) else ds.any fun z => PyData.eqv z d)) H
theorem op_inT (hu : X.A.units + 65 < cLine) : OpR X (compareOp .In) (rInT X.K false) := by
  intro pins s σ H x y v u Q I rx ry h
  obtain ⟨d, ds, hd, he, sd, se, q⟩ := h
  obtain ⟨as, r1⟩ := Dp.reads I d x v hd rx
  obtain ⟨bs, r2⟩ := Dp.reads I (.tuple ds) y u he ry
  exact SeqAt.in_tuple_reads r2 r1 (SeqAt.canLay_of_shaped se) (SeqAt.canLay_of_shaped sd) (room_in_shaped sd hu) ⟨.bl _, H, I, rfl, q⟩
theorem op_notInT (hu : X.A.units + 65 < cLine) : OpR X (compareOp .NotIn) (rInT X.K true) := by
  intro pins s σ H x y v u Q I rx ry h
  obtain ⟨d, ds, hd, he, sd, se, q⟩ := h
  obtain ⟨as, r1⟩ := Dp.reads I d x v hd rx
  obtain ⟨bs, r2⟩ := Dp.reads I (.tuple ds) y u he ry
  exact SeqAt.notIn_tuple_reads r2 r1 (SeqAt.canLay_of_shaped se) (SeqAt.canLay_of_shaped sd) (room_in_shaped sd hu) ⟨.bl _, H, I, rfl, q⟩
/-- each comparison by its rules -/
def cmpR (X : Cx) : CmpOp → R2
  | .Eq => rEqA X.K
  | .NotEq => rNeA X.K
  | .Lt => rI0 fun i j => .bl (decide (i < j))
  | .LtE => rI0 fun i j => .bl (decide (i ≤ j))
  | .Gt => rI0 fun i j => .bl (decide (j < i))
  | .GtE => rI0 fun i j => .bl (decide (j ≤ i))
  | .Is => fun x y H Q => (y = .non ∧ Q (.bl (decide (x = .non))) H) ∨ rIsB x y H Q
  | .IsNot => fun x y H Q => (y = .non ∧ Q (.bl (!decide (x = .non))) H) ∨ rNotB x y H Q
  | .In => fun x y H Q => (rDIn X.K X.w false x y H Q ∨ rSIn false x y H Q) ∨ (rIn X.K false x y H Q ∨ (rInD X.K x y H Q ∨ rInT X.K false x y H Q)) ∨ ∃ i j, x = .str i ∧ y = .str j ∧ Q (.bl (!(Builtin.Str.occurrences j i 0 j.length 1).isEmpty)) H
  | .NotIn => fun x y H Q => (rDIn X.K X.w true x y H Q ∨ rSIn true x y H Q) ∨ (rIn X.K true x y H Q ∨ (rNotInD X.K x y H Q ∨ rInT X.K true x y H Q)) ∨ ∃ i j, x = .str i ∧ y = .str j ∧ Q (.bl (!(!(Builtin.Str.occurrences j i 0 j.length 1).isEmpty))) H
theorem op_cmp (hu : X.A.units + 65 < cLine) : ∀ op : CmpOp, OpR X (compareOp op) (cmpR X op)
  | .Eq => OpR.or op_eq (op_eqD (by omega))
  | .NotEq => OpR.or op_ne (op_neD (by omega))
  | .Lt => op_lt
  | .LtE => op_le
  | .Gt => op_gt
  | .GtE => op_ge
  | .Is => OpR.or op_isN op_isBl
  | .IsNot => OpR.or op_notN op_notBl
  | .In => OpR.or (OpR.or (op_dIn (by omega)) (op_sIn (by omega))) (OpR.or (OpR.or op_in_seq (OpR.or (op_inD hu) (op_inT hu))) op_in_str)
  | .NotIn => OpR.or (OpR.or (op_dNotIn (by omega)) (op_sNotIn (by omega))) (OpR.or (OpR.or op_notIn_seq (OpR.or (op_notInD hu) (op_notInT hu))) op_notin_str)
theorem ltD_cases {f : Int → Int → Bool} {x y : D} {b : Bool} (h : ltD f x y = some b) : ∃ i j, x = .int i ∧ y = .int j ∧ b = f i j := by
  cases x <;> cases y <;> first | (cases h; exact ⟨_, _, rfl, rfl, rfl⟩) | (cases h)
theorem dinD_cases {S : Sto} {x y : D} {b : Bool} (h : dinD S x y = some b) : (∃ a ep l k n, y = .ref a ∧ S a = some (.dct ep l) ∧ x = .tup k ∧ keyN (.tup k) = some n ∧ n.depth ≤ 8 ∧ b = (valK l n).isSome) ∨ ∃ a l k, y = .ref a ∧ S a = some (.dcs l) ∧ x = .str k ∧ b = (valS l k).isSome := by
  unfold dinD at h
  split at h
  · rename_i a
    split at h
    · rename_i ep l e
      split at h
      · rename_i k
        obtain ⟨n, h1, h2⟩ := Option.bind_eq_some_iff.mp h
        split at h2
        · rename_i hd
          cases h2
          exact .inl ⟨a, ep, l, k, n, rfl, e, rfl, h1, hd, rfl⟩
        · cases h2
      · cases h
    · rename_i l e
      split at h
      · rename_i k
        cases h
        exact .inr ⟨a, l, k, rfl, e, rfl, rfl⟩
      · cases h
    · cases h
  · cases h
theorem rep_tup {K : PySem.W.Frag} {mg : GW} {H : Hp} {k : List D} {v : V} (r : Rep K mg H (.tup k) v) : ∃ b, v = .ref b := by cases r; exact ⟨_, rfl⟩
theorem dinD_says {S : Sto} {H : Hp} {x y : D} {v u : V} {b : Bool} {neg : Bool} {Q : VK} (s : Sim X.K X.gw H S) (r1 : Rep X.K X.gw H x v) (r2 : Rep X.K X.gw H y u) (h : dinD S x y = some b) (q : Q (.bl (if neg = true then !b else b)) H) : rDIn X.K X.w neg v u H Q ∨ rSIn neg v u H Q := by
  rcases dinD_cases h with ⟨a, ep, l, k, n, rfl, ha, rfl, hn, hd, rfl⟩ | ⟨a, l, k, rfl, ha, rfl, rfl⟩
  · obtain ⟨xs, g1, g2⟩ := s a _ ha
    obtain ⟨c, rfl⟩ := rep_tup r1
    cases r2
    refine .inl ⟨a, c, ep, xs, n, rfl, rfl, g1, g2.keys, r1.key hn, hd, ?_⟩
    rw [g2.isSome n]
    exact q
  · obtain ⟨xs, g1, g2⟩ := s a _ ha
    cases r2
    refine .inr ⟨a, k, xs, r1.strV, rfl, g1, ?_⟩
    have e : (valV xs (.inr k)).isSome = (valS l k).isSome := by
      rcases g2.val k with ⟨h1, h2⟩ | ⟨d, v, h1, h2, _⟩ <;> rw [h1, h2] <;> rfl
    rw [e]
    exact q
theorem inD_cases {S : Sto} {x y : D} {b : Bool} (h : inD S x y = some b) : dinD S x y = some b ∨ (∃ a c, x = .str a ∧ y = .str c ∧ b = !(Builtin.Str.occurrences c a 0 c.length 1).isEmpty) ∨
    (∃ t l, itemsQ S y = some (t, l) ∧ flatD x = true ∧ l.all flatD = true ∧ b = l.any fun z => pyEq z x) ∨ (∃ l, itemsQ S y = some (false, l) ∧ okD 60 x = true ∧ okDs 60 l = true ∧ b = l.any fun z => pyEq z x) ∨ ∃ l, y = .tup l ∧ okD 60 x = true ∧ okDs 59 l = true ∧ b = l.any fun z => pyEq z x := by
  have key : ∀ {t l}, itemsQ S y = some (t, l) → (if flatD x && l.all flatD then some (l.any fun z => pyEq z x) else if !t && (okD 60 x && okDs 60 l) then some (l.any fun z => pyEq z x) else if t && (okD 60 x && okDs 59 l) then some (l.any fun z => pyEq z x) else none) = some b →
      (∃ t l, itemsQ S y = some (t, l) ∧ flatD x = true ∧ l.all flatD = true ∧ b = l.any fun z => pyEq z x) ∨ (∃ l, itemsQ S y = some (false, l) ∧ okD 60 x = true ∧ okDs 60 l = true ∧ b = l.any fun z => pyEq z x) ∨ ∃ l, y = .tup l ∧ okD 60 x = true ∧ okDs 59 l = true ∧ b = l.any fun z => pyEq z x := fun {t l} e k => by
    split at k
    · rename_i hc
      rw [Bool.and_eq_true] at hc
      cases k
      exact .inl ⟨t, l, e, hc.1, hc.2, rfl⟩
    · split at k
      · rename_i hc
        rw [Bool.and_eq_true, Bool.and_eq_true] at hc
        cases k
        have ht : t = false := by cases t <;> simp_all
        subst ht
        exact .inr (.inl ⟨l, e, hc.2.1, hc.2.2, rfl⟩)
      · split at k
        · rename_i hc
          rw [Bool.and_eq_true, Bool.and_eq_true] at hc
          cases k
          have ht : t = true := hc.1
          subst ht
          have ey : y = .tup l := by
            unfold itemsQ at e
            split at e
            · cases e; rfl
            · cases e2 : itemsL S y with
              | none => rw [e2] at e; cases e
              | some m => rw [e2] at e; cases e
          exact .inr (.inr ⟨l, ey, hc.2.1, hc.2.2, rfl⟩)
        · cases k
  unfold inD at h
  split at h
  · rename_i b' e
    exact .inl (e.trans h)
  · refine .inr ?_
    split at h
    · split at h
      · cases h; exact .inl ⟨_, _, rfl, rfl, rfl⟩
      · cases h
    · refine .inr ?_
      split at h
      · rename_i e
        exact key e h
      · cases h
theorem any_toPys {n : Nat} {x : D} (hx : okD 60 x = true) : ∀ {l : List D}, okDs n l = true → ((toPys l).any fun z => PyData.eqv z (toPy x)) = l.any fun z => pyEq z x
  | [], _ => rfl
  | d :: l, h => by
    have h1 : okD n d = true ∧ okDs n l = true := by simpa [okDs] using h
    simp only [toPys, List.any_cons, any_toPys hx h1.2, eqv_toPy n 60 d x h1.1 hx]
theorem itemsQ_L {S : Sto} {y : D} {l : List D} (h : itemsQ S y = some (false, l)) : itemsL S y = some l := by
  unfold itemsQ at h
  split at h
  · cases h
  · cases e : itemsL S y with
    | none => rw [e] at h; cases h
    | some m => rw [e] at h; cases h; rfl
theorem says_cmp (op : CmpOp) : Says2 X.K X.gw (cmpR X op) (cmpF op) := fun d e v u S H Q s r1 r2 q => by
  obtain ⟨b, h, q⟩ := q
  have fin : ∀ c, c = b → Q (.bl c) H := fun c hc => by subst hc; exact ans s (.bl c) q
  have lt : ∀ {f : Int → Int → Bool}, ltD f d e = some b → rI0 (fun i j => .bl (f i j)) v u H Q := fun {f} h => by
    obtain ⟨i, j, rfl, rfl, rfl⟩ := ltD_cases h
    exact ⟨i, j, r1.intV, r2.intV, fin _ rfl⟩
  cases op with
  | Eq =>
    rcases eqD_core s r1 r2 h with ⟨h1, h2⟩ | ⟨p, p', h1, h2, h3, h4, h5⟩
    · exact .inl ⟨h1, fin _ h2⟩
    · exact .inr ⟨p, p', h1, h2, h3, h4, fin _ h5⟩
  | NotEq =>
    obtain ⟨c, hc, rfl⟩ := Option.map_eq_some_iff.mp (show (eqD S d e).map (!·) = some b from h)
    rcases eqD_core s r1 r2 hc with ⟨h1, h2⟩ | ⟨p, p', h1, h2, h3, h4, h5⟩
    · exact .inl ⟨h1, fin _ (by rw [h2])⟩
    · exact .inr ⟨p, p', h1, h2, h3, h4, fin _ (by rw [h5])⟩
  | Lt => exact lt h
  | LtE => exact lt h
  | Gt => exact lt h
  | GtE => exact lt h
  | Is =>
    rcases isD_cases (show isD d e = some b from h) with ⟨a, c, rfl, rfl, rfl⟩ | rfl
    · exact .inr ⟨a, c, r1.blV, r2.blV, fin _ rfl⟩
    · refine .inl ⟨by cases r2; rfl, fin _ (isD_non r1 h)⟩
  | IsNot =>
    obtain ⟨c, hc, rfl⟩ := Option.map_eq_some_iff.mp (show (isD d e).map (!·) = some b from h)
    rcases isD_cases hc with ⟨a, c, rfl, rfl, rfl⟩ | rfl
    · exact .inr ⟨a, c, r1.blV, r2.blV, fin _ rfl⟩
    · refine .inl ⟨by cases r2; rfl, fin _ (by rw [isD_non r1 hc])⟩
  | In =>
    rcases inD_cases (show inD S d e = some b from h) with hd | ⟨a, c, rfl, rfl, rfl⟩ | ⟨t, l, h1, h2, h3, rfl⟩ | ⟨l, h1, h2, h3, rfl⟩ | ⟨l, rfl, h2, h3, rfl⟩
    · exact .inl (dinD_says s r1 r2 hd (fin _ rfl))
    · exact .inr (.inr ⟨a, c, r1.strV, r2.strV, fin _ rfl⟩)
    · obtain ⟨p, vs, rfl, k1, k2⟩ := itemsQ_sq s r2 h1
      refine .inr (.inl (.inl ?_))
      exact ⟨p, vs, rfl, k1, flat_rep r1 h2, flat_reps k2 h3, fin _ (by rw [if_neg Bool.false_ne_true]; exact inV_rep r1 h2 k2 h3)⟩
    · exact .inr (.inl (.inr (.inl ⟨_, _, r1.dp h2, dp_items s r2 (itemsQ_L h1) h3, shaped_of h2, shaped_ofs h3, fin _ (any_toPys h2 h3)⟩)))
    · have h4 : okD 60 (.tup l) = true := h3
      exact .inr (.inl (.inr (.inr ⟨_, toPys l, r1.dp h2, r2.dp h4, shaped_of h2, shaped_of h4, fin _ (by rw [if_neg Bool.false_ne_true]; exact any_toPys h2 h3)⟩)))
  | NotIn =>
    obtain ⟨c, hc, rfl⟩ := Option.map_eq_some_iff.mp (show (inD S d e).map (!·) = some b from h)
    rcases inD_cases hc with hd | ⟨a, c, rfl, rfl, rfl⟩ | ⟨t, l, h1, h2, h3, rfl⟩ | ⟨l, h1, h2, h3, rfl⟩ | ⟨l, rfl, h2, h3, rfl⟩
    · exact .inl (dinD_says s r1 r2 hd (fin _ rfl))
    · exact .inr (.inr ⟨a, c, r1.strV, r2.strV, fin _ rfl⟩)
    · obtain ⟨p, vs, rfl, k1, k2⟩ := itemsQ_sq s r2 h1
      refine .inr (.inl (.inl ?_))
      exact ⟨p, vs, rfl, k1, flat_rep r1 h2, flat_reps k2 h3, fin _ (by rw [if_pos rfl]; rw [inV_rep r1 h2 k2 h3])⟩
    · exact .inr (.inl (.inr (.inl ⟨_, _, r1.dp h2, dp_items s r2 (itemsQ_L h1) h3, shaped_of h2, shaped_ofs h3, fin _ (by rw [any_toPys h2 h3])⟩)))
    · have h4 : okD 60 (.tup l) = true := h3
      exact .inr (.inl (.inr (.inr ⟨_, toPys l, r1.dp h2, r2.dp h4, shaped_of h2, shaped_of h4, fin _ (by rw [if_pos rfl]; rw [any_toPys h2 h3])⟩)))
end
end Ow

namespace HT
open PySem PySem.Spec PyProof.Rows
section
variable {prog : Program} {w : World} {A : Around} {E : Value → Shared → Prop} {s : Shared}
theorem sliceApplied_rev {sl : Addr} {vl vu vs : Value} {n : Nat} {Q : Int × Int × Nat → Shared → Prop} (hs : s.heap.IsSliceOf sl vl vu vs) (pl : IsPart vl none) (pu : IsPart vu none) (ps : IsPart vs (some (-1)))
    (h : Q ((n : Int) - 1, -1, n) s) : wpAny (model prog w) A (Builtin.Slice.sliceApplied (.ref sl) (pure (n : Int))) Q E s := by
  obtain ⟨os, hos, hcs, hds⟩ := id hs
  unfold Builtin.Slice.sliceApplied Builtin.Slice.sliceFields
  refine wpAny_bind (wpAny_bind (wpAny_field hos hds (x := vl) rfl (wpAny_bind (wpAny_field hos hds (x := vu) rfl (wpAny_bind (wpAny_field hos hds (x := vs) rfl (wpAny_pure ?_)))))))
  refine wpAny_bind (slicePart_ ps ?_)
  show wpAny _ _ (if ((-1 : Int) == 0) = true then _ else _) _ _ s
  rw [if_neg (by decide)]
  refine wpAny_bind (slicePart_ pl (wpAny_bind (slicePart_ pu (wpAny_bind (wpAny_pure ?_)))))
  show wpAny _ _ (match Builtin.Slice.sliceAdjust none none (-1) (n : Int) with | (lo, hi) => pure (lo, (-1 : Int), Builtin.Slice.slicePlaces lo hi (-1))) _ _ s
  have e1 : Builtin.Slice.sliceAdjust none none (-1) (n : Int) = ((n : Int) - 1, -1) := rfl
  have e2 : Builtin.Slice.slicePlaces ((n : Int) - 1) (-1) (-1) = n := by
    unfold Builtin.Slice.slicePlaces
    have h1 : ¬ ((-1 : Int) > 0) := by omega
    simp only [h1, if_false, show (- -1 : Int) = 1 by decide, Int.ediv_one]
    split <;> omega
  rw [e1]
  show wpAny _ _ (pure ((n : Int) - 1, (-1 : Int), Builtin.Slice.slicePlaces ((n : Int) - 1) (-1) (-1))) _ _ s
  rw [e2]
  exact wpAny_pure h
theorem pick_rev (xs : Array Value) : ((List.range xs.size).filterMap fun (m : Nat) => xs[((xs.size : Int) - 1 + (m : Int) * (-1)).toNat]?).toArray = xs.toList.reverse.toArray := by
  have e : (List.range xs.size).filterMap (fun (m : Nat) => xs[((xs.size : Int) - 1 + (m : Int) * (-1)).toNat]?) = ((List.range xs.size).map (fun k => xs.size - 1 - k)).filterMap (xs[·]?) := by
    rw [List.filterMap_map]
    congr 1
    funext m
    show xs[((xs.size : Int) - 1 + (m : Int) * (-1)).toNat]? = xs[xs.size - 1 - m]?
    rw [show ((xs.size : Int) - 1 + (m : Int) * (-1)).toNat = xs.size - 1 - m by omega]
  rw [e, PySem.W.krv_range, List.filterMap_reverse, PySem.W.krv_all]
theorem getItem_tuple_rev {t sl : Addr} {items : Array Value} {vl vu vs : Value} {Q : Value → Shared → Prop} (ht : IsTup s.heap t items) (hs : s.heap.IsSliceOf sl vl vu vs) (pl : IsPart vl none) (pu : IsPart vu none) (ps : IsPart vs (some (-1)))
    (h : Q (.ref s.heap.objs.size) { s with heap := s.heap.push { cls := .type "tuple", data := .seq items.toList.reverse.toArray } })
    (hsz : items.size ≤ sizeLine) : wpAny (model prog w) A (getItem (.ref t) (.ref sl)) Q E s := by
  have htake : sizeOk (.seq items.toList.reverse.toArray) := by
    show items.toList.reverse.toArray.size ≤ sizeLine
    rw [List.size_toArray, List.length_reverse, Array.length_toList]
    omega
  obtain ⟨os, hos, hcs, hds⟩ := id hs
  have hTs : s.TypeIs (.ref sl) "slice" := ⟨os, hos, hcs⟩
  unfold getItem
  try with_reducible refine wpAny_holding ?_
  first | refine wpAny_bind (wpAny_pure ?_) | skip
  refine wpAny_bind (wpAny_sequenceKey ht.typeIs (by decide) ?_)
  refine wpAny_bind (wpAny_callSpecial?_slot (name := Str.ofString "__getitem__") ht.typeIs PyProof.Rows.slot_tuple_getitem
    (wpAny_call_entry PyProof.Rows.slot_tuple_getitem ht.typeIs entry_tuple_getitem ?_ (args_tuple_getitem _ _)))
  show wpAny _ _ (Builtin.Tuple.tupleItemsOf (.ref t) >>= _) _ _ s
  refine wpAny_bind (tupleItemsOf_ ht ?_)
  refine wpAny_bind (wpAny_typeOf hTs ?_)
  rw [if_pos (by decide)]
  refine wpAny_bind (sliceApplied_rev hs pl pu ps ?_)
  have hno : ¬ ((((items.size : Int) - 1) == 0 && (-1 : Int) == 1 && items.size == items.size) = true) := by
    intro q
    rw [Bool.and_eq_true, Bool.and_eq_true] at q
    exact absurd q.1.2 (by decide)
  show wpAny _ _ (if (((items.size : Int) - 1) == 0 && (-1 : Int) == 1 && items.size == items.size) = true then _ else _) _ _ s
  rw [if_neg hno, pick_rev]
  first
    | exact wpAny_bind (m := Builtin.Tuple.tupleExact _) (wpAny_newObj_type (wpAny_pure ⟨_, rfl, wpAny_pure h⟩) htake)
    | exact wpAny_bind (m := Builtin.Tuple.tupleExact _) (wpAny_newObj_type (wpAny_bind (wpAny_pure (wpAny_pure ⟨_, rfl, wpAny_pure h⟩))) htake)
    | exact wpAny_bind (wpAny_bind (m := Builtin.Tuple.tupleExact _) (wpAny_newObj_type (wpAny_pure (wpAny_pure ⟨_, rfl, wpAny_pure h⟩)) htake))
    | exact wpAny_bind (wpAny_bind (m := Builtin.Tuple.tupleExact _) (wpAny_newObj_type (wpAny_pure ⟨_, rfl, wpAny_pure h⟩) htake))
end
end HT
namespace L2
open PySem PySem.Spec PyProof.Rows
/-- every k-th -/
def stepL {α : Type} (k : Nat) (l : List α) : List α := (List.range ((l.length + k - 1) / k)).filterMap fun i => l[k * i]?
theorem step_pick {k : Nat} (hk : 1 ≤ k) (items : Array Value) : slicePick items none none (some (k : Int)) = (stepL k items.toList).toArray := by
  unfold slicePick stepL
  have hb : sliceBounds none none (some (k : Int)) items.size = (0, (items.size : Int), (k : Int)) := by
    have h1 : (k : Int) > 0 := by omega
    unfold sliceBounds
    simp only [Option.getD_some, h1, if_true]
  rw [hb]
  congr 1
  unfold sliceRange
  have h1 : (k : Int) > 0 := by omega
  simp only [h1, if_true, Array.length_toList]
  have hc : (if (0 : Int) < (items.size : Int) then ((items.size : Int) - 0 + (k : Int) - 1) / (k : Int) else 0).toNat = (items.size + k - 1) / k := by
    split
    · rw [show ((items.size : Int) - 0 + (k : Int) - 1) = ((items.size + k - 1 : Nat) : Int) by omega]
      rw [← Int.natCast_ediv, Int.toNat_natCast]
    · have : items.size = 0 := by omega
      rw [this, show 0 + k - 1 = k - 1 by omega, Nat.div_eq_of_lt (by omega)]
      rfl
  rw [hc, List.filterMap_map]
  congr 1
  funext m
  show items[(0 + (k : Int) * (m : Int)).toNat]? = items.toList[k * m]?
  rw [show (0 + (k : Int) * (m : Int)).toNat = k * m by rw [Int.zero_add, ← Int.natCast_mul, Int.toNat_natCast]]
  simp
theorem Vals.step {k : Nat} {xs : List V} {us : List Value} (r : Vals xs us) : Vals (stepL k xs) (stepL k us) := by
  unfold stepL
  rw [r.length]
  generalize List.range _ = js
  induction js with
  | nil => exact .nil
  | cons j js ih =>
    rw [List.filterMap_cons, List.filterMap_cons]
    have hj : (∃ x u, xs[k * j]? = some x ∧ us[k * j]? = some u ∧ RelV x u) ∨ (xs[k * j]? = none ∧ us[k * j]? = none) := by
      clear ih
      generalize k * j = i
      induction r generalizing i with
      | nil => exact .inr ⟨rfl, rfl⟩
      | cons p q ih =>
        cases i with
        | zero => exact .inl ⟨_, _, rfl, rfl, p⟩
        | succ i => simpa using ih i
    rcases hj with ⟨x, u, e1, e2, h⟩ | ⟨e1, e2⟩
    · rw [e1, e2]; exact .cons h ih
    · rw [e1, e2]; exact ih
theorem step_le {α : Type} {k : Nat} (hk : 1 ≤ k) {l : List α} : (stepL k l).length ≤ l.length := by
  unfold stepL
  refine Nat.le_trans (List.length_filterMap_le _ _) ?_
  rw [List.length_range]
  by_cases h : l.length = 0
  · rw [h, Nat.div_eq_of_lt (by omega)]
    omega
  · refine Nat.div_le_of_le_mul ?_
    have : l.length + k ≤ k * l.length + 1 := by
      have := Nat.mul_le_mul (show 1 ≤ k from hk) (show 1 ≤ l.length by omega)
      obtain ⟨a, rfl⟩ : ∃ a, k = a + 1 := ⟨k - 1, by omega⟩
      obtain ⟨b, hb⟩ : ∃ b, l.length = b + 1 := ⟨l.length - 1, by omega⟩
      rw [hb, Nat.add_mul, Nat.mul_add]
      omega
    omega
section
variable {X : Cx}
def tRevT (K : PySem.W.Frag) (te : TE) : TE := fun σ H Q => te σ H fun x H1 => (∃ a xs, x = .ref a ∧ SqT K H1 a xs ∧ ∀ p, H1 p = none → Q (.ref p) (upd H1 p (.tup xs.reverse))) ∨ ∃ a xs, x = .ref a ∧ SqL K H1 a xs ∧ ∀ p, H1 p = none → Q (.ref p) (upd H1 p (.lst xs.reverse))
theorem pe_revT {e : Expr} {te : TE} {k : Nat} {p1 p2 p3 pos : Pos} (he : PE X e te) : PE X (.Subscript e (.Slice none none (some (.UnaryOp .USub (.Constant (.int 1) k p1) p2)) p3) pos) (tRevT X.K te) := by
  refine ⟨fun pins s σ H Q I h => ?_⟩
  refine Subscript_ (thn (he.run pins s σ H _ I h) fun v s1 ⟨x, H1, I1, r1, q1⟩ => ?_)
  have hst : PO X (some (.UnaryOp .USub (.Constant (.int 1) k p1) p2)) (tPart (tUn (rU fun i => .int (-i)) (tC (.int 1)))) := po_some (pe_un un_neg pe_int)
  refine wpAny_Slice (thn (po_none.run pins s1 σ H1 (fun o H2 => o = none ∧ H2 = H1) I1 ⟨rfl, rfl⟩) fun vl s2 ⟨l, H2, I2, pl, el, e2⟩ => ?_)
  subst el e2
  refine thn (po_none.run pins s2 σ H2 (fun o H3 => o = none ∧ H3 = H2) I2 ⟨rfl, rfl⟩) fun vu s3 ⟨u, H3, I3, pu, eu, e3⟩ => ?_
  subst eu e3
  refine thn (hst.run pins s3 σ H3 (fun o H4 => o = some (-1) ∧ H4 = H3) I3 ⟨1, rfl, -1, rfl, rfl, rfl⟩) fun vs s4 ⟨o, H4, I4, ps, eo, e4⟩ => ?_
  subst eo e4
  have I5 : Inv X pins σ H4 { s4 with heap := s4.heap.push { cls := .type "slice", data := .fields #[vl, vu, vs] } } := I4.kept (t' := s4.toks) fun b ob q => Heap.get?_push_of_some _ q
  rcases q1 with ⟨a, xs, ex, hx, q⟩ | ⟨a, xs, ex, hx, q⟩
  · subst ex
    cases r1
    obtain ⟨its, r, ht, hz⟩ := I5.tuple hx
    have hlen : its.toArray.size = xs.length := by rw [List.size_toArray]; exact r.length.symm
    show wpAny (model X.prog X.w) X.A (subscriptTail e (.Slice none none (some (.UnaryOp .USub (.Constant (.int 1) k p1) p2)) p3) (.ref a) (.ref s4.heap.objs.size)) (EP X pins σ Q) X.xe { s4 with heap := s4.heap.push { cls := .type "slice", data := .fields #[vl, vu, vs] } }
    refine tail_any (ops := [.ref a, .ref s4.heap.objs.size]) ht.typeIs PyProof.Rows.slot_tuple_getitem.lookup ?_ (by with_unfolding_all rfl)
    refine HT.getItem_tuple_rev ht (Heap.IsSliceOf.new _ vl vu vs) pl pu ps ?_ (by rw [hlen]; exact hz)
    refine ⟨.ref _, _, I5.laid (t' := s4.toks) (o := .tup xs.reverse) (fun b ob q => Heap.get?_push_of_some _ q) (Nat.le_refl _) ?_, rfl, q _ (I5.hok.fresh (Nat.le_refl _))⟩
    exact ⟨by rw [List.length_reverse]; exact hz, _, r.reverse, IsTup.new _ _⟩
  · subst ex
    cases r1
    obtain ⟨its, r, ht, hz⟩ := I5.list hx
    have hlen := r.length
    show wpAny (model X.prog X.w) X.A (subscriptTail e (.Slice none none (some (.UnaryOp .USub (.Constant (.int 1) k p1) p2)) p3) (.ref a) (.ref s4.heap.objs.size)) (EP X pins σ Q) X.xe { s4 with heap := s4.heap.push { cls := .type "slice", data := .fields #[vl, vu, vs] } }
    refine tail_any (ops := [.ref a, .ref s4.heap.objs.size]) ht.isList.typeIs (PySem.slot_list_getitem.lookup) ?_ (by with_unfolding_all rfl)
    refine wpAny_getItem_list_slice ht.isList (Heap.IsSliceOf.new _ vl vu vs) pl pu ps (by decide) ?_ (by rw [List.size_toArray]; omega)
    rw [PySem.W.krv_pick]
    refine ⟨.ref _, _, I5.laid (t' := s4.toks) (o := .lst xs.reverse) (fun b ob q => Heap.get?_push_of_some _ q) (Nat.le_refl _) ?_, rfl, q _ (I5.hok.fresh (Nat.le_refl _))⟩
    exact ⟨by rw [List.length_reverse]; exact hz, _, 0, r.reverse, Heap.get?_push_size _ rfl⟩
def tStep (K : PySem.W.Frag) (k : Nat) (te : TE) : TE := fun σ H Q => te σ H fun x H1 => ∃ a xs, x = .ref a ∧ SqL K H1 a xs ∧ ∀ p, H1 p = none → Q (.ref p) (upd H1 p (.lst (stepL k xs)))
theorem pe_step {e : Expr} {te : TE} {k j : Nat} {p1 p3 pos : Pos} (hk : 1 ≤ k) (he : PE X e te) : PE X (.Subscript e (.Slice none none (some (.Constant (.int (k : Int)) j p1)) p3) pos) (tStep X.K k te) := by
  refine ⟨fun pins s σ H Q I h => ?_⟩
  refine Subscript_ (thn (he.run pins s σ H _ I h) fun v s1 ⟨x, H1, I1, r1, q1⟩ => ?_)
  obtain ⟨a, xs, ex, hx, q⟩ := q1
  subst ex
  cases r1
  have hst : PO X (some (.Constant (.int (k : Int)) j p1)) (tPart (tC (.int (k : Int)))) := po_some pe_int
  refine wpAny_Slice (thn (po_none.run pins s1 σ H1 (fun o H2 => o = none ∧ H2 = H1) I1 ⟨rfl, rfl⟩) fun vl s2 ⟨l, H2, I2, pl, el, e2⟩ => ?_)
  subst el e2
  refine thn (po_none.run pins s2 σ H2 (fun o H3 => o = none ∧ H3 = H2) I2 ⟨rfl, rfl⟩) fun vu s3 ⟨u, H3, I3, pu, eu, e3⟩ => ?_
  subst eu e3
  refine thn (hst.run pins s3 σ H3 (fun o H4 => o = some (k : Int) ∧ H4 = H3) I3 ⟨(k : Int), rfl, rfl, rfl⟩) fun vs s4 ⟨o, H4, I4, ps, eo, e4⟩ => ?_
  subst eo e4
  have I5 : Inv X pins σ H4 { s4 with heap := s4.heap.push { cls := .type "slice", data := .fields #[vl, vu, vs] } } := I4.kept (t' := s4.toks) fun b ob q => Heap.get?_push_of_some _ q
  obtain ⟨its, r, ht, hz⟩ := I5.list hx
  have hlen := r.length
  show wpAny (model X.prog X.w) X.A (subscriptTail e (.Slice none none (some (.Constant (.int (k : Int)) j p1)) p3) (.ref a) (.ref s4.heap.objs.size)) (EP X pins σ Q) X.xe { s4 with heap := s4.heap.push { cls := .type "slice", data := .fields #[vl, vu, vs] } }
  refine tail_any (ops := [.ref a, .ref s4.heap.objs.size]) ht.isList.typeIs (PySem.slot_list_getitem.lookup) ?_ (by with_unfolding_all rfl)
  refine wpAny_getItem_list_slice ht.isList (Heap.IsSliceOf.new _ vl vu vs) pl pu ps (by intro z; have := Option.some.inj z; omega) ?_ (by rw [List.size_toArray]; omega)
  rw [step_pick hk]
  refine ⟨.ref _, _, I5.laid (t' := s4.toks) (o := .lst (stepL k xs)) (fun b ob q => Heap.get?_push_of_some _ q) (Nat.le_refl _) ?_, rfl, q _ (I5.hok.fresh (Nat.le_refl _))⟩
  exact ⟨Nat.le_trans (step_le hk) hz, _, 0, r.step, Heap.get?_push_size _ rfl⟩
end
end L2
namespace Ow
open PySem PySem.Spec PyProof.Rows L2
def truD (S : Sto) : D → Option Bool
  | .non => some false
  | .bl b => some b
  | .int i => some (i != 0)
  | .str y => if y.length ≤ sizeLine then some ((y.length : Int) != 0) else none
  | .tup l => some (!l.isEmpty)
  | d => (itemsL S d).map fun l => !l.isEmpty
section
variable {K : PySem.W.Frag} {mg : GW} {H : Hp} {S : Sto}
theorem Reps.empty : ∀ {l : List D} {vs : List V}, Reps K mg H l vs → l.isEmpty = vs.isEmpty
  | _, _, .nil => rfl
  | _, _, .cons _ _ => rfl
theorem tru_rep {d : D} {v : V} {b : Bool} (s : Sim K mg H S) (r : Rep K mg H d v) (h : truD S d = some b) : TruV K v H b := by
  have key : ∀ {l : List D}, itemsL S d = some l → b = !l.isEmpty → ∃ a xs, v = .ref a ∧ SqL K H a xs ∧ b = !xs.isEmpty := fun {l} h1 h2 => by
    obtain ⟨a, vs, rfl, p1, p2⟩ := rep_items s r h1
    exact ⟨a, vs, rfl, p1, by rw [h2, p2.empty]⟩
  cases r with
  | non => cases h; rfl
  | bl c => cases h; rfl
  | int c => cases h; rfl
  | str c =>
    unfold truD at h
    simp only at h
    split at h
    · rename_i hc
      cases h
      exact ⟨hc, rfl⟩
    · cases h
  | tup h1 h2 => cases h; exact .inr (.inl ⟨_, h1, by rw [h2.empty]⟩)
  | fl h1 h2 =>
    cases h
    exact .inl ⟨_, h1.sql, by show (!List.isEmpty _) = _; rw [h2.empty]⟩
  | ref a =>
    obtain ⟨l, h1, h2⟩ := Option.map_eq_some_iff.mp (show (itemsL S (.ref a)).map (fun l => !l.isEmpty) = some b from h)
    obtain ⟨a', xs, e, p1, p2⟩ := key h1 h2.symm
    cases e
    exact .inl ⟨xs, p1, p2⟩
  | ty n => cases h
  | glo h' => cases h
  | ex0 _ _ => cases h
  | ex1 _ _ _ _ _ => cases h
end
def wTru (a : WE) : WT := fun ρ S Q E => a ρ S (fun d S1 => ∃ b, truD S1 d = some b ∧ Q b S1) E
def wNotT (t : WT) : WT := fun ρ S Q E => t ρ S (fun b S1 => Q (!b) S1) E
def wAndT (t u : WT) : WT := fun ρ S Q E => t ρ S (fun b S1 => if b = true then u ρ S1 Q E else Q false S1) E
def wOrT (t u : WT) : WT := fun ρ S Q E => t ρ S (fun b S1 => if b = true then Q true S1 else u ρ S1 Q E) E
def wCmpT (op : CmpOp) (a b : WE) : WT := fun ρ S Q E => a ρ S (fun d S1 => b ρ S1 (fun e S2 => ∃ c, cmpD S2 op d e = some c ∧ Q c S2) E) E
def wChT (op op' : CmpOp) (a b c : WE) : WT := fun ρ S Q E => a ρ S (fun d S1 => b ρ S1 (fun e S2 => ∃ k, cmpD S2 op d e = some k ∧
  if k = true then c ρ S2 (fun f S3 => ∃ k', cmpD S3 op' e f = some k' ∧ Q k' S3) E else Q false S2) E) E
def wNotV (a : WE) : WE := fun ρ S Q E => a ρ S (fun d S1 => ∃ b, truD S1 d = some b ∧ Q (.bl (!b)) S1) E
def wAndV (a b : WE) : WE := fun ρ S Q E => a ρ S (fun d S1 => ∃ k, truD S1 d = some k ∧ if k = true then b ρ S1 Q E else Q d S1) E
def wOrV (a b : WE) : WE := fun ρ S Q E => a ρ S (fun d S1 => ∃ k, truD S1 d = some k ∧ if k = true then Q d S1 else b ρ S1 Q E) E
def wIfE (t : WT) (a b : WE) : WE := fun ρ S Q E => t ρ S (fun c S1 => if c = true then a ρ S1 Q E else b ρ S1 Q E) E
def wChV (op op' : CmpOp) (a b c : WE) : WE := fun ρ S Q E => a ρ S (fun d S1 => b ρ S1 (fun e S2 => ∃ k, cmpD S2 op d e = some k ∧
  if k = true then c ρ S2 (fun f S3 => ∃ k', cmpD S3 op' e f = some k' ∧ Q (.bl k') S3) E else Q (.bl false) S2) E) E
section
variable {a b c : WE} {t u : WT}
theorem mono_Tru (ma : Mono a) : Mono (wTru a) := fun _ _ _ _ _ _ h q x => ma _ _ _ _ _ _ h (fun _ _ ⟨b, e, h1⟩ => ⟨b, e, q _ _ h1⟩) x
theorem mono_NotT (mt : Mono t) : Mono (wNotT t) := fun _ _ _ _ _ _ h q x => mt _ _ _ _ _ _ h (fun _ _ h1 => q _ _ h1) x
theorem mono_AndT (mt : Mono t) (mu : Mono u) : Mono (wAndT t u) := fun _ _ _ _ _ _ h q x => mt _ _ _ _ _ _ h (fun b S1 h1 => by
  cases b with
  | true => exact mu _ _ _ _ _ _ h1 q x
  | false => exact q _ _ h1) x
theorem mono_OrT (mt : Mono t) (mu : Mono u) : Mono (wOrT t u) := fun _ _ _ _ _ _ h q x => mt _ _ _ _ _ _ h (fun b S1 h1 => by
  cases b with
  | true => exact q _ _ h1
  | false => exact mu _ _ _ _ _ _ h1 q x) x
theorem mono_CmpT {op : CmpOp} (ma : Mono a) (mb : Mono b) : Mono (wCmpT op a b) := fun _ _ _ _ _ _ h q x => ma _ _ _ _ _ _ h (fun _ _ h1 => mb _ _ _ _ _ _ h1 (fun _ _ ⟨b, e, h2⟩ => ⟨b, e, q _ _ h2⟩) x) x
theorem mono_ChT {op op' : CmpOp} (ma : Mono a) (mb : Mono b) (mc : Mono c) : Mono (wChT op op' a b c) := fun _ _ _ _ _ _ h q x => ma _ _ _ _ _ _ h (fun _ _ h1 => mb _ _ _ _ _ _ h1 (fun _ _ ⟨k, e, h2⟩ => ⟨k, e, by
  cases k with
  | true => exact mc _ _ _ _ _ _ h2 (fun _ _ ⟨k', e', h3⟩ => ⟨k', e', q _ _ h3⟩) x
  | false => exact q _ _ h2⟩) x) x
theorem mono_NotV (ma : Mono a) : Mono (wNotV a) := fun _ _ _ _ _ _ h q x => ma _ _ _ _ _ _ h (fun _ _ ⟨b, e, h1⟩ => ⟨b, e, q _ _ h1⟩) x
theorem mono_AndV (ma : Mono a) (mb : Mono b) : Mono (wAndV a b) := fun _ _ _ _ _ _ h q x => ma _ _ _ _ _ _ h (fun _ _ ⟨k, e, h1⟩ => ⟨k, e, by
  cases k with
  | true => exact mb _ _ _ _ _ _ h1 q x
  | false => exact q _ _ h1⟩) x
theorem mono_OrV (ma : Mono a) (mb : Mono b) : Mono (wOrV a b) := fun _ _ _ _ _ _ h q x => ma _ _ _ _ _ _ h (fun _ _ ⟨k, e, h1⟩ => ⟨k, e, by
  cases k with
  | true => exact q _ _ h1
  | false => exact mb _ _ _ _ _ _ h1 q x⟩) x
theorem mono_IfE (mt : Mono t) (ma : Mono a) (mb : Mono b) : Mono (wIfE t a b) := fun _ _ _ _ _ _ h q x => mt _ _ _ _ _ _ h (fun k _ h1 => by
  cases k with
  | true => exact ma _ _ _ _ _ _ h1 q x
  | false => exact mb _ _ _ _ _ _ h1 q x) x
theorem mono_ChV {op op' : CmpOp} (ma : Mono a) (mb : Mono b) (mc : Mono c) : Mono (wChV op op' a b c) := fun _ _ _ _ _ _ h q x => ma _ _ _ _ _ _ h (fun _ _ h1 => mb _ _ _ _ _ _ h1 (fun _ _ ⟨k, e, h2⟩ => ⟨k, e, by
  cases k with
  | true => exact mc _ _ _ _ _ _ h2 (fun _ _ ⟨k', e', h3⟩ => ⟨k', e', q _ _ h3⟩) x
  | false => exact q _ _ h2⟩) x) x
end
section
variable {X : Cx} {W : WX} {a b c : Expr} {ta tb tc : WE} {pos : Pos} {t u : WT} {op op' : CmpOp} {rest : List Expr}
theorem pt_truW (ma : Mono ta) (ha : PE X a (lE X.K X.gw W ta)) (he : ∀ whole, isTrue a X.env whole = (do let v ← whole; standAt a.pos; holding [v] (truthy v))) : PT X a (lT X.K X.gw W (wTru ta)) :=
  (pt_truth ha he).imp fun σ H Q q => by
    obtain ⟨ρ, S, hS, hρ, h⟩ := q
    refine lG_bind ma hS hρ h (fun d S1 v H1 h1 s1 e1 r1 f1 => ?_) fun x S1 cls d H1 h1 s1 r1 f1 => h1 cls d H1 s1 r1 f1
    obtain ⟨k, ek, h1⟩ := h1
    exact ⟨k, tru_rep s1 r1 ek, h1 k H1 s1 rfl f1⟩
theorem pt_notW (mt : Mono t) (h : PT X a (lT X.K X.gw W t)) : PT X (.UnaryOp .Not a pos) (lT X.K X.gw W (wNotT t)) := (pt_not h).imp fun σ H Q q => by
  obtain ⟨ρ, S, hS, hρ, h⟩ := q
  exact lG_bind mt hS hρ h (fun d S1 v H1 h1 s1 e1 r1 f1 => by subst r1; exact h1 _ H1 s1 rfl f1) fun x S1 cls d H1 h1 s1 r1 f1 => h1 cls d H1 s1 r1 f1
theorem pw_oneW {op : BoolOp} (h : PT X a (lT X.K X.gw W t)) : PW X (.BoolOp op [a] pos) (lT X.K X.gw W t) := by
  cases op with
  | And => exact pw_and1 h
  | Or => exact pw_or1 h
theorem pw_andW (mt : Mono t) (mu : Mono u) (h : PT X a (lT X.K X.gw W t)) (h' : PW X (.BoolOp .And (b :: rest) pos) (lT X.K X.gw W u)) : PW X (.BoolOp .And (a :: b :: rest) pos) (lT X.K X.gw W (wAndT t u)) :=
  (pw_and h h').imp fun σ H Q q => by
    obtain ⟨ρ, S, hS, hρ, h⟩ := q
    refine lG_bind mt hS hρ h (fun d S1 v H1 h1 s1 e1 r1 f1 => ?_) fun x S1 cls d H1 h1 s1 r1 f1 => h1 cls d H1 s1 r1 f1
    subst r1
    cases d with
    | true => exact lG_bind mu s1 e1 h1 (fun d S2 v H2 h2 s2 e2 r2 f2 => h2 v H2 s2 r2 (f1.trans f2)) fun x S1 cls d H1 h1 s1 r1 f2 => h1 cls d H1 s1 r1 (f1.trans f2)
    | false => exact h1 _ H1 s1 rfl f1
theorem pw_orW (mt : Mono t) (mu : Mono u) (h : PT X a (lT X.K X.gw W t)) (h' : PW X (.BoolOp .Or (b :: rest) pos) (lT X.K X.gw W u)) : PW X (.BoolOp .Or (a :: b :: rest) pos) (lT X.K X.gw W (wOrT t u)) :=
  (pw_or h h').imp fun σ H Q q => by
    obtain ⟨ρ, S, hS, hρ, h⟩ := q
    refine lG_bind mt hS hρ h (fun d S1 v H1 h1 s1 e1 r1 f1 => ?_) fun x S1 cls d H1 h1 s1 r1 f1 => h1 cls d H1 s1 r1 f1
    subst r1
    cases d with
    | true => exact h1 _ H1 s1 rfl f1
    | false => exact lG_bind mu s1 e1 h1 (fun d S2 v H2 h2 s2 e2 r2 f2 => h2 v H2 s2 r2 (f1.trans f2)) fun x S1 cls d H1 h1 s1 r1 f2 => h1 cls d H1 s1 r1 (f1.trans f2)
theorem pe_notW (ma : Mono ta) (ha : PE X a (lE X.K X.gw W ta)) : PE X (.UnaryOp .Not a pos) (lE X.K X.gw W (wNotV ta)) := (pe_notT ha).imp fun σ H Q q => by
  obtain ⟨ρ, S, hS, hρ, h⟩ := q
  refine lG_bind ma hS hρ h (fun d S1 v H1 h1 s1 e1 r1 f1 => ?_) fun x S1 cls d H1 h1 s1 r1 f1 => h1 cls d H1 s1 r1 f1
  obtain ⟨k, ek, h1⟩ := h1
  exact ⟨k, tru_rep s1 r1 ek, h1 _ H1 s1 (.bl _) f1⟩
theorem pe_andW (ma : Mono ta) (mb : Mono tb) (ha : PE X a (lE X.K X.gw W ta)) (hb : PE X (.BoolOp .And (b :: rest) pos) (lE X.K X.gw W tb)) : PE X (.BoolOp .And (a :: b :: rest) pos) (lE X.K X.gw W (wAndV ta tb)) :=
  (pe_andT ha hb).imp fun σ H Q q => by
    obtain ⟨ρ, S, hS, hρ, h⟩ := q
    refine lG_bind ma hS hρ h (fun d S1 v H1 h1 s1 e1 r1 f1 => ?_) fun x S1 cls d H1 h1 s1 r1 f1 => h1 cls d H1 s1 r1 f1
    obtain ⟨k, ek, h1⟩ := h1
    refine ⟨k, tru_rep s1 r1 ek, ?_⟩
    cases k with
    | true => exact lG_bind mb s1 e1 h1 (fun d S2 v H2 h2 s2 e2 r2 f2 => h2 v H2 s2 r2 (f1.trans f2)) fun x S1 cls d H1 h1 s1 r1 f2 => h1 cls d H1 s1 r1 (f1.trans f2)
    | false => exact h1 _ H1 s1 r1 f1
theorem pe_orW (ma : Mono ta) (mb : Mono tb) (ha : PE X a (lE X.K X.gw W ta)) (hb : PE X (.BoolOp .Or (b :: rest) pos) (lE X.K X.gw W tb)) : PE X (.BoolOp .Or (a :: b :: rest) pos) (lE X.K X.gw W (wOrV ta tb)) :=
  (pe_orT ha hb).imp fun σ H Q q => by
    obtain ⟨ρ, S, hS, hρ, h⟩ := q
    refine lG_bind ma hS hρ h (fun d S1 v H1 h1 s1 e1 r1 f1 => ?_) fun x S1 cls d H1 h1 s1 r1 f1 => h1 cls d H1 s1 r1 f1
    obtain ⟨k, ek, h1⟩ := h1
    refine ⟨k, tru_rep s1 r1 ek, ?_⟩
    cases k with
    | true => exact h1 _ H1 s1 r1 f1
    | false => exact lG_bind mb s1 e1 h1 (fun d S2 v H2 h2 s2 e2 r2 f2 => h2 v H2 s2 r2 (f1.trans f2)) fun x S1 cls d H1 h1 s1 r1 f2 => h1 cls d H1 s1 r1 (f1.trans f2)
theorem pe_ifW (mt : Mono t) (ma : Mono ta) (mb : Mono tb) (hc : PT X c (lT X.K X.gw W t)) (ha : PE X a (lE X.K X.gw W ta)) (hb : PE X b (lE X.K X.gw W tb)) : PE X (.IfExp c a b pos) (lE X.K X.gw W (wIfE t ta tb)) :=
  (pe_ifExp hc ha hb).imp fun σ H Q q => by
    obtain ⟨ρ, S, hS, hρ, h⟩ := q
    refine lG_bind mt hS hρ h (fun d S1 v H1 h1 s1 e1 r1 f1 => ?_) fun x S1 cls d H1 h1 s1 r1 f1 => h1 cls d H1 s1 r1 f1
    subst r1
    cases d with
    | true => exact lG_bind ma s1 e1 h1 (fun d S2 v H2 h2 s2 e2 r2 f2 => h2 v H2 s2 r2 (f1.trans f2)) fun x S1 cls d H1 h1 s1 r1 f2 => h1 cls d H1 s1 r1 (f1.trans f2)
    | false => exact lG_bind mb s1 e1 h1 (fun d S2 v H2 h2 s2 e2 r2 f2 => h2 v H2 s2 r2 (f1.trans f2)) fun x S1 cls d H1 h1 s1 r1 f2 => h1 cls d H1 s1 r1 (f1.trans f2)
theorem pe_cmpW (hu : X.A.units + 65 < cLine) (ma : Mono ta) (mb : Mono tb) (ha : PE X a (lE X.K X.gw W ta)) (hb : PE X b (lE X.K X.gw W tb)) (hm : behindInMarks op b = false) : PE X (.Compare a [op] [b] pos) (lE X.K X.gw W (wBin (cmpF op) ta tb)) :=
  (pe_cmpR (op_cmp hu op) ha hb hm).imp fun _ _ _ h => bin_lift m_cmp (says_cmp op) ma mb h
theorem pt_cmpW (hu : X.A.units + 65 < cLine) (ma : Mono ta) (mb : Mono tb) (ha : PE X a (lE X.K X.gw W ta)) (hb : PE X b (lE X.K X.gw W tb)) (hm : behindInMarks op b = false) : PT X (.Compare a [op] [b] pos) (lT X.K X.gw W (wCmpT op ta tb)) :=
  (pt_cmpR (op_cmp hu op) ha hb hm).imp fun σ H Q q => by
    obtain ⟨ρ, S, hS, hρ, h⟩ := q
    refine lG_bind ma hS hρ h (fun d S1 v H1 h1 s1 e1 r1 f1 => ?_) fun x S1 cls d H1 h1 s1 r1 f1 => h1 cls d H1 s1 r1 f1
    refine lG_bind mb s1 e1 h1 (fun e S2 u H2 h2 s2 e2 r2 f2 => ?_) fun x S1 cls d H1 h1 s1 r1 f2 => h1 cls d H1 s1 r1 (f1.trans f2)
    obtain ⟨k, ek, h2⟩ := h2
    exact says_cmp op d e v u S2 H2 _ s2 (r1.fm s1 f2) r2 ⟨k, ek, fun y H3 s3 r3 f3 => ⟨k, by cases r3; rfl, h2 k H3 s3 rfl ((f1.trans f2).trans f3)⟩⟩
theorem pe_chW (hu : X.A.units + 65 < cLine) (ma : Mono ta) (mb : Mono tb) (mc : Mono tc) (ha : PE X a (lE X.K X.gw W ta)) (hb : PE X b (lE X.K X.gw W tb)) (hc : PE X c (lE X.K X.gw W tc)) (hm : lastMarks [op, op'] [b, c] = false) :
    PE X (.Compare a [op, op'] [b, c] pos) (lE X.K X.gw W (wChV op op' ta tb tc)) :=
  (pe_chain (op_cmp hu op) (op_cmp hu op') ha hb hc hm).imp fun σ H Q q => by
    obtain ⟨ρ, S, hS, hρ, h⟩ := q
    refine lG_bind ma hS hρ h (fun d S1 v H1 h1 s1 e1 r1 f1 => ?_) fun x S1 cls d H1 h1 s1 r1 f1 => h1 cls d H1 s1 r1 f1
    refine lG_bind mb s1 e1 h1 (fun e S2 u H2 h2 s2 e2 r2 f2 => ?_) fun x S1 cls d H1 h1 s1 r1 f2 => h1 cls d H1 s1 r1 (f1.trans f2)
    obtain ⟨k, ek, h2⟩ := h2
    refine says_cmp op d e v u S2 H2 _ s2 (r1.fm s1 f2) r2 ⟨k, ek, fun y H3 s3 r3 f3 => ⟨k, by cases r3; rfl, ?_⟩⟩
    cases k with
    | true =>
      rw [if_pos rfl]
      refine lG_bind mc s3 (e2.fm s2 f3) h2 (fun g S4 w H4 h4 s4 e4 r4 f4 => ?_) fun x S1 cls d H1 h1 s1 r1 f4 => h1 cls d H1 s1 r1 (((f1.trans f2).trans f3).trans f4)
      obtain ⟨k', ek', h4⟩ := h4
      exact says_cmp op' e g u w S4 H4 _ s4 ((r2.fm s2 f3).fm s3 f4) r4 ⟨k', ek', fun y H5 s5 r5 f5 => h4 y H5 s5 r5 ((((f1.trans f2).trans f3).trans f4).trans f5)⟩
    | false =>
      rw [if_neg Bool.false_ne_true]
      exact h2 _ H3 s3 (.bl false) ((f1.trans f2).trans f3)
theorem pt_chW (hu : X.A.units + 65 < cLine) (ma : Mono ta) (mb : Mono tb) (mc : Mono tc) (ha : PE X a (lE X.K X.gw W ta)) (hb : PE X b (lE X.K X.gw W tb)) (hc : PE X c (lE X.K X.gw W tc)) (hm : lastMarks [op, op'] [b, c] = false) :
    PT X (.Compare a [op, op'] [b, c] pos) (lT X.K X.gw W (wChT op op' ta tb tc)) :=
  (pt_chain (op_cmp hu op) (op_cmp hu op') ha hb hc hm).imp fun σ H Q q => by
    obtain ⟨ρ, S, hS, hρ, h⟩ := q
    refine lG_bind ma hS hρ h (fun d S1 v H1 h1 s1 e1 r1 f1 => ?_) fun x S1 cls d H1 h1 s1 r1 f1 => h1 cls d H1 s1 r1 f1
    refine lG_bind mb s1 e1 h1 (fun e S2 u H2 h2 s2 e2 r2 f2 => ?_) fun x S1 cls d H1 h1 s1 r1 f2 => h1 cls d H1 s1 r1 (f1.trans f2)
    obtain ⟨k, ek, h2⟩ := h2
    refine says_cmp op d e v u S2 H2 _ s2 (r1.fm s1 f2) r2 ⟨k, ek, fun y H3 s3 r3 f3 => ⟨k, by cases r3; rfl, ?_⟩⟩
    cases k with
    | true =>
      rw [if_pos rfl]
      refine lG_bind mc s3 (e2.fm s2 f3) h2 (fun g S4 w H4 h4 s4 e4 r4 f4 => ?_) fun x S1 cls d H1 h1 s1 r1 f4 => h1 cls d H1 s1 r1 (((f1.trans f2).trans f3).trans f4)
      obtain ⟨k', ek', h4⟩ := h4
      exact says_cmp op' e g u w S4 H4 _ s4 ((r2.fm s2 f3).fm s3 f4) r4 ⟨k', ek', fun y H5 s5 r5 f5 => ⟨k', by cases r5; rfl, h4 k' H5 s5 rfl ((((f1.trans f2).trans f3).trans f4).trans f5)⟩⟩
    | false =>
      rw [if_neg Bool.false_ne_true]
      exact ⟨false, rfl, h2 _ H3 s3 rfl ((f1.trans f2).trans f3)⟩
end
def ixF : F2 := fun d e S Q => match d, e with
  | .tup l, .int i => ∃ x, atI l i = some x ∧ Q x S
  | .str z, .int i => ∃ c, z.length ≤ sizeLine ∧ atI z.cps.toList i = some c ∧ Q (.str ⟨#[c]⟩) S
  | d, .int i => ∃ l x, itemsL S d = some l ∧ atI l i = some x ∧ Q x S
  | .ref a, .tup k => ∃ ep l n x, S a = some (.dct ep l) ∧ keyN (.tup k) = some n ∧ n.depth ≤ 8 ∧ valK l n = some x ∧ Q x S
  | .ref a, .str k => ∃ l x, S a = some (.dcs l) ∧ valS l k = some x ∧ Q x S
  | _, _ => False
theorem m_ix : MonoF2 ixF := fun d e S Q Q' h q => by
  unfold ixF at h ⊢
  split at h
  · obtain ⟨x, a, h⟩ := h; exact ⟨x, a, q _ _ h⟩
  · obtain ⟨x, a, b, h⟩ := h; exact ⟨x, a, b, q _ _ h⟩
  · obtain ⟨l, x, a, b, h⟩ := h; exact ⟨l, x, a, b, q _ _ h⟩
  · obtain ⟨ep, l, n, x, a, b, c, d, h⟩ := h; exact ⟨ep, l, n, x, a, b, c, d, q _ _ h⟩
  · obtain ⟨l, x, a, b, h⟩ := h; exact ⟨l, x, a, b, q _ _ h⟩
  · exact h
theorem atI_rep {K : PySem.W.Frag} {mg : GW} {H : Hp} {l : List D} {vs : List V} {i : Int} {d : D} (r : Reps K mg H l vs) (h : atI l i = some d) : ∃ v, atI vs i = some v ∧ Rep K mg H d v := by
  unfold atI at h ⊢
  rw [← r.length]
  cases e : ixN l.length i with
  | none => rw [e] at h; cases h
  | some j =>
    rw [e] at h
    exact r.get h
section
variable {X : Cx}
def rIxA (X : Cx) : R2 := fun x y H Q => rIx X.K x y H Q ∨ rDIx X.K X.w x y H Q ∨ rSIx x y H Q
theorem ix_any (hu : X.A.units + 65 < cLine) : IxR X (rIxA X) := ix_seq.or ((ix_dct (by omega)).or (ix_dcs (by omega)))
theorem says_ix : Says2 X.K X.gw (rIxA X) ixF := fun d e v u S H Q s r1 r2 q => by
  unfold ixF at q
  split at q
  · obtain ⟨x, h, q⟩ := q
    obtain ⟨p1, vs, rfl, h1, t1⟩ := r1.tupV
    obtain ⟨y, hy, ry⟩ := atI_rep t1 h
    exact .inl (.inr (.inl ⟨p1, vs, _, y, rfl, r2.intV, h1, hy, ans s ry q⟩))
  · obtain ⟨c, h1, h2, q⟩ := q
    exact .inl (.inr (.inr ⟨_, _, c, r1.strV, r2.intV, h1, h2, ans s (.str _) q⟩))
  · obtain ⟨l, x, h, h', q⟩ := q
    obtain ⟨a, vs, rfl, h1, t1⟩ := rep_items s r1 h
    obtain ⟨y, hy, ry⟩ := atI_rep t1 h'
    exact .inl (.inl ⟨a, vs, _, y, rfl, r2.intV, h1, hy, ans s ry q⟩)
  · obtain ⟨ep, l, n, x, ha, hn, hd, hx, q⟩ := q
    cases r1
    obtain ⟨xs, g1, g2⟩ := s _ _ ha
    obtain ⟨c, rfl⟩ := rep_tup r2
    rcases g2.at n with ⟨h1, _⟩ | ⟨d', p, v', h1, h2, h3, h4⟩
    · rw [hx] at h1; cases h1
    · rw [hx] at h1
      cases h1
      exact .inr (.inl ⟨_, c, ep, xs, n, p, v', rfl, rfl, g1, g2.keys, r2.key hn, hd, h2, h4, ans s h3 q⟩)
  · obtain ⟨l, x, ha, hx, q⟩ := q
    cases r1
    obtain ⟨xs, g1, g2⟩ := s _ _ ha
    rcases g2.val _ with ⟨h1, _⟩ | ⟨d', v', h1, h2, h3⟩
    · rw [hx] at h1; cases h1
    · rw [hx] at h1
      cases h1
      exact .inr (.inr ⟨_, _, xs, v', rfl, r2.strV, g1, h2, ans s h3 q⟩)
  · exact q.elim
end
abbrev WO := WG (Option Int)
def wNoP : WO := fun _ S Q _ => Q none S
def wP (a : WE) : WO := fun ρ S Q E => a ρ S (fun d S1 => ∃ i, d = .int i ∧ Q (some i) S1) E
def cutD (l : List D) (lo hi : Option Int) : List D := (l.drop (HT.sIx l.length 0 lo)).take (HT.sIx l.length l.length hi - HT.sIx l.length 0 lo)
def slD (d : D) (lo hi : Option Int) (S : Sto) (Q : D → Sto → Prop) : Prop := match d with
  | .tup l => Q (.tup (cutD l lo hi)) S
  | .str z => z.length ≤ sizeLine ∧ Q (.str (cutS z lo hi)) S
  | d => ∃ l, itemsL S d = some l ∧ newL (cutD l lo hi) S Q
def wSl (a : WE) (lo hi : WO) : WE := fun ρ S Q E => a ρ S (fun d S1 => lo ρ S1 (fun l S2 => hi ρ S2 (fun h S3 => slD d l h S3 Q) E) E) E
theorem mono_NoP : Mono wNoP := fun _ _ _ _ _ _ h q _ => q _ _ h
theorem mono_P {a : WE} (ma : Mono a) : Mono (wP a) := fun _ _ _ _ _ _ h q x => ma _ _ _ _ _ _ h (fun _ _ ⟨i, e, h1⟩ => ⟨i, e, q _ _ h1⟩) x
theorem slD.mono {d : D} {lo hi : Option Int} {S : Sto} {Q Q' : D → Sto → Prop} (h : slD d lo hi S Q) (q : ∀ x S', Q x S' → Q' x S') : slD d lo hi S Q' := by
  unfold slD at h ⊢
  split at h
  · exact q _ _ h
  · exact ⟨h.1, q _ _ h.2⟩
  · obtain ⟨l, a, h⟩ := h
    exact ⟨l, a, h.mono q⟩
theorem mono_Sl {a : WE} {lo hi : WO} (ma : Mono a) (ml : Mono lo) (mh : Mono hi) : Mono (wSl a lo hi) := fun _ _ _ _ _ _ h q x =>
  ma _ _ _ _ _ _ h (fun _ _ h1 => ml _ _ _ _ _ _ h1 (fun _ _ h2 => mh _ _ _ _ _ _ h2 (fun _ _ h3 => h3.mono q) x) x) x
section
variable {X : Cx} {W : WX} {a : Expr} {ta : WE} {lo hi : Option Expr} {tl th : WO} {pos p2 : Pos}
abbrev lO (K : PySem.W.Frag) (mg : GW) (W : WX) (t : WO) : TO := lG K mg (fun _ _ a b => a = b) W t
theorem PO.imp {e : Option Expr} {t t' : TO} (h : PO X e t) (i : ∀ σ H Q, t' σ H Q → t σ H Q) : PO X e t' := ⟨fun pins s σ H Q I q => h.run pins s σ H Q I (i σ H Q q)⟩
theorem po_noneW : PO X none (lO X.K X.gw W wNoP) := PO.imp po_none fun σ H Q q => by
  obtain ⟨ρ, S, hS, hρ, h⟩ := q
  exact h none H hS rfl Fm.refl
theorem po_someW {e : Expr} {te : WE} (me : Mono te) (h : PE X e (lE X.K X.gw W te)) : PO X (some e) (lO X.K X.gw W (wP te)) := PO.imp (po_some h) fun σ H Q q => by
  obtain ⟨ρ, S, hS, hρ, h⟩ := q
  refine lG_bind me hS hρ h (fun d S1 v H1 h1 s1 e1 r1 f1 => ?_) fun x S1 cls d H1 h1 s1 r1 f1 => h1 cls d H1 s1 r1 f1
  obtain ⟨i, rfl, h1⟩ := h1
  exact ⟨i, r1.intV, h1 _ H1 s1 rfl f1⟩
theorem cut_rep {K : PySem.W.Frag} {mg : GW} {H : Hp} {l : List D} {vs : List V} {x y : Option Int} (r : Reps K mg H l vs) : Reps K mg H (cutD l x y) (cutV vs x y) := by
  unfold cutD cutV
  rw [r.length]
  exact (r.drop _).take _
def rSlX (K : PySem.W.Frag) : V → Option Int → Option Int → Hp → VK → Prop := fun x lo hi H Q => rSlL K x lo hi H Q ∨ rSlA K x lo hi H Q ∨ rSlS x lo hi H Q
theorem sl_any : SlR X (rSlX X.K) := SlR.or sl_list (SlR.or sl_tupA sl_str)
theorem cut_whole {l : List D} {x y : Option Int} (h1 : HT.sIx l.length 0 x = 0) (h2 : HT.sIx l.length l.length y = l.length) : cutD l x y = l := by
  unfold cutD
  rw [h1, h2]
  simp
theorem says_sl {d : D} {v : V} {x y : Option Int} {S : Sto} {H : Hp} {Q : VK} (s : Sim X.K X.gw H S) (r : Rep X.K X.gw H d v) (q : slD d x y S fun z S' => ∀ w H', Sim X.K X.gw H' S' → Rep X.K X.gw H' z w → Fm S H S' H' → Q w H') : rSlX X.K v x y H Q := by
  unfold slD at q
  split at q
  · obtain ⟨p1, vs, rfl, h1, t1⟩ := r.tupV
    refine .inr (.inl ⟨p1, vs, rfl, h1, fun z => ?_, fun _ => new_tup s (cut_rep t1) q⟩)
    rw [← t1.length] at z
    rw [cut_whole z.1 z.2] at q
    exact ans s (.tup h1 t1) q
  · exact .inr (.inr ⟨_, r.strV, q.1, ans s (.str _) q.2⟩)
  · obtain ⟨l, h, q⟩ := q
    obtain ⟨a, vs, rfl, h1, t1⟩ := rep_items s r h
    exact .inl ⟨a, vs, rfl, h1, new_lst s (cut_rep t1) q⟩
theorem pe_slW (ma : Mono ta) (ml : Mono tl) (mh : Mono th) (ha : PE X a (lE X.K X.gw W ta)) (hl : PO X lo (lO X.K X.gw W tl)) (hh : PO X hi (lO X.K X.gw W th)) : PE X (.Subscript a (.Slice lo hi none p2) pos) (lE X.K X.gw W (wSl ta tl th)) :=
  (pe_slice sl_any ha hl hh).imp fun σ H Q q => by
    obtain ⟨ρ, S, hS, hρ, h⟩ := q
    refine lG_bind ma hS hρ h (fun d S1 v H1 h1 s1 e1 r1 f1 => ?_) fun x S1 cls d H1 h1 s1 r1 f1 => h1 cls d H1 s1 r1 f1
    refine lG_bind ml s1 e1 h1 (fun l S2 u H2 h2 s2 e2 r2 f2 => ?_) fun x S1 cls d H1 h1 s1 r1 f2 => h1 cls d H1 s1 r1 (f1.trans f2)
    subst r2
    refine lG_bind mh s2 e2 h2 (fun l' S3 u' H3 h3 s3 e3 r3 f3 => ?_) fun x S1 cls d H1 h1 s1 r1 f3 => h1 cls d H1 s1 r1 ((f1.trans f2).trans f3)
    subst r3
    exact says_sl s3 ((r1.fm s1 f2).fm s2 f3) (h3.mono fun z S4 h4 w H4 s4 r4 f4 => h4 w H4 s4 r4 (((f1.trans f2).trans f3).trans f4))
/-- xs[::-1] of a list -/
def wRev (a : WE) : WE := fun ρ S Q E => a ρ S (fun d S1 => (∃ l, d = .tup l ∧ Q (.tup l.reverse) S1) ∨ ∃ l, itemsL S1 d = some l ∧ newL l.reverse S1 Q) E
theorem mono_Rev {a : WE} (ma : Mono a) : Mono (wRev a) := fun _ _ _ _ _ _ h q x => ma _ _ _ _ _ _ h (fun _ _ h1 => by
  rcases h1 with ⟨l, e, h1⟩ | ⟨l, e, h1⟩
  · exact .inl ⟨l, e, q _ _ h1⟩
  · exact .inr ⟨l, e, h1.mono q⟩) x
theorem pe_revW {k : Nat} {p1 p2 p3 : Pos} (ma : Mono ta) (ha : PE X a (lE X.K X.gw W ta)) : PE X (.Subscript a (.Slice none none (some (.UnaryOp .USub (.Constant (.int 1) k p1) p2)) p3) pos) (lE X.K X.gw W (wRev ta)) :=
  (pe_revT ha).imp fun σ H Q q => by
    obtain ⟨ρ, S, hS, hρ, h⟩ := q
    refine lG_bind ma hS hρ h (fun d S1 v H1 h1 s1 e1 r1 f1 => ?_) fun x S1 cls d H1 h1 s1 r1 f1 => h1 cls d H1 s1 r1 f1
    rcases h1 with ⟨l, rfl, h1⟩ | ⟨l, hl, h1⟩
    · cases r1 with
      | tup g1 g2 => exact .inl ⟨_, _, rfl, g1, new_tup (X := X) s1 g2.reverse fun y H' a1 a2 a3 => h1 y H' a1 a2 (f1.trans a3)⟩
    · obtain ⟨b, vs, rfl, g1, g2⟩ := rep_items s1 r1 hl
      exact .inr ⟨b, vs, rfl, g1, new_lst (X := X) s1 g2.reverse (h1.mono fun x S' z y H' a1 a2 a3 => z y H' a1 a2 (f1.trans a3))⟩
theorem Reps.step {K : PySem.W.Frag} {mg : GW} {H : Hp} {k : Nat} {ds : List D} {vs : List V} (r : Reps K mg H ds vs) : Reps K mg H (stepL k ds) (stepL k vs) := by
  unfold stepL
  rw [r.length]
  generalize List.range _ = js
  induction js with
  | nil => exact .nil
  | cons j js ih =>
    rw [List.filterMap_cons, List.filterMap_cons]
    cases e : ds[k * j]? with
    | some d =>
      obtain ⟨v, e1, e2⟩ := r.get e
      rw [e1]
      exact .cons e2 ih
    | none =>
      have : vs[k * j]? = none := by
        rw [List.getElem?_eq_none_iff] at e ⊢
        rw [← r.length]
        exact e
      rw [this]
      exact ih
/-- every k-th of a list -/
def wStep (k : Nat) (a : WE) : WE := fun ρ S Q E => a ρ S (fun d S1 => ∃ l, itemsL S1 d = some l ∧ newL (stepL k l) S1 Q) E
theorem mono_Step {k : Nat} {a : WE} (ma : Mono a) : Mono (wStep k a) := fun _ _ _ _ _ _ h q x => ma _ _ _ _ _ _ h (fun _ _ ⟨l, e, h1⟩ => ⟨l, e, h1.mono q⟩) x
theorem pe_stepW {k j : Nat} {p1 p3 : Pos} (hk : 1 ≤ k) (ma : Mono ta) (ha : PE X a (lE X.K X.gw W ta)) : PE X (.Subscript a (.Slice none none (some (.Constant (.int (k : Int)) j p1)) p3) pos) (lE X.K X.gw W (wStep k ta)) :=
  (pe_step hk ha).imp fun σ H Q q => by
    obtain ⟨ρ, S, hS, hρ, h⟩ := q
    refine lG_bind ma hS hρ h (fun d S1 v H1 h1 s1 e1 r1 f1 => ?_) fun x S1 cls d H1 h1 s1 r1 f1 => h1 cls d H1 s1 r1 f1
    obtain ⟨l, hl, h1⟩ := h1
    obtain ⟨b, vs, rfl, g1, g2⟩ := rep_items s1 r1 hl
    exact ⟨b, vs, rfl, g1, new_lst (X := X) s1 g2.step (h1.mono fun x S' z y H' a1 a2 a3 => z y H' a1 a2 (f1.trans a3))⟩
end
end Ow

namespace Ow
open PySem PySem.Spec PyProof.Rows L2
def plainE : Expr → Bool
  | .Starred _ _ => false
  | _ => true
theorem star_cons {e : Expr} {es : List Expr} {env : Env} (h : plainE e = true) : starEach (e :: es) env = (false, eval e env) :: starEach es env := by
  cases e <;> first | (cases h; done) | rfl
theorem star_none {pos : Pos} {env : Env} : ∀ {es : List Expr}, es.all plainE = true → (backTo pos (starEach es env)).any (·.1) = false
  | [], _ => rfl
  | e :: es, h => by
    rw [List.all_cons, Bool.and_eq_true] at h
    rw [star_cons h.1]
    show (false || (backTo pos (starEach es env)).any (·.1)) = false
    rw [star_none h.2]
    rfl
abbrev WQ := WG (Bool × List D)
def SqB (K : PySem.W.Frag) (mg : GW) (H : Hp) (p : Bool × List D) (v : V) : Prop := ∃ a vs, v = .ref a ∧ (if p.1 = true then SqT K H a vs else SqL K H a vs) ∧ Reps K mg H p.2 vs
abbrev lQ (K : PySem.W.Frag) (mg : GW) (W : WX) (t : WQ) : TE := lG K mg (fun _ => SqB K mg) W t
def qOf (a : WE) : WQ := fun ρ S Q E => a ρ S (fun d S1 => ∃ p, itemsQ S1 d = some p ∧ Q p S1) E
def qLst (t : WA) : WQ := fun ρ S Q E => t ρ S (fun ds S1 => Q (false, ds) S1) E
theorem mono_qOf {a : WE} (ma : Mono a) : Mono (qOf a) := fun _ _ _ _ _ _ h q x => ma _ _ _ _ _ _ h (fun _ _ ⟨p, e, h1⟩ => ⟨p, e, q _ _ h1⟩) x
theorem mono_qLst {a : WA} (ma : Mono a) : Mono (qLst a) := fun _ _ _ _ _ _ h q x => ma _ _ _ _ _ _ h (fun _ _ h1 => q _ _ h1) x
/-- what is done with a sequence -/
abbrev FQ := Bool → List D → Sto → (D → Sto → Prop) → Prop
def MonoQ (f : FQ) : Prop := ∀ b l S Q Q', f b l S Q → (∀ x S', Q x S' → Q' x S') → f b l S Q'
def wQf (f : FQ) (q : WQ) : WE := fun ρ S Q E => q ρ S (fun p S1 => f p.1 p.2 S1 Q) E
theorem mono_Qf {f : FQ} {q : WQ} (mf : MonoQ f) (mq : Mono q) : Mono (wQf f q) := fun _ _ _ _ _ _ h q x => mq _ _ _ _ _ _ h (fun _ _ h1 => mf _ _ _ _ _ h1 q) x
/-- .. with argument values -/
abbrev FL := List D → Sto → (D → Sto → Prop) → Prop
def MonoL (f : FL) : Prop := ∀ l S Q Q', f l S Q → (∀ x S', Q x S' → Q' x S') → f l S Q'
def wFn (f : FL) (t : WA) : WE := fun ρ S Q E => t ρ S (fun ds S1 => f ds S1 Q) E
theorem mono_Fn {f : FL} {t : WA} (mf : MonoL f) (mt : Mono t) : Mono (wFn f t) := fun _ _ _ _ _ _ h q x => mt _ _ _ _ _ _ h (fun _ _ h1 => mf _ _ _ _ h1 q) x
section
variable {X : Cx} {W : WX} {e : Expr} {es : List Expr} {te : WE} {t : WA} {q : WQ} {pos p : Pos} {x : Str} {id T : String} {r : List V → Hp → VK → Prop} {f : FL} {g : FQ}
theorem pe_qOf (ma : Mono te) (h : PE X e (lE X.K X.gw W te)) : PE X e (lQ X.K X.gw W (qOf te)) := h.imp fun σ H Q q => by
  obtain ⟨ρ, S, hS, hρ, h⟩ := q
  refine lG_bind ma hS hρ h (fun d S1 v H1 h1 s1 e1 r1 f1 => ?_) fun x S1 cls d H1 h1 s1 r1 f1 => h1 cls d H1 s1 r1 f1
  obtain ⟨⟨b, l⟩, ep, h1⟩ := h1
  exact h1 v H1 s1 (rep_itemsQ s1 r1 ep) f1
/-- the call of a built-in function, a built-in class, upon a sequence -/
def SaysQ (K : PySem.W.Frag) (mg : GW) (r : List V → Hp → VK → Prop) (g : FQ) : Prop :=
  ∀ (b : Bool) (l : List D) (v : V) (S : Sto) (H : Hp) (Q : VK), Sim K mg H S → SqB K mg H (b, l) v →
    g b l S (fun x S' => ∀ y H', Sim K mg H' S' → Rep K mg H' x y → Fm S H S' H' → Q y H') → r [v] H Q
theorem q_lift (mq : Mono q) (mg' : MonoQ g) (sy : SaysQ X.K X.gw r g) {σ : L2.St} {H : Hp} {Q : VK} (h : lE X.K X.gw W (wQf g q) σ H Q) : tCB r (tCons (lQ X.K X.gw W q) tNil) σ H Q := by
  obtain ⟨ρ, S, hS, hρ, h⟩ := h
  refine lG_bind mq hS hρ h (fun d S1 v H1 h1 s1 e1 r1 f1 => ?_) fun x S1 cls d H1 h1 s1 r1 f1 => h1 cls d H1 s1 r1 f1
  exact sy d.1 d.2 v S1 H1 Q s1 r1 (mg' _ _ _ _ _ h1 fun x S2 h2 y H2 s2 r2 f2 => h2 y H2 s2 r2 (f1.trans f2))
theorem pe_callBQ (hc : CallR X (.builtin id) r) (hg : Gl X x) (hm : X.mg x = none) (hv : bootBuiltins x = some (.builtin id)) (mq : Mono q) (mg' : MonoQ g) (sy : SaysQ X.K X.gw r g) (hq : PE X e (lQ X.K X.gw W q)) (he : plainE e = true)
    (hn : x ≠ "__name__" := by decide) (hdb : (x == ("__debug__" : Str)) = false := by decide) : PE X (.Call (.Name x p) [e] [] pos) (lE X.K X.gw W (wQf g q)) :=
  (pe_callB hc hg hm hv (pa_cons hq pa_nil (star_cons he)) hn hdb (star_cons he) rfl).imp fun _ _ _ h => q_lift mq mg' sy h
theorem pe_callTQ (hc : CallR X (.type T) r) (hg : Gl X x) (hm : X.mg x = none) (hv : bootBuiltins x = some (.type T)) (mq : Mono q) (mg' : MonoQ g) (sy : SaysQ X.K X.gw r g) (hq : PE X e (lQ X.K X.gw W q)) (he : plainE e = true)
    (hn : x ≠ "__name__" := by decide) (hdb : (x == ("__debug__" : Str)) = false := by decide) : PE X (.Call (.Name x p) [e] [] pos) (lE X.K X.gw W (wQf g q)) :=
  (pe_callTy hc hg hm hv (pa_cons hq pa_nil (star_cons he)) hn hdb (star_cons he) rfl).imp fun _ _ _ h => q_lift mq mg' sy h
def SaysL (K : PySem.W.Frag) (mg : GW) (r : List V → Hp → VK → Prop) (f : FL) : Prop :=
  ∀ (ds : List D) (vs : List V) (S : Sto) (H : Hp) (Q : VK), Sim K mg H S → Reps K mg H ds vs →
    f ds S (fun x S' => ∀ y H', Sim K mg H' S' → Rep K mg H' x y → Fm S H S' H' → Q y H') → r vs H Q
theorem l_lift (mt : Mono t) (mf : MonoL f) (sy : SaysL X.K X.gw r f) {σ : L2.St} {H : Hp} {Q : VK} (h : lE X.K X.gw W (wFn f t) σ H Q) : tCB r (lA X.K X.gw W t) σ H Q := by
  obtain ⟨ρ, S, hS, hρ, h⟩ := h
  refine lG_bind mt hS hρ h (fun d S1 v H1 h1 s1 e1 r1 f1 => ?_) fun x S1 cls d H1 h1 s1 r1 f1 => h1 cls d H1 s1 r1 f1
  exact sy d v S1 H1 Q s1 r1 (mf _ _ _ _ h1 fun x S2 h2 y H2 s2 r2 f2 => h2 y H2 s2 r2 (f1.trans f2))
theorem pe_callBL (hc : CallR X (.builtin id) r) (hg : Gl X x) (hm : X.mg x = none) (hv : bootBuiltins x = some (.builtin id)) (mt : Mono t) (mf : MonoL f) (sy : SaysL X.K X.gw r f) (ha : PA X (e :: es) (lA X.K X.gw W t)) (he : (e :: es).all plainE = true)
    (hn : x ≠ "__name__" := by decide) (hdb : (x == ("__debug__" : Str)) = false := by decide) : PE X (.Call (.Name x p) (e :: es) [] pos) (lE X.K X.gw W (wFn f t)) := by
  have h2 := he
  rw [List.all_cons, Bool.and_eq_true] at h2
  exact (pe_callB hc hg hm hv ha hn hdb (star_cons h2.1) (star_none h2.2)).imp fun _ _ _ h => l_lift mt mf sy h
theorem pe_callTL (hc : CallR X (.type T) r) (hg : Gl X x) (hm : X.mg x = none) (hv : bootBuiltins x = some (.type T)) (mt : Mono t) (mf : MonoL f) (sy : SaysL X.K X.gw r f) (ha : PA X (e :: es) (lA X.K X.gw W t)) (he : (e :: es).all plainE = true)
    (hn : x ≠ "__name__" := by decide) (hdb : (x == ("__debug__" : Str)) = false := by decide) : PE X (.Call (.Name x p) (e :: es) [] pos) (lE X.K X.gw W (wFn f t)) := by
  have h2 := he
  rw [List.all_cons, Bool.and_eq_true] at h2
  exact (pe_callTy hc hg hm hv ha hn hdb (star_cons h2.1) (star_none h2.2)).imp fun _ _ _ h => l_lift mt mf sy h
end
def isBl : D → Bool
  | .bl _ => true
  | _ => false
def isYes : D → Bool
  | .bl b => b
  | _ => false
def isIn : D → Bool
  | .int _ => true
  | _ => false
def intOf : D → Int
  | .int i => i
  | _ => 0
def allF : FQ := fun b l S Q => b = false ∧ l.all isBl = true ∧ Q (.bl (l.all isYes)) S
def anyF : FQ := fun b l S Q => b = false ∧ l.all isBl = true ∧ Q (.bl (l.any isYes)) S
def tupF : FQ := fun _ l S Q => Q (.tup l) S
def lstF : FQ := fun _ l S Q => newL l S Q
def lenQF : FQ := fun _ l S Q => Q (.int l.length) S
def sumF : FQ := fun b l S Q => b = false ∧ l.all isIn = true ∧ Q (.int (l.map intOf).sum) S
def srtInts (l : List D) : List D := ((l.map intOf).mergeSort (fun a b => decide (a ≤ b))).map .int
def sortF : FQ := fun b l S Q => b = false ∧ l.all isIn = true ∧ newL (srtInts l) S Q
def lenF : FL := fun l S Q => match l with
  | [.str z] => z.length ≤ sizeLine ∧ Q (.int z.length) S
  | [d] => (∃ p, itemsQ S d = some p ∧ (p.2.length ≤ sizeLine → Q (.int p.2.length) S)) ∨ ∃ a ep l, d = .ref a ∧ S a = some (.dct ep l) ∧ (l.length ≤ sizeLine → Q (.int l.length) S)
  | _ => False
def intF : FL := fun l S Q => match l with
  | [.int i] => Q (.int i) S
  | [.bl b] => Q (.int (if b then 1 else 0)) S
  | _ => False
def maxF : FL := fun l S Q => match l with
  | [.int i, .int j] => Q (.int (max i j)) S
  | _ => False
def minF : FL := fun l S Q => match l with
  | [.int i, .int j] => Q (.int (min i j)) S
  | _ => False
def dmF : FL := fun l S Q => match l with
  | [.int i, .int j] => (0 < j ∧ j < 1073741824) ∧ Q (.tup [.int (i / j), .int (i % j)]) S
  | _ => False
inductive TyN where
  | int | bool | str | tuple | list | dict
/-- isinstance by data -/
def isiD (S : Sto) : D → TyN → Option Bool
  | .non, _ => some false
  | .bl _, .bool => some true
  | .bl _, .int => some true
  | .bl _, _ => some false
  | .int _, .int => some true
  | .int _, _ => some false
  | .str _, .str => some true
  | .str _, _ => some false
  | .tup _, .tuple => some true
  | .tup _, _ => some false
  | .fl _, .list => some true
  | .fl _, _ => some false
  | .ref a, t => match S a with
    | some (.lst _) => some (match t with | .list => true | _ => false)
    | some (.dct _ _) => some (match t with | .dict => true | _ => false)
    | some (.dcs _) => some (match t with | .dict => true | _ => false)
    | _ => none
  | _, _ => none
def tyS : TyN → String
  | .int => "int" | .bool => "bool" | .str => "str" | .tuple => "tuple" | .list => "list" | .dict => "dict"
def wIsi (a : WE) (t : TyN) : WE := fun ρ S Q E => a ρ S (fun d S1 => ∃ b, isiD S1 d t = some b ∧ Q (.bl b) S1) E
theorem mono_Isi {a : WE} {t : TyN} (ma : Mono a) : Mono (wIsi a t) := fun _ _ _ _ _ _ h q x => ma _ _ _ _ _ _ h (fun _ _ ⟨b, e, h1⟩ => ⟨b, e, q _ _ h1⟩) x
theorem m_all : MonoQ allF := fun _ _ _ _ _ h q => ⟨h.1, h.2.1, q _ _ h.2.2⟩
theorem m_any : MonoQ anyF := fun _ _ _ _ _ h q => ⟨h.1, h.2.1, q _ _ h.2.2⟩
theorem m_tup : MonoQ tupF := fun _ _ _ _ _ h q => q _ _ h
theorem m_lst : MonoQ lstF := fun _ _ _ _ _ h q => h.mono q
theorem m_lenQ : MonoQ lenQF := fun _ _ _ _ _ h q => q _ _ h
theorem m_sum : MonoQ sumF := fun _ _ _ _ _ h q => ⟨h.1, h.2.1, q _ _ h.2.2⟩
theorem m_sort : MonoQ sortF := fun _ _ _ _ _ h q => ⟨h.1, h.2.1, h.2.2.mono q⟩
theorem m_len : MonoL lenF := fun l S Q Q' h q => by
  unfold lenF at h ⊢
  split at h
  · exact ⟨h.1, q _ _ h.2⟩
  · rcases h with ⟨p, e, h⟩ | ⟨a, ep, l, e, e', h⟩
    · exact .inl ⟨p, e, fun z => q _ _ (h z)⟩
    · exact .inr ⟨a, ep, l, e, e', fun z => q _ _ (h z)⟩
  · exact h
theorem m_int : MonoL intF := fun l S Q Q' h q => by
  unfold intF at h ⊢
  split at h
  · exact q _ _ h
  · exact q _ _ h
  · exact h
theorem m_max : MonoL maxF := fun l S Q Q' h q => by
  unfold maxF at h ⊢
  split at h
  · exact q _ _ h
  · exact h
theorem m_min : MonoL minF := fun l S Q Q' h q => by
  unfold minF at h ⊢
  split at h
  · exact q _ _ h
  · exact h
theorem m_dm : MonoL dmF := fun l S Q Q' h q => by
  unfold dmF at h ⊢
  split at h
  · exact ⟨h.1, q _ _ h.2⟩
  · exact h
section
variable {K : PySem.W.Frag} {mg : GW} {H : Hp} {S : Sto}
theorem reps_bls : ∀ {l : List D} {vs : List V}, Reps K mg H l vs → l.all isBl = true → vs = (l.map isYes).map V.bl
  | _, _, .nil, _ => rfl
  | d :: _, _, .cons h r, k => by
    rw [List.all_cons, Bool.and_eq_true] at k
    rw [reps_bls r k.2]
    cases h <;> first | (cases k.1; done) | rfl
theorem reps_ints : ∀ {l : List D} {vs : List V}, Reps K mg H l vs → l.all isIn = true → vs = (l.map intOf).map V.int
  | _, _, .nil, _ => rfl
  | d :: _, _, .cons h r, k => by
    rw [List.all_cons, Bool.and_eq_true] at k
    rw [reps_ints r k.2]
    cases h <;> first | (cases k.1; done) | rfl
theorem ints_reps : ∀ (ns : List Int), Reps K mg H (ns.map .int) (ns.map V.int)
  | [] => .nil
  | _ :: ns => .cons (.int _) (ints_reps ns)
end
theorem sorted_one {ns ns' : List Int} (h1 : ns'.Perm ns) (h2 : ns'.Pairwise (· ≤ ·)) : ns' = ns.mergeSort (fun a b => decide (a ≤ b)) := by
  have h3 : (ns.mergeSort (fun a b => decide (a ≤ b))).Pairwise (fun a b => decide (a ≤ b) = true) := List.pairwise_mergeSort (fun a b c h h' => by simp only [decide_eq_true_eq] at *; omega) (fun a b => by simp only [Bool.or_eq_true, decide_eq_true_eq]; omega) ns
  have h4 : (ns.mergeSort (fun a b => decide (a ≤ b))).Pairwise (· ≤ ·) := h3.imp fun h => by simpa using h
  exact List.Perm.eq_of_pairwise (fun a b _ _ h h' => Int.le_antisymm h h') h2 h4 (h1.trans (List.mergeSort_perm ns _).symm)
section
variable {X : Cx}
theorem says_all : SaysQ X.K X.gw (rAll X.K) allF := fun b l v S H Q s ⟨a, vs, e, h1, h2⟩ q => by
  obtain ⟨hb, hl, q⟩ := q
  subst e hb
  have ev := reps_bls h2 hl
  subst ev
  refine ⟨a, l.map isYes, rfl, by simpa using h1, ?_⟩
  rw [List.all_map]
  exact ans s (.bl _) q
theorem says_any : SaysQ X.K X.gw (rAny X.K) anyF := fun b l v S H Q s ⟨a, vs, e, h1, h2⟩ q => by
  obtain ⟨hb, hl, q⟩ := q
  subst e hb
  have ev := reps_bls h2 hl
  subst ev
  refine ⟨a, l.map isYes, rfl, by simpa using h1, ?_⟩
  rw [List.any_map]
  exact ans s (.bl _) q
theorem says_tup : SaysQ X.K X.gw (fun xs H Q => ∃ p ys, xs = [.ref p] ∧ ((SqL X.K H p ys ∧ ∀ l, H l = none → Q (.ref l) (upd H l (.tup ys))) ∨ (SqT X.K H p ys ∧ Q (.ref p) H))) tupF := fun b l v S H Q s ⟨a, vs, e, h1, h2⟩ q => by
  subst e
  refine ⟨a, vs, rfl, ?_⟩
  cases b with
  | true =>
    have h1' : SqT X.K H a vs := by simpa using h1
    exact .inr ⟨h1', ans s (.tup h1' h2) q⟩
  | false => exact .inl ⟨by simpa using h1, new_tup s h2 q⟩
theorem says_lst : SaysQ X.K X.gw (fun xs H Q => ∃ p ys, xs = [.ref p] ∧ (SqL X.K H p ys ∨ SqT X.K H p ys) ∧ ∀ l, H l = none → Q (.ref l) (upd H l (.lst ys))) lstF := fun b l v S H Q s ⟨a, vs, e, h1, h2⟩ q => by
  subst e
  refine ⟨a, vs, rfl, ?_, new_lst s h2 q⟩
  cases b with
  | true => exact .inr (by simpa using h1)
  | false => exact .inl (by simpa using h1)
theorem says_lenQ : SaysQ X.K X.gw (fun xs H Q => ∃ p ys, xs = [.ref p] ∧ (SqL X.K H p ys ∨ SqT X.K H p ys) ∧ Q (.int ys.length) H) lenQF := fun b l v S H Q s ⟨a, vs, e, h1, h2⟩ q => by
  subst e
  refine ⟨a, vs, rfl, ?_, ?_⟩
  · cases b with
    | true => exact .inr (by simpa using h1)
    | false => exact .inl (by simpa using h1)
  · rw [← h2.length]
    exact ans s (.int _) q
theorem says_sum : SaysQ X.K X.gw (rSum X.K) sumF := fun b l v S H Q s ⟨a, vs, e, h1, h2⟩ q => by
  obtain ⟨hb, hl, q⟩ := q
  subst e hb
  have ev := reps_ints h2 hl
  subst ev
  exact ⟨a, l.map intOf, rfl, by simpa using h1, ans s (.int _) q⟩
theorem says_sort : SaysQ X.K X.gw (rSortedI X.K) sortF := fun b l v S H Q s ⟨a, vs, e, h1, h2⟩ q => by
  obtain ⟨hb, hl, q⟩ := q
  subst e hb
  have ev := reps_ints h2 hl
  subst ev
  refine ⟨a, l.map intOf, rfl, by simpa using h1, fun ns' p hp hs hn => ?_⟩
  have en := sorted_one hp hs
  subst en
  exact new_lst s (ints_reps _) q p hn
/-- len, which tells besides that nothing is too long -/
def rLenB (K : PySem.W.Frag) : List V → Hp → VK → Prop := fun xs H Q => ∃ x n, xs = [x] ∧ LenV K x H n ∧ (n ≤ sizeLine → Q (.int n) H)
theorem call_lenB : CallR X (.builtin "len") (rLenB X.K) := by
  intro pins s σ H xs us Q I r h
  obtain ⟨x, n, rfl, hl, q⟩ := h
  have hn : n ≤ sizeLine := by
    cases x with
    | str y => obtain ⟨h1, h2⟩ : y.length ≤ sizeLine ∧ n = y.length := hl; omega
    | byt y => obtain ⟨h1, h2⟩ : y.size ≤ sizeLine ∧ n = y.size := hl; omega
    | ref p =>
      rcases (show (∃ xs, SqL X.K H p xs ∧ n = xs.length) ∨ ∃ xs, SqT X.K H p xs ∧ n = xs.length from hl) with ⟨ys, h1, h2⟩ | ⟨ys, h1, h2⟩
      · obtain ⟨_, _, _, h3⟩ := I.list h1; omega
      · obtain ⟨_, _, _, h3⟩ := I.tuple h1; omega
    | _ => exact (show False from hl).elim
  exact call_len pins s σ H _ us Q I r ⟨x, n, rfl, hl, q hn⟩
def rLenA (X : Cx) : List V → Hp → VK → Prop := fun xs H Q => rLenB X.K xs H Q ∨ ∃ (a : Addr) (ep : Nat) (ys : List (NestedKey × Addr × Value)), xs = [.ref a] ∧ H a = some (DctO X.w a ep ys) ∧ (ys.length ≤ sizeLine → Q (.int ys.length) H)
theorem call_lenA : CallR X (.builtin "len") (rLenA X) := by
  intro pins s σ H xs us Q I r h
  rcases h with h | ⟨a, ep, ys, rfl, ha, q⟩
  · exact call_lenB pins s σ H xs us Q I r h
  · cases r with
    | cons r1 r2 =>
      cases r2
      rename_i u
      cases (show u = Value.ref a from r1)
      obtain ⟨⟨h1, h2, _, _, o, es, h5, h6, h7, h8⟩, _⟩ := (show ObjOk X.prog X.w H s.heap a (DctO X.w a ep ys) from I.hok a _ ha)
      have hr : s.heap.DictRaw a es ep := ⟨o, h5, h6, h7⟩
      have hz : es.size = ys.length := by have := congrArg List.length h8; simpa using this
      refine call_len_slot (n := es.size) hr.typeIs F.slot_dict_len (fun Q' hq => call_len_raw h1 hr hq) (by omega) (by rw [sizeLine_eq] at h2; omega) ⟨.int ys.length, H, I.tok _, ⟨_, by rw [hz]⟩, q h2⟩
theorem says_len : SaysL X.K X.gw (rLenA X) lenF := fun ds vs S H Q s r q => by
  unfold lenF at q
  split at q
  · cases r with
    | cons h t =>
      cases t
      cases h
      exact .inl ⟨_, _, rfl, ⟨q.1, rfl⟩, fun _ => ans s (.int _) q.2⟩
  · rcases q with ⟨⟨b, l⟩, ep, q⟩ | ⟨a, ep, l, rfl, ha, q⟩
    · cases r with
      | cons h t =>
        cases t
        obtain ⟨a, us, rfl, h1, h2⟩ := rep_itemsQ s h ep
        refine .inl ⟨_, us.length, rfl, ?_, ?_⟩
        · cases b with
          | true => exact .inr ⟨us, by simpa using h1, rfl⟩
          | false => exact .inl ⟨us, by simpa using h1, rfl⟩
        · rw [← h2.length]
          exact fun z => ans s (.int _) (q z)
    · obtain ⟨xs, g1, g2⟩ := s a _ ha
      cases r with
      | cons h t =>
        cases t
        cases h
        refine .inr ⟨a, ep, xs, rfl, g1, fun z => ?_⟩
        rw [← g2.len] at z ⊢
        exact ans s (.int _) (q z)
  · exact q.elim
theorem says_int1 : SaysL X.K X.gw (fun xs H Q => (∃ i, xs = [.int i] ∧ Q (.int i) H) ∨ ∃ k, xs = [.bl k] ∧ Q (.int (if k then 1 else 0)) H) intF := fun ds vs S H Q s r q => by
  unfold intF at q
  split at q
  · cases r with
    | cons h t =>
      cases t
      cases h
      exact .inl ⟨_, rfl, ans s (.int _) q⟩
  · cases r with
    | cons h t =>
      cases t
      cases h
      exact .inr ⟨_, rfl, ans s (.int _) q⟩
  · exact q.elim
theorem two_ints {K : PySem.W.Frag} {mg : GW} {H : Hp} {i j : Int} {vs : List V} (r : Reps K mg H [.int i, .int j] vs) : vs = [.int i, .int j] := by
  cases r with
  | cons h t =>
    cases h
    cases t with
    | cons h t =>
      cases h
      cases t
      rfl
theorem says_max : SaysL X.K X.gw (fun xs H Q => ∃ i j, xs = [.int i, .int j] ∧ Q (.int (if j > i then j else i)) H) maxF := fun ds vs S H Q s r q => by
  unfold maxF at q
  split at q
  · rename_i i j
    refine ⟨i, j, two_ints r, ?_⟩
    have e : (if j > i then j else i) = max i j := by split <;> omega
    rw [e]
    exact ans s (.int _) q
  · exact q.elim
theorem says_min : SaysL X.K X.gw (fun xs H Q => ∃ i j, xs = [.int i, .int j] ∧ Q (.int (if j < i then j else i)) H) minF := fun ds vs S H Q s r q => by
  unfold minF at q
  split at q
  · rename_i i j
    refine ⟨i, j, two_ints r, ?_⟩
    have e : (if j < i then j else i) = min i j := by split <;> omega
    rw [e]
    exact ans s (.int _) q
  · exact q.elim
theorem says_dm : SaysL X.K X.gw (fun xs H Q => ∃ i j, xs = [.int i, .int j] ∧ CDiv i j ∧ ∀ p, H p = none → Q (.ref p) (upd H p (.tup [.int (i / j), .int (i % j)]))) dmF := fun ds vs S H Q s r q => by
  unfold dmF at q
  split at q
  · rename_i i j
    exact ⟨i, j, two_ints r, q.1, new_tup s (.cons (.int _) (.cons (.int _) .nil)) q.2⟩
  · exact q.elim
/-- isinstance of a dict too -/
def rIsW (K : PySem.W.Frag) (w : World) : List V → Hp → VK → Prop := fun vs H Q => rIsi K vs H Q ∨ ∃ (a : Addr) (ep : Nat) (xs : List (NestedKey × Addr × Value)) (c : V) (u : Value) (b : Bool), vs = [.ref a, c] ∧ ClsV c u ∧ H a = some (DctO w a ep xs) ∧ PySem.W.kitOne K (.type "dict") u = some b ∧ Q (.bl b) H
theorem call_isW {X : Cx} : CallR X (.builtin "isinstance") (rIsW X.K X.w) := by
  intro pins s σ H vs us Q I r h
  rcases h with h | ⟨a, ep, xs, c, u, b, rfl, k, ha, e, q⟩
  · exact call_isi pins s σ H vs us Q I r h
  · obtain ⟨u1, u2, rfl, r1, r2⟩ := vals2 r
    have e2 := k.eq r2
    subst e2
    cases (show u1 = Value.ref a from r1)
    obtain ⟨⟨_, _, _, _, o, es, g1, g2, _⟩, _⟩ := (show ObjOk X.prog X.w H s.heap a (DctO X.w a ep xs) from I.hok a _ ha)
    exact PySem.W.kia_one PySem.W.kitx_dict I.kIn ⟨o, g1, g2.1⟩ e (fun z => nomatch z) fun tk => ⟨.bl b, H, I.tok tk, rfl, q⟩
theorem kit_tab : ∀ (a : String), a ∈ ["NoneType", "bool", "int", "str", "tuple", "list", "dict"] → ∀ t : TyN, kitB a (tyS t) = some (a == tyS t || (a == "bool" && tyS t == "int")) := by
  intro a ha t
  simp only [List.mem_cons, List.not_mem_nil, or_false] at ha
  rcases ha with rfl | rfl | rfl | rfl | rfl | rfl | rfl <;> cases t <;> decide +kernel
theorem isi_ok {d : D} {v : V} {b : Bool} {t : TyN} {S : Sto} {H : Hp} {Q : VK} (s : Sim X.K X.gw H S) (r : Rep X.K X.gw H d v) (h : isiD S d t = some b) (q : Q (.bl b) H) : rIsW X.K X.w [v, .ty (tyS t)] H Q := by
  have go : ∀ (a : String), a ∈ ["NoneType", "bool", "int", "str", "tuple", "list", "dict"] → TyX X.K H v (.type a) → (a == tyS t || (a == "bool" && tyS t == "int")) = b → rIsW X.K X.w [v, .ty (tyS t)] H Q := fun a ha hy e =>
    .inl ⟨v, .ty (tyS t), .type a, .type (tyS t), b, rfl, .ty _, hy, kit_ty (by rw [kit_tab a ha t, e]), q⟩
  have lt : ∀ {a : Addr} {vs : List V}, SqL X.K H a vs → v = .ref a → TyX X.K H v (.type "list") := fun {a vs} h e => by
    subst e
    rcases h with (h | ⟨o, h⟩) | ⟨o, _, _, h, h', _⟩
    · exact .base (.lst h)
    · exact .base (.frz h)
    · exact .kList h h'
  cases r with
  | non => exact go "NoneType" (by simp) (.base .non) (by cases t <;> cases h <;> decide)
  | bl c => exact go "bool" (by simp) (.base (.bl c)) (by cases t <;> cases h <;> decide)
  | int c => exact go "int" (by simp) (.base (.int c)) (by cases t <;> cases h <;> decide)
  | str c => exact go "str" (by simp) (.base (.str c)) (by cases t <;> cases h <;> decide)
  | tup h1 h2 =>
    refine go "tuple" (by simp) ?_ (by cases t <;> cases h <;> decide)
    rcases h1 with (h1 | ⟨o, h1⟩) | ⟨o, _, _, h1, h', _⟩
    · exact .base (.tup h1)
    · exact .fTuple h1
    · exact .kTuple h1 h'
  | fl h1 h2 => exact go "list" (by simp) (lt h1.sql rfl) (by cases t <;> cases h <;> decide)
  | ref a =>
    unfold isiD at h
    cases e : S a with
    | none => simp only [e] at h; cases t <;> cases h
    | some o =>
      cases o with
      | lst l =>
        simp only [e] at h
        obtain ⟨vs, g1, _⟩ := s a _ e
        exact go "list" (by simp) (lt (.of g1) rfl) (by cases t <;> cases h <;> decide)
      | dct ep l =>
        simp only [e] at h
        obtain ⟨xs, g1, _⟩ := s a _ e
        exact .inr ⟨a, ep, xs, .ty (tyS t), .type (tyS t), b, rfl, .ty _, g1, kit_ty (by rw [kit_tab "dict" (by simp) t]; congr 1; cases t <;> cases h <;> decide), q⟩
      | dcs l =>
        simp only [e] at h
        obtain ⟨xs, g1, _⟩ := s a _ e
        exact go "dict" (by simp) (.base (.dK g1)) (by cases t <;> cases h <;> decide)
      | ins c l => simp only [e] at h; cases t <;> cases h
  | ty n => cases t <;> cases h
  | glo h' => cases t <;> cases h
  | ex0 _ _ => cases t <;> cases h
  | ex1 _ _ _ _ _ => cases t <;> cases h
theorem pe_isiW {W : WX} {e : Expr} {te : WE} {t : TyN} {y : Str} {pos p p2 : Pos} (me : Mono te) (h : PE X e (lE X.K X.gw W te)) (he : plainE e = true) (hg : Gl X "isinstance") (hm : X.mg "isinstance" = none) (hgT : Gl X y) (hmT : X.mg y = none)
    (hv : bootBuiltins y = some (.type (tyS t))) (hn : y ≠ "__name__") (hdb : (y == ("__debug__" : Str)) = false) : PE X (.Call (.Name "isinstance" p) [e, .Name y p2] [] pos) (lE X.K X.gw W (wIsi te t)) :=
  (pe_callB call_isW hg hm (by decide +kernel) (pa_cons h (pa_cons (pe_bltn (v := .ty (tyS t)) hgT hmT hv rfl hn hdb) pa_nil rfl) (star_cons he)) (by decide) (by decide) (star_cons he) rfl).imp fun σ H Q q => by
    obtain ⟨ρ, S, hS, hρ, h⟩ := q
    refine lG_bind me hS hρ h (fun d S1 v H1 h1 s1 e1 r1 f1 => ?_) fun x S1 cls d H1 h1 s1 r1 f1 => h1 cls d H1 s1 r1 f1
    obtain ⟨b, eb, h1⟩ := h1
    exact isi_ok s1 r1 eb (h1 _ H1 s1 (.bl b) f1)
end
end Ow

namespace Ow
open PySem PySem.Spec PyProof.Rows L2
/-- the tuple at a, each item in a new pair with its number -/
def ItE (K : PySem.W.Frag) (a : Addr) (k : Int) : It :=
  ⟨fun i H => ∃ (xs : List V) (x : V), SqT K H a xs ∧ xs[i]? = some x,
   fun i H v H' => ∃ T x, v = .ref T ∧ H T = none ∧ H' = upd H T (.tup [.int (k + (i : Nat)), x]) ∧ ∀ xs, SqT K H a xs → xs[i]? = some x,
   fun i H => ∃ xs : List V, SqT K H a xs ∧ xs.length ≤ i⟩
theorem turn_enumT {P : Program} {w : World} {K : PySem.W.Frag} {elts : List Expr} {kk : Nat} {tpos : Pos} (a e it : Addr) (k : Int) :
    Turn P w K (.Tuple elts kk tpos) (ItE K a k) [e, it] e (fun i h => (∃ old, IsEnum h e it (k + ((i : Nat) : Int)) old) ∧ h.IsTupleIter it a i ∧ e ≠ it) where
  mem := by simp
  obj := fun i h st b hb => by
    obtain ⟨⟨old, he⟩, ⟨o, ho, hc, hd⟩, _⟩ := st
    rcases (by simpa using hb : b = e ∨ b = it) with z | z
    · subst z; exact ⟨_, he, fun v q => nomatch q⟩
    · subst z; exact ⟨o, ho, fun v q => by rw [hd] at q; cases q⟩
  keep := fun i h h' st kp => by
    obtain ⟨⟨old, he⟩, hi, hne⟩ := st
    exact ⟨⟨old, kp e (by simp) _ he⟩, hi.at fun o q => kp it (by simp) o q, hne⟩
  item := by
    intro X hP hw hK hc i pins s σ H E I hf st hg
    subst hP hw hK
    obtain ⟨⟨old, he⟩, hit, hne⟩ := st
    obtain ⟨xs, x, hq, hx⟩ := hg
    obtain ⟨its, rv, p, hz⟩ := I.tuple hq
    obtain ⟨u, hu, ru⟩ := rv.get hx
    have hp : s.heap.IsTuple a its.toArray := p
    have hel : e < s.heap.objs.size := Heap.lt_size he
    have hil : it < s.heap.objs.size := by obtain ⟨_, q, _⟩ := hit; exact Heap.lt_size q
    have nae : a ≠ it := fun z => by
      obtain ⟨o, e1, c1, _⟩ := id hp
      obtain ⟨o2, e2, c2, _⟩ := id hit
      rw [z, e2] at e1
      cases e1
      rw [c2] at c1
      exact absurd (Value.type.inj c1) (by decide)
    have nee : e ∉ [it, a] := fun z => by
      rcases (by simpa using z : e = it ∨ e = a) with z | z
      · exact hne z
      · obtain ⟨o, e1, c1, _⟩ := id hp
        have e2 : s.heap.get? e = some _ := he
        rw [z, e1] at e2
        cases e2
        exact absurd (Value.type.inj c1) (by decide)
    have hlt : i < its.toArray.size := by
      have := (List.getElem?_eq_some_iff.mp hu).1
      simpa using this
    have hh : X.A.in1.handled = none := I.ok.hd hc
    refine wpAny_pyNext_enum_itemC (Draws.tuple hh it a nae its.toArray) he ⟨hit, hp⟩ hlt hne nee fun y h' tk hy ho hs' hT hsz hk => ?_
    have ey : y = u := by
      have h1 : its.toArray[i]? = some y := hy
      rw [List.getElem?_toArray, hu] at h1
      exact (Option.some.inj h1).symm
    subst ey
    refine ⟨_, rfl, wpAny_letOwnedTupleGo_enum (s := { s with heap := h', toks := tk + 1 }) ho fun h'' he' sb => ?_⟩
    have hT2 : h''.get? s.heap.objs.size = some { cls := .type "tuple", data := .seq #[.int (k + (i : Nat)) tk, y] } := (sb.2 _ (Nat.ne_of_gt hel)).trans hT
    have new : ObjOk X.prog X.w (upd H s.heap.objs.size (.tup [.int (k + (i : Nat)), x])) h'' s.heap.objs.size (.tup [.int (k + (i : Nat)), x]) :=
      ⟨by show 2 ≤ sizeLine; decide, [.int (k + (i : Nat)) tk, y], .cons ⟨_, rfl⟩ (.cons ru .nil), ⟨_, hT2, rfl, _, rfl⟩⟩
    have I1 : Inv X pins σ (upd H s.heap.objs.size (.tup [.int (k + (i : Nat)), x])) { s with heap := h'', toks := tk + 1 } :=
      I.turnedNew (ch := [e, it]) (fun b ob hb q => (sb.2 b (fun z => hb (by simp [z]))).trans (hk b ob (fun z => hb (by simp [z])) (fun z => hb (by simp [z])) q)) hf (Nat.le_refl _) new
    refine ⟨.ref s.heap.objs.size, _, I1, rfl, ⟨_, x, rfl, I.hok.fresh (Nat.le_refl _), rfl, fun ys hy => by rw [I.tuple_inj hy hq]; exact hx⟩, ⟨⟨y, ?_⟩, hs'.1.at fun o q => (sb.2 it (Ne.symm hne)).trans q, hne⟩, fun b hb => ?_⟩
    · have e1 : k + ((i + 1 : Nat) : Int) = k + (i : Int) + 1 := by omega
      rw [e1]
      exact he'
    · have hb' : b < s.heap.objs.size := by
        rcases (by simpa using hb : b = e ∨ b = it) with z | z
        · rw [z]; exact hel
        · rw [z]; exact hil
      rw [upd_ne (Nat.ne_of_lt hb')]
      exact (hf b hb).1
  done := by
    intro X hP hw hK hc i pins s σ H E I hf st hg
    subst hP hw hK
    obtain ⟨⟨old, he⟩, hit, hne⟩ := st
    obtain ⟨xs, hq, hx⟩ := hg
    obtain ⟨its, rv, p, hz⟩ := I.tuple hq
    have hp : s.heap.IsTuple a its.toArray := p
    obtain ⟨f0, f1, f2, f3, f4, f5⟩ := hf it (by simp)
    have hl := rv.length
    have hh : X.A.in1.handled = none := I.ok.hd hc
    have hT : s.TypeIs (.ref e) "enumerate" := ⟨_, he, rfl⟩
    have nae : a ≠ it := fun z => by
      obtain ⟨o, e1, c1, _⟩ := id hp
      obtain ⟨o2, e2, c2, _⟩ := id hit
      rw [z, e2] at e1
      cases e1
      rw [c2] at c1
      exact absurd (Value.type.inj c1) (by decide)
    -- what the tuple's iterator tells behind its end, whatever its place
    have D : Draws X.prog X.w X.A.in1 it [it, a] i (fun _ _ => False) (fun j h => j = i ∧ h.IsTupleIter it a i ∧ h.IsTuple a its.toArray) :=
      { live := fun _ _ st => by obtain ⟨_, ⟨o, ho, _⟩, _⟩ := st; exact ⟨o, ho⟩
        frame := fun _ _ _ st hk => ⟨st.1, st.2.1.at fun o e => hk it (by simp) o e, st.2.2.at fun o e => hk a (by simp) o e⟩
        item := fun j s Q E hj st _ => absurd st.1 (Nat.ne_of_lt hj)
        done := fun s Q E st hE => wpAny_nextOf_tuple_end hh st.2.1 st.2.2 (by simp; omega) hE }
    exact wpAny_pyNext_enum_endD D he ⟨rfl, hit, hp⟩ fun h' eb => ⟨rfl, I.turned (t' := s.toks) (fun b o hb q => eb b o hb q) f0 f1 f3 f4 f5⟩
  self := fun A i s Q E st h => let ⟨⟨_, he⟩, _⟩ := st; wpAny_pyIter_enum he h
theorem enumerate_one {v : Value} {o : Obj} {H : Heap → Prop} (B : Begins v o H) :
    Meets (Builtin.«enumerate.__new__» ⟨[.type "enumerate", v], []⟩) (fun _ R s => H s.heap ∧
      R (.ok (.ret (.ref (s.heap.push o).objs.size))) { s with heap := (s.heap.push o).push { cls := .type "enumerate", data := .fields #[.none, .bool false, .ref s.heap.objs.size, rawInt 0, .none, .none] } }) :=
  .of_wp fun prog w A R s h => by
    obtain ⟨hp, g, d, tk, os⟩ := s
    obtain ⟨h1, h⟩ := h
    have hsub := sub_enumerate
    have q1 : ∀ {A' : Around} {E : Value → Shared → Prop} {Q : Value → Shared → Prop}, Q (.ref hp.objs.size) ⟨hp.push o, g, d, tk, os⟩ → wpAny (model prog w) A' (pyIter v) Q E ⟨hp, g, d, tk, os⟩ :=
      fun q => B.iter prog w _ _ ⟨hp, g, d, tk, os⟩ _ h1 q
    wp_walk using q1
    refine wpAny_stack_any fun st => wpAny_pure ?_
    split
    · rename_i c _ _ _ _ _
      cases (c == Value.type "enumerate")
      · wp_walk using q1
        exact ⟨_, rfl, h⟩
      · wp_walk using q1
        exact ⟨_, rfl, h⟩
    · wp_walk using q1
      exact ⟨_, rfl, h⟩
section
variable {X : Cx}
theorem enum1_begins {prog : Program} {w : World} {A : Around} {E : Value → Shared → Prop} {s : Shared} {v : Value} {o : Obj} {H : Heap → Prop} {Q : Value → Shared → Prop} (B : Begins v o H) (h1 : H s.heap)
    (h : ∀ h', IsEnum h' (s.heap.objs.size + 1) s.heap.objs.size 0 .none → h'.get? s.heap.objs.size = some o → h'.objs.size = s.heap.objs.size + 2 →
      (∀ b o, s.heap.get? b = some o → h'.get? b = some o) → Q (.ref (s.heap.objs.size + 1)) { s with heap := h' }) :
    wpAny (model prog w) A (call (.type "enumerate") [v]) Q E s := by
  refine callType_new F.called_enumerate (by decide) (F.typeCall_enumerate_1 _) (F.newCall_enumerate_1 _) (fun obj => F.args_object_init_2 obj _) F.entry_enumerate_new (enumerate_one B) ⟨h1, ?_⟩
  have hz : (s.heap.push o).objs.size = s.heap.objs.size + 1 := Heap.size_push ..
  show _ ∧ _
  rw [hz]
  have he : IsEnum ((s.heap.push o).push { cls := .type "enumerate", data := .fields #[.none, .bool false, .ref s.heap.objs.size, rawInt 0, .none, .none] }) (s.heap.objs.size + 1) s.heap.objs.size 0 .none := by
    have q := Heap.get?_push_size (s.heap.push o) (o := { cls := .type "enumerate", data := .fields #[.none, .bool false, .ref s.heap.objs.size, rawInt 0, .none, .none] }) rfl
    rw [hz] at q
    exact q
  exact ⟨⟨_, he, rfl⟩, h _ he (Heap.get?_push_of_some _ (Heap.get?_push_size _ B.free)) (by rw [Heap.size_push, hz]) fun b o x => Heap.get?_push_of_some _ (Heap.get?_push_of_some _ x)⟩
/-- behind the making of an enumerate over a tuple -/
theorem enumT_laid {elts : List Expr} {kk : Nat} {tpos : Pos} {pins : List (Addr × Obj)} {σ : L2.St} {H : Hp} {s : Shared} {R : It → Hp → Prop} {a : Addr} {k : Int} {h' : Heap} (I : Inv X pins σ H s)
    (he : IsEnum h' (s.heap.objs.size + 1) s.heap.objs.size k .none) (ho : h'.get? s.heap.objs.size = some { cls := .type "tuple_iterator", data := .fields #[.ref a, .int 0 0] }) (hk : ∀ b o, s.heap.get? b = some o → h'.get? b = some o) (q : R (ItE X.K a k) H) :
    PIE X pins σ (.Tuple elts kk tpos) R (.ref (s.heap.objs.size + 1)) { s with heap := h' } := by
  have e0 : k + ((0 : Nat) : Int) = k := by simp
  refine ⟨s.heap.objs.size + 1, [s.heap.objs.size + 1, s.heap.objs.size], _, _, H, rfl, I.kept (t' := s.toks) hk, turn_enumT a (s.heap.objs.size + 1) s.heap.objs.size k, ⟨⟨.none, by rw [e0]; exact he⟩, ⟨_, ho, rfl, rfl⟩, Nat.succ_ne_self _⟩, fun b hb => ?_, q⟩
  have hle : s.heap.objs.size ≤ b := by
    rcases (by simpa using hb : b = s.heap.objs.size + 1 ∨ b = s.heap.objs.size) with z | z
    · rw [z]; exact Nat.le_add_right _ _
    · rw [z]; exact Nat.le_refl _
  exact I.fpOk hle (I.hok.fresh hle)
def iEnA (K : PySem.W.Frag) (k : Int) (te : TE) : TI := fun σ H R => te σ H fun x H1 => ∃ a xs, x = .ref a ∧ ((SqT K H1 a xs ∧ R (ItE K a k) H1) ∨ (SqL K H1 a xs ∧ k = 0 ∧ R (Ite K a) H1))
theorem pi_enum1 {e : Expr} {te : TE} {p pos tpos : Pos} {elts : List Expr} {kk : Nat} (hg : Gl X "enumerate") (hm : X.mg "enumerate" = none) (ha : PE X e te) (he : plainE e = true) :
    PI X (.Tuple elts kk tpos) (.Call (.Name "enumerate" p) [e] [] pos) (iEnA X.K 0 te) := by
  refine ⟨fun pins s σ H R I h => ?_⟩
  have hA : PA X [e] (tCons te tNil) := pa_cons ha pa_nil (star_cons he)
  refine Call_ (ld_blt I hg hm boot_enumerate (PyProof.Rows.callWith_type1 (thn (hA.run pos pins s σ H (fun vs H1 => ∃ x, vs = [x] ∧ ∃ a xs, x = .ref a ∧ ((SqT X.K H1 a xs ∧ R (ItE X.K a 0) H1) ∨ (SqL X.K H1 a xs ∧ (0 : Int) = 0 ∧ R (Ite X.K a) H1))) I ?_) fun us s1 ⟨vs, H1, I1, r1, x, ex, a, xs, ea, q1⟩ => ?_) (star_cons he) rfl))
  · have h0 : te σ H fun x H1 => ∃ a xs, x = .ref a ∧ ((SqT X.K H1 a xs ∧ R (ItE X.K a 0) H1) ∨ (SqL X.K H1 a xs ∧ (0 : Int) = 0 ∧ R (Ite X.K a) H1)) := h
    show te σ H fun x H1 => ∃ y, [x] = [y] ∧ _
    have hx : (fun (x : V) (H1 : Hp) => ∃ a xs, x = .ref a ∧ ((SqT X.K H1 a xs ∧ R (ItE X.K a 0) H1) ∨ (SqL X.K H1 a xs ∧ (0 : Int) = 0 ∧ R (Ite X.K a) H1))) = fun (x : V) (H1 : Hp) => ∃ y, [x] = [y] ∧ ∃ a xs, y = .ref a ∧ ((SqT X.K H1 a xs ∧ R (ItE X.K a 0) H1) ∨ (SqL X.K H1 a xs ∧ (0 : Int) = 0 ∧ R (Ite X.K a) H1)) := by
      funext x H1
      refine propext ⟨fun z => ⟨x, rfl, z⟩, fun ⟨y, e, z⟩ => ?_⟩
      cases e
      exact z
    rw [← hx]
    exact h0
  · subst ex ea
    cases r1 with
    | cons r rr =>
      cases rr
      cases r
      rcases q1 with ⟨hq, q⟩ | ⟨hq, _, q⟩
      · obtain ⟨its, rv, p', hz⟩ := I1.tuple hq
        exact enum1_begins (begins_tuple a its.toArray) (show s1.heap.IsTuple a its.toArray from p') fun h' he ho hsz hk => wpAny_pyIter_enum he (enumT_laid I1 he ho hk q)
      · obtain ⟨its, rv, p', hz⟩ := I1.list hq
        refine call_enumerate_list p'.isList fun h' he hit hsz hk => wpAny_pyIter_enum he ?_
        refine ⟨s1.heap.objs.size + 1, [s1.heap.objs.size + 1, s1.heap.objs.size], _, _, H1, rfl, I1.kept (t' := s1.toks) hk, turn_enum a (s1.heap.objs.size + 1) s1.heap.objs.size, ⟨⟨.none, he⟩, hit, Nat.succ_ne_self _⟩, fun b hb => ?_, q⟩
        have hle : s1.heap.objs.size ≤ b := by
          rcases (by simpa using hb : b = s1.heap.objs.size + 1 ∨ b = s1.heap.objs.size) with z | z
          · rw [z]; exact Nat.le_add_right _ _
          · rw [z]; exact Nat.le_refl _
        exact I1.fpOk hle (I1.hok.fresh hle)
theorem pi_enum2 {e : Expr} {te : TE} {p pos tpos p2 : Pos} {elts : List Expr} {kk j : Nat} {k : Int} (hk : 0 ≤ k ∧ k < 1000) (hg : Gl X "enumerate") (hm : X.mg "enumerate" = none) (ha : PE X e te) (he : plainE e = true) :
    PI X (.Tuple elts kk tpos) (.Call (.Name "enumerate" p) [e, .Constant (.int k) j p2] [] pos) (fun σ H R => te σ H fun x H1 => ∃ a xs, x = .ref a ∧ SqT X.K H1 a xs ∧ R (ItE X.K a k) H1) := by
  refine ⟨fun pins s σ H R I h => ?_⟩
  have hA : PA X [e, .Constant (.int k) j p2] (tCons te (tCons (tC (.int k)) tNil)) := pa_cons ha (pa_cons pe_int pa_nil rfl) (star_cons he)
  refine Call_ (ld_blt I hg hm boot_enumerate (PyProof.Rows.callWith_type1 (thn (hA.run pos pins s σ H (fun vs H1 => ∃ x, vs = [x, .int k] ∧ ∃ a xs, x = .ref a ∧ SqT X.K H1 a xs ∧ R (ItE X.K a k) H1) I ?_) fun us s1 ⟨vs, H1, I1, r1, x, ex, a, xs, ea, hq, q⟩ => ?_) (star_cons he) rfl))
  · show te σ H fun x H1 => ∃ y, [x, .int k] = [y, .int k] ∧ _
    have hx : (fun (x : V) (H1 : Hp) => ∃ a xs, x = .ref a ∧ SqT X.K H1 a xs ∧ R (ItE X.K a k) H1) = fun (x : V) (H1 : Hp) => ∃ y, [x, V.int k] = [y, .int k] ∧ ∃ a xs, y = .ref a ∧ SqT X.K H1 a xs ∧ R (ItE X.K a k) H1 := by
      funext x H1
      refine propext ⟨fun z => ⟨x, rfl, z⟩, fun ⟨y, e, z⟩ => ?_⟩
      cases e
      exact z
    rw [← hx]
    exact h
  · subst ex ea
    cases r1 with
    | cons r rr =>
      cases r
      cases rr with
      | cons r2 rr =>
        cases rr
        obtain ⟨t, rfl⟩ := r2
        obtain ⟨its, rv, p', hz⟩ := I1.tuple hq
        exact enum_begins (begins_tuple a its.toArray) (show s1.heap.IsTuple a its.toArray from p') (by omega) (by omega) fun h' he ho hsz hk => wpAny_pyIter_enum he (enumT_laid I1 he ho hk q)
end
end Ow

namespace Ow
open PySem PySem.Spec PyProof.Rows L2
def HidR (K : PySem.W.Frag) (mg : GW) (S : Sto) (H : Hp) (ds : List D) (v : V) : Prop := ∃ a vs, v = .ref a ∧ S a = none ∧ H a = some (.lst vs) ∧ Reps K mg H ds vs
abbrev lH (K : PySem.W.Frag) (mg : GW) (W : WX) (t : WA) : TE := lG K mg (HidR K mg) W t
section
variable {X : Cx} {W : WX} {e : Expr} {es : List Expr} {te : WE} {t : WA} {pos : Pos}
theorem pe_hLst (mt : Mono t) (h : PA X es (lA X.K X.gw W t)) (hl : es.length ≤ 1000) (hlen : LenA es.length t) : PE X (.List es pos) (lH X.K X.gw W t) := (pe_lst h).imp fun σ H Q q => by
  obtain ⟨ρ, S, hS, hρ, h⟩ := q
  refine lG_bind mt hS hρ (hlen _ _ _ _ h) (fun ds S1 vs H1 h1 s1 e1 r1 f1 => ⟨?_, fun p hp => ?_⟩) fun x S1 cls d H1 h1 s1 r1 f1 => h1 cls d H1 s1 r1 f1
  · rw [← r1.length, h1.1]
    exact Nat.le_trans hl (by rw [sizeLine_eq]; decide)
  · exact h1.2 _ _ (s1.hidS hp) ⟨p, vs, rfl, s1.free hp, upd_same, r1.fm s1 (s1.hid hp)⟩ (f1.trans (s1.hid hp))
theorem pe_qHid (mt : Mono t) (h : PE X e (lH X.K X.gw W t)) : PE X e (lQ X.K X.gw W (qLst t)) := h.imp fun σ H Q q => by
  obtain ⟨ρ, S, hS, hρ, h⟩ := q
  refine lG_bind mt hS hρ h (fun ds S1 v H1 h1 s1 e1 r1 f1 => ?_) fun x S1 cls d H1 h1 s1 r1 f1 => h1 cls d H1 s1 r1 f1
  obtain ⟨a, vs, ev, _, ha, hr⟩ := r1
  exact h1 v H1 s1 ⟨a, vs, ev, by simpa using SqL.of ha, hr⟩ f1
end
inductive Tg where
  | nm (i : Nat)
  | tp (l : List Tg)
mutual
def asg : Tg → D → En → Option En
  | .nm i, d, ρ => some (ρ.set i (some d))
  | .tp ts, .tup ds, ρ => asgs ts ds ρ
  | .tp _, _, _ => none
def asgs : List Tg → List D → En → Option En
  | [], [], ρ => some ρ
  | t :: ts, d :: ds, ρ => (asg t d ρ).bind fun ρ' => asgs ts ds ρ'
  | _, _, _ => none
end
mutual
def Tg.slots : Tg → List Nat
  | .nm i => [i]
  | .tp ts => slotss ts
def slotss : List Tg → List Nat
  | [] => []
  | t :: ts => t.slots ++ slotss ts
end
section
variable (K : PySem.W.Frag) (mg : GW)
def lTg (t : Tg) : TG := fun v σ H Q => ∃ d ρ ρ', Rep K mg H d v ∧ EnvR K mg H ρ σ ∧ asg t d ρ = some ρ' ∧
  ∀ σ' : L2.St, EnvR K mg H ρ' σ' → σ'.length = σ.length → (∀ i, i ∉ t.slots → σ'[i]? = σ[i]?) → Q σ' H
def lTgs (ts : List Tg) : TGs := fun vs σ H Q => ∃ ds ρ ρ', Reps K mg H ds vs ∧ EnvR K mg H ρ σ ∧ asgs ts ds ρ = some ρ' ∧
  ∀ σ' : L2.St, EnvR K mg H ρ' σ' → σ'.length = σ.length → (∀ i, i ∉ slotss ts → σ'[i]? = σ[i]?) → Q σ' H
end
theorem asgs_len : ∀ {ts : List Tg} {ds : List D} {ρ ρ' : En}, asgs ts ds ρ = some ρ' → ts.length = ds.length
  | [], [], _, _, _ => rfl
  | [], _ :: _, _, _, h => by simp [asgs] at h
  | _ :: _, [], _, _, h => by simp [asgs] at h
  | t :: ts, d :: ds, ρ, ρ', h => by
    simp only [asgs, Option.bind_eq_some_iff] at h
    obtain ⟨ρ1, _, h2⟩ := h
    simp [asgs_len h2]
theorem asg_plain {e : Expr} {es : List Expr} {env : Env} (h : plainE e = true) : assignEach (e :: es) env = (false, assign e env) :: assignEach es env := by
  cases e <;> first | (cases h; done) | rfl
theorem asg_len {env : Env} : ∀ {es : List Expr}, es.all plainE = true → (assignEach es env).length = es.length ∧ (assignEach es env).findIdx? (·.1) = none
  | [], _ => ⟨rfl, rfl⟩
  | e :: es, h => by
    rw [List.all_cons, Bool.and_eq_true] at h
    obtain ⟨h1, h2⟩ := asg_len (env := env) h.2
    rw [asg_plain h.1]
    refine ⟨by simp [h1], ?_⟩
    rw [List.findIdx?_cons]
    simp [h2]
section
variable {X : Cx} {pos : Pos}
theorem pg_nameW {i : Nat} {x : Str} (hN : X.N.Nodup) (hi : X.N[i]? = some x) (hx : Loc X.env.scope x) (hf : X.fn x = true ∨ X.env.scope.names.lookup x = some .local) : PG X (.Name x pos) (lTg X.K X.gw (.nm i)) :=
  PG.imp (pg_name hN hi hx hf) fun v σ H Q q => by
    obtain ⟨d, ρ, ρ', r, hρ, e, q⟩ := q
    cases e
    refine q _ (hρ.set i r) (by simp) fun j hj => ?_
    rw [List.getElem?_set_ne (fun z => hj (by simp [Tg.slots, z]))]
theorem pgs_nilW : PGs X [] (lTgs X.K X.gw []) := PGs.imp pgs_nil fun v σ H Q q => by
  obtain ⟨ds, ρ, ρ', r, hρ, e, q⟩ := q
  have := asgs_len e
  have e0 : ds = [] := List.eq_nil_of_length_eq_zero (by simpa using this.symm)
  subst e0
  cases r
  cases e
  exact ⟨rfl, q σ hρ rfl fun _ _ => rfl⟩
theorem pgs_consW {e : Expr} {es : List Expr} {t : Tg} {ts : List Tg} (he : plainE e = true) (h1 : PG X e (lTg X.K X.gw t)) (h2 : PGs X es (lTgs X.K X.gw ts)) : PGs X (e :: es) (lTgs X.K X.gw (t :: ts)) :=
  PGs.imp (pgs_cons h1 h2 (by rw [asg_plain he]; rfl)) fun v σ H Q q => by
    obtain ⟨ds, ρ, ρ', r, hρ, e, q⟩ := q
    cases r with
    | nil => simp [asgs] at e
    | cons r1 r2 =>
      simp only [asgs, Option.bind_eq_some_iff] at e
      obtain ⟨ρ1, e1, e2⟩ := e
      refine ⟨_, _, rfl, ⟨_, ρ, ρ1, r1, hρ, e1, fun σ1 hρ1 l1 k1 => ⟨_, ρ1, ρ', r2, hρ1, e2, fun σ2 hρ2 l2 k2 => q σ2 hρ2 (l2.trans l1) fun i hi => ?_⟩⟩⟩
      simp only [slotss, List.mem_append, not_or] at hi
      rw [k2 i hi.2, k1 i hi.1]
theorem pg_tupW {es : List Expr} {k : Nat} {ts : List Tg} (hc : X.calm = true) (he : es.all plainE = true) (hl : es.length = ts.length) (h : PGs X es (lTgs X.K X.gw ts)) : PG X (.Tuple es k pos) (lTg X.K X.gw (.tp ts)) :=
  PG.imp (pg_tup (n := es.length) hc h (asg_len he).1 (asg_len he).2) fun v σ H Q q => by
    obtain ⟨d, ρ, ρ', r, hρ, e, q⟩ := q
    cases d with
    | tup ds =>
      obtain ⟨a, vs, rfl, h1, h2⟩ := r.tupV
      refine ⟨a, vs, rfl, h1, ?_, ds, ρ, ρ', h2, hρ, e, q⟩
      rw [← h2.length, hl, asgs_len e]
    | _ => simp [asg] at e
end
/-- the items; the lists of the store that must stay meanwhile -/
structure Src where
  items : List D
  hold : List (Addr × MO) := []
def Src.chk (c : Src) (S : Sto) : Prop := ∀ p ∈ c.hold, S p.1 = some p.2
abbrev WI := WG Src
/-- J walks the source, from the store S and the heap H on -/
structure SrcOk (K : PySem.W.Frag) (mg : GW) (S : Sto) (H : Hp) (c : Src) (J : It) : Prop where
  small : c.items.length ≤ sizeLine
  walk : ∃ (G : Hp → Prop) (Y : Nat → Hp → V → Hp → Prop), Walk J c.items.length G Y ∧ (∀ S' H', Sim K mg H' S' → Fm S H S' H' → c.chk S' → G H') ∧
    ∀ i S' H' x H'', i < c.items.length → Sim K mg H' S' → Fm S H S' H' → c.chk S' → Y i H' x H'' → ∃ d, c.items[i]? = some d ∧ Rep K mg H'' d x ∧ Sim K mg H'' S' ∧ Fm S' H' S' H''
def lI (K : PySem.W.Frag) (mg : GW) (W : WX) (t : WI) : TI := fun σ H R => ∃ ρ S, Sim K mg H S ∧ EnvR K mg H ρ σ ∧
  t ρ S (fun c S1 => ∀ J H1, Sim K mg H1 S1 → Fm S H S1 H1 → SrcOk K mg S1 H1 c J → R J H1) (fun x S' => ∀ cls d H', Sim K mg H' S' → XR K mg H' x cls d → Fm S H S' H' → W cls d σ H')
/-- the items of a range -/
def rngD (lo hi : Int) : List D := (List.range (hi - lo).toNat).map fun i => .int (lo + (i : Nat))
def rngC (lo c : Int) (n : Nat) : List D := (List.range n).map fun i => .int (lo + (i : Nat) * c)
def rgOk (lo hi : Int) : Prop := (-(2 ^ 62) ≤ lo ∧ lo < 2 ^ 62) ∧ (-(2 ^ 62) ≤ hi ∧ hi < 2 ^ 62) ∧ (hi - lo).toNat ≤ sizeLine
def iR1 (a : WE) : WI := fun ρ S Q E => a ρ S (fun d S1 => ∃ n, d = .int n ∧ rgOk 0 n ∧ Q ⟨rngD 0 n, []⟩ S1) E
def iR2 (a b : WE) : WI := fun ρ S Q E => a ρ S (fun d S1 => b ρ S1 (fun e S2 => ∃ i j, d = .int i ∧ e = .int j ∧ rgOk i j ∧ Q ⟨rngD i j, []⟩ S2) E) E
def iR3 (a b c : WE) : WI := fun ρ S Q E => a ρ S (fun d S1 => b ρ S1 (fun e S2 => c ρ S2 (fun f S3 => ∃ (i j k : Int) (n : Nat), d = .int i ∧ e = .int j ∧ f = .int k ∧ RgC i j k n ∧ n ≤ sizeLine ∧ Q ⟨rngC i k n, []⟩ S3) E) E) E
/-- the items of a tuple or a list, the list held -/
def srcD (S : Sto) : D → Option Src
  | .tup l => some ⟨l, []⟩
  | .fl l => some ⟨l, []⟩
  | .ref a => match S a with
    | some (.lst l) => some ⟨l, [(a, .lst l)]⟩
    | _ => none
  | _ => none
/-- .. or the keys of a dict -/
def srcA (S : Sto) (d : D) : Option Src := match d with
  | .ref a => (match S a with
    | some (.dct ep l) => some ⟨l.map (·.1), [(a, .dct ep l)]⟩
    | _ => srcD S (.ref a))
  | d => srcD S d
def iOf (a : WE) : WI := fun ρ S Q E => a ρ S (fun d S1 => ∃ c, srcA S1 d = some c ∧ Q c S1) E
def iHid (t : WA) : WI := fun ρ S Q E => t ρ S (fun ds S1 => Q ⟨ds, []⟩ S1) E
def numD (k : Int) (l : List D) : List D := (List.range l.length).map fun i => .tup [.int (k + (i : Nat)), l.getD i .non]
/-- enumerate(x), enumerate(x, k) -/
def iEn (k : Int) (a : WE) : WI := fun ρ S Q E => a ρ S (fun d S1 => ∃ c, srcD S1 d = some c ∧ (k = 0 ∨ ∃ l, d = .tup l) ∧ Q ⟨numD k c.items, c.hold⟩ S1) E
def pairD (l m : List D) : List D := (List.range (min l.length m.length)).map fun i => .tup [l.getD i .non, m.getD i .non]
/-- zip(x, y), both tuples or both lists -/
def iZip (a b : WE) : WI := fun ρ S Q E => a ρ S (fun d S1 => b ρ S1 (fun e S2 => ∃ l m, ((d = .tup l ∧ e = .tup m ∧ Q ⟨pairD l m, []⟩ S2) ∨ (∃ p q, srcD S2 d = some ⟨l, p⟩ ∧ srcD S2 e = some ⟨m, q⟩ ∧ itemsL S2 d = some l ∧ itemsL S2 e = some m ∧ Q ⟨pairD l m, p ++ q⟩ S2))) E) E
theorem mono_iR1 {a : WE} (ma : Mono a) : Mono (iR1 a) := fun _ _ _ _ _ _ h q x => ma _ _ _ _ _ _ h (fun _ _ ⟨n, e, o, h1⟩ => ⟨n, e, o, q _ _ h1⟩) x
theorem mono_iR2 {a b : WE} (ma : Mono a) (mb : Mono b) : Mono (iR2 a b) := fun _ _ _ _ _ _ h q x => ma _ _ _ _ _ _ h (fun _ _ h1 => mb _ _ _ _ _ _ h1 (fun _ _ ⟨i, j, e1, e2, o, h2⟩ => ⟨i, j, e1, e2, o, q _ _ h2⟩) x) x
theorem mono_iR3 {a b c : WE} (ma : Mono a) (mb : Mono b) (mc : Mono c) : Mono (iR3 a b c) := fun _ _ _ _ _ _ h q x => ma _ _ _ _ _ _ h (fun _ _ h1 => mb _ _ _ _ _ _ h1 (fun _ _ h2 => mc _ _ _ _ _ _ h2 (fun _ _ ⟨i, j, k, n, e1, e2, e3, o, z, h3⟩ => ⟨i, j, k, n, e1, e2, e3, o, z, q _ _ h3⟩) x) x) x
theorem mono_iOf {a : WE} (ma : Mono a) : Mono (iOf a) := fun _ _ _ _ _ _ h q x => ma _ _ _ _ _ _ h (fun _ _ ⟨c, e, h1⟩ => ⟨c, e, q _ _ h1⟩) x
theorem mono_iHid {a : WA} (ma : Mono a) : Mono (iHid a) := fun _ _ _ _ _ _ h q x => ma _ _ _ _ _ _ h (fun _ _ h1 => q _ _ h1) x
theorem mono_iEn {k : Int} {a : WE} (ma : Mono a) : Mono (iEn k a) := fun _ _ _ _ _ _ h q x => ma _ _ _ _ _ _ h (fun _ _ ⟨c, e, o, h1⟩ => ⟨c, e, o, q _ _ h1⟩) x
theorem mono_iZip {a b : WE} (ma : Mono a) (mb : Mono b) : Mono (iZip a b) := fun _ _ _ _ _ _ h q x => ma _ _ _ _ _ _ h (fun _ _ h1 => mb _ _ _ _ _ _ h1 (fun _ _ ⟨l, m, h2⟩ => ⟨l, m, by
  rcases h2 with ⟨a1, a2, h2⟩ | ⟨p, r, a1, a2, a3, a4, h2⟩
  · exact .inl ⟨a1, a2, q _ _ h2⟩
  · exact .inr ⟨p, r, a1, a2, a3, a4, q _ _ h2⟩⟩) x) x
section
variable {K : PySem.W.Frag} {mg : GW} {H : Hp} {S : Sto}
theorem src_rng {lo hi : Int} (h : (hi - lo).toNat ≤ sizeLine) : SrcOk K mg S H ⟨rngD lo hi, []⟩ (Itr lo (hi - lo).toNat) := by
  have e : (rngD lo hi).length = (hi - lo).toNat := by simp [rngD]
  refine ⟨by show (rngD lo hi).length ≤ _; rw [e]; exact h, _, _, by show Walk _ (rngD lo hi).length _ _; rw [e]; exact walk_range, fun _ _ _ _ _ => trivial, fun i S' H' x H'' hj s' f' _ y => ?_⟩
  obtain ⟨e1, e2⟩ := y
  subst e1 e2
  refine ⟨.int (lo + (i : Nat)), ?_, .int _, s', Fm.refl⟩
  have hi' : i < (hi - lo).toNat := by rw [← e]; exact hj
  show (rngD lo hi)[i]? = _
  simp [rngD, hi']
theorem src_rngC {lo c : Int} {n : Nat} (h : n ≤ sizeLine) : SrcOk K mg S H ⟨rngC lo c n, []⟩ (Itc lo c n) := by
  have e : (rngC lo c n).length = n := by simp [rngC]
  refine ⟨by show (rngC lo c n).length ≤ _; rw [e]; exact h, _, _, by show Walk _ (rngC lo c n).length _ _; rw [e]; exact walk_rangeC, fun _ _ _ _ _ => trivial, fun i S' H' x H'' hi s' f' _ y => ?_⟩
  obtain ⟨e1, e2⟩ := y
  subst e1 e2
  refine ⟨.int (lo + (i : Nat) * c), ?_, .int _, s', Fm.refl⟩
  have hi' : i < n := by rw [← e]; exact hi
  show (rngC lo c n)[i]? = _
  simp [rngC, hi']
theorem src_tup {a : Addr} {l : List D} {vs : List V} (s : Sim K mg H S) (h : SqT K H a vs) (r : Reps K mg H l vs) (z : vs.length ≤ sizeLine) : SrcOk K mg S H ⟨l, []⟩ (Itt K a) := by
  refine ⟨by show l.length ≤ _; rw [r.length]; exact z, fun H' => SqT K H' a vs, YAt vs, by show Walk _ l.length _ _; rw [r.length]; exact walk_tup, fun S' H' s' f' _ => SqT.fm s f' h, fun i S' H' x H'' hi s' f' _ y => ?_⟩
  obtain ⟨e1, e2⟩ := y
  subst e1
  obtain ⟨d, h1, h2⟩ := (r.fm s f').getV e2
  exact ⟨d, h1, h2, s', Fm.refl⟩
/-- a list whose items are told at each turn -/
theorem src_lst {a : Addr} {l : List D} {hold : List (Addr × MO)} {n : Nat} (hn : l.length = n) (z : n ≤ sizeLine) (hg : ∀ S' H', Sim K mg H' S' → Fm S H S' H' → Src.chk ⟨l, hold⟩ S' → ∃ vs, SqL K H' a vs ∧ Reps K mg H' l vs) : SrcOk K mg S H ⟨l, hold⟩ (Itl K a) := by
  refine ⟨by show l.length ≤ _; rw [hn]; exact z, fun H' => ∃ vs, SqL K H' a vs ∧ Reps K mg H' l vs, fun i H' x H'' => H'' = H' ∧ ∃ d, l[i]? = some d ∧ Rep K mg H' d x, ⟨fun i H' hi g => ?_, fun H' g => ?_, fun i H' x H'' hi g y => ?_⟩, hg, fun i S' H' x H'' hi s' f' _ y => ?_⟩
  · obtain ⟨vs, h1, h2⟩ := g
    have : i < vs.length := by rw [← h2.length]; exact hi
    exact ⟨vs, vs[i], h1, by simp [this]⟩
  · obtain ⟨vs, h1, h2⟩ := g
    exact ⟨vs, h1, by rw [← h2.length]; exact Nat.le_refl _⟩
  · obtain ⟨vs, h1, h2⟩ := g
    obtain ⟨e, h3⟩ := y
    obtain ⟨d, h4, h5⟩ := h2.getV (h3 vs h1)
    exact ⟨e, d, h4, h5⟩
  · obtain ⟨e, d, h1, h2⟩ := y
    subst e
    exact ⟨d, h1, h2, s', Fm.refl⟩
theorem src_at {d : D} {v : V} {c : Src} (s : Sim K mg H S) (r : Rep K mg H d v) (h : srcD S d = some c) : ∃ a vs, v = .ref a ∧ Reps K mg H c.items vs ∧
    ((SqT K H a vs ∧ (∃ l, d = .tup l) ∧ c.hold = []) ∨ (SqL K H a vs ∧ itemsL S d = some c.items ∧ ∀ S' H', Sim K mg H' S' → Fm S H S' H' → c.chk S' → ∃ ws, SqL K H' a ws ∧ Reps K mg H' c.items ws)) := by
  cases r with
  | tup h1 h2 => cases h; exact ⟨_, _, rfl, h2, .inl ⟨h1, ⟨_, rfl⟩, rfl⟩⟩
  | fl h1 h2 =>
    cases h
    exact ⟨_, _, rfl, h2, .inr ⟨h1.sql, rfl, fun S' H' s' f' _ => ⟨_, (SqF.fm s f' h1).sql, h2.fm s f'⟩⟩⟩
  | ref a =>
    unfold srcD at h
    cases e : S a with
    | none => simp only [e] at h; cases h
    | some o =>
      cases o with
      | lst l =>
        simp only [e] at h
        cases h
        obtain ⟨vs, h1, h2⟩ := s a _ e
        refine ⟨a, vs, rfl, h2, .inr ⟨.of h1, by simp [itemsL, e], fun S' H' s' f' ch => ?_⟩⟩
        obtain ⟨ws, g1, g2⟩ := s' a _ (ch (a, .lst l) (by simp))
        exact ⟨ws, .of g1, g2⟩
      | _ => simp only [e] at h; cases h
  | _ => cases h
end
section
variable {X : Cx} {W : WX} {tg a b c : Expr} {ta tb tc : WE} {t : WA} {pos p : Pos}
theorem pi_r1W (ma : Mono ta) (ha : PE X a (lE X.K X.gw W ta)) (he : plainE a = true) (hg : Gl X "range") (hm : X.mg "range" = none) : PI X tg (.Call (.Name "range" p) [a] [] pos) (lI X.K X.gw W (iR1 ta)) :=
  PI.imp (pi_range1 hg hm (pa_cons ha pa_nil (star_cons he)) (star_cons he)) fun σ H R q => by
    obtain ⟨ρ, S, hS, hρ, h⟩ := q
    refine lG_bind ma hS hρ h (fun d S1 v H1 h1 s1 e1 r1 f1 => ?_) fun x S1 cls d H1 h1 s1 r1 f1 => h1 cls d H1 s1 r1 f1
    obtain ⟨n, rfl, o, h1⟩ := h1
    refine ⟨n, by rw [r1.intV], o.2.1.1, o.2.1.2, ?_⟩
    have e : n.toNat = (n - 0).toNat := by simp
    rw [e]
    exact h1 _ H1 s1 f1 (src_rng o.2.2)
theorem pi_r2W (ma : Mono ta) (mb : Mono tb) (ha : PE X a (lE X.K X.gw W ta)) (hb : PE X b (lE X.K X.gw W tb)) (he : plainE a = true) (he' : plainE b = true) (hg : Gl X "range") (hm : X.mg "range" = none) : PI X tg (.Call (.Name "range" p) [a, b] [] pos) (lI X.K X.gw W (iR2 ta tb)) :=
  PI.imp (pi_range2 hg hm (pa_cons ha (pa_cons hb pa_nil (star_cons he')) (star_cons he)) (by rw [star_cons he, star_cons he']; rfl) (by rw [star_cons he']; rfl)) fun σ H R q => by
    obtain ⟨ρ, S, hS, hρ, h⟩ := q
    refine lG_bind ma hS hρ h (fun d S1 v H1 h1 s1 e1 r1 f1 => ?_) fun x S1 cls d H1 h1 s1 r1 f1 => h1 cls d H1 s1 r1 f1
    refine lG_bind mb s1 e1 h1 (fun e S2 u H2 h2 s2 e2 r2 f2 => ?_) fun x S1 cls d H1 h1 s1 r1 f2 => h1 cls d H1 s1 r1 (f1.trans f2)
    obtain ⟨i, j, rfl, rfl, o, h2⟩ := h2
    exact ⟨i, j, by rw [r1.intV, r2.intV], ⟨o.1.1, o.1.2, o.2.1.1, o.2.1.2⟩, h2 _ H2 s2 (f1.trans f2) (src_rng o.2.2)⟩
theorem pi_r3W (ma : Mono ta) (mb : Mono tb) (mc : Mono tc) (ha : PE X a (lE X.K X.gw W ta)) (hb : PE X b (lE X.K X.gw W tb)) (hc : PE X c (lE X.K X.gw W tc)) (he : plainE a = true) (he' : plainE b = true) (he2 : plainE c = true) (hg : Gl X "range") (hm : X.mg "range" = none) :
    PI X tg (.Call (.Name "range" p) [a, b, c] [] pos) (lI X.K X.gw W (iR3 ta tb tc)) :=
  PI.imp (pi_range3 hg hm (pa_cons ha (pa_cons hb (pa_cons hc pa_nil (star_cons he2)) (star_cons he')) (star_cons he)) (star_cons he) (star_none (by simp [he', he2]))) fun σ H R q => by
    obtain ⟨ρ, S, hS, hρ, h⟩ := q
    refine lG_bind ma hS hρ h (fun d S1 v H1 h1 s1 e1 r1 f1 => ?_) fun x S1 cls d H1 h1 s1 r1 f1 => h1 cls d H1 s1 r1 f1
    refine lG_bind mb s1 e1 h1 (fun e S2 u H2 h2 s2 e2 r2 f2 => ?_) fun x S1 cls d H1 h1 s1 r1 f2 => h1 cls d H1 s1 r1 (f1.trans f2)
    refine lG_bind mc s2 e2 h2 (fun f S3 w H3 h3 s3 e3 r3 f3 => ?_) fun x S1 cls d H1 h1 s1 r1 f3 => h1 cls d H1 s1 r1 ((f1.trans f2).trans f3)
    obtain ⟨i, j, k, n, rfl, rfl, rfl, o, z, h3⟩ := h3
    exact ⟨i, j, k, n, by rw [r1.intV, r2.intV, r3.intV], o, h3 _ H3 s3 ((f1.trans f2).trans f3) (src_rngC z)⟩
/-- the keys of a dict -/
def Itn (w : World) (d : Addr) (ep n : Nat) : It :=
  ⟨fun i H => ∃ xs : List (NestedKey × Addr × Value), H d = some (DctO w d ep xs) ∧ xs.length = n ∧ i < n, fun i H x H' => H' = H ∧ ∀ xs : List (NestedKey × Addr × Value), H d = some (DctO w d ep xs) → ∃ p, xs[i]? = some p ∧ x = .ref p.2.1,
    fun i H => ∃ xs : List (NestedKey × Addr × Value), H d = some (DctO w d ep xs) ∧ xs.length = n ∧ n ≤ i⟩
theorem dct_raw {pins : List (Addr × Obj)} {σ : L2.St} {H : Hp} {s : Shared} {d : Addr} {ep : Nat} {xs : List (NestedKey × Addr × Value)} (I : Inv X pins σ H s) (h : H d = some (DctO X.w d ep xs)) : (d == sysModules) = false ∧ xs.length ≤ sizeLine ∧ ∃ o es, s.heap.get? d = some o ∧ o.ExactDict ∧ o.data = .dict es ep ∧ es.size = xs.length ∧ ∀ (i : Nat) (p : NestedKey × Addr × Value), xs[i]? = some p → ∃ en : DictEntry, es[i]? = some en ∧ en.key = .ref p.2.1 := by
  obtain ⟨⟨h1, h2, _, _, o, es, h5, h6, h7, h8⟩, _⟩ := (show ObjOk X.prog X.w H s.heap d (DctO X.w d ep xs) from I.hok d _ h)
  refine ⟨h1, h2, o, es, h5, h6, h7, ?_, fun i p hp => ?_⟩
  · have := congrArg List.length h8
    simpa using this
  · refine ⟨⟨p.1.hash X.w, .ref p.2.1, p.2.2⟩, ?_, rfl⟩
    rw [← Array.getElem?_toList, h8, List.getElem?_map, hp]
    rfl
theorem turn_dct {d : Addr} {ep n : Nat} (it : Addr) : Turn X.prog X.w X.K tg (Itn X.w d ep n) [it] it (fun i h => h.IsKeyIter it d i n ep) where
  mem := List.mem_singleton.mpr rfl
  obj := fun i h st b hb => by
    cases List.mem_singleton.mp hb
    obtain ⟨oi, e, _, dd⟩ := st
    exact ⟨oi, e, fun v z => by rw [dd] at z; cases z⟩
  keep := fun i h h' st k => st.at fun oi e => k it (List.mem_singleton.mpr rfl) oi e
  item := by
    intro Y hP hw hK hc i pins s σ H E I hf st hg
    obtain ⟨xs, hd, hl, hi⟩ := hg
    rw [← hw] at hd
    obtain ⟨hs, _, o, es, g1, g2, g3, g4, g5⟩ := dct_raw I hd
    obtain ⟨f0, f1, _, f3, f4, f5⟩ := hf it (List.mem_singleton.mpr rfl)
    obtain ⟨p, hp⟩ : ∃ p, xs[i]? = some p := ⟨xs[i], List.getElem?_eq_getElem (by omega)⟩
    obtain ⟨en, hen, hkey⟩ := g5 i p hp
    rw [← hP, ← hw]
    refine next_key_item st g1 g3 (g4.trans hl) hen fun h' st' sb => ?_
    have I1 : Inv Y pins σ H { s with heap := h' } := I.turned (t' := s.toks) (fun b ob hb e => (sb.2 b hb).trans e) f0 f1 f3 f4 f5
    obtain ⟨oi, e, c, dd⟩ := id st'
    refine ⟨en.key, rfl, go_of (s := { s with heap := h' }) e c dd (by decide) ⟨.ref p.2.1, H, I1, hkey, ⟨rfl, fun ys hy => ?_⟩, st', fun b hb => (hf b hb).1⟩⟩
    obtain ⟨_, _, o', es', k1, k2, k3, k4, k5⟩ := dct_raw I hy
    rw [g1] at k1
    cases k1
    rw [g3] at k3
    cases k3
    obtain ⟨q, hq⟩ : ∃ q, ys[i]? = some q := ⟨ys[i]'(by omega), List.getElem?_eq_getElem (by omega)⟩
    obtain ⟨en', hen', hkey'⟩ := k5 i q hq
    rw [hen] at hen'
    cases hen'
    rw [hkey] at hkey'
    exact ⟨q, hq, by rw [Value.ref.inj hkey']⟩
  done := by
    intro Y hP hw hK hc i pins s σ H E I hf st hg
    obtain ⟨xs, hd, hl, hi⟩ := hg
    rw [← hw] at hd
    obtain ⟨hs, _, o, es, g1, g2, g3, g4, _⟩ := dct_raw I hd
    obtain ⟨f0, f1, _, f3, f4, f5⟩ := hf it (List.mem_singleton.mpr rfl)
    rw [← hP, ← hw]
    exact next_key_end (I.ok.hd hc) st g1 g3 (g4.trans hl) hi fun h' eb => ⟨rfl, I.turned (t' := s.toks) (fun b ob hb e => eb b ob hb e) f0 f1 f3 f4 f5⟩
  self := fun A i s Q E st h => wpAny_pyIter_keyiter st h
/-- what is walked by values: a list, a tuple, a dict's keys -/
def SeqI (X : Cx) (R : It → Hp → Prop) (x : V) (H1 : Hp) : Prop := (∃ a xs, x = .ref a ∧ ((SqL X.K H1 a xs ∧ (xs.length ≤ sizeLine → R (Itl X.K a) H1)) ∨ (SqT X.K H1 a xs ∧ (xs.length ≤ sizeLine → R (Itt X.K a) H1)))) ∨
  ∃ a ep xs, x = .ref a ∧ H1 a = some (DctO X.w a ep xs) ∧ (xs.length ≤ sizeLine → R (Itn X.w a ep xs.length) H1)
theorem pi_seqA {te : TE} (hl : PE X a te) : PI X tg a (fun σ H R => te σ H fun x H1 => SeqI X R x H1) := by
  refine ⟨fun pins s σ H R I h => ?_⟩
  refine thn (hl.run pins s σ H _ I h) fun v s1 ⟨x, H1, I1, r1, q1⟩ => ?_
  have fin : ∀ (J : It) (o : Obj) (tn : Nat → Heap → Prop), Turn X.prog X.w X.K tg J [s1.heap.objs.size] s1.heap.objs.size tn → tn 0 (s1.heap.push o) → R J H1 → PIE X pins σ tg R (.ref s1.heap.objs.size) { s1 with heap := s1.heap.push o } := fun J o tn T st q =>
    pi_one (tk := s1.toks) I1 o T st q
  rcases q1 with ⟨a, xs, ea, q⟩ | ⟨a, ep, xs, ea, hd, q⟩
  · subst ea
    cases r1
    rcases q with ⟨hq, q⟩ | ⟨hq, q⟩
    · obtain ⟨its, rv, p, hz⟩ := I1.list hq
      exact wpAny_pyIter_list p.isList (fin _ _ _ (turn_list a _) ⟨_, Heap.get?_push_size _ rfl, rfl, rfl⟩ (q hz))
    · obtain ⟨its, rv, p, hz⟩ := I1.tuple hq
      exact wpAny_pyIter_tuple (show s1.heap.IsTuple a its.toArray from p) (fin _ _ _ (turn_tuple a _) ⟨_, Heap.get?_push_size _ rfl, rfl, rfl⟩ (q hz))
  · subst ea
    cases r1
    obtain ⟨hs, hz, o, es, g1, g2, g3, g4, _⟩ := dct_raw I1 hd
    refine iter_keys hs g1 g2 g3 (fin _ _ _ (turn_dct _) ⟨_, Heap.get?_push_size _ rfl, rfl, ?_⟩ (q hz))
    rw [g4] <;> rfl
theorem pi_seq {te : TE} (hl : PE X a te) : PI X tg a (fun σ H R => te σ H fun x H1 => ∃ a xs, x = .ref a ∧ ((SqL X.K H1 a xs ∧ (xs.length ≤ sizeLine → R (Itl X.K a) H1)) ∨ (SqT X.K H1 a xs ∧ (xs.length ≤ sizeLine → R (Itt X.K a) H1)))) := by
  refine ⟨fun pins s σ H R I h => ?_⟩
  refine thn (hl.run pins s σ H _ I h) fun v s1 ⟨x, H1, I1, r1, q1⟩ => ?_
  have fin : ∀ (J : It) (o : Obj) (tn : Nat → Heap → Prop), Turn X.prog X.w X.K tg J [s1.heap.objs.size] s1.heap.objs.size tn → tn 0 (s1.heap.push o) → R J H1 → PIE X pins σ tg R (.ref s1.heap.objs.size) { s1 with heap := s1.heap.push o } := fun J o tn T st q =>
    pi_one (tk := s1.toks) I1 o T st q
  obtain ⟨a, xs, ea, q⟩ := q1
  subst ea
  cases r1
  rcases q with ⟨hq, q⟩ | ⟨hq, q⟩
  · obtain ⟨its, rv, p, hz⟩ := I1.list hq
    exact wpAny_pyIter_list p.isList (fin _ _ _ (turn_list a _) ⟨_, Heap.get?_push_size _ rfl, rfl, rfl⟩ (q hz))
  · obtain ⟨its, rv, p, hz⟩ := I1.tuple hq
    exact wpAny_pyIter_tuple (show s1.heap.IsTuple a its.toArray from p) (fin _ _ _ (turn_tuple a _) ⟨_, Heap.get?_push_size _ rfl, rfl, rfl⟩ (q hz))
theorem DReps.key_at {K : PySem.W.Frag} {mg : GW} {H : Hp} {l : List (D × D)} {xs : List (NestedKey × Addr × Value)} (h : DReps K mg H l xs) : ∀ {i : Nat} {p : NestedKey × Addr × Value}, xs[i]? = some p → ∃ kv, l[i]? = some kv ∧ Rep K mg H kv.1 (.ref p.2.1) := by
  induction h with
  | nil => intro i p e; simp at e
  | cons h1 h2 h3 h4 _ ih =>
    intro i p e
    cases i with
    | zero => simp at e; subst e; exact ⟨_, rfl, h2⟩
    | succ i => obtain ⟨kv, a, b⟩ := ih (by simpa using e); exact ⟨kv, by simpa using a, b⟩
/-- a dict of the store walked -/
theorem src_dct {mg : GW} {K : PySem.W.Frag} {H : Hp} {S : Sto} {a : Addr} {ep : Nat} {l : List (D × D)} (hz : l.length ≤ sizeLine) : SrcOk K mg S H ⟨l.map (·.1), [(a, .dct ep l)]⟩ (Itn mg.w a ep l.length) := by
  refine ⟨by show (l.map _).length ≤ _; rw [List.length_map]; exact hz, fun H' => ∃ xs, H' a = some (DctO mg.w a ep xs) ∧ DReps K mg H' l xs, fun i H' x H'' => H'' = H' ∧ ∃ d, (l.map (·.1))[i]? = some d ∧ Rep K mg H' d x, ⟨fun i H' hi g => ?_, fun H' g => ?_, fun i H' x H'' hi g y => ?_⟩, fun S' H' s' _ ch => s' a _ (ch (a, .dct ep l) (by simp)), fun i S' H' x H'' hi s' f' _ y => ?_⟩
  · obtain ⟨xs, h1, h2⟩ := g
    exact ⟨xs, h1, h2.len.symm, by simpa using hi⟩
  · obtain ⟨xs, h1, h2⟩ := g
    exact ⟨xs, h1, h2.len.symm, by simp⟩
  · obtain ⟨xs, h1, h2⟩ := g
    obtain ⟨e, h3⟩ := y
    obtain ⟨p, h4, h5⟩ := h3 xs h1
    obtain ⟨kv, h6, h7⟩ := h2.key_at h4
    subst h5
    exact ⟨e, kv.1, by rw [List.getElem?_map, h6]; rfl, h7⟩
  · obtain ⟨e, d, h1, h2⟩ := y
    subst e
    exact ⟨d, h1, h2, s', Fm.refl⟩
theorem pi_ofW (ma : Mono ta) (ha : PE X a (lE X.K X.gw W ta)) : PI X tg a (lI X.K X.gw W (iOf ta)) := PI.imp (pi_seqA ha) fun σ H R q => by
  obtain ⟨ρ, S, hS, hρ, h⟩ := q
  refine lG_bind ma hS hρ h (fun d S1 v H1 h1 s1 e1 r1 f1 => ?_) fun x S1 cls d H1 h1 s1 r1 f1 => h1 cls d H1 s1 r1 f1
  obtain ⟨⟨l, hold⟩, ec, h1⟩ := h1
  have old : srcD S1 d = some ⟨l, hold⟩ → SeqI X R v H1 := fun ec => by
    obtain ⟨p, vs, ev, hr, hc⟩ := src_at s1 r1 ec
    refine .inl ⟨p, vs, ev, ?_⟩
    rcases hc with ⟨h3, _, eh⟩ | ⟨h3, _, h4⟩
    · have eh' : hold = [] := eh
      subst eh'
      exact .inr ⟨h3, fun z => h1 _ H1 s1 f1 (src_tup s1 h3 hr z)⟩
    · exact .inl ⟨h3, fun z => h1 _ H1 s1 f1 (src_lst rfl (by have e := hr.length; have e' : l.length = vs.length := e; rw [e']; exact z) h4)⟩
  unfold srcA at ec
  split at ec
  · rename_i a
    split at ec
    · rename_i ep m e
      cases ec
      obtain ⟨xs, g1, g2⟩ := s1 a _ e
      cases r1
      refine .inr ⟨a, ep, xs, rfl, g1, fun z => ?_⟩
      rw [← g2.len] at z ⊢
      exact h1 _ H1 s1 f1 (src_dct z)
    · exact old ec
  · exact old ec
theorem pi_hidW (mt : Mono t) (ha : PE X a (lH X.K X.gw W t)) : PI X tg a (lI X.K X.gw W (iHid t)) := PI.imp (pi_seq ha) fun σ H R q => by
  obtain ⟨ρ, S, hS, hρ, h⟩ := q
  refine lG_bind mt hS hρ h (fun ds S1 v H1 h1 s1 e1 r1 f1 => ?_) fun x S1 cls d H1 h1 s1 r1 f1 => h1 cls d H1 s1 r1 f1
  obtain ⟨p, vs, ev, hn, hp, hr⟩ := r1
  refine ⟨p, vs, ev, .inl ⟨.of hp, fun z => h1 _ H1 s1 f1 (src_lst rfl (by rw [hr.length]; exact z) fun S' H' s' f' _ => ⟨vs, .of (f' p _ hp hn).1, hr.fm s1 f'⟩)⟩⟩
end
section
variable {K : PySem.W.Frag} {mg : GW} {H : Hp} {S : Sto}
/-- a new pair of two that are told -/
theorem new_pair {S' : Sto} {H' : Hp} {T : Addr} {d e : D} {x y : V} (s' : Sim K mg H' S') (hT : H' T = none) (r1 : Rep K mg H' d x) (r2 : Rep K mg H' e y) :
    Rep K mg (upd H' T (.tup [x, y])) (.tup [d, e]) (.ref T) ∧ Sim K mg (upd H' T (.tup [x, y])) S' ∧ Fm S' H' S' (upd H' T (.tup [x, y])) :=
  ⟨.tup (.of upd_same) (.cons (r1.fm s' (s'.hid hT)) (.cons (r2.fm s' (s'.hid hT)) .nil)), s'.hidS hT, s'.hid hT⟩
theorem numD_get {k : Int} {l : List D} {i : Nat} {d : D} (h : l[i]? = some d) : (numD k l)[i]? = some (.tup [.int (k + (i : Nat)), d]) := by
  have hi : i < l.length := (List.getElem?_eq_some_iff.mp h).1
  unfold numD
  rw [List.getElem?_map, List.getElem?_range hi]
  simp [h]
theorem pairD_get {l m : List D} {i : Nat} {d e : D} (h : l[i]? = some d) (h' : m[i]? = some e) : (pairD l m)[i]? = some (.tup [d, e]) := by
  have hi : i < l.length := (List.getElem?_eq_some_iff.mp h).1
  have hi' : i < m.length := (List.getElem?_eq_some_iff.mp h').1
  unfold pairD
  rw [List.getElem?_map, List.getElem?_range (by omega)]
  simp [h, h']
theorem numD_len (k : Int) (l : List D) : (numD k l).length = l.length := by simp [numD]
theorem pairD_len (l m : List D) : (pairD l m).length = min l.length m.length := by simp [pairD]
theorem src_enT {a : Addr} {l : List D} {vs : List V} {k : Int} (s : Sim K mg H S) (h : SqT K H a vs) (r : Reps K mg H l vs) (z : vs.length ≤ sizeLine) : SrcOk K mg S H ⟨numD k l, []⟩ (ItE K a k) := by
  have e : (numD k l).length = vs.length := by rw [numD_len, r.length]
  refine ⟨by show (numD k l).length ≤ _; rw [e]; exact z, fun H' => SqT K H' a vs, fun i H' v H'' => ∃ T x, v = .ref T ∧ H' T = none ∧ H'' = upd H' T (.tup [.int (k + (i : Nat)), x]) ∧ vs[i]? = some x, ?_, fun S' H' s' f' _ => SqT.fm s f' h, fun i S' H' x H'' hi s' f' _ y => ?_⟩
  · show Walk _ (numD k l).length _ _
    rw [e]
    refine ⟨fun i H' hi g => ⟨vs, vs[i], g, by simp [hi]⟩, fun H' g => ⟨vs, g, Nat.le_refl _⟩, fun i H' x H'' hi g y => ?_⟩
    obtain ⟨T, x', h1, h2, h3, h4⟩ := y
    exact ⟨T, x', h1, h2, h3, h4 vs g⟩
  · obtain ⟨T, x', rfl, h2, rfl, h4⟩ := y
    obtain ⟨d, h5, h6⟩ := (r.fm s f').getV h4
    obtain ⟨g1, g2, g3⟩ := new_pair s' h2 (.int (k + (i : Nat))) h6
    exact ⟨_, numD_get h5, g1, g2, g3⟩
theorem src_enL {a : Addr} {l : List D} {hold : List (Addr × MO)} (z : l.length ≤ sizeLine) (hg : ∀ S' H', Sim K mg H' S' → Fm S H S' H' → Src.chk ⟨l, hold⟩ S' → ∃ vs, SqL K H' a vs ∧ Reps K mg H' l vs) : SrcOk K mg S H ⟨numD 0 l, hold⟩ (Ite K a) := by
  have e : (numD 0 l).length = l.length := numD_len 0 l
  refine ⟨by show (numD 0 l).length ≤ _; rw [e]; exact z, fun H' => ∃ vs, SqL K H' a vs ∧ Reps K mg H' l vs, fun i H' v H'' => ∃ T x d, v = .ref T ∧ H' T = none ∧ H'' = upd H' T (.tup [.int (i : Nat), x]) ∧ l[i]? = some d ∧ Rep K mg H' d x, ?_, fun S' H' s' f' ch => hg S' H' s' f' ch, fun i S' H' x H'' hi s' f' _ y => ?_⟩
  · show Walk _ (numD 0 l).length _ _
    rw [e]
    refine ⟨fun i H' hi g => ?_, fun H' g => ?_, fun i H' x H'' hi g y => ?_⟩
    · obtain ⟨vs, g1, g2⟩ := g
      have : i < vs.length := by rw [← g2.length]; exact hi
      exact ⟨vs, vs[i], g1, by simp [this]⟩
    · obtain ⟨vs, g1, g2⟩ := g
      exact ⟨vs, g1, by rw [g2.length]; exact Nat.le_refl _⟩
    · obtain ⟨vs, g1, g2⟩ := g
      obtain ⟨T, x', h1, h2, h3, h4⟩ := y
      obtain ⟨d, h5, h6⟩ := g2.getV (h4 vs g1)
      exact ⟨T, x', d, h1, h2, h3, h5, h6⟩
  · obtain ⟨T, x', d, rfl, h2, rfl, h5, h6⟩ := y
    obtain ⟨g1, g2, g3⟩ := new_pair s' h2 (.int ((i : Nat) : Int)) h6
    refine ⟨_, ?_, g1, g2, g3⟩
    have := numD_get (k := 0) h5
    simpa using this
theorem src_zipT {a b : Addr} {l m : List D} {vs us : List V} (s : Sim K mg H S) (h : SqT K H a vs) (h' : SqT K H b us) (r : Reps K mg H l vs) (r' : Reps K mg H m us) (z : vs.length ≤ sizeLine) : SrcOk K mg S H ⟨pairD l m, []⟩ (RZ.ItzT K a b) := by
  have e : (pairD l m).length = min vs.length us.length := by rw [pairD_len, r.length, r'.length]
  refine ⟨by show (pairD l m).length ≤ _; rw [e]; omega, fun H' => SqT K H' a vs ∧ SqT K H' b us, fun i H' v H'' => ∃ T x y, v = .ref T ∧ H' T = none ∧ H'' = upd H' T (.tup [x, y]) ∧ vs[i]? = some x ∧ us[i]? = some y, ?_, fun S' H' s' f' _ => ⟨SqT.fm s f' h, SqT.fm s f' h'⟩, fun i S' H' x H'' hi s' f' _ y => ?_⟩
  · show Walk _ (pairD l m).length _ _
    rw [e]
    refine ⟨fun i H' hi g => ?_, fun H' g => ⟨vs, us, g.1, g.2, by omega⟩, fun i H' x H'' hi g y => ?_⟩
    · have h1 : i < vs.length := by omega
      have h2 : i < us.length := by omega
      exact ⟨vs, us, vs[i], us[i], g.1, g.2, by simp [h1], by simp [h2]⟩
    · obtain ⟨T, x', y', h1, h2, h3, h4, h5⟩ := y
      exact ⟨T, x', y', h1, h2, h3, h4 vs g.1, h5 us g.2⟩
  · obtain ⟨T, x', y', rfl, h2, rfl, h4, h5⟩ := y
    obtain ⟨d, k1, k2⟩ := (r.fm s f').getV h4
    obtain ⟨d', k3, k4⟩ := (r'.fm s f').getV h5
    obtain ⟨g1, g2, g3⟩ := new_pair s' h2 k2 k4
    exact ⟨_, pairD_get k1 k3, g1, g2, g3⟩
theorem src_zipL {a b : Addr} {l m : List D} {hold : List (Addr × MO)} (z : m.length ≤ sizeLine) (hg : ∀ S' H', Sim K mg H' S' → Fm S H S' H' → Src.chk ⟨[], hold⟩ S' → (∃ vs, SqL K H' a vs ∧ Reps K mg H' l vs) ∧ ∃ us, SqL K H' b us ∧ Reps K mg H' m us) :
    SrcOk K mg S H ⟨pairD l m, hold⟩ (Itz K a b) := by
  have e : (pairD l m).length = min l.length m.length := pairD_len l m
  refine ⟨by show (pairD l m).length ≤ _; rw [e]; omega, fun H' => (∃ vs, SqL K H' a vs ∧ Reps K mg H' l vs) ∧ ∃ us, SqL K H' b us ∧ Reps K mg H' m us,
    fun i H' v H'' => ∃ T x y d d', v = .ref T ∧ H' T = none ∧ H'' = upd H' T (.tup [x, y]) ∧ l[i]? = some d ∧ Rep K mg H' d x ∧ m[i]? = some d' ∧ Rep K mg H' d' y, ?_, fun S' H' s' f' ch => hg S' H' s' f' ch, fun i S' H' x H'' hi s' f' _ y => ?_⟩
  · show Walk _ (pairD l m).length _ _
    rw [e]
    refine ⟨fun i H' hi g => ?_, fun H' g => ?_, fun i H' x H'' hi g y => ?_⟩
    · obtain ⟨⟨vs, g1, g2⟩, us, g3, g4⟩ := g
      have h1 : i < vs.length := by rw [← g2.length]; omega
      have h2 : i < us.length := by rw [← g4.length]; omega
      exact ⟨vs, us, vs[i], us[i], g1, g3, by simp [h1], by simp [h2]⟩
    · obtain ⟨⟨vs, g1, g2⟩, us, g3, g4⟩ := g
      exact ⟨vs, us, g1, g3, by rw [← g2.length, ← g4.length]; omega⟩
    · obtain ⟨⟨vs, g1, g2⟩, us, g3, g4⟩ := g
      obtain ⟨T, x', y', h1, h2, h3, h4, h5⟩ := y
      obtain ⟨d, k1, k2⟩ := g2.getV (h4 vs g1)
      obtain ⟨d', k3, k4⟩ := g4.getV (h5 us g3)
      exact ⟨T, x', y', d, d', h1, h2, h3, k1, k2, k3, k4⟩
  · obtain ⟨T, x', y', d, d', rfl, h2, rfl, k1, k2, k3, k4⟩ := y
    obtain ⟨g1, g2, g3⟩ := new_pair s' h2 k2 k4
    exact ⟨_, pairD_get k1 k3, g1, g2, g3⟩
end
end Ow

namespace Ow
open PySem PySem.Spec PyProof.Rows L2
section
variable {X : Cx} {W : WX} {a b : Expr} {ta tb : WE} {pos p tpos p2 : Pos} {elts : List Expr} {kk j : Nat}
/-- what every sequence that is read keeps to -/
theorem PE.long {e : Expr} {t : TE} (h : PE X e t) : PE X e (fun σ H Q => t σ H fun x H1 => (∀ a xs, x = .ref a → SqL X.K H1 a xs ∨ SqT X.K H1 a xs → xs.length ≤ sizeLine) → Q x H1) := by
  refine ⟨fun pins s σ H Q I q => ?_⟩
  refine thn (h.run pins s σ H _ I q) fun v s1 ⟨x, H1, I1, r1, q1⟩ => ⟨x, H1, I1, r1, q1 fun a xs _ hs => ?_⟩
  rcases hs with hs | hs
  · obtain ⟨_, _, _, z⟩ := I1.list hs; exact z
  · obtain ⟨_, _, _, z⟩ := I1.tuple hs; exact z
theorem pi_en1W (ma : Mono ta) (ha : PE X a (lE X.K X.gw W ta)) (he : plainE a = true) (hg : Gl X "enumerate") (hm : X.mg "enumerate" = none) : PI X (.Tuple elts kk tpos) (.Call (.Name "enumerate" p) [a] [] pos) (lI X.K X.gw W (iEn 0 ta)) :=
  PI.imp (pi_enum1 hg hm (PE.long ha) he) fun σ H R q => by
    obtain ⟨ρ, S, hS, hρ, h⟩ := q
    refine lG_bind ma hS hρ h (fun d S1 v H1 h1 s1 e1 r1 f1 lg => ?_) fun x S1 cls d H1 h1 s1 r1 f1 => h1 cls d H1 s1 r1 f1
    obtain ⟨⟨l, hold⟩, ec, _, h1⟩ := h1
    obtain ⟨p, vs, ev, hr, hc⟩ := src_at s1 r1 ec
    refine ⟨p, vs, ev, ?_⟩
    rcases hc with ⟨h3, _, eh⟩ | ⟨h3, _, h4⟩
    · have eh' : hold = [] := eh
      subst eh'
      exact .inl ⟨h3, h1 _ H1 s1 f1 (src_enT s1 h3 hr (lg p vs ev (.inr h3)))⟩
    · exact .inr ⟨h3, rfl, h1 _ H1 s1 f1 (src_enL (by have e : l.length = vs.length := hr.length; rw [e]; exact lg p vs ev (.inl h3)) h4)⟩
theorem pi_en2W {k : Int} (hk : 0 < k ∧ k < 1000) (ma : Mono ta) (ha : PE X a (lE X.K X.gw W ta)) (he : plainE a = true) (hg : Gl X "enumerate") (hm : X.mg "enumerate" = none) :
    PI X (.Tuple elts kk tpos) (.Call (.Name "enumerate" p) [a, .Constant (.int k) j p2] [] pos) (lI X.K X.gw W (iEn k ta)) :=
  PI.imp (pi_enum2 ⟨by omega, hk.2⟩ hg hm (PE.long ha) he) fun σ H R q => by
    obtain ⟨ρ, S, hS, hρ, h⟩ := q
    refine lG_bind ma hS hρ h (fun d S1 v H1 h1 s1 e1 r1 f1 lg => ?_) fun x S1 cls d H1 h1 s1 r1 f1 => h1 cls d H1 s1 r1 f1
    obtain ⟨⟨l, hold⟩, ec, ht, h1⟩ := h1
    rcases ht with ht | ⟨m, rfl⟩
    · omega
    · cases ec
      obtain ⟨p, vs, ev, h3, hr⟩ := r1.tupV
      exact ⟨p, vs, ev, h3, h1 _ H1 s1 f1 (src_enT s1 h3 hr (lg p vs ev (.inr h3)))⟩
theorem PA.long {e e' : Expr} {t t' : TE} (h : PE X e t) (h' : PE X e' t') (hs : plainE e = true) (hs' : plainE e' = true) : PA X [e, e'] (tCons (fun σ H Q => t σ H fun x H1 => (∀ a xs, x = .ref a → SqL X.K H1 a xs ∨ SqT X.K H1 a xs → xs.length ≤ sizeLine) → Q x H1) (tCons (fun σ H Q => t' σ H fun x H1 => (∀ a xs, x = .ref a → SqL X.K H1 a xs ∨ SqT X.K H1 a xs → xs.length ≤ sizeLine) → Q x H1) tNil)) :=
  pa_cons (PE.long h) (pa_cons (PE.long h') pa_nil (star_cons hs')) (star_cons hs)
theorem pi_zipW (ma : Mono ta) (mb : Mono tb) (ha : PE X a (lE X.K X.gw W ta)) (hb : PE X b (lE X.K X.gw W tb)) (he : plainE a = true) (he' : plainE b = true) (hg : Gl X "zip") (hm : X.mg "zip" = none) :
    PI X (.Tuple elts kk tpos) (.Call (.Name "zip" p) [a, b] [] pos) (lI X.K X.gw W (iZip ta tb)) :=
  PI.imp (RZ.pi_zipA hg hm (PA.long ha hb he he') (star_cons he) (star_none (by simp [he']))) fun σ H R q => by
    obtain ⟨ρ, S, hS, hρ, h⟩ := q
    refine lG_bind ma hS hρ h (fun d S1 v H1 h1 s1 e1 r1 f1 lg => ?_) fun x S1 cls d H1 h1 s1 r1 f1 => h1 cls d H1 s1 r1 f1
    refine lG_bind mb s1 e1 h1 (fun e S2 u H2 h2 s2 e2 r2 f2 lg' => ?_) fun x S1 cls d H1 h1 s1 r1 f2 => h1 cls d H1 s1 r1 (f1.trans f2)
    have r1' := r1.fm s1 f2
    obtain ⟨l, m, h2⟩ := h2
    rcases h2 with ⟨rfl, rfl, h2⟩ | ⟨p, q, c1, c2, i1, i2, h2⟩
    · obtain ⟨x1, vs, ev, h3, hr⟩ := r1.tupV
      obtain ⟨x2, us, eu, h4, hr'⟩ := r2.tupV
      subst ev eu
      exact ⟨x1, x2, vs, us, rfl, .inr ⟨SqT.fm s1 f2 h3, h4, h2 _ H2 s2 (f1.trans f2) (src_zipT s2 (SqT.fm s1 f2 h3) h4 (hr.fm s1 f2) hr' (lg x1 vs rfl (.inr h3)))⟩⟩
    · obtain ⟨x1, vs, ev, hr, hc⟩ := src_at s2 r1' c1
      obtain ⟨x2, us, eu, hr', hc'⟩ := src_at s2 r2 c2
      have nt : ∀ {d : D} {l : List D}, itemsL S2 d = some l → ¬ ∃ m, d = .tup m := fun h ⟨m, e⟩ => by subst e; cases h
      rcases hc with ⟨_, ht, _⟩ | ⟨h3, _, h5⟩
      · exact absurd ht (nt i1)
      · rcases hc' with ⟨_, ht, _⟩ | ⟨h4, _, h6⟩
        · exact absurd ht (nt i2)
        · subst ev eu
          have lz : m.length ≤ sizeLine := by
            have e : m.length = us.length := hr'.length
            rw [e]
            exact lg' x2 us rfl (.inl h4)
          exact ⟨x1, x2, vs, us, rfl, .inl ⟨h3, h4, h2 _ H2 s2 (f1.trans f2) (src_zipL lz fun S' H' s' f' ch => ⟨h5 S' H' s' f' fun z hz => ch z (List.mem_append_left _ hz), h6 S' H' s' f' fun z hz => ch z (List.mem_append_right _ hz)⟩)⟩⟩
end
end Ow

namespace Ow
open PySem PySem.Spec PyProof.Rows L2
def wipeD (ρ : En) : List Nat → En
  | [] => ρ
  | v :: vs => (wipeD ρ vs).set v none
/-- the turns of a comprehension -/
def wLcGo (chk : Sto → Prop) (tg : Tg) (tt : WT) (te : WE) (ρ : En) (P : List D → Sto → Prop) : List D → List D → Sto → Prop
  | [], acc, S => chk S ∧ P acc S
  | d :: ds, acc, S => chk S ∧ ∃ ρ1, asg tg d ρ = some ρ1 ∧ tt ρ1 S (fun b S1 => if b = true then te ρ1 S1 (fun y S2 => wLcGo chk tg tt te ρ P ds (acc ++ [y]) S2) (fun _ _ => False) else wLcGo chk tg tt te ρ P ds acc S1) (fun _ _ => False)
def wLc (src : WI) (tg : Tg) (own : List Nat) (tt : WT) (te : WE) : WA := fun ρ S Q E => src ρ S (fun c S1 => wLcGo c.chk tg tt te (wipeD ρ own) Q c.items [] S1) E
def wYes : WT := fun _ S Q _ => Q true S
def wNew (t : WA) : WE := fun ρ S Q E => t ρ S (fun ds S1 => newL ds S1 Q) E
theorem mono_Yes : Mono wYes := fun _ _ _ _ _ _ h q _ => q _ _ h
theorem mono_New {t : WA} (mt : Mono t) : Mono (wNew t) := fun _ _ _ _ _ _ h q x => mt _ _ _ _ _ _ h (fun _ _ h1 => h1.mono q) x
theorem wLcGo_mono {chk : Sto → Prop} {tg : Tg} {tt : WT} {te : WE} {ρ : En} {P P' : List D → Sto → Prop} (mt : Mono tt) (me : Mono te) (hP : ∀ l S, P l S → P' l S) : ∀ {ds acc : List D} {S : Sto}, wLcGo chk tg tt te ρ P ds acc S → wLcGo chk tg tt te ρ P' ds acc S
  | [], _, _, h => ⟨h.1, hP _ _ h.2⟩
  | d :: ds, acc, S, h => by
    obtain ⟨h1, ρ1, h2, h3⟩ := h
    refine ⟨h1, ρ1, h2, mt _ _ _ _ _ _ h3 (fun b S1 h4 => ?_) fun _ _ z => z⟩
    cases b with
    | true => exact me _ _ _ _ _ _ h4 (fun y S2 h5 => wLcGo_mono mt me hP h5) fun _ _ z => z
    | false => exact wLcGo_mono mt me hP h4
theorem mono_Lc {src : WI} {tg : Tg} {own : List Nat} {tt : WT} {te : WE} (ms : Mono src) (mt : Mono tt) (me : Mono te) : Mono (wLc src tg own tt te) := fun _ _ _ _ _ _ h q x =>
  ms _ _ _ _ _ _ h (fun c S1 h1 => wLcGo_mono mt me q h1) x
section
variable {K : PySem.W.Frag} {mg : GW} {H H' : Hp}
/-- a list that no store holds is changed -/
theorem kpL {D : Addr} {vs : List V} {o : HO} (hD : H D = some (.lst vs)) : Kp H (upd H D o) := by
  have ne : ∀ {a : Addr} {u : HO}, H a = some u → u ≠ .lst vs → a ≠ D := fun h1 h2 z => by rw [z, hD] at h1; cases h1; exact h2 rfl
  exact ⟨fun a xs h => by rw [upd_ne (ne h (by intro z; cases z))]; exact h, fun a q u h => by rw [upd_ne (ne h (by intro z; cases z))]; exact h, fun a fs h => by rw [upd_ne (ne h (by intro z; cases z))]; exact h⟩
theorem Sim.keepH {S : Sto} {D : Addr} {vs ws : List V} (s : Sim K mg H S) (hD : H D = some (.lst vs)) (hn : S D = none) : Sim K mg (upd H D (.lst ws)) S := fun a o e => by
  have ne : a ≠ D := fun z => by rw [z, hn] at e; cases e
  exact (s a o e).kp (kpL hD) (upd_ne ne)
/-- a hidden list comes into the store -/
theorem Sim.adopt {S : Sto} {D : Addr} {vs : List V} {l : List D'} {ds : List Ow.D} (s : Sim K mg H S) (hD : H D = some (.lst vs)) (r : Reps K mg H ds vs) : Sim K mg H (put S D (.lst ds)) := fun a o e => by
  by_cases ha : a = D
  · subst ha
    rw [put_same] at e
    cases e
    exact ⟨vs, hD, r⟩
  · rw [put_ne ha] at e
    exact s a o e
end
theorem wipe_same {σ σ' : L2.St} (hl : σ'.length = σ.length) : ∀ {vs : List Nat}, (∀ i, i ∉ vs → σ'[i]? = σ[i]?) → wipe σ' vs = wipe σ vs := fun {vs} h => by
  have key : ∀ (σ : L2.St) (vs : List Nat) (i : Nat), (wipe σ vs)[i]? = if i ∈ vs then (if i < σ.length then some none else none) else σ[i]? := by
    intro σ vs
    induction vs with
    | nil => intro i; simp [wipe]
    | cons v vs ih =>
      intro i
      unfold wipe
      rw [List.getElem?_set, wipe_length, ih]
      by_cases hv : v = i
      · subst hv; simp
      · simp only [hv, if_false, List.mem_cons]
        by_cases hm : i ∈ vs
        · simp [hm]
        · have hv' : ¬ i = v := fun z => hv z.symm
          simp [hm, hv']
  refine List.ext_getElem? fun i => ?_
  rw [key, key, hl]
  by_cases hm : i ∈ vs
  · simp [hm]
  · simp [hm, h i hm]
theorem EnvR.wipe {K : PySem.W.Frag} {mg : GW} {H : Hp} {ρ : En} {σ : L2.St} (h : EnvR K mg H ρ σ) : ∀ vs : List Nat, EnvR K mg H (wipeD ρ vs) (wipe σ vs)
  | [] => h
  | v :: vs => (EnvR.wipe h vs).unset v
abbrev W0 : WX := fun _ _ _ _ => False
section
variable {K : PySem.W.Frag} {mg : GW} {W : WX} {src : WI} {tg : Tg} {tt : WT} {te : WE} {own : List Nat}
theorem lc_lift (ms : Mono src) (mt : Mono tt) (me : Mono te) (hsl : ∀ i ∈ tg.slots, i ∈ own) {ρ : En} {S : Sto} {σ : L2.St} {H : Hp} (hS : Sim K mg H S) (hρ : EnvR K mg H ρ σ) {P : List D → Sto → Prop} {E : QX} {Q : VK}
    (h : wLc src tg own tt te ρ S P E)
    (hP : ∀ acc S' a vs H', P acc S' → Sim K mg H' S' → S' a = none → H' a = some (.lst vs) → Reps K mg H' acc vs → Fm S H S' H' → (∀ o, H a = some o → S a ≠ none) → Q (.ref a) H')
    (hx : ∀ x S1 cls d H1, E x S1 → Sim K mg H1 S1 → XR K mg H1 x cls d → Fm S H S1 H1 → W cls d σ H1) : tLc (lI K mg W src) (lTg K mg tg) (lT K mg W0 tt) (lE K mg W0 te) own σ H Q := by
  refine ⟨ρ, S, hS, hρ, ms _ _ _ _ _ _ h (fun c S1 h1 J H1 s1 f1 ok D hD => ?_) fun x S1 e cls d H1 s1 r f => hx x S1 cls d H1 e s1 r f⟩
  obtain ⟨G, Y, wk, hG, hY⟩ := ok.walk
  have hfr : ∀ o, H D = some o → S D ≠ none := fun o h2 h3 => by
    have := (f1 D o h2 h3).1
    rw [hD] at this; cases this
  have chk_of : ∀ {ds acc S'}, wLcGo c.chk tg tt te (wipeD ρ own) P ds acc S' → c.chk S' := fun {ds acc S'} h => by
    cases ds with
    | nil => exact h.1
    | cons d ds => exact h.1
  refine lc_it wk (fun i H' => ∃ S' acc vs, Sim K mg H' S' ∧ Fm S1 H1 S' H' ∧ H' D = some (.lst vs) ∧ S' D = none ∧ Reps K mg H' acc vs ∧ acc.length ≤ i ∧ wLcGo c.chk tg tt te (wipeD ρ own) P (c.items.drop i) acc S') ?_ ?_ ?_ ?_
  · exact ⟨S1, [], [], s1.hidS hD, s1.hid hD, upd_same, s1.free hD, .nil, Nat.le_refl _, h1⟩
  · rintro i H' hi ⟨S', acc, vs, s', f', hd, hn, hr, hl, hw⟩
    exact hG S' H' s' f' (chk_of hw)
  · rintro i x H' H'' hi ⟨S', acc, vs, s', f', hd, hn, hr, hl, hw⟩ y
    obtain ⟨d, hd1, hd2, s2, f2⟩ := hY i S' H' x H'' hi s' f' (chk_of hw) y
    have edrop : c.items.drop i = d :: c.items.drop (i + 1) := by
      obtain ⟨hlt, e⟩ := List.getElem?_eq_some_iff.mp hd1
      rw [List.drop_eq_getElem_cons hlt, e]
    rw [edrop] at hw
    obtain ⟨_, ρ1, ha, ht⟩ := hw
    have hρ' : EnvR K mg H'' (wipeD ρ own) (wipe σ own) := ((((hρ.fm hS f1).fm s1 f').fm s' f2)).wipe own
    refine ⟨d, wipeD ρ own, ρ1, hd2, hρ', ha, fun σ2 hρ2 l2 k2 => ⟨?_, ?_⟩⟩
    · have e2 : wipe (wipe σ own) own = wipe σ own := wipe_same (by rw [wipe_length]) fun j hj => wipe_out hj
      rw [← e2]
      exact wipe_same l2 fun j hj => k2 j fun z => hj (hsl j z)
    · obtain ⟨k1, k3⟩ := f2 D _ hd hn
      refine lG_bind mt s2 hρ2 ht (fun b S3 b' H3 h3 s3 e3 r3 f3 => ?_) fun x S1 cls d H1 z _ _ _ => z
      subst r3
      obtain ⟨k4, k5⟩ := f3 D _ k1 hn
      have fa : Fm S1 H1 S3 H3 := (f'.trans f2).trans f3
      cases b with
      | true =>
        rw [if_pos rfl]
        refine lG_bind me s3 e3 h3 (fun y S4 v H4 h4 s4 e4 r4 f4 => ?_) fun x S1 cls d H1 z _ _ _ => z
        obtain ⟨k6, k7⟩ := f4 D _ k4 k5
        have hr4 := ((hr.fm s' f2).fm s2 f3).fm s3 f4
        refine ⟨vs, k6, ?_, S4, acc ++ [y], vs ++ [v], s4.keepH k6 k7, fun a o e n => ?_, upd_same, k7, (hr4.append (.one r4)).kp (kpL k6), by simp; omega, h4⟩
        · have e5 := hr.length
          have := ok.small
          omega
        · have ne : a ≠ D := ne_of_none e hD
          rw [upd_ne ne]
          exact (fa.trans f4) a o e n
      | false =>
        rw [if_neg Bool.false_ne_true]
        exact ⟨S3, acc, vs, s3, fa, k4, k5, (hr.fm s' f2).fm s2 f3, Nat.le_succ_of_le hl, h3⟩
  · rintro H' ⟨S', acc, vs, s', f', hd, hn, hr, hl, hw⟩
    rw [List.drop_length] at hw
    exact hP acc S' D vs H' hw.2 s' hn hd hr (f1.trans f') hfr
end
section
variable {X : Cx} {W : WX} {src : WI} {tg : Tg} {tt : WT} {te : WE} {elt tgE iter : Expr} {ifs : List Expr} {scope : Scope} {own : List (Str × Nat)} {pos : Pos}
/-- what a comprehension wants of its parts -/
structure LcOk (X : Cx) (W : WX) (src : WI) (tg : Tg) (tt : WT) (te : WE) (elt tgE iter : Expr) (ifs : List Expr) (scope : Scope) (own : List (Str × Nat)) : Prop where
  calm : X.calm = true
  nd : X.N.Nodup
  blk : BlkOk X.N X.env.scope scope own
  ms : Mono src
  mt : Mono tt
  me : Mono te
  sl : ∀ i ∈ tg.slots, i ∈ own.map (·.2)
  hi : PI X tgE iter (lI X.K X.gw W src)
  hg : ∀ (s : Shared) (H : Hp) (C : Addr) (cl : List (Str × Addr)) (fp : List Addr), PG (X.blk s H scope (compEnvC scope cl C X.env) fp) tgE (lTg X.K X.gw tg)
  ht : ∀ (s : Shared) (H : Hp) (C : Addr) (cl : List (Str × Addr)) (fp : List Addr), PTs (X.blk s H scope (compEnvC scope cl C X.env) fp) ifs (lT X.K X.gw W0 tt)
  he : ∀ (s : Shared) (H : Hp) (C : Addr) (cl : List (Str × Addr)) (fp : List Addr), PE (X.blk s H scope (compEnvC scope cl C X.env) fp) elt (lE X.K X.gw W0 te)
  hs : ∀ x, foldedSetIterable iter X.env x = pure x
theorem LcOk.hid (L : LcOk X W src tg tt te elt tgE iter ifs scope own) : PE X (.ListComp elt [⟨tgE, iter, ifs, 0⟩] scope pos) (lH X.K X.gw W (wLc src tg (own.map (·.2)) tt te)) :=
  (pe_lc L.calm L.nd L.hi L.blk L.hg L.ht L.he L.hs).imp fun σ H Q q => by
    obtain ⟨ρ, S, hS, hρ, h⟩ := q
    exact lc_lift L.ms L.mt L.me L.sl hS hρ h (fun acc S' a vs H' p s' hn ha hr f _ => p _ H' s' ⟨a, vs, rfl, hn, ha, hr⟩ f) fun x S1 cls d H1 h1 s1 r1 f1 => h1 cls d H1 s1 r1 f1
theorem adopt_ok {K : PySem.W.Frag} {mg : GW} {S S' : Sto} {H H' : Hp} {a : Addr} {acc : List D} {vs : List V} {Q : VK} (p : newL acc S' fun x S'' => ∀ y H', Sim K mg H' S'' → Rep K mg H' x y → Fm S H S'' H' → Q y H') (s' : Sim K mg H' S') (hn : S' a = none) (ha : H' a = some (.lst vs))
    (hr : Reps K mg H' acc vs) (f : Fm S H S' H') (hf : ∀ o, H a = some o → S a ≠ none) : Q (.ref a) H' := by
  refine p a hn (.ref a) H' (Sim.adopt (l := ([] : List D)) s' ha hr) (.ref a) fun b o e n => ?_
  have ne : b ≠ a := fun z => by subst z; exact hf o e n
  rw [put_ne ne]
  exact f b o e n
theorem LcOk.new (L : LcOk X W src tg tt te elt tgE iter ifs scope own) : PE X (.ListComp elt [⟨tgE, iter, ifs, 0⟩] scope pos) (lE X.K X.gw W (wNew (wLc src tg (own.map (·.2)) tt te))) :=
  (pe_lc L.calm L.nd L.hi L.blk L.hg L.ht L.he L.hs).imp fun σ H Q q => by
    obtain ⟨ρ, S, hS, hρ, h⟩ := q
    exact lc_lift L.ms L.mt L.me L.sl hS hρ h (fun acc S' a vs H' p s' hn ha hr f hf => adopt_ok p s' hn ha hr f hf) fun x S1 cls d H1 h1 s1 r1 f1 => h1 cls d H1 s1 r1 f1
theorem pts_nilW : PTs X [] (lT X.K X.gw W wYes) := ⟨fun pins s σ H Q I q => (pts_nil (X := X)).run pins s σ H Q I (by
  obtain ⟨ρ, S, hS, hρ, h⟩ := q
  exact h true H hS rfl Fm.refl)⟩
end
end Ow

namespace Ow
open PySem PySem.Spec PyProof.Rows L2
/-- what is wanted behind a statement -/
structure Nd where
  nx : En → Sto → Prop
  rt : D → Sto → Prop
  bk : En → Sto → Prop
  ct : En → Sto → Prop
  xc : Xn → En → Sto → Prop
structure NdLe (N N' : Nd) : Prop where
  nx : ∀ ρ S, N.nx ρ S → N'.nx ρ S
  rt : ∀ d S, N.rt d S → N'.rt d S
  bk : ∀ ρ S, N.bk ρ S → N'.bk ρ S
  ct : ∀ ρ S, N.ct ρ S → N'.ct ρ S
  xc : ∀ x ρ S, N.xc x ρ S → N'.xc x ρ S
abbrev WS := Nd → En → Sto → Prop
def MonoS (t : WS) : Prop := ∀ N N' ρ S, t N ρ S → NdLe N N' → t N' ρ S
def nd_lift (K : PySem.W.Frag) (mg : GW) (W : WX) (S : Sto) (H : Hp) (E : Ends) : Nd where
  nx := fun ρ' S' => ∀ σ' H', Sim K mg H' S' → EnvR K mg H' ρ' σ' → Fm S H S' H' → E.nx σ' H'
  rt := fun d S' => ∀ v H', Sim K mg H' S' → Rep K mg H' d v → Fm S H S' H' → E.rt v H'
  bk := fun ρ' S' => ∀ σ' H', Sim K mg H' S' → EnvR K mg H' ρ' σ' → Fm S H S' H' → E.bk σ' H'
  ct := fun ρ' S' => ∀ σ' H', Sim K mg H' S' → EnvR K mg H' ρ' σ' → Fm S H S' H' → E.ct σ' H'
  xc := fun x ρ' S' => ∀ cls dd σ' H', Sim K mg H' S' → EnvR K mg H' ρ' σ' → XR K mg H' x cls dd → Fm S H S' H' → W cls dd σ' H'
def lS (K : PySem.W.Frag) (mg : GW) (W : WX) (t : WS) : TS := fun E σ H => ∃ ρ S, Sim K mg H S ∧ EnvR K mg H ρ σ ∧ t (nd_lift K mg W S H E) ρ S
theorem nd_trans {K : PySem.W.Frag} {mg : GW} {W : WX} {S S1 : Sto} {H H1 : Hp} {E : Ends} (f : Fm S H S1 H1) : NdLe (nd_lift K mg W S H E) (nd_lift K mg W S1 H1 E) :=
  ⟨fun _ _ h σ' H' s e g => h σ' H' s e (f.trans g), fun _ _ h v H' s r g => h v H' s r (f.trans g), fun _ _ h σ' H' s e g => h σ' H' s e (f.trans g), fun _ _ h σ' H' s e g => h σ' H' s e (f.trans g), fun _ _ _ h c d σ' H' s e r g => h c d σ' H' s e r (f.trans g)⟩
theorem NdLe.refl {N : Nd} : NdLe N N := ⟨fun _ _ h => h, fun _ _ h => h, fun _ _ h => h, fun _ _ h => h, fun _ _ _ h => h⟩
def sNx : WS := fun N ρ S => N.nx ρ S
def sBk : WS := fun N ρ S => N.bk ρ S
def sCt : WS := fun N ρ S => N.ct ρ S
def sSeq (t u : WS) : WS := fun N ρ S => t { N with nx := u N } ρ S
def sExpr (a : WE) : WS := fun N ρ S => a ρ S (fun _ S1 => N.nx ρ S1) (fun x S1 => N.xc x ρ S1)
def sRet (a : WE) : WS := fun N ρ S => a ρ S N.rt (fun x S1 => N.xc x ρ S1)
def sRetN : WS := fun N _ S => N.rt .non S
def sIf (t : WT) (a b : WS) : WS := fun N ρ S => t ρ S (fun c S1 => if c = true then a N ρ S1 else b N ρ S1) (fun x S1 => N.xc x ρ S1)
def sAsg (a : WE) (tg : Tg) : WS := fun N ρ S => a ρ S (fun d S1 => ∃ ρ', asg tg d ρ = some ρ' ∧ N.nx ρ' S1) (fun x S1 => N.xc x ρ S1)
def forGo (chk : Sto → Prop) (tg : Tg) (body : WS) (N : Nd) : List D → En → Sto → Prop
  | [], ρ, S => chk S ∧ N.nx ρ S
  | d :: ds, ρ, S => chk S ∧ ∃ ρ1, asg tg d ρ = some ρ1 ∧ body { N with nx := forGo chk tg body N ds, ct := forGo chk tg body N ds, bk := N.nx } ρ1 S
def sFor (src : WI) (tg : Tg) (body : WS) : WS := fun N ρ S => src ρ S (fun c S1 => forGo c.chk tg body N c.items ρ S1) (fun x S1 => N.xc x ρ S1)
def sWhile (t : WT) (body : WS) : WS := fun N ρ S => ∃ Wv : Nat → En → Sto → Prop, (∃ m, Wv m ρ S) ∧ ∀ m ρ S, Wv m ρ S →
  t ρ S (fun b S1 => if b = true then body { N with nx := fun ρ' S' => ∃ m', m' < m ∧ Wv m' ρ' S', ct := fun ρ' S' => ∃ m', m' < m ∧ Wv m' ρ' S', bk := N.nx } ρ S1 else N.nx ρ S1) (fun x S1 => N.xc x ρ S1)
/-- o[i] = v upon a list -/
def setF (o i v : D) (S : Sto) (Q : Sto → Prop) : Prop := (∃ a l k j, o = .ref a ∧ i = .int k ∧ S a = some (.lst l) ∧ ixN l.length k = some j ∧ Q (put S a (.lst (l.set j v)))) ∨
  (∃ a ep l k n, o = .ref a ∧ i = .tup k ∧ S a = some (.dct ep l) ∧ keyN (.tup k) = some n ∧ n.depth ≤ 8 ∧ l.length < sizeLine ∧ ∀ ep', Q (put S a (.dct ep' (putD l (.tup k) n v)))) ∨
  ∃ a l k, o = .ref a ∧ i = .str k ∧ S a = some (.dcs l) ∧ l.length < sizeLine ∧ Q (put S a (.dcs (putS l k v)))
def sSub (o i e : WE) : WS := fun N ρ S => e ρ S (fun v S1 => o ρ S1 (fun d S2 => i ρ S2 (fun k S3 => setF d k v S3 fun S4 => N.nx ρ S4) fun x S4 => N.xc x ρ S4) fun x S4 => N.xc x ρ S4) fun x S4 => N.xc x ρ S4
/-- o[i], y = e -/
def sTake (o i e : WE) (y : Nat) : WS := fun N ρ S => e ρ S (fun v S1 => ∃ d1 d2, v = .tup [d1, d2] ∧ o ρ S1 (fun d S2 => i ρ S2 (fun k S3 => setF d k d1 S3 fun S4 => N.nx (ρ.set y (some d2)) S4) fun x S4 => N.xc x ρ S4) fun x S4 => N.xc x ρ S4) fun x S4 => N.xc x ρ S4
section
variable {a b c : WE} {t u : WS} {c' : WT}
theorem monoS_Nx : MonoS sNx := fun _ _ _ _ h q => q.nx _ _ h
theorem monoS_Bk : MonoS sBk := fun _ _ _ _ h q => q.bk _ _ h
theorem monoS_Ct : MonoS sCt := fun _ _ _ _ h q => q.ct _ _ h
theorem monoS_Seq (mt : MonoS t) (mu : MonoS u) : MonoS (sSeq t u) := fun _ _ _ _ h q => mt _ _ _ _ h ⟨fun _ _ z => mu _ _ _ _ z q, q.rt, q.bk, q.ct, q.xc⟩
theorem monoS_Expr (ma : Mono a) : MonoS (sExpr a) := fun _ _ _ _ h q => ma _ _ _ _ _ _ h (fun _ _ z => q.nx _ _ z) fun _ _ z => q.xc _ _ _ z
theorem monoS_Ret (ma : Mono a) : MonoS (sRet a) := fun _ _ _ _ h q => ma _ _ _ _ _ _ h (fun _ _ z => q.rt _ _ z) fun _ _ z => q.xc _ _ _ z
theorem monoS_RetN : MonoS sRetN := fun _ _ _ _ h q => q.rt _ _ h
theorem monoS_If (mc : Mono c') (mt : MonoS t) (mu : MonoS u) : MonoS (sIf c' t u) := fun _ _ _ _ h q => mc _ _ _ _ _ _ h (fun k _ z => by
  cases k with
  | true => exact mt _ _ _ _ z q
  | false => exact mu _ _ _ _ z q) fun _ _ z => q.xc _ _ _ z
theorem monoS_Asg {tg : Tg} (ma : Mono a) : MonoS (sAsg a tg) := fun _ _ _ _ h q => ma _ _ _ _ _ _ h (fun _ _ ⟨ρ', e, z⟩ => ⟨ρ', e, q.nx _ _ z⟩) fun _ _ z => q.xc _ _ _ z
theorem forGo_mono {chk : Sto → Prop} {tg : Tg} {N N' : Nd} (mt : MonoS t) (q : NdLe N N') : ∀ {ds : List D} {ρ : En} {S : Sto}, forGo chk tg t N ds ρ S → forGo chk tg t N' ds ρ S
  | [], _, _, h => ⟨h.1, q.nx _ _ h.2⟩
  | d :: ds, ρ, S, h => by
    obtain ⟨h1, ρ1, h2, h3⟩ := h
    exact ⟨h1, ρ1, h2, mt _ _ _ _ h3 ⟨fun _ _ z => forGo_mono mt q z, q.rt, q.nx, fun _ _ z => forGo_mono mt q z, q.xc⟩⟩
theorem monoS_For {src : WI} {tg : Tg} (ms : Mono src) (mt : MonoS t) : MonoS (sFor src tg t) := fun _ _ _ _ h q => ms _ _ _ _ _ _ h (fun _ _ z => forGo_mono mt q z) fun _ _ z => q.xc _ _ _ z
theorem monoS_While (mc : Mono c') (mt : MonoS t) : MonoS (sWhile c' t) := fun _ _ _ _ ⟨Wv, h0, h⟩ q => ⟨Wv, h0, fun m ρ S hw => mc _ _ _ _ _ _ (h m ρ S hw) (fun k _ z => by
  cases k with
  | true => exact mt _ _ _ _ z ⟨fun _ _ z => z, q.rt, q.nx, fun _ _ z => z, q.xc⟩
  | false => exact q.nx _ _ z) fun _ _ z => q.xc _ _ _ z⟩
theorem setF.mono {o i v : D} {S : Sto} {Q Q' : Sto → Prop} (h : setF o i v S Q) (q : ∀ S', Q S' → Q' S') : setF o i v S Q' := by
  rcases h with ⟨a, l, k, j, h1, h2, h3, h4, h5⟩ | ⟨a, ep, l, k, n, h1, h2, h3, h4, h5, h6, h7⟩ | ⟨a, l, k, h1, h2, h3, h4, h5⟩
  · exact .inl ⟨a, l, k, j, h1, h2, h3, h4, q _ h5⟩
  · exact .inr (.inl ⟨a, ep, l, k, n, h1, h2, h3, h4, h5, h6, fun ep' => q _ (h7 ep')⟩)
  · exact .inr (.inr ⟨a, l, k, h1, h2, h3, h4, q _ h5⟩)
theorem monoS_Sub (ma : Mono a) (mb : Mono b) (mc : Mono c) : MonoS (sSub a b c) := fun _ _ _ _ h q => mc _ _ _ _ _ _ h (fun _ _ h1 => ma _ _ _ _ _ _ h1 (fun _ _ h2 => mb _ _ _ _ _ _ h2 (fun _ _ h3 => h3.mono fun _ z => q.nx _ _ z) fun _ _ z => q.xc _ _ _ z) fun _ _ z => q.xc _ _ _ z) fun _ _ z => q.xc _ _ _ z
theorem monoS_Take {y : Nat} (ma : Mono a) (mb : Mono b) (mc : Mono c) : MonoS (sTake a b c y) := fun _ _ _ _ h q => mc _ _ _ _ _ _ h (fun _ _ ⟨d1, d2, e, h1⟩ => ⟨d1, d2, e, ma _ _ _ _ _ _ h1 (fun _ _ h2 => mb _ _ _ _ _ _ h2 (fun _ _ h3 => h3.mono fun _ z => q.nx _ _ z) fun _ _ z => q.xc _ _ _ z) fun _ _ z => q.xc _ _ _ z⟩) fun _ _ z => q.xc _ _ _ z
end
section
variable {X : Cx} {W : WX} {e o i : Expr} {te to ti : WE} {t u : WS} {pos : Pos} {st : Stmt} {rest a b : List Stmt} {c : Expr} {tc : WT}
theorem pss_nilW : PSs X [] (lS X.K X.gw W sNx) := pss_nil.imp fun E σ H q => by
  obtain ⟨ρ, S, hS, hρ, h⟩ := q
  exact h σ H hS hρ Fm.refl
theorem pss_consW (mt : MonoS t) (mu : MonoS u) (h1 : PS X st (lS X.K X.gw W t)) (h2 : PSs X rest (lS X.K X.gw W u)) : PSs X (st :: rest) (lS X.K X.gw W (sSeq t u)) := (pss_cons h1 h2).imp fun E σ H q => by
  obtain ⟨ρ, S, hS, hρ, h⟩ := q
  refine ⟨ρ, S, hS, hρ, mt _ _ _ _ h ⟨fun ρ' S' z σ' H' s' e' f' => ?_, fun _ _ z => z, fun _ _ z => z, fun _ _ z => z, fun _ _ _ z => z⟩⟩
  exact ⟨ρ', S', s', e', mu _ _ _ _ z (nd_trans f')⟩
theorem ps_passW : PS X (.Pass pos) (lS X.K X.gw W sNx) := ps_pass.imp fun E σ H q => by
  obtain ⟨ρ, S, hS, hρ, h⟩ := q
  exact h σ H hS hρ Fm.refl
theorem ps_breakW : PS X (.Break pos) (lS X.K X.gw W sBk) := ps_break.imp fun E σ H q => by
  obtain ⟨ρ, S, hS, hρ, h⟩ := q
  exact h σ H hS hρ Fm.refl
theorem ps_contW : PS X (.Continue pos) (lS X.K X.gw W sCt) := ps_continue.imp fun E σ H q => by
  obtain ⟨ρ, S, hS, hρ, h⟩ := q
  exact h σ H hS hρ Fm.refl
theorem ps_docW {x : Str} {j : Nat} {p : Pos} : PS X (.Expr (.Constant (.str x) j p) pos) (lS X.K X.gw W sNx) := ps_doc.imp fun E σ H q => by
  obtain ⟨ρ, S, hS, hρ, h⟩ := q
  exact h σ H hS hρ Fm.refl
theorem ps_exprW (me : Mono te) (he : PE X e (lE X.K X.gw W te)) (hs : swapsWith e none pos.line X.env = pure false) : PS X (.Expr e pos) (lS X.K X.gw W (sExpr te)) := (ps_expr he hs).imp fun E σ H q => by
  obtain ⟨ρ, S, hS, hρ, h⟩ := q
  exact lG_bind me hS hρ h (fun d S1 v H1 h1 s1 e1 r1 f1 => h1 σ H1 s1 e1 f1) fun x S1 cls d H1 h1 s1 r1 f1 => h1 cls d σ H1 s1 (hρ.fm hS f1) r1 f1
theorem ps_retW (me : Mono te) (he : PE X e (lE X.K X.gw W te)) : PS X (.Return (some e) pos) (lS X.K X.gw W (sRet te)) := (ps_ret he).imp fun E σ H q => by
  obtain ⟨ρ, S, hS, hρ, h⟩ := q
  exact lG_bind me hS hρ h (fun d S1 v H1 h1 s1 e1 r1 f1 => h1 v H1 s1 r1 f1) fun x S1 cls d H1 h1 s1 r1 f1 => h1 cls d σ H1 s1 (hρ.fm hS f1) r1 f1
theorem ps_retNW : PS X (.Return none pos) (lS X.K X.gw W sRetN) := ps_retN.imp fun E σ H q => by
  obtain ⟨ρ, S, hS, hρ, h⟩ := q
  exact h .non H hS .non Fm.refl
theorem ps_ifSW (mc : Mono tc) (mt : MonoS t) (mu : MonoS u) (hc : PT X c (lT X.K X.gw W tc)) (ha : PSs X a (lS X.K X.gw W t)) (hb : PSs X b (lS X.K X.gw W u)) : PS X (.If c a b pos) (lS X.K X.gw W (sIf tc t u)) := (ps_if hc ha hb).imp fun E σ H q => by
  obtain ⟨ρ, S, hS, hρ, h⟩ := q
  refine lG_bind mc hS hρ h (fun d S1 v H1 h1 s1 e1 r1 f1 => ?_) fun x S1 cls d H1 h1 s1 r1 f1 => h1 cls d σ H1 s1 (hρ.fm hS f1) r1 f1
  subst r1
  cases d with
  | true => exact ⟨ρ, S1, s1, e1, mt _ _ _ _ h1 (nd_trans f1)⟩
  | false => exact ⟨ρ, S1, s1, e1, mu _ _ _ _ h1 (nd_trans f1)⟩
theorem asg_lift {tg : Tg} (me : Mono te) {E : Ends} {σ : L2.St} {H : Hp} (q : lS X.K X.gw W (sAsg te tg) E σ H) : tAsg (lE X.K X.gw W te) (lTg X.K X.gw tg) E σ H := by
  obtain ⟨ρ, S, hS, hρ, h⟩ := q
  refine lG_bind me hS hρ h (fun d S1 v H1 h1 s1 e1 r1 f1 => ?_) fun x S1 cls d H1 h1 s1 r1 f1 => h1 cls d σ H1 s1 (hρ.fm hS f1) r1 f1
  obtain ⟨ρ', ha, h1⟩ := h1
  exact ⟨d, ρ, ρ', r1, e1, ha, fun σ' e' _ _ => h1 σ' H1 s1 e' f1⟩
theorem ps_asgW {tgE : Expr} {tg : Tg} (me : Mono te) (he : PE X e (lE X.K X.gw W te)) (hg : PG X tgE (lTg X.K X.gw tg)) (hs : swapsWithSole [tgE] e pos.line X.env = pure false) (hw : swappedStores [tgE] e X.env = pure none)
    (h1 : (assignEach [tgE] X.env).map (·.2) = [assign tgE X.env]) : PS X (.Assign [tgE] e pos) (lS X.K X.gw W (sAsg te tg)) := (ps_asg he hg hs hw h1).imp fun _ _ _ q => asg_lift me q
/-- a, b = x, y, stored from the right -/
theorem ps_parW {n m : Nat} {x y : Str} {ea eb : Expr} {ta tb : WE} {px py pt : Pos} {kt k2 pt2} (ma : Mono ta) (mb : Mono tb) (hc : X.calm = true) (hN : X.N.Nodup) (hi : X.N[n]? = some x) (hj : X.N[m]? = some y) (hij : n ≠ m)
    (hx : X.env.scope.names.lookup x = some .local) (hy : X.env.scope.names.lookup y = some .local) (ha : PE X ea (lE X.K X.gw W ta)) (hb : PE X eb (lE X.K X.gw W tb)) (pa : plainE ea = true) (pb : plainE eb = true)
    (hw : swappedStores [.Tuple [.Name x px, .Name y py] kt pt] (.Tuple [ea, eb] k2 pt2) X.env = pure (some [x, y])) :
    PS X (.Assign [.Tuple [.Name x px, .Name y py] kt pt] (.Tuple [ea, eb] k2 pt2) pos) (lS X.K X.gw W (sAsg (wTup (wCons ta (wCons tb wNil))) (.tp [.nm n, .nm m]))) :=
  (ps_par hc hN hi hj hij hx hy (pa_cons ha (pa_cons hb pa_nil (star_cons pb)) (star_cons pa)) hw).imp fun E σ H q => by
    obtain ⟨ρ, S, hS, hρ, h⟩ := q
    refine lG_bind ma hS hρ h (fun d S1 v H1 h1 s1 e1 r1 f1 => ?_) fun x S1 cls d H1 h1 s1 r1 f1 => h1 cls d σ H1 s1 (hρ.fm hS f1) r1 f1
    refine lG_bind mb s1 e1 h1 (fun e S2 u H2 h2 s2 e2 r2 f2 => ?_) fun x S1 cls d H1 h1 s1' r1 f2 => h1 cls d σ H1 s1' ((hρ.fm hS f1).fm s1 f2) r1 (f1.trans f2)
    obtain ⟨ρ', hg, h2⟩ := h2
    refine ⟨v, u, rfl, ?_⟩
    simp only [asg, asgs, Option.bind_some, Option.some.injEq] at hg
    subst hg
    exact h2 _ H2 s2 ((e2.set n (r1.fm s1 f2)).set m r2) (f1.trans f2)
/-- a, b, c = x, y, z, stored from the right -/
theorem ps_par3W {n m l : Nat} {x y z : Str} {ea eb ec : Expr} {ta tb tc : WE} {px py pz pt : Pos} {kt k2 pt2} (ma : Mono ta) (mb : Mono tb) (mc : Mono tc) (hc : X.calm = true) (hN : X.N.Nodup) (hi : X.N[n]? = some x) (hj : X.N[m]? = some y) (hl : X.N[l]? = some z) (hij : n ≠ m) (hil : n ≠ l) (hjl : m ≠ l)
    (hx : X.env.scope.names.lookup x = some .local) (hy : X.env.scope.names.lookup y = some .local) (hz : X.env.scope.names.lookup z = some .local) (ha : PE X ea (lE X.K X.gw W ta)) (hb : PE X eb (lE X.K X.gw W tb)) (hd : PE X ec (lE X.K X.gw W tc)) (pa : plainE ea = true) (pb : plainE eb = true) (pc : plainE ec = true)
    (hw : swappedStores [.Tuple [.Name x px, .Name y py, .Name z pz] kt pt] (.Tuple [ea, eb, ec] k2 pt2) X.env = pure (some [x, y, z])) :
    PS X (.Assign [.Tuple [.Name x px, .Name y py, .Name z pz] kt pt] (.Tuple [ea, eb, ec] k2 pt2) pos) (lS X.K X.gw W (sAsg (wTup (wCons ta (wCons tb (wCons tc wNil)))) (.tp [.nm n, .nm m, .nm l]))) :=
  (ps_par3 hc hN hi hj hl hij hil hjl hx hy hz (pa_cons ha (pa_cons hb (pa_cons hd pa_nil (star_cons pc)) (star_cons pb)) (star_cons pa)) hw).imp fun E σ H q => by
    obtain ⟨ρ, S, hS, hρ, h⟩ := q
    refine lG_bind ma hS hρ h (fun d S1 v H1 h1 s1 e1 r1 f1 => ?_) fun x S1 cls d H1 h1 s1 r1 f1 => h1 cls d σ H1 s1 (hρ.fm hS f1) r1 f1
    refine lG_bind mb s1 e1 h1 (fun e S2 u H2 h2 s2 e2 r2 f2 => ?_) fun x S1 cls d H1 h1 s1' r1 f2 => h1 cls d σ H1 s1' ((hρ.fm hS f1).fm s1 f2) r1 (f1.trans f2)
    refine lG_bind mc s2 e2 h2 (fun g S3 u3 H3 h3 s3 e3 r3 f3 => ?_) fun x S1 cls d H1 h1 s1' r1 f3 => h1 cls d σ H1 s1' (((hρ.fm hS f1).fm s1 f2).fm s2 f3) r1 ((f1.trans f2).trans f3)
    obtain ⟨ρ', hg, h3⟩ := h3
    refine ⟨v, u, u3, rfl, ?_⟩
    simp only [asg, asgs, Option.bind_some, Option.some.injEq] at hg
    subst hg
    exact h3 _ H3 s3 (((e3.set n ((r1.fm s1 f2).fm s2 f3)).set m (r2.fm s2 f3)).set l r3) ((f1.trans f2).trans f3)
theorem ps_forW {tgE iter : Expr} {body : List Stmt} {src : WI} {tg : Tg} (hp : PassesOwn (model X.prog X.w) X.A X.env X.xe) (hc : X.calm = true) (ms : Mono src) (mt : MonoS t) (hi : PI X tgE iter (lI X.K X.gw W src)) (hg : PG X tgE (lTg X.K X.gw tg)) (hb : PSs X body (lS X.K X.gw W t))
    (hs : ∀ x, foldedSetIterable iter X.env x = pure x) : PS X (.For tgE iter body [] pos) (lS X.K X.gw W (sFor src tg t)) := (ps_for hp hc hi hg hb hs).imp fun E σ H q => by
  obtain ⟨ρ, S, hS, hρ, h⟩ := q
  refine ⟨ρ, S, hS, hρ, ms _ _ _ _ _ _ h (fun c S1 h1 J H1 s1 f1 ok => ?_) fun x S1 z cls d H1 s1 r1 f1 => z cls d σ H1 s1 (hρ.fm hS f1) r1 f1⟩
  obtain ⟨G, Y, wk, hG, hY⟩ := ok.walk
  have chk_of : ∀ {ds ρ S'}, forGo c.chk tg t (nd_lift X.K X.gw W S H E) ds ρ S' → c.chk S' := fun {ds ρ S'} h => by
    cases ds with
    | nil => exact h.1
    | cons d ds => exact h.1
  refine for_it wk (fun i σ' H' => ∃ ρ' S', Sim X.K X.gw H' S' ∧ EnvR X.K X.gw H' ρ' σ' ∧ Fm S1 H1 S' H' ∧ forGo c.chk tg t (nd_lift X.K X.gw W S H E) (c.items.drop i) ρ' S') ?_ ?_ ?_ ?_
  · exact ⟨ρ, S1, s1, hρ.fm hS f1, Fm.refl, h1⟩
  · rintro i σ' H' hi ⟨ρ', S', s', e', f', hw⟩
    exact hG S' H' s' f' (chk_of hw)
  · rintro i x σ' H' H'' hi ⟨ρ', S', s', e', f', hw⟩ y
    obtain ⟨d, hd1, hd2, s2, f2⟩ := hY i S' H' x H'' hi s' f' (chk_of hw) y
    have edrop : c.items.drop i = d :: c.items.drop (i + 1) := by
      obtain ⟨hlt, e⟩ := List.getElem?_eq_some_iff.mp hd1
      rw [List.drop_eq_getElem_cons hlt, e]
    rw [edrop] at hw
    obtain ⟨_, ρ1, ha, hbd⟩ := hw
    refine ⟨d, ρ', ρ1, hd2, e'.fm s' f2, ha, fun σ2 hρ2 _ _ => ⟨ρ1, S', s2, hρ2, mt _ _ _ _ hbd ?_⟩⟩
    have fa : Fm S H S' H'' := (f1.trans f').trans f2
    refine ⟨fun ρ3 S3 z σ3 H3 s3 e3 f3 => ⟨ρ3, S3, s3, e3, (f'.trans f2).trans f3, z⟩, fun d3 S3 z v3 H3 s3 r3 f3 => z v3 H3 s3 r3 (fa.trans f3), fun ρ3 S3 z σ3 H3 s3 e3 f3 => z σ3 H3 s3 e3 (fa.trans f3),
      fun ρ3 S3 z σ3 H3 s3 e3 f3 => ⟨ρ3, S3, s3, e3, (f'.trans f2).trans f3, z⟩, fun x3 ρ3 S3 z c3 d3 σ3 H3 s3 e3 r3 f3 => z c3 d3 σ3 H3 s3 e3 r3 (fa.trans f3)⟩
  · rintro σ' H' ⟨ρ', S', s', e', f', hw⟩
    rw [List.drop_length] at hw
    exact hw.2 σ' H' s' e' (f1.trans f')
theorem ps_whileW {body : List Stmt} (hp : PassesOwn (model X.prog X.w) X.A X.env X.xe) (mc : Mono tc) (mt : MonoS t) (hc : PT X c (lT X.K X.gw W tc)) (hb : PSs X body (lS X.K X.gw W t)) : PS X (.While c body [] pos) (lS X.K X.gw W (sWhile tc t)) := (ps_while hp hc hb).imp fun E σ H q => by
  obtain ⟨ρ, S, hS, hρ, Wv, ⟨m0, h0⟩, h⟩ := q
  refine ⟨fun m σ' H' => ∃ ρ' S', Sim X.K X.gw H' S' ∧ EnvR X.K X.gw H' ρ' σ' ∧ Fm S H S' H' ∧ Wv m ρ' S', ⟨m0, ρ, S, hS, hρ, Fm.refl, h0⟩, ?_⟩
  rintro m σ' H' ⟨ρ', S', s', e', f', hw⟩
  refine lG_bind mc s' e' (h m ρ' S' hw) (fun d S1 v H1 h1 s1 e1 r1 f1 => ?_) fun x S1 cls d H1 h1 s1 r1 f1 => h1 cls d σ' H1 s1 (e'.fm s' f1) r1 (f'.trans f1)
  subst r1
  have fa : Fm S H S1 H1 := f'.trans f1
  cases d with
  | false =>
    rw [if_neg Bool.false_ne_true]
    exact h1 σ' H1 s1 e1 fa
  | true =>
    rw [if_pos rfl]
    refine ⟨fun σ2 H2 => ∃ m', m' < m ∧ ∃ ρ2 S2, Sim X.K X.gw H2 S2 ∧ EnvR X.K X.gw H2 ρ2 σ2 ∧ Fm S H S2 H2 ∧ Wv m' ρ2 S2, fun σ2 H2 z => z, ρ', S1, s1, e1, mt _ _ _ _ h1 ?_⟩
    refine ⟨fun ρ3 S3 z σ3 H3 s3 e3 f3 => ?_, fun d3 S3 z v3 H3 s3 r3 f3 => z v3 H3 s3 r3 (fa.trans f3), fun ρ3 S3 z σ3 H3 s3 e3 f3 => z σ3 H3 s3 e3 (fa.trans f3), fun ρ3 S3 z σ3 H3 s3 e3 f3 => ?_, fun x3 ρ3 S3 z c3 d3 σ3 H3 s3 e3 r3 f3 => z c3 d3 σ3 H3 s3 e3 r3 (fa.trans f3)⟩
    · obtain ⟨m', hm, z⟩ := z
      exact ⟨m', hm, ρ3, S3, s3, e3, fa.trans f3, z⟩
    · obtain ⟨m', hm, z⟩ := z
      exact ⟨m', hm, ρ3, S3, s3, e3, fa.trans f3, z⟩
def rSetA (X : Cx) : TSet := fun o i v H Q => rSetL o i v H Q ∨ rDSet X.K X.w o i v H Q ∨ rSSet o i v H Q
theorem set_any (hu : X.A.units + 65 < cLine) : PSet X (rSetA X) := by
  intro pins s σ H o i v ov iv u Q I ro ri rv h
  rcases h with h | h | h
  · exact set_list pins s σ H o i v ov iv u Q I ro ri rv h
  · exact set_dct (by omega) pins s σ H o i v ov iv u Q I ro ri rv h
  · exact set_dcs (by omega) pins s σ H o i v ov iv u Q I ro ri rv h
theorem set_lift {dob dk dv : D} {vo vk vv : V} {S : Sto} {H : Hp} {Q : Hp → Prop} {P : Sto → Prop} (s : Sim X.K X.gw H S) (r1 : Rep X.K X.gw H dob vo) (r2 : Rep X.K X.gw H dk vk) (r3 : Rep X.K X.gw H dv vv) (h : setF dob dk dv S P)
    (q : ∀ S' H', P S' → Sim X.K X.gw H' S' → Fm S H S' H' → Q H') : rSetA X vo vk vv H Q := by
  rcases h with ⟨a, l, k, j, rfl, rfl, h3, h4, h5⟩ | ⟨a, ep, l, k, n, rfl, rfl, h3, h4, h5, h6, h7⟩ | ⟨a, l, k, rfl, rfl, h3, h4, h5⟩
  · obtain ⟨vs, g1, g2⟩ := s a _ h3
    cases r1
    obtain ⟨m1, m2⟩ := s.mut (us := vs) h3 (g2.set r3 j)
    exact .inl ⟨a, vs, k, j, rfl, r2.intV, g1, by rw [← g2.length]; exact h4, q _ _ h5 m1 m2⟩
  · obtain ⟨xs, g1, g2⟩ := s a _ h3
    cases r1
    obtain ⟨c, rfl⟩ := rep_tup r2
    refine .inr (.inl ⟨a, c, ep, xs, n, rfl, rfl, g1, g2.keys, r2.key h4, h5, by rw [← g2.len]; exact h6, fun u ep' ru => ?_⟩)
    obtain ⟨m1, m2⟩ := s.mutG (o := .dct ep' (putD l (.tup k) n dv)) (u := DctO X.w a ep' (storedH xs n c u)) h3 ⟨_, upd_same, (g2.put h4 r2 r3 ru).kp (Fm.kp s (Sim.mutF (o := .dct ep' (putD l (.tup k) n dv)) h3))⟩
    exact q _ _ (h7 ep') m1 m2
  · obtain ⟨xs, g1, g2⟩ := s a _ h3
    cases r1
    refine .inr (.inr ⟨a, k, xs, rfl, r2.strV, g1, by rw [← g2.len]; exact h4, ?_⟩)
    obtain ⟨m1, m2⟩ := s.mutG (o := .dcs (putS l k dv)) (u := .dK (putK xs (.inr k) vv)) h3 ⟨_, upd_same, (g2.put r3).kp (Fm.kp s (Sim.mutF (o := .dcs (putS l k dv)) h3))⟩
    exact q _ _ h5 m1 m2
theorem ps_subW {ptg : Pos} (hu : X.A.units + 65 < cLine) (mo : Mono to) (mi : Mono ti) (me : Mono te) (ho : PE X o (lE X.K X.gw W to)) (hi : PE X i (lE X.K X.gw W ti)) (he : PE X e (lE X.K X.gw W te)) (hs : swapsWithSole [.Subscript o i ptg] e pos.line X.env = pure false) (hw : swappedStores [.Subscript o i ptg] e X.env = pure none)
    (ha : ∀ v, assign (.Subscript o i ptg) X.env v = (do
      let ov ← holding [v] (eval o X.env)
      let iv ← holding [v, ov] (eval i X.env)
      standAt ptg
      holding [v, ov, iv] (setItem ov iv v)
      release [v, ov, iv] [])) : PS X (.Assign [.Subscript o i ptg] e pos) (lS X.K X.gw W (sSub to ti te)) :=
  (ps_asg he (pg_sub ho hi (set_any hu) ha) hs hw rfl).imp fun E σ H q => by
    obtain ⟨ρ, S, hS, hρ, h⟩ := q
    refine lG_bind me hS hρ h (fun d S1 v H1 h1 s1 e1 r1 f1 => ?_) fun x S1 cls d H1 h1 s1 r1 f1 => h1 cls d σ H1 s1 (hρ.fm hS f1) r1 f1
    refine lG_bind mo s1 e1 h1 (fun e S2 u H2 h2 s2 e2 r2 f2 => ?_) fun x S1' cls d H1' h1 s1' r1 f2 => h1 cls d σ H1' s1' (e1.fm s1 f2) r1 (f1.trans f2)
    refine lG_bind mi s2 e2 h2 (fun k S3 w H3 h3 s3 e3 r3 f3 => ?_) fun x S1' cls d H1' h1 s1' r1 f3 => h1 cls d σ H1' s1' (e2.fm s2 f3) r1 ((f1.trans f2).trans f3)
    exact set_lift s3 (r2.fm s2 f3) r3 ((r1.fm s1 f2).fm s2 f3) h3 fun S4 H4 p4 s4 f4 => p4 σ H4 s4 (e3.fm s3 f4) (((f1.trans f2).trans f3).trans f4)
theorem ps_takeW {ptg pn pt : Pos} {kt y : Nat} {x : Str} (hu : X.A.units + 65 < cLine) (hc : X.calm = true) (hN : X.N.Nodup) (hy : X.N[y]? = some x) (hx : Loc X.env.scope x) (hf : X.fn x = true ∨ X.env.scope.names.lookup x = some .local) (mo : Mono to) (mi : Mono ti) (me : Mono te) (ho : PE X o (lE X.K X.gw W to)) (hi : PE X i (lE X.K X.gw W ti)) (he : PE X e (lE X.K X.gw W te))
    (hs : swapsWithSole [.Tuple [.Subscript o i ptg, .Name x pn] kt pt] e pos.line X.env = pure false) (hw : swappedStores [.Tuple [.Subscript o i ptg, .Name x pn] kt pt] e X.env = pure none)
    (ha : ∀ v, assign (.Subscript o i ptg) X.env v = (do
      let ov ← holding [v] (eval o X.env)
      let iv ← holding [v, ov] (eval i X.env)
      standAt ptg
      holding [v, ov, iv] (setItem ov iv v)
      release [v, ov, iv] [])) : PS X (.Assign [.Tuple [.Subscript o i ptg, .Name x pn] kt pt] e pos) (lS X.K X.gw W (sTake to ti te y)) :=
  (ps_asg he (pg_tup (n := 2) hc (pgs_cons (pg_sub ho hi (set_any hu) ha) (pgs_cons (pg_name hN hy hx hf) pgs_nil rfl) rfl) rfl rfl) hs hw rfl).imp fun E σ H q => by
    obtain ⟨ρ, S, hS, hρ, h⟩ := q
    refine lG_bind me hS hρ h (fun d S1 v H1 h1 s1 e1 r1 f1 => ?_) fun x S1 cls d H1 h1 s1 r1 f1 => h1 cls d σ H1 s1 (hρ.fm hS f1) r1 f1
    obtain ⟨d1, d2, rfl, h1⟩ := h1
    obtain ⟨p, vs, ev, g1, g2⟩ := r1.tupV
    cases g2 with
    | cons k1 k2 =>
      cases k2 with
      | cons k2 k3 =>
        cases k3
        refine ⟨p, _, ev, g1, rfl, _, _, rfl, ?_⟩
        refine lG_bind mo s1 e1 h1 (fun e S2 u H2 h2 s2 e2 r2 f2 => ?_) fun x S1' cls d H1' h1 s1' r1 f2 => h1 cls d σ H1' s1' (e1.fm s1 f2) r1 (f1.trans f2)
        refine lG_bind mi s2 e2 h2 (fun k S3 w H3 h3 s3 e3 r3 f3 => ?_) fun x S1' cls d H1' h1 s1' r1 f3 => h1 cls d σ H1' s1' (e2.fm s2 f3) r1 ((f1.trans f2).trans f3)
        refine set_lift s3 (r2.fm s2 f3) r3 ((k1.fm s1 f2).fm s2 f3) h3 fun S4 H4 p4 s4 f4 => ⟨_, [], rfl, rfl, ?_⟩
        exact p4 _ H4 s4 ((e3.fm s3 f4).set y (((k2.fm s1 f2).fm s2 f3).fm s3 f4)) (((f1.trans f2).trans f3).trans f4)
end
end Ow

namespace Ow
open PySem PySem.Spec PyProof.Rows L2
/-- no super() -/
def plainO : Expr → Bool
  | .Call (.Name _ _) [] [] _ => false
  | _ => true
theorem base_plain {o : Expr} {name : Str} {env : Env} {w : Sem Value} (h : plainO o = true) : attributeBase o name env w = w := by
  cases o with
  | Call f args kws pos =>
    cases f with
    | Name x p =>
      cases args with
      | nil =>
        cases kws with
        | nil => cases h
        | cons k ks => rfl
      | cons a as => rfl
    | _ => rfl
  | _ => rfl
/-- l.append(e) -/
def wApp (o e : WE) : WE := fun ρ S Q E => o ρ S (fun d S1 => ∃ a l0, d = .ref a ∧ S1 a = some (.lst l0) ∧ e ρ S1 (fun v S2 => ∃ l, S2 a = some (.lst l) ∧ l.length < sizeLine ∧ Q .non (put S2 a (.lst (l ++ [v])))) E) E
/-- l.extend(e), e a list of the store -/
def wExt (o e : WE) : WE := fun ρ S Q E => o ρ S (fun d S1 => ∃ a l0, d = .ref a ∧ S1 a = some (.lst l0) ∧ e ρ S1 (fun v S2 => ∃ b l m, v = .ref b ∧ S2 a = some (.lst l) ∧ S2 b = some (.lst m) ∧ l.length + m.length ≤ sizeLine ∧ Q .non (put S2 a (.lst (l ++ m)))) E) E
/-- l.extend([..]) -/
def wExtH (o : WE) (e : WA) : WE := fun ρ S Q E => o ρ S (fun d S1 => ∃ a l0, d = .ref a ∧ S1 a = some (.lst l0) ∧ e ρ S1 (fun m S2 => ∃ l, S2 a = some (.lst l) ∧ l.length + m.length ≤ sizeLine ∧ Q .non (put S2 a (.lst (l ++ m)))) E) E
/-- l.pop() -/
def wPop (o : WE) : WE := fun ρ S Q E => o ρ S (fun d S1 => ∃ a l y, d = .ref a ∧ S1 a = some (.lst l) ∧ l[l.length - 1]? = some y ∧ Q y (put S1 a (.lst l.dropLast))) E
/-- l.pop(i) -/
def wPopAt (o i : WE) : WE := fun ρ S Q E => o ρ S (fun d S1 => ∃ a l0, d = .ref a ∧ S1 a = some (.lst l0) ∧ i ρ S1 (fun v S2 => ∃ k l j y, v = .int k ∧ S2 a = some (.lst l) ∧ l.length < 2 ^ 62 ∧ ixN l.length k = some j ∧ l[j]? = some y ∧ Q y (put S2 a (.lst (l.eraseIdx j)))) E) E
section
variable {a b : WE} {t : WA}
theorem mono_App (ma : Mono a) (mb : Mono b) : Mono (wApp a b) := fun _ _ _ _ _ _ h q x => ma _ _ _ _ _ _ h (fun _ _ ⟨p, l, e, h1, h2⟩ => ⟨p, l, e, h1, mb _ _ _ _ _ _ h2 (fun _ _ ⟨l, h3, h4, h5⟩ => ⟨l, h3, h4, q _ _ h5⟩) x⟩) x
theorem mono_Ext (ma : Mono a) (mb : Mono b) : Mono (wExt a b) := fun _ _ _ _ _ _ h q x => ma _ _ _ _ _ _ h (fun _ _ ⟨p, l, e, h1, h2⟩ => ⟨p, l, e, h1, mb _ _ _ _ _ _ h2 (fun _ _ ⟨b, l, m, h3, h4, h5, h6, h7⟩ => ⟨b, l, m, h3, h4, h5, h6, q _ _ h7⟩) x⟩) x
theorem mono_ExtH (ma : Mono a) (mb : Mono t) : Mono (wExtH a t) := fun _ _ _ _ _ _ h q x => ma _ _ _ _ _ _ h (fun _ _ ⟨p, l, e, h1, h2⟩ => ⟨p, l, e, h1, mb _ _ _ _ _ _ h2 (fun _ _ ⟨l, h3, h4, h5⟩ => ⟨l, h3, h4, q _ _ h5⟩) x⟩) x
theorem mono_Pop (ma : Mono a) : Mono (wPop a) := fun _ _ _ _ _ _ h q x => ma _ _ _ _ _ _ h (fun _ _ ⟨p, l, y, e, h1, h2, h3⟩ => ⟨p, l, y, e, h1, h2, q _ _ h3⟩) x
theorem mono_PopAt (ma : Mono a) (mb : Mono b) : Mono (wPopAt a b) := fun _ _ _ _ _ _ h q x => ma _ _ _ _ _ _ h (fun _ _ ⟨p, l, e, h1, h2⟩ => ⟨p, l, e, h1, mb _ _ _ _ _ _ h2 (fun _ _ ⟨k, l, j, y, h3, h4, h5, h6, h7, h8⟩ => ⟨k, l, j, y, h3, h4, h5, h6, h7, q _ _ h8⟩) x⟩) x
end
section
variable {X : Cx} {W : WX} {o e : Expr} {to te : WE} {t : WA} {apos cpos : Pos}
theorem few_one {e : Expr} {env : Env} (h : plainE e = true) : ((backTo cpos (starEach [e] env)).all (fun x => !x.1) && (backToKw cpos (keywordEach [] env)).all (fun x => x.1.isSome)
      && decide (([e] : List Expr).length + ([] : List Keyword).length + (if ([] : List Keyword).isEmpty then 0 else 1) < 30)) = true := by
  rw [star_cons h]
  rfl
theorem lst_ty {S : Sto} {H : Hp} {a : Addr} {l : List D} (s : Sim X.K X.gw H S) (h : S a = some (.lst l)) : tyV X.K "list" (.ref a) H := by
  obtain ⟨vs, h1, _⟩ := s a _ h
  exact .inl ⟨rfl, vs, .of h1⟩
theorem pe_appW (mo : Mono to) (me : Mono te) (ho : PE X o (lE X.K X.gw W to)) (he : PE X e (lE X.K X.gw W te)) (hp : plainE e = true) (hb : plainO o = true) (hl : (apos.endLine == cpos.line) = true) : PE X (.Call (.Attribute o "append" apos) [e] [] cpos) (lE X.K X.gw W (wApp to te)) :=
  (pe_bm F.plainAttrs_list F.slot_list_append F.type_list_append mt_append ho (pa_cons he pa_nil (star_cons hp)) (base_plain hb) (few_one hp) hl (star_cons hp) rfl).imp fun σ H Q q => by
    obtain ⟨ρ, S, hS, hρ, h⟩ := q
    refine lG_bind mo hS hρ h (fun d S1 v H1 h1 s1 e1 r1 f1 => ?_) fun x S1 cls d H1 h1 s1 r1 f1 => h1 cls d H1 s1 r1 f1
    obtain ⟨a, l0, rfl, ha, h1⟩ := h1
    cases r1
    refine ⟨lst_ty s1 ha, lG_bind me s1 e1 h1 (fun e S2 u H2 h2 s2 e2 r2 f2 => ?_) fun x S1 cls d H1 h1 s1 r1 f2 => h1 cls d H1 s1 r1 (f1.trans f2)⟩
    obtain ⟨l, hl, hz, h2⟩ := h2
    obtain ⟨vs, g1, g2⟩ := s2 a _ hl
    obtain ⟨m1, m2⟩ := s2.mut (us := vs) hl (g2.append (.one r2))
    exact ⟨a, vs, u, rfl, rfl, g1, by rw [← g2.length]; exact hz, h2 .non _ m1 .non ((f1.trans f2).trans m2)⟩
theorem pe_extW (mo : Mono to) (me : Mono te) (ho : PE X o (lE X.K X.gw W to)) (he : PE X e (lE X.K X.gw W te)) (hp : plainE e = true) (hb : plainO o = true) (hl : (apos.endLine == cpos.line) = true) : PE X (.Call (.Attribute o "extend" apos) [e] [] cpos) (lE X.K X.gw W (wExt to te)) :=
  (pe_bm F.plainAttrs_list F.slot_list_extend F.type_list_extend mt_extend ho (pa_cons he pa_nil (star_cons hp)) (base_plain hb) (few_one hp) hl (star_cons hp) rfl).imp fun σ H Q q => by
    obtain ⟨ρ, S, hS, hρ, h⟩ := q
    refine lG_bind mo hS hρ h (fun d S1 v H1 h1 s1 e1 r1 f1 => ?_) fun x S1 cls d H1 h1 s1 r1 f1 => h1 cls d H1 s1 r1 f1
    obtain ⟨a, l0, rfl, ha, h1⟩ := h1
    cases r1
    refine ⟨lst_ty s1 ha, lG_bind me s1 e1 h1 (fun e S2 u H2 h2 s2 e2 r2 f2 => ?_) fun x S1 cls d H1 h1 s1 r1 f2 => h1 cls d H1 s1 r1 (f1.trans f2)⟩
    obtain ⟨b, l, m, rfl, hl, hm, hz, h2⟩ := h2
    cases r2
    obtain ⟨vs, g1, g2⟩ := s2 a _ hl
    obtain ⟨us, g3, g4⟩ := s2 b _ hm
    obtain ⟨m1, m2⟩ := s2.mut (us := vs) hl (g2.append g4)
    exact ⟨a, b, vs, us, rfl, rfl, g1, g3, by rw [← g2.length, ← g4.length]; exact hz, h2 .non _ m1 .non ((f1.trans f2).trans m2)⟩
theorem pe_extHW (mo : Mono to) (me : Mono t) (ho : PE X o (lE X.K X.gw W to)) (he : PE X e (lH X.K X.gw W t)) (hp : plainE e = true) (hb : plainO o = true) (hl : (apos.endLine == cpos.line) = true) : PE X (.Call (.Attribute o "extend" apos) [e] [] cpos) (lE X.K X.gw W (wExtH to t)) :=
  (pe_bm F.plainAttrs_list F.slot_list_extend F.type_list_extend mt_extend ho (pa_cons he pa_nil (star_cons hp)) (base_plain hb) (few_one hp) hl (star_cons hp) rfl).imp fun σ H Q q => by
    obtain ⟨ρ, S, hS, hρ, h⟩ := q
    refine lG_bind mo hS hρ h (fun d S1 v H1 h1 s1 e1 r1 f1 => ?_) fun x S1 cls d H1 h1 s1 r1 f1 => h1 cls d H1 s1 r1 f1
    obtain ⟨a, l0, rfl, ha, h1⟩ := h1
    cases r1
    refine ⟨lst_ty s1 ha, lG_bind me s1 e1 h1 (fun m S2 u H2 h2 s2 e2 r2 f2 => ?_) fun x S1 cls d H1 h1 s1 r1 f2 => h1 cls d H1 s1 r1 (f1.trans f2)⟩
    obtain ⟨l, hl, hz, h2⟩ := h2
    obtain ⟨b, us, rfl, _, g3, g4⟩ := r2
    obtain ⟨vs, g1, g2⟩ := s2 a _ hl
    obtain ⟨m1, m2⟩ := s2.mut (us := vs) hl (g2.append g4)
    exact ⟨a, b, vs, us, rfl, rfl, g1, g3, by rw [← g2.length, ← g4.length]; exact hz, h2 .non _ m1 .non ((f1.trans f2).trans m2)⟩
theorem pe_popW (mo : Mono to) (ho : PE X o (lE X.K X.gw W to)) (hb : plainO o = true) (hl : (apos.endLine == cpos.line) = true) : PE X (.Call (.Attribute o "pop" apos) [] [] cpos) (lE X.K X.gw W (wPop to)) :=
  (pe_bm0 F.plainAttrs_list F.slot_list_pop F.type_list_pop mt_pop ho (base_plain hb) hl).imp fun σ H Q q => by
    obtain ⟨ρ, S, hS, hρ, h⟩ := q
    refine lG_bind mo hS hρ h (fun d S1 v H1 h1 s1 e1 r1 f1 => ?_) fun x S1 cls d H1 h1 s1 r1 f1 => h1 cls d H1 s1 r1 f1
    obtain ⟨a, l, y, rfl, ha, hy, h1⟩ := h1
    cases r1
    obtain ⟨vs, g1, g2⟩ := s1 a _ ha
    obtain ⟨w, g3, g4⟩ := g2.get hy
    obtain ⟨m1, m2⟩ := s1.mut (us := vs) ha g2.dropLast
    exact ⟨lst_ty s1 ha, a, vs, w, rfl, rfl, g1, by rw [← g2.length]; exact g3, h1 w _ m1 (g4.fm s1 m2) (f1.trans m2)⟩
theorem pe_popAtW (mo : Mono to) (me : Mono te) (ho : PE X o (lE X.K X.gw W to)) (he : PE X e (lE X.K X.gw W te)) (hp : plainE e = true) (hb : plainO o = true) (hl : (apos.endLine == cpos.line) = true) : PE X (.Call (.Attribute o "pop" apos) [e] [] cpos) (lE X.K X.gw W (wPopAt to te)) :=
  (pe_bm F.plainAttrs_list F.slot_list_pop F.type_list_pop mt_popAt ho (pa_cons he pa_nil (star_cons hp)) (base_plain hb) (few_one hp) hl (star_cons hp) rfl).imp fun σ H Q q => by
    obtain ⟨ρ, S, hS, hρ, h⟩ := q
    refine lG_bind mo hS hρ h (fun d S1 v H1 h1 s1 e1 r1 f1 => ?_) fun x S1 cls d H1 h1 s1 r1 f1 => h1 cls d H1 s1 r1 f1
    obtain ⟨a, l0, rfl, ha, h1⟩ := h1
    cases r1
    refine ⟨lst_ty s1 ha, lG_bind me s1 e1 h1 (fun e S2 u H2 h2 s2 e2 r2 f2 => ?_) fun x S1 cls d H1 h1 s1 r1 f2 => h1 cls d H1 s1 r1 (f1.trans f2)⟩
    obtain ⟨k, l, j, y, rfl, hl, hz, hj, hy, h2⟩ := h2
    obtain ⟨vs, g1, g2⟩ := s2 a _ hl
    obtain ⟨w, g3, g4⟩ := g2.get hy
    obtain ⟨m1, m2⟩ := s2.mut (us := vs) hl (g2.eraseIdx j)
    obtain ⟨i1, i2, i3, i4⟩ := ixN_seq hj
    exact ⟨a, vs, k, j, w, rfl, by rw [r2.intV], g1, by omega, by omega, by rw [← g2.length]; exact i1, g3, h2 w _ m1 (g4.fm s2 m2) ((f1.trans f2).trans m2)⟩
end
/-- what a def promises: where it may be called; what it hands back; what it raises -/
structure Spec where
  pre : List D → Sto → Prop
  post : List D → Sto → D → Sto → Prop
  exc : List D → Sto → Xn → Sto → Prop := fun _ _ _ _ => False
def callS (sp : Spec) (ds : List D) (S : Sto) (Q : D → Sto → Prop) (E : QX) : Prop := sp.pre ds S ∧ (∀ d S', sp.post ds S d S' → Q d S') ∧ ∀ x S', sp.exc ds S x S' → E x S'
def wCall (sp : Spec) (t : WA) : WE := fun ρ S Q E => t ρ S (fun ds S1 => callS sp ds S1 Q E) E
theorem mono_Call {sp : Spec} {t : WA} (mt : Mono t) : Mono (wCall sp t) := fun _ _ _ _ _ _ h q x => mt _ _ _ _ _ _ h (fun _ _ ⟨h1, h2, h3⟩ => ⟨h1, fun _ _ z => q _ _ (h2 _ _ z), fun _ _ z => x _ _ (h3 _ _ z)⟩) x
def wCall0 (sp : Spec) : WE := fun _ S Q _ => callS sp [] S Q (fun _ _ => False)
theorem mono_Call0 {sp : Spec} : Mono (wCall0 sp) := fun _ _ _ _ _ _ ⟨h1, h2, h3⟩ q x => ⟨h1, fun _ _ z => q _ _ (h2 _ _ z), h3⟩
/-- the promise over the layer's heap -/
def spOf (K : PySem.W.Frag) (mg : GW) (n : Nat) (sp : Spec) : Sp := fun vs H Q E => vs.length = n ∧ ∃ ds S, Sim K mg H S ∧ Reps K mg H ds vs ∧
  callS sp ds S (fun d S' => ∀ v H', Sim K mg H' S' → Rep K mg H' d v → Fm S H S' H' → Q v H') (fun x S' => ∀ cls dd H', Sim K mg H' S' → XR K mg H' x cls dd → Fm S H S' H' → E cls dd H')
/-- a def stands under a name and keeps its promise -/
def FnIn (X : Cx) (x : Str) (n : Nat) (sp : Spec) : Prop := ∃ (f : Addr) (fd : FuncData) (k : Nat) (ps : List Str), ps.length = n ∧ X.mg x = some (.ref f) ∧ PySem.W.keepIn X.K (.ref f) = true ∧
  FnOk X.prog X.w X.K X.mg X.base (CX X.prog X.w) k f fd ps (spOf X.K X.gw n sp) ∧ Binds X.K fd ps [] ∧ Room k X.A
section
variable {X : Cx} {W : WX} {e : Expr} {es : List Expr} {t : WA} {x : Str} {p pos : Pos} {sp : Spec} {n : Nat}
theorem pe_callFn (F : FnIn X x n sp) (tk : Takes X W) (hg : Gl X x) (hdb : (x == ("__debug__" : Str)) = false) (mt : Mono t) (hlen : LenA n t) (ha : PA X (e :: es) (lA X.K X.gw W t)) (hp : (e :: es).all plainE = true) :
    PE X (.Call (.Name x p) (e :: es) [] pos) (lE X.K X.gw W (wCall sp t)) := by
  obtain ⟨f, fd, k, ps, hl, hm, hk, hF, hb, hr⟩ := F
  have h2 := hp
  rw [List.all_cons, Bool.and_eq_true] at h2
  refine (pe_callS hF hr hg hm hk hb (fun σ => passAt tk σ) ha hdb (star_cons h2.1) (star_none h2.2)).imp fun σ H Q q => ?_
  obtain ⟨ρ, S, hS, hρ, h⟩ := q
  refine lG_bind mt hS hρ (hlen _ _ _ _ h) (fun ds S1 vs H1 h1 s1 e1 r1 f1 => ?_) fun x S1 cls d H1 h1 s1 r1 f1 => h1 cls d H1 s1 r1 f1
  obtain ⟨hn, h1, h2, h3⟩ := h1
  exact ⟨by rw [← r1.length]; exact hn, ds, S1, s1, r1, h1, fun d S' z v H' s' r' f' => h2 d S' z v H' s' r' (f1.trans f'), fun y S' z cls dd H' s' r' f' => h3 y S' z cls dd H' s' r' (f1.trans f')⟩
theorem pe_callFn0 (F : FnIn X x 0 sp) (hg : Gl X x) (hdb : (x == ("__debug__" : Str)) = false) : PE X (.Call (.Name x p) [] [] pos) (lE X.K X.gw W (wCall0 sp)) := by
  obtain ⟨f, fd, k, ps, hl, hm, hk, hF, hb, hr⟩ := F
  refine (pe_call0 (E := E0) hF hr hg hm hk hb .nil passL hdb).imp fun σ H Q q => ?_
  obtain ⟨ρ, S, hS, hρ, h1, h2, h3⟩ := q
  exact ⟨rfl, [], S, hS, .nil, h1, fun d S' z v H' s' r' f' => h2 d S' z v H' s' r' f', fun y S' z cls dd H' s' r' f' => (h3 y S' z).elim⟩
end
section
variable {X : Cx} {W : WX} {src : WI} {tg : Tg} {tt : WT} {te : WE} {elt tgE iter : Expr} {ifs : List Expr} {scope : Scope} {own : List (Str × Nat)} {pos spos py : Pos}
/-- y = [..] where the list is stored within -/
theorem LcOk.set (L : LcOk X W src tg tt te elt tgE iter ifs scope own) {i : Nat} {y : Str} (hy : X.N[i]? = some y) (hyl : X.env.scope.names.lookup y = some .local) (hsw : swapsWith (.ListComp elt [⟨tgE, iter, ifs, 0⟩] scope pos) (some (.Name y py)) spos.line X.env = pure true) :
    PS X (.Assign [.Name y py] (.ListComp elt [⟨tgE, iter, ifs, 0⟩] scope pos) spos) (lS X.K X.gw W (sAsg (wNew (wLc src tg (own.map (·.2)) tt te)) (.nm i))) :=
  (ps_setLc L.calm L.nd hy hyl hsw L.hi L.blk L.hg L.ht L.he L.hs).imp fun E σ H q => by
    obtain ⟨ρ, S, hS, hρ, h⟩ := q
    refine lc_lift L.ms L.mt L.me L.sl hS hρ h (fun acc S' a vs H' p s' hn ha hr f hf => ?_) fun x S1 cls d H1 h1 s1 r1 f1 => h1 cls d σ H1 s1 (hρ.fm hS f1) r1 f1
    obtain ⟨ρ', e, q⟩ := p a hn
    cases e
    have f2 : Fm S H (put S' a (.lst acc)) H' := fun b o e n => by
      have ne : b ≠ a := fun z => by subst z; exact hf o e n
      rw [put_ne ne]
      exact f b o e n
    exact q _ H' (Sim.adopt (l := ([] : List D)) s' ha hr) ((hρ.fm hS f2).set i (.ref a)) f2
end
abbrev WR := WG (Int × Int)
def rg1 (a : WE) : WR := fun ρ S Q E => a ρ S (fun d S1 => ∃ n, d = .int n ∧ Q (0, n) S1) E
def rg2 (a b : WE) : WR := fun ρ S Q E => a ρ S (fun d S1 => b ρ S1 (fun e S2 => ∃ i j, d = .int i ∧ e = .int j ∧ Q (i, j) S2) E) E
def wLstRg (r : WR) : WE := fun ρ S Q E => r ρ S (fun p S1 => RgOk p.1 p.2 ∧ newL (rngD p.1 p.2) S1 Q) E
def wTupRg (r : WR) : WE := fun ρ S Q E => r ρ S (fun p S1 => RgOk p.1 p.2 ∧ Q (.tup (rngD p.1 p.2)) S1) E
theorem mono_rg1 {a : WE} (ma : Mono a) : Mono (rg1 a) := fun _ _ _ _ _ _ h q x => ma _ _ _ _ _ _ h (fun _ _ ⟨n, e, h1⟩ => ⟨n, e, q _ _ h1⟩) x
theorem mono_rg2 {a b : WE} (ma : Mono a) (mb : Mono b) : Mono (rg2 a b) := fun _ _ _ _ _ _ h q x => ma _ _ _ _ _ _ h (fun _ _ h1 => mb _ _ _ _ _ _ h1 (fun _ _ ⟨i, j, e1, e2, h2⟩ => ⟨i, j, e1, e2, q _ _ h2⟩) x) x
theorem mono_LstRg {r : WR} (m : Mono r) : Mono (wLstRg r) := fun _ _ _ _ _ _ h q x => m _ _ _ _ _ _ h (fun _ _ ⟨o, h1⟩ => ⟨o, h1.mono q⟩) x
theorem mono_TupRg {r : WR} (m : Mono r) : Mono (wTupRg r) := fun _ _ _ _ _ _ h q x => m _ _ _ _ _ _ h (fun _ _ ⟨o, h1⟩ => ⟨o, q _ _ h1⟩) x
section
variable {X : Cx} {W : WX} {a b e : Expr} {ta tb : WE} {r : WR} {p pos : Pos}
abbrev lR (K : PySem.W.Frag) (mg : GW) (W : WX) (t : WR) : L2.St → Hp → (Int → Int → Hp → Prop) → Prop := fun σ H Q => lG K mg (fun _ _ (x y : Int × Int) => x = y) W t σ H fun y H' => Q y.1 y.2 H'
theorem prg1W (ma : Mono ta) (ha : PE X a (lE X.K X.gw W ta)) (hp : plainE a = true) (hg : Gl X "range") (hm : X.mg "range" = none) : PRg X (.Call (.Name "range" p) [a] [] pos) (lR X.K X.gw W (rg1 ta)) := fun pins s σ H Q I h =>
  prg_1 hg hm ha (star_cons hp) pins s σ H Q I (by
    obtain ⟨ρ, S, hS, hρ, h⟩ := h
    exact lG_bind ma hS hρ h (fun d S1 v H1 h1 s1 e1 r1 f1 => by obtain ⟨n, rfl, h1⟩ := h1; exact ⟨n, r1.intV, h1 (0, n) H1 s1 rfl f1⟩) fun x S1 cls d H1 h1 s1 r1 f1 => h1 cls d H1 s1 r1 f1)
theorem prg2W (ma : Mono ta) (mb : Mono tb) (ha : PE X a (lE X.K X.gw W ta)) (hb : PE X b (lE X.K X.gw W tb)) (hp : plainE a = true) (hq : plainE b = true) (hg : Gl X "range") (hm : X.mg "range" = none) : PRg X (.Call (.Name "range" p) [a, b] [] pos) (lR X.K X.gw W (rg2 ta tb)) := fun pins s σ H Q I h =>
  prg_2 hg hm ha hb (star_cons hp) (star_cons hq) (star_none (by simp [hq])) pins s σ H Q I (by
    obtain ⟨ρ, S, hS, hρ, h⟩ := h
    refine lG_bind ma hS hρ h (fun d S1 v H1 h1 s1 e1 r1 f1 => ?_) fun x S1 cls d H1 h1 s1 r1 f1 => h1 cls d H1 s1 r1 f1
    refine lG_bind mb s1 e1 h1 (fun d2 S2 v2 H2 h2 s2 e2 r2 f2 => ?_) fun x S2 cls d H2 h2 s2 r2 f2 => h2 cls d H2 s2 r2 (f1.trans f2)
    obtain ⟨i, j, rfl, rfl, h2⟩ := h2
    exact ⟨i, j, r1.intV, r2.intV, h2 (i, j) H2 s2 rfl (f1.trans f2)⟩)
theorem reps_rg {K : PySem.W.Frag} {mg : GW} {H : Hp} {i j : Int} : Reps K mg H (rngD i j) (rgV i j) := by
  have := ints_reps (K := K) (mg := mg) (H := H) ((List.range (j - i).toNat).map fun k => i + (k : Nat))
  rw [List.map_map, List.map_map] at this
  exact this
theorem pe_lstRgW (hc : X.calm = true) (mr : Mono r) (hr : PRg X e (lR X.K X.gw W r)) (hp : plainE e = true) (hg : Gl X "list") (hm : X.mg "list" = none) : PE X (.Call (.Name "list" p) [e] [] pos) (lE X.K X.gw W (wLstRg r)) :=
  (pe_listRg hc hg hm hr (star_cons hp)).imp fun σ H Q q => by
    obtain ⟨ρ, S, hS, hρ, h⟩ := q
    refine lG_bind mr hS hρ h (fun x S1 y H1 h1 s1 e1 r1 f1 => ?_) fun x S1 cls d H1 h1 s1 r1 f1 => h1 cls d H1 s1 r1 f1
    subst r1
    exact ⟨h1.1, new_lst (X := X) s1 reps_rg (h1.2.mono fun x S' z y H' a1 a2 a3 => z y H' a1 a2 (f1.trans a3))⟩
theorem pe_tupRgW (hc : X.calm = true) (mr : Mono r) (hr : PRg X e (lR X.K X.gw W r)) (hp : plainE e = true) (hg : Gl X "tuple") (hm : X.mg "tuple" = none) : PE X (.Call (.Name "tuple" p) [e] [] pos) (lE X.K X.gw W (wTupRg r)) :=
  (pe_tupRg hc hg hm hr (star_cons hp)).imp fun σ H Q q => by
    obtain ⟨ρ, S, hS, hρ, h⟩ := q
    refine lG_bind mr hS hρ h (fun x S1 y H1 h1 s1 e1 r1 f1 => ?_) fun x S1 cls d H1 h1 s1 r1 f1 => h1 cls d H1 s1 r1 f1
    subst r1
    exact ⟨h1.1, new_tup (X := X) s1 reps_rg fun y H' a1 a2 a3 => h1.2 y H' a1 a2 (f1.trans a3)⟩
end
end Ow

namespace Ow
open PySem PySem.Spec PyProof.Rows L2
/-- the pairs of a display, from the left -/
def wPr : List (WE × WE) → WG (List (D × D))
  | [] => fun _ S Q _ => Q [] S
  | (k, v) :: r => fun ρ S Q E => k ρ S (fun d S1 => v ρ S1 (fun e S2 => wPr r ρ S2 (fun ps S3 => Q ((d, e) :: ps) S3) E) E) E
def MonoPr (l : List (WE × WE)) : Prop := ∀ p ∈ l, Mono p.1 ∧ Mono p.2
theorem mono_Pr : ∀ {l : List (WE × WE)}, MonoPr l → Mono (wPr l)
  | [], _ => fun _ _ _ _ _ _ h q _ => q _ _ h
  | p :: r, m => fun ρ S Q Q' E E' h q x => (m p (by simp)).1 _ _ _ _ _ _ h (fun d S1 h1 => (m p (by simp)).2 _ _ _ _ _ _ h1 (fun e S2 h2 => mono_Pr (fun q hq => m q (by simp [hq])) _ _ _ _ _ _ h2 (fun _ _ h3 => q _ _ h3) x) x) x
section
variable {K : PySem.W.Frag} {mg : GW} {W : WX}
def lPr (l : List (WE × WE)) (K : PySem.W.Frag) (mg : GW) (W : WX) : List (TE × TE) := l.map fun p => (lE K mg W p.1, lE K mg W p.2)
/-- pairs by values -/
inductive PReps (K : PySem.W.Frag) (mg : GW) (H : Hp) : List (D × D) → List (V × V) → Prop
  | nil : PReps K mg H [] []
  | cons {d e : D} {v u : V} {ps : List (D × D)} {qs : List (V × V)} : Rep K mg H d v → Rep K mg H e u → PReps K mg H ps qs → PReps K mg H ((d, e) :: ps) ((v, u) :: qs)
theorem PReps.kp {H H' : Hp} (k : Kp H H') {ps : List (D × D)} {qs : List (V × V)} (h : PReps K mg H ps qs) : PReps K mg H' ps qs := by
  induction h with
  | nil => exact .nil
  | cons h1 h2 _ ih => exact .cons (h1.kp k) (h2.kp k) ih
theorem pr_lift : ∀ {l : List (WE × WE)} (ml : MonoPr l) {ρ : En} {S : Sto} {σ : L2.St} {H : Hp} (hS : Sim K mg H S) (hρ : EnvR K mg H ρ σ) {P : List (D × D) → Sto → Prop} {E : QX} (h : wPr l ρ S P E) {G : List (V × V) → Hp → Prop}
    (hk : ∀ ps S1 qs H1, P ps S1 → Sim K mg H1 S1 → PReps K mg H1 ps qs → Fm S H S1 H1 → G qs H1) (hx : ∀ x S1 cls d H1, E x S1 → Sim K mg H1 S1 → XR K mg H1 x cls d → Fm S H S1 H1 → W cls d σ H1), tPairs (lPr l K mg W) σ H G
  | [], _, _, _, _, _, hS, hρ, _, _, h, _, hk, _ => hk [] _ [] _ h hS .nil Fm.refl
  | p :: r, ml, ρ, S, σ, H, hS, hρ, P, E, h, G, hk, hx => by
    refine lG_bind (ml p (by simp)).1 hS hρ h (fun d S1 v H1 h1 s1 e1 r1 f1 => ?_) hx
    refine lG_bind (ml p (by simp)).2 s1 e1 h1 (fun e S2 u H2 h2 s2 e2 r2 f2 => ?_) fun x S2 cls d H2 h2 s2 r2 f2 => hx x S2 cls d H2 h2 s2 r2 (f1.trans f2)
    refine pr_lift (fun q hq => ml q (by simp [hq])) s2 e2 h2 (fun ps S3 qs H3 h3 s3 r3 f3 => ?_) fun x S3 cls d H3 h3 s3 r3 f3 => hx x S3 cls d H3 h3 s3 r3 ((f1.trans f2).trans f3)
    exact hk _ S3 _ H3 h3 s3 (.cons ((r1.fm s1 f2).fm s2 f3) (r2.fm s2 f3) r3) ((f1.trans f2).trans f3)
end
def tupK : D → Bool
  | .tup _ => true
  | _ => false
/-- the dict of some pairs -/
def mkD (acc : List (D × D)) : List (D × D) → Option (List (D × D))
  | [] => some acc
  | (k, d) :: r => if tupK k = true then (keyN k).bind fun n => if n.depth ≤ 8 then mkD (putD acc k n d) r else none else none
def newD (l : List (D × D)) (S : Sto) (Q : D → Sto → Prop) : Prop := ∀ p ep, S p = none → Q (.ref p) (put S p (.dct ep l))
def wDispT (l : List (WE × WE)) : WE := fun ρ S Q E => wPr l ρ S (fun ps S1 => ∃ m, mkD [] ps = some m ∧ m.length ≤ sizeLine ∧ newD m S1 Q) E
theorem mono_DispT {l : List (WE × WE)} (ml : MonoPr l) : Mono (wDispT l) := fun _ _ _ _ _ _ h q x => mono_Pr ml _ _ _ _ _ _ h (fun _ _ ⟨m, e, z, h1⟩ => ⟨m, e, z, fun p ep hp => q _ _ (h1 p ep hp)⟩) x
section
variable {X : Cx} {W : WX} {pins : List (Addr × Obj)} {σ : L2.St} {H : Hp} {s : Shared}
/-- the pairs carried, by what mkD tells -/
theorem mk_carries (I : Inv X pins σ H s) {mg : GW} : ∀ {ps : List (D × D)} {qs : List (V × V)} {ws : List (Value × Value)} {acc m : List (D × D)} {xs : List (NestedKey × Addr × Value)}, PReps X.K mg H ps qs → VV qs ws → mkD acc ps = some m → DReps X.K mg H acc xs → (∀ x ∈ xs, x.1.depth ≤ 8) →
    ∃ rs, CarriesH (nestedKind X.prog X.w) s.heap ws rs ∧ rs.length = ps.length ∧ DReps X.K mg H m (storedAllH xs rs) ∧ ∀ x ∈ storedAllH xs rs, x.1.depth ≤ 8
  | [], _, _, acc, m, xs, .nil, r, h, dr, hd => by
    cases r
    cases h
    exact ⟨[], trivial, rfl, dr, hd⟩
  | (k, d) :: ps, _, _, acc, m, xs, .cons (v := v) (u := u) h1 h2 h3, r, h, dr, hd => by
    cases r with
    | @cons _ b _ bs hb hr =>
      obtain ⟨b1, b2⟩ := b
      obtain ⟨rk, rd⟩ := hb
      simp only [mkD] at h
      split at h
      · rename_i ht
        obtain ⟨n, hn, h⟩ := Option.bind_eq_some_iff.mp h
        split at h
        · rename_i hdep
          obtain ⟨c, rfl⟩ : ∃ c, v = .ref c := by
            cases k with
            | tup l => exact rep_tup h1
            | _ => cases ht
          cases (show b1 = Value.ref c from rk)
          have hd' : ∀ x ∈ storedH xs n c b2, x.1.depth ≤ 8 := fun x hx => by
            rcases stored_mem hx with ⟨y, hy, e, _⟩ | ⟨e, _⟩
            · rw [← e]; exact hd y hy
            · rw [e]; exact hdep
          obtain ⟨rs, c1, c2, c3, c4⟩ := mk_carries I h3 hr h (dr.put hn h1 h2 rd) hd'
          exact ⟨(n, c, b2) :: rs, ⟨rfl, rfl, ⟨(h1.key hn).is I rfl, hdep⟩, c1⟩, by simp [c2], c3, c4⟩
        · cases h
      · cases h
theorem dispT_run {pos : Pos} {keys : List (Option Expr)} {values : List Expr} {trs : List (TE × TE)} (h : PPs X pos keys values trs) (hu : X.A.units + 65 < cLine) (hall : keys.all (·.isSome) = true) (hl : keys.length = values.length) (h0 : keys ≠ []) (h15 : keys.length ≤ 15) {mg : GW} (hw : mg.w = X.w) :
    PE X (.Dict keys values pos) (fun σ H Q => ∀ p, H p = none → tPairs trs σ (upd H p (DctO X.w p 0 [])) fun qs H2 => H2 p = some (DctO X.w p 0 []) ∧ ∃ ps m, PReps X.K mg H2 ps qs ∧ mkD [] ps = some m ∧ m.length ≤ sizeLine ∧ ∀ xs ep, DReps X.K mg H2 m xs → Q (.ref p) (upd H2 p (DctO X.w p ep xs))) := by
  refine ⟨fun pins s σ H Q I q => ?_⟩
  have hn := I.hok.fresh (Nat.le_refl s.heap.objs.size)
  have new0 : ObjOk X.prog X.w (upd H s.heap.objs.size (DctO X.w s.heap.objs.size 0 [])) (s.heap.push { cls := .type "dict", data := .dict #[] }) s.heap.objs.size (DctO X.w s.heap.objs.size 0 []) := by
    have hb := I.big
    refine ⟨⟨beq_eq_false_iff_ne.mpr (Ne.symm (Nat.ne_of_lt hb)), Nat.zero_le _, (fun x hx => by cases hx), List.nodup_nil, _, #[], Heap.get?_push_size _ rfl, ⟨rfl, rfl, rfl⟩, rfl, rfl⟩, ⟨_, Heap.get?_push_size _ rfl⟩, fun g1 g2 ⟨k1, k2, k3, k4, o', es', k5, k6, k7, k8⟩ keep => ⟨k1, k2, k3, k4, o', es', keep _ k5, k6, k7, k8⟩⟩
  have I1 := I.laid (a := s.heap.objs.size) (o := DctO X.w s.heap.objs.size 0 []) (h' := s.heap.push { cls := .type "dict", data := .dict #[] }) (t' := s.toks) (fun _ _ q => Heap.get?_push_of_some _ q) (Nat.le_refl _) new0
  have hnn := pairTrees_length keys values X.env pos hall hl
  have hu' : (nestedKind X.prog X.w).room X.A := by show X.A.units + 8 < cLine; omega
  rw [arm_eval_Dict, zip_pairTrees keys values X.env pos hall hl, dictDisplay_pairs _ (by intro he; rw [he] at hnn; exact h0 (List.length_eq_zero_iff.mp hnn.symm)) (by omega)]
  refine wpAny_bind (wpAny_standAt (wpAny_bind (wpAny_subDictH (knd := nestedKind X.prog X.w) (Q := fun d s' => wpAny (model X.prog X.w) X.A (pure (Value.ref d)) (EP X pins σ Q) X.xe s') hu' (by rw [hnn]; exact h15) ?_)))
  refine thn (h.run pins _ σ _ _ I1 (q _ hn)) fun ws s2 ⟨qs, H2, I2, rel, e, ps, m, pr, hm, hz, q2⟩ => ?_
  obtain ⟨rs, c1, c2, c3, c4⟩ := mk_carries I2 pr rel hm .nil (fun x hx => by cases hx)
  obtain ⟨z, _, _, dd⟩ := dct_of I2 e (fun x hx => by cases hx)
  refine ⟨rs, c1, dd, fun h' tk dd' hs => wpAny_pure ?_⟩
  have he : ∃ q, h'.get? s.heap.objs.size = some q := let ⟨q, _, _, hq, _⟩ := dd'; ⟨q, hq⟩
  have hlen : (storedAllH [] rs).length ≤ sizeLine := by rw [← c3.len]; exact hz
  obtain ⟨ep, new⟩ := dctO_ok z hlen c4 dd'
  exact ⟨.ref s.heap.objs.size, _, d_write (ob := DctO X.w s.heap.objs.size ep (storedAllH [] rs)) I2 (by rw [e]; exact True.intro) hs he (new _), rfl, q2 _ ep c3⟩
/-- a hidden object, changed, comes into the store -/
theorem Sim.take {K : PySem.W.Frag} {mg : GW} {H0 H : Hp} {S0 S : Sto} {p : Addr} {φ : Heap → Prop} {u : HO} {o : MO} (s : Sim K mg H S) (hp : H p = some (.ext φ)) (hs : S p = none) (f : Fm S0 H0 S H) (h0 : H0 p = none) (k : Kp H (upd H p u) → OkO K mg (upd H p u) p o) : Sim K mg (upd H p u) (put S p o) ∧ Fm S0 H0 (put S p o) (upd H p u) := by
  have ne : ∀ {a : Addr} {v : HO}, H a = some v → v ≠ .ext φ → a ≠ p := fun h1 h2 z => by rw [z, hp] at h1; cases h1; exact h2 rfl
  have kp : Kp H (upd H p u) := ⟨fun a xs h => by rw [upd_ne (ne h (by intro z; cases z))]; exact h, fun a q v h => by rw [upd_ne (ne h (by intro z; cases z))]; exact h, fun a fs h => by rw [upd_ne (ne h (by intro z; cases z))]; exact h⟩
  refine ⟨fun a v e => ?_, fun a v e n => ?_⟩
  · by_cases ha : a = p
    · subst ha
      rw [put_same] at e
      cases e
      exact k kp
    · rw [put_ne ha] at e
      exact (s a v e).kp kp (upd_ne ha)
  · have na : a ≠ p := fun z => by rw [z, h0] at e; cases e
    rw [put_ne na, upd_ne na]
    exact f a v e n
theorem pe_dispTW {pos : Pos} {keys : List (Option Expr)} {values : List Expr} {l : List (WE × WE)} (ml : MonoPr l) (h : PPs X pos keys values (lPr l X.K X.gw W)) (hu : X.A.units + 65 < cLine) (hall : keys.all (·.isSome) = true) (hl : keys.length = values.length) (h0 : keys ≠ []) (h15 : keys.length ≤ 15) :
    PE X (.Dict keys values pos) (lE X.K X.gw W (wDispT l)) := (dispT_run h hu hall hl h0 h15 (mg := X.gw) rfl).imp fun σ H Q q p hp => by
  obtain ⟨ρ, S, hS, hρ, h⟩ := q
  have s0 := hS.hidS (o := DctO X.w p 0 []) hp
  have f0 := hS.hid (o := DctO X.w p 0 []) hp
  refine pr_lift ml s0 (hρ.fm hS f0) h (fun ps S1 qs H1 h1 s1 r1 f1 => ?_) fun x S1 cls d H1 h1 s1 r1 f1 => h1 cls d H1 s1 r1 (f0.trans f1)
  obtain ⟨m, hm, hz, h1⟩ := h1
  obtain ⟨g1, g2⟩ := f1 p _ upd_same (hS.free hp)
  refine ⟨g1, ps, m, r1, hm, hz, fun xs ep dr => ?_⟩
  obtain ⟨m1, m2⟩ := Sim.take (u := DctO X.w p ep xs) (o := .dct ep m) s1 g1 g2 (f0.trans f1) hp (fun kp => ⟨xs, upd_same, dr.kp kp⟩)
  exact h1 p ep g2 _ _ m1 (.ref p) m2
/-- {} -/
def wDct0 : WE := fun _ S Q _ => newD [] S Q
theorem mono_Dct0 : Mono wDct0 := fun _ _ _ _ _ _ h q _ => fun p ep hp => q _ _ (h p ep hp)
theorem pe_dct0W {pos : Pos} : PE X (.Dict [] [] pos) (lE X.K X.gw W wDct0) := ⟨fun pins s σ H Q I q => by
  obtain ⟨ρ, S, hS, hρ, h⟩ := q
  have hn := I.hok.fresh (Nat.le_refl s.heap.objs.size)
  have hb := I.big
  have new0 : ObjOk X.prog X.w (upd H s.heap.objs.size (DctO X.w s.heap.objs.size 0 [])) (s.heap.push { cls := .type "dict", data := .dict #[] }) s.heap.objs.size (DctO X.w s.heap.objs.size 0 []) :=
    ⟨⟨beq_eq_false_iff_ne.mpr (Ne.symm (Nat.ne_of_lt hb)), Nat.zero_le _, (fun x hx => by cases hx), List.nodup_nil, _, #[], Heap.get?_push_size _ rfl, ⟨rfl, rfl, rfl⟩, rfl, rfl⟩, ⟨_, Heap.get?_push_size _ rfl⟩, fun g1 g2 ⟨k1, k2, k3, k4, o', es', k5, k6, k7, k8⟩ keep => ⟨k1, k2, k3, k4, o', es', keep _ k5, k6, k7, k8⟩⟩
  obtain ⟨m1, m2⟩ := hS.newG (o := .dct 0 []) (u := DctO X.w s.heap.objs.size 0 []) hn ⟨[], upd_same, .nil⟩
  exact wpAny_Dict_empty ⟨.ref s.heap.objs.size, _, I.laid (a := s.heap.objs.size) (o := DctO X.w s.heap.objs.size 0 []) (t' := s.toks) (fun _ _ q => Heap.get?_push_of_some _ q) (Nat.le_refl _) new0, rfl, h _ 0 (hS.free hn) _ _ m1 (.ref _) m2⟩⟩
def strKs : List (D × D) → Option (List (Str × D))
  | [] => some []
  | (.str k, d) :: r => (strKs r).map ((k, d) :: ·)
  | _ => none
def mkS (l : List (Str × D)) : List (Str × D) := l.foldl (fun acc p => putS acc p.1 p.2) []
def newS (l : List (Str × D)) (S : Sto) (Q : D → Sto → Prop) : Prop := ∀ p, S p = none → Q (.ref p) (put S p (.dcs l))
def wDispS (l : List (WE × WE)) : WE := fun ρ S Q E => wPr l ρ S (fun ps S1 => ∃ m, strKs ps = some m ∧ m.length ≤ 15 ∧ newS (mkS m) S1 Q) E
theorem mono_DispS {l : List (WE × WE)} (ml : MonoPr l) : Mono (wDispS l) := fun _ _ _ _ _ _ h q x => mono_Pr ml _ _ _ _ _ _ h (fun _ _ ⟨m, e, z, h1⟩ => ⟨m, e, z, fun p hp => q _ _ (h1 p hp)⟩) x
theorem strKs_vals {K : PySem.W.Frag} {mg : GW} {H : Hp} : ∀ {ps : List (D × D)} {qs : List (V × V)} {m : List (Str × D)}, PReps K mg H ps qs → strKs ps = some m → ∃ kvs : List (Key × V), qs = kvs.map (fun kv => (kV kv.1, kv.2)) ∧ SReps K mg H m kvs
  | [], _, _, .nil, h => by cases h; exact ⟨[], rfl, .nil⟩
  | (k, d) :: ps, _, m, .cons (u := u) h1 h2 h3, h => by
    cases k with
    | str k =>
      simp only [strKs, Option.map_eq_some_iff] at h
      obtain ⟨m', hm, rfl⟩ := h
      obtain ⟨kvs, e1, e2⟩ := strKs_vals h3 hm
      rw [h1.strV, e1]
      exact ⟨(.inr k, u) :: kvs, rfl, .cons h2 e2⟩
    | _ => cases h
theorem SReps.merge {K : PySem.W.Frag} {mg : GW} {H : Hp} : ∀ {m : List (Str × D)} {kvs : List (Key × V)}, SReps K mg H m kvs → ∀ {acc : List (Str × D)} {xs : List (Key × V)}, SReps K mg H acc xs → SReps K mg H (m.foldl (fun acc p => putS acc p.1 p.2) acc) (mergeK xs kvs)
  | _, _, .nil, _, _, r => r
  | _, _, .cons h t, _, _, r => SReps.merge t (r.put h)
theorem pe_dispSW {pos : Pos} {keys : List (Option Expr)} {values : List Expr} {l : List (WE × WE)} (ml : MonoPr l) (h : PPs X pos keys values (lPr l X.K X.gw W)) (hall : keys.all (·.isSome) = true) (hl : keys.length = values.length) (h0 : keys ≠ []) (h15 : keys.length ≤ 15) :
    PE X (.Dict keys values pos) (lE X.K X.gw W (wDispS l)) := (pe_disp h hall hl h0 h15).imp fun σ H Q q p hp => by
  obtain ⟨ρ, S, hS, hρ, h⟩ := q
  have s0 := hS.hidS (o := .dK []) hp
  have f0 := hS.hid (o := .dK []) hp
  refine pr_lift ml s0 (hρ.fm hS f0) h (fun ps S1 qs H1 h1 s1 r1 f1 => ?_) fun x S1 cls d H1 h1 s1 r1 f1 => h1 cls d H1 s1 r1 (f0.trans f1)
  obtain ⟨m, hm, hz, h1⟩ := h1
  obtain ⟨g1, g2⟩ := f1 p _ upd_same (hS.free hp)
  obtain ⟨kvs, e1, e2⟩ := strKs_vals r1 hm
  refine ⟨g1, kvs, e1, by rw [← e2.len]; exact hz, ?_⟩
  have ne : ∀ {a : Addr} {v : HO}, H1 a = some v → v ≠ .dK [] → a ≠ p := fun k1 k2 z => by rw [z, g1] at k1; cases k1; exact k2 rfl
  have kp : Kp H1 (upd H1 p (.dK (mergeK [] kvs))) := ⟨fun a xs h => by rw [upd_ne (ne h (by intro z; cases z))]; exact h, fun a q v h => by rw [upd_ne (ne h (by intro z; cases z))]; exact h, fun a fs h => by rw [upd_ne (ne h (by intro z; cases z))]; exact h⟩
  refine h1 p g2 _ _ (fun a v e => ?_) (.ref p) (fun a v e n => ?_)
  · by_cases ha : a = p
    · subst ha
      rw [put_same] at e
      cases e
      exact ⟨_, upd_same, (SReps.merge e2 .nil).kp kp⟩
    · rw [put_ne ha] at e
      exact (s1 a v e).kp kp (upd_ne ha)
  · have na : a ≠ p := fun z => by rw [z, hp] at e; cases e
    rw [put_ne na, upd_ne na]
    exact (f0.trans f1) a v e n
end
end Ow

namespace L2
open PySem PySem.Spec PyProof.Rows
section
variable {P : Program} {w : World} {A : Around} {E : Value → Shared → Prop} {s : Shared}
/-- a new set's object -/
abbrev nset (w : World) : Obj := { cls := .type "set", dict := none, data := .set #[] 0 (.fresh 0 0 (!w.params.followText "set-order")) }
theorem set_of_list {l : Addr} {its : Array Value} (ns : List Int) {Q : Value → Shared → Prop} (ah : A.handled = none) (isl : s.heap.IsList l its) (areI : IntsAre its.toList ns) (few : ns.length + 1 < scanBound)
    (fin : ∀ (g : Heap) (tk c : Nat), SetR w g s.heap.objs.size (fun j => decide (j ∈ ns)) c → c ≤ ns.length → (∀ b o, s.heap.get? b = some o → g.get? b = some o) → Q (.ref s.heap.objs.size) { s with heap := g, toks := tk }) :
    wpAny (model P w) A (call (.type "set") [.ref l]) Q E s := by
  have sz : its.size = ns.length := (Array.length_toList (xs := its)).symm.trans (IntsAre.length areI)
  obtain ⟨mc, mt, m1⟩ := F.called_set.mro; have m2 := F.called_set.made; have m3 := F.called_set.sub
  refine wpAny_call (codeAny_of_tree (show wpAny _ _ (callAny (.type "set") _) _ _ _ from ?_))
  refine wpAny_pure ⟨Code.quiet_builtin _ (by decide +kernel), codeAny_builtin F.entry_type_call (by
    rw [Around.under_plain (weight_type_call_type "set" [.ref l] []) rfl]
    have n1 := F.called_set.notType; have n2 := F.called_set.canCreate; have n3 := F.typeCall_set_1 (.ref l)
    repeat (any_goals (first | assumption | wp_step))
    refine codeAny_mono (code_set_led1 (.ref l) (E := E) (Q₁ := fun x z => x = .ref s.heap.objs.size ∧ z = { s with heap := s.heap.push (nset w) }) ⟨rfl, rfl⟩) fun r z hr => ?_
    cases r with
    | error e => exact hr
    | ok q => cases q with
      | ret x =>
        obtain ⟨rfl, rfl⟩ := hr
        have gS : (s.heap.push (nset w)).get? s.heap.objs.size = some (nset w) := Heap.get?_push_size _ rfl
        have ty : Shared.TypeIs { s with heap := s.heap.push (nset w) } (.ref s.heap.objs.size) "set" := ⟨_, gS, rfl⟩
        have i1 := F.called_set.init.lookup; have i2 := F.called_set.init.bind (.ref s.heap.objs.size)
        repeat (any_goals (first | assumption | wp_step))
        refine codeAny_mono (codeAny_call_builtin (R := wants (fun r z => r = .none ∧ ∃ g tk c, z = { s with heap := g, toks := tk } ∧ SetR w g s.heap.objs.size (fun j => decide (j ∈ ns)) c ∧ c ≤ ns.length ∧ ∀ b o, s.heap.get? b = some o → g.get? b = some o) E)
          F.called_set.init.plain F.entry_set_init (check_set_init_1 ty ?_)) fun r2 z2 hz2 => ?_
        · obtain ⟨⟨oc, od, oda, osl⟩, g0, g1, nl, g2⟩ := isl
          simp only at g1 g2
          subst g1; subst g2
          have g3 : (s.heap.push (nset w)).get? l = some { cls := .type "list", dict := od, data := .seq its nl, slots := osl } := Heap.get?_push_of_some _ g0
          have u1 := F.sub_list_set; have u2 := F.sub_list_frozenset
          have u3 : (Value.type "list" == Value.type "dict") = false := by decide
          have isl2 : (s.heap.push (nset w)).IsList l its := ⟨_, g3, rfl, nl, rfl⟩
          unfold Builtin.«set.__init__» noKeywords Builtin.Frozenset.updateFrom
          generalize pq : pyIter = PQ
          wp_walk
          subst pq
          refine wpAny_pyIter_list isl2 (wpAny_bind (wpAny_runValue ?_))
          have lt : l < s.heap.objs.size := Heap.lt_size g0
          have nI : l ≠ (s.heap.push (nset w)).objs.size := by
            rw [Heap.size_push]
            exact Nat.ne_of_lt (Nat.lt_succ_of_lt lt)
          have nS : s.heap.objs.size ∉ [(s.heap.push (nset w)).objs.size, l] := by
            rw [Heap.size_push]
            intro hm
            rcases List.mem_cons.mp hm with h | h
            · exact absurd h (Nat.ne_of_lt (Nat.lt_succ_self _))
            · exact absurd (List.mem_singleton.mp h) (Nat.ne_of_gt lt)
          have vals : ∀ (i : Nat) (v : Value), its[i]? = some v → ∃ k t, ns[i]? = some k ∧ v = .int k t := fun i v hv => by
            have li : i < ns.length := by rw [← sz]; exact (Array.getElem?_eq_some_iff.mp hv).1
            obtain ⟨t, e⟩ := PyProof.Rows.IntsAre.int_at areI i v (by rw [Array.getElem?_toList]; exact hv)
            exact ⟨ns[i], t, List.getElem?_eq_getElem li, by rw [e, List.getD_eq_getElem?_getD, List.getElem?_eq_getElem li]; rfl⟩
          refine set_update_ints ((Walks.list (show A.in1.in1.in1.handled = none by simp [ah]) _ l nI its).toS) s.heap.objs.size nS ns sz few vals (its.size - 0) 0 _ (by omega) (Nat.zero_le _) ⟨⟨_, Heap.get?_push_size _ rfl, rfl, rfl⟩, isl2.push _⟩ ⟨0, Nat.le_refl 0, setR_new_at (Heap.get?_push_of_some _ gS)⟩ ?_
          rintro ⟨g, gg, dd, tk, oo⟩ c mv hc sr
          obtain rfl : gg = s.gens := mv.gens
          obtain rfl : dd = s.drawn := mv.drawn
          obtain rfl : oo = s.os := mv.os
          refine wpAny_pure (show wpAny _ _ (ret Value.none) _ _ _ from wpAny_pure ⟨rfl, g, tk, c, rfl, sr, by rw [← sz]; exact hc, fun b o e => ?_⟩)
          have lb : b < s.heap.objs.size := Heap.lt_size e
          exact mv.heap b o (by
            rw [Heap.size_push]
            intro hm
            rcases List.mem_cons.mp hm with h | h
            · exact absurd h (Nat.ne_of_lt lb)
            · exact absurd (List.mem_singleton.mp h) (Nat.ne_of_lt (Nat.lt_succ_of_lt lb))) (Heap.get?_push_of_some _ (Heap.get?_push_of_some _ e))
        · cases r2 with
          | error e => exact hz2
          | ok q2 => cases q2 with
            | ret y =>
              obtain ⟨rfl, g, tk, c, rfl, a1, a2, a3⟩ := hz2
              repeat (any_goals (first | assumption | wp_step))
              exact fin _ _ _ a1 a2 a3
            | _ => exact hz2.elim
      | _ => exact hr.elim)⟩
end
end L2
namespace L2
open PySem PySem.Spec PyProof.Rows
section
variable {X : Cx}
/-- set(..) of a list or a tuple of ints -/
def rSetI (K : PySem.W.Frag) (w : World) : List V → Hp → VK → Prop := fun xs H Q => ∃ (a : Addr) (ns : List Int), xs = [.ref a] ∧ (SqL K H a (ns.map V.int) ∨ SqT K H a (ns.map V.int)) ∧ ns.length < 1000 ∧
  ∀ p c, H p = none → c ≤ ns.length → Q (.ref p) (upd H p (SetO w p (fun j => decide (j ∈ ns)) c))
theorem cr_setI (hc : X.calm = true) : CallR X (.type "set") (rSetI X.K X.w) := by
  intro pins s σ H xs us Q I r h
  obtain ⟨a, ns, rfl, hs, hn, q⟩ := h
  rw [Vals.ref1 r]
  have fin : ∀ (g : Heap) (tk c : Nat), SetR X.w g s.heap.objs.size (fun j => decide (j ∈ ns)) c → c ≤ ns.length → (∀ b o, s.heap.get? b = some o → g.get? b = some o) → EP X pins σ Q (.ref s.heap.objs.size) { s with heap := g, toks := tk } := fun g tk c sr hc2 k =>
    ⟨.ref _, upd H s.heap.objs.size (SetO X.w s.heap.objs.size (fun j => decide (j ∈ ns)) c), I.laid (t' := tk) k (Nat.le_refl _) (setO_new sr), rfl, q _ c (I.hok.fresh (Nat.le_refl _)) hc2⟩
  rcases hs with hs | hs
  · obtain ⟨its, rv, pl, hz⟩ := I.list hs
    exact set_of_list ns (I.ok.hd hc) pl.isList (by rw [List.toList_toArray]; exact intsAre_of rv) (by unfold scanBound; omega) fin
  · obtain ⟨its, rv, pl, hz⟩ := I.tuple hs
    exact call_set_tupI ns (I.ok.hd hc) pl (by rw [List.toList_toArray]; exact intsAre_of rv) (by unfold scanBound; omega) fin
end
end L2
namespace Ow
open PySem PySem.Spec PyProof.Rows L2
/-- sorted(set(..)): the ints, each once, rising -/
def ssetF : FQ := fun _ l S Q => l.all isIn = true ∧ l.length < 63 ∧ ∀ ns : List Int, ns.Pairwise (· < ·) → (∀ k, k ∈ ns ↔ k ∈ l.map intOf) → newL (ns.map .int) S Q
theorem m_sset : MonoQ ssetF := fun _ _ _ _ _ ⟨a, b, c⟩ q => ⟨a, b, fun ns h1 h2 => (c ns h1 h2).mono q⟩
section
variable {X : Cx} {W : WX} {e : Expr} {q : WQ} {p p2 pos pos2 : Pos}
theorem pe_ssetW (hc : X.calm = true) (mq : Mono q) (hq : PE X e (lQ X.K X.gw W q)) (he : plainE e = true) (hg : Gl X "sorted") (hm : X.mg "sorted" = none) (hg2 : Gl X "set") (hm2 : X.mg "set" = none) :
    PE X (.Call (.Name "sorted" p) [.Call (.Name "set" p2) [e] [] pos2] [] pos) (lE X.K X.gw W (wQf ssetF q)) := by
  have h1 := pe_callTy (x := "set") (p := p2) (pos := pos2) (cr_setI hc) hg2 hm2 rfl (pa_cons hq pa_nil (star_cons he)) (by decide) rfl (star_cons he) rfl
  have h2 := pe_callB (x := "sorted") (p := p) (pos := pos) (cr_sortedSet hc) hg hm rfl (pa_cons h1 pa_nil rfl) (by decide) rfl rfl rfl
  refine h2.imp fun σ H Q z => ?_
  obtain ⟨ρ, S, hS, hρ, z⟩ := z
  refine lG_bind mq hS hρ z (fun a S1 v H1 z1 s1 e1 r1 f1 => ?_) fun x S1 cls d H1 z1 s1 r1 f1 => z1 cls d H1 s1 r1 f1
  obtain ⟨b, l⟩ := a
  obtain ⟨y1, y2, y3⟩ := z1
  obtain ⟨pa, vs, rfl, hsq, rr⟩ := r1
  have ev := reps_ints rr y1
  have hlen : (l.map intOf).length < 63 := by rw [List.length_map]; exact y2
  refine ⟨pa, l.map intOf, rfl, ?_, by omega, fun ps c hp hcl => ?_⟩
  · rw [← ev]
    cases b with
    | true => exact .inr hsq
    | false => exact .inl hsq
  · refine ⟨ps, (fun j => decide (j ∈ l.map intOf)), c, rfl, by simp [upd], by omega, fun ns pl h3 h4 h5 h6 => ?_⟩
    have s2 := Sim.hidS (o := SetO X.w ps (fun j => decide (j ∈ l.map intOf)) c) s1 hp
    have f2 := Sim.hid (o := SetO X.w ps (fun j => decide (j ∈ l.map intOf)) c) s1 hp
    exact new_lst (X := X) s2 (ints_reps ns) ((y3 ns h3 fun k => by rw [h4 k, decide_eq_true_eq]).mono fun x S' z y H' a1 a2 a3 => z y H' a1 a2 (f1.trans (f2.trans a3))) pl h6
end
end Ow

namespace Ow
open PySem PySem.Spec PyProof.Rows L2
section
variable {X : Cx} {e : Expr} {es : List Expr} {ta : TA} {p1 p2 pos : Pos}
end
/-- what an own __init__ does: one field -/
def spI (C : Addr) (f : Str) : Sp := fun vs H Q _ => ∃ a v, vs = [.ref a, v] ∧ H a = some (exo a C none) ∧ ∀ dx, H dx = none → dx ≠ a → Q .non (upd (upd H dx (exd dx [(f, v)])) a (exo a C (some dx)))
/-- what the written part says of such a class -/
structure XiK (K : PySem.W.Frag) (mg : Str → Option Value) (c f : Str) : Prop where
  cls : OexC K (He.ga K c)
  ini : PySem.W.findIn K (.ref (He.ga K c)) "__init__" = some (some (.ref (He.fAd K (c, some "__init__"))))
  tyI : PySem.W.typeIn K (.ref (He.fAd K (c, some "__init__"))) = some (.type "function")
  fld : PySem.W.findIn K (.ref (He.ga K c)) f = some none
  rd : ClX.CRead K (He.ga K "WayError") (.type "type")
  wi : PySem.W.findCls K (.ref (He.ga K "WayError")) (.type "type") "__init__" = some (.val (.builtin "ValueError.__init__"))
  glo : mg c = some (.ref (He.ga K c))
  gloW : mg "WayError" = some (.ref (He.ga K "WayError"))
section
variable {X : Cx} {c f m y : Str} {j : Nat} {p1 p2 p3 p4 p5 p6 p7 p8 p9 p10 : Pos}
end
/-- raise C(e), C's __init__ keeping one field -/
def sRaiseF (c f : Str) (te : WE) : WS := fun N ρ S => te ρ S (fun d S1 => N.xc ⟨c, some (f, d)⟩ ρ S1) fun x S1 => N.xc x ρ S1
theorem monoS_RaiseF {c f : Str} {te : WE} (me : Mono te) : MonoS (sRaiseF c f te) := fun N N' ρ S h q => me _ _ _ _ _ _ h (fun _ _ z => q.xc _ _ _ z) fun _ _ z => q.xc _ _ _ z
section
variable {X : Cx} {W : WX} {c f : Str} {e : Expr} {te : WE} {p pos pos' : Pos} {CX : CXT} {k : Nat} {fd : FuncData} {y : Str} {xs : List Str}
theorem ps_raiseFW (xi : XiK X.K X.mg c f) (xc : ExcC X.K (He.ga X.K c)) (xf : ExF X.K X.gw c f) (F1 : FnOk X.prog X.w X.K X.mg X.base CX k (He.fAd X.K (c, some "__init__")) fd ["self", y] (spI (He.ga X.K c) f)) (hr : Room (k + 1) X.A) (hb : Binds X.K fd ["self", y] []) (hx : Passes CX X (fun _ _ _ => False))
    (hc : X.calm = true) (tk : Takes X W) (hg : Gl X c) (hdb : (c == ("__debug__" : Str)) = false) (me : Mono te) (he : PE X e (lE X.K X.gw W te)) (hs : starEach [e] X.env = [(false, eval e X.env)]) :
    PS X (.Raise (some (.Call (.Name c p) [e] [] pos)) none pos') (lS X.K X.gw W (sRaiseF c f te)) := by
  refine (ps_raise hc tk (pmk_oex xi.cls xi.ini xi.tyI F1 hr hb .nil hx hg xi.glo (pa_cons he pa_nil (by rw [hs]; rfl)) hdb (by rw [hs]; rfl) rfl)).imp fun D σ H q => ?_
  obtain ⟨ρ, S, hS, hρ, h⟩ := q
  refine lG_bind me hS hρ h (fun d S1 v H1 h1 s1 e1 r1 f1 => ?_) fun x S1 cls dd H1 h1 s1 r1 f1 => h1 cls dd σ H1 s1 (hρ.fm hS f1) r1 f1
  refine ⟨(show 1 ≤ 1000 by decide), fun a na => ⟨a, v, rfl, upd_same, fun dx hdx ne => ⟨rfl, dx, [(f, v)], upd_same, by rw [upd_ne ne, upd_same], ?_, ?_⟩⟩⟩
  · rw [upd_ne ne] at hdx
    exact hdx
  · rw [upd_ne ne] at hdx
    have eh : upd (del (upd (upd (upd H1 a (exo a (He.ga X.K c) none)) dx (exd dx [(f, v)])) a (exo a (He.ga X.K c) (some dx))) a) dx (.xd [(f, v)]) = upd H1 dx (.xd [(f, v)]) := by
      funext b
      by_cases hb : b = dx
      · subst hb; rw [upd_same, upd_same]
      · rw [upd_ne hb, upd_ne hb]
        by_cases ha : b = a
        · subst ha; rw [del_same, na]
        · rw [del_ne ha, upd_ne ha, upd_ne hb, upd_ne ha]
    rw [eh]
    have s2 : Sim X.K X.gw (upd H1 dx (.xd [(f, v)])) S1 := s1.hidS hdx
    have f2 : Fm S1 H1 S1 (upd H1 dx (.xd [(f, v)])) := s1.hid hdx
    exact h1 (.ref (He.ga X.K c)) (some dx) σ _ s2 (e1.fm s1 f2) ⟨⟨_, xi.glo, rfl, xc⟩, xf, dx, v, rfl, upd_same, r1.fm s1 f2⟩ (f1.trans f2)
end
end Ow

namespace L2
open PySem PySem.Spec PyProof.Rows
section
variable {X : Cx} {pins : List (Addr × Obj)} {σ : St} {H : Hp} {sI s s' : Shared} {B : Heap}
/-- back on the ground, the exception's object tracked, locked -/
theorem Inv.landedA {a : Addr} {oe : Obj} (I : Inv X pins σ H sI) (nb : ∀ b o, sI.heap.get? b = some o → b ∉ frs X.stack → B.get? b = some o) (st : B.StaysIn s'.heap) (up : sI.heap.UpToSlots s'.heap) (os : s'.os = sI.os) (ag : AllBare s'.gens)
    (na : H a = none) (hn : B.get? a = none) (ha : s'.heap.get? a = some oe) (nfr : a ∉ frs X.stack) : Inv X pins σ (upd H a (.frz oe (.ext fun _ => True))) s' := by
  have nf : ∀ b ∈ frs X.stack, ∀ o, sI.heap.get? b = some o → ∃ sl, s'.heap.get? b = some { o with slots := sl } := fun b hb o e => by
    obtain ⟨_, o', e', hd⟩ := I.stack.mem hb
    rw [e] at e'; cases e'
    exact up b o e hd
  have ne : ∀ b o, sI.heap.get? b = some o → b ≠ a := fun b o e z => by
    by_cases hb : b ∈ frs X.stack
    · exact nfr (z ▸ hb)
    · have q := nb b o e hb
      rw [z, hn] at q; cases q
  have nt : ∀ b u, H b = some u → b ≠ a := fun b u e z => by rw [z, na] at e; cases e
  have hk : HOk X.prog X.w H s'.heap := (I.inGround nb).kept st
  have J := I.call (ch := []) (h' := s'.heap) (g' := s'.gens) (t' := s'.toks) (d' := s'.drawn) (H' := upd H a (.frz oe (.ext fun _ => True)))
    ⟨fun b o e _ hb _ => st b o (nb b o e hb), fun b o e _ hb _ => nf b hb o e, fun b o e n _ => by rw [upd_ne (ne b o e)]; exact n, fun b o e _ => by
      by_cases hb : b ∈ frs X.stack
      · obtain ⟨sl, q⟩ := nf b hb o e
        exact ⟨_, q⟩
      · exact ⟨o, st b o (nb b o e hb)⟩, fun b _ e => by rw [upd_ne (nt _ _ e)]; exact e, fun b _ _ e => by rw [upd_ne (nt _ _ e)]; exact e, fun b ps e => ⟨#[], by rw [upd_ne (nt _ _ e), e]; simp⟩⟩
    (fun b o q => by
      by_cases hb : b = a
      · subst hb
        rw [upd_same] at q
        cases q
        exact ⟨ha, True.intro, ⟨oe, ha⟩, fun _ _ _ _ => True.intro⟩
      · rw [upd_ne hb] at q
        exact (hk b o q).stay (fun _ _ _ z => z) (fun c hc => by rw [upd_ne (nt _ _ hc)]; exact hc) fun c xs hc => by rw [upd_ne (nt _ _ hc)]; exact hc) ag (fun _ z => nomatch z)
  obtain ⟨a1, a2, a3, a4, a5⟩ := s'
  have e5 : a5 = sI.os := os
  subst e5
  exact J
/-- the context of an except suite -/
abbrev Cx.suiteA (X : Cx) (a : Addr) : Cx := { X with A := X.A.mark (some (.ref a)), calm := false, xe := fun _ _ => False }
theorem Cx.Ok.suiteA {X : Cx} (ok : X.Ok) (a : Addr) : (X.suiteA a).Ok :=
  ⟨ok.mod, ok.kind, ok.glob, ok.blt, ok.above, ok.inj, ok.has, ok.cab, (fun z => absurd (show false = true from z) Bool.false_ne_true), ok.frames, ok.stk, ok.exf, ok.bs, ok.bsz, ok.noex, ok.exfs, ok.funs, ok.frf⟩
theorem Inv.suiteA (I : Inv X pins σ H s) (a : Addr) : Inv (X.suiteA a) pins σ H s :=
  ⟨I.ok.suiteA _, I.os, I.bare, I.base, I.loc, I.cell, I.free, I.freeC, I.pin, I.hok, I.len⟩
theorem Inv.unsuiteA {a : Addr} (I : Inv (X.suiteA a) pins σ H s) (ok : X.Ok) : Inv X pins σ H s :=
  ⟨ok, I.os, I.bare, I.base, I.loc, I.cell, I.free, I.freeC, I.pin, I.hok, I.len⟩
end
/-- what the clause 'except x as n' wishes of an exception of the body, which is tracked then -/
def wAd (K : PySem.W.Frag) (c : Value) (i : Nat) (ts : TS) (Wout : WX) (D : Ends) : WX := fun cls d σ H =>
  ∃ b, PySem.W.exmOne K cls c = some b ∧ (b = true → ∀ (a : Addr) (oe : Obj) (vs : Array Value), H a = none → oe.cls = cls → oe.dict = d → oe.data = .fields vs →
    ts { nx := fun σ' H' => D.nx (σ'.set i none) H', rt := D.rt, bk := fun σ' H' => D.bk (σ'.set i none) H', ct := fun σ' H' => D.ct (σ'.set i none) H' } (σ.set i (some (.ref a))) (upd H a (.frz oe (.ext fun _ => True)))) ∧
    (b = false → Wout cls d σ H)
section
variable {X : Cx} {x n : Str} {c : Value} {i : Nat} {body suite : List Stmt} {b₀ : Stmt} {np pos pos' : Pos} {tb : WX → TS} {ts : TS} {Wout : WX}
theorem ps_try_ad (hs : X.stack = X.env :: X.outer) (hf : X.env.frame = some X.env.locals) (hN : X.N.Nodup) (hi : X.N[i]? = some n) (hln : X.env.kindOf n = some .local) (hc : Names X x c) (tk : Takes X Wout)
    (hb : ∀ (W : WX) (pn : List (Addr × Obj)) (xe : Value → Shared → Prop), Takes (X.tr pn xe) W → PassesOwn (model X.prog X.w) X.A X.env xe → PSs (X.tr pn xe) body (tb W))
    (hsu : ∀ a : Addr, PSs (X.suiteA a) (b₀ :: suite) ts) :
    PS X (.Try body [.ExceptHandler (some (.Name x np)) (some n) (b₀ :: suite) pos'] [] [] pos) (fun D σ H => tb (wAd X.K c i ts Wout D) D σ H) := by
  refine ⟨fun pins s σ H D I h => ?_⟩
  have ok := I.ok
  have hfr : X.A.frames = some (X.env :: X.outer) := by rw [ok.frames, hs]
  have hloc : Loc X.env.scope n := .inl hln
  refine wpAny_Try_except ?_
  refine wpAny_mono ((hb (wAd X.K c i ts Wout D) (X.pn ++ pins) (fun e s₁ => wpAny (model X.prog X.w) X.A (noteFrame e X.env) (fun _ s₂ => wpAny (model X.prog X.w) X.A (setFlight e none) (fun _ s₃ =>
    wpAny (model X.prog X.w) X.A (handleBy e X.env [.ExceptHandler (some (.Name x np)) (some n) (b₀ :: suite) pos']) (SP X pins D) X.xe s₃) X.xe s₂) X.xe s₁) (fun u s' xx => ?_) PassesOwn.looking).run [] s σ H D (I.toTry _) h) (fun f s1 hsp => ?_) (fun e s1 he => he)
  · obtain ⟨a, B, sI, pins', σ', H', cls, d, rfl, J', nb, up, sky, na, os, ag, b, hb1, hyes, hno⟩ := xx
    have J : Inv X pins σ' H' sI := J'.ofTry ok
    have sky' : Sky B (X.env :: X.outer) a (Zc cls d) X.env.locals s'.heap := by rw [← hs]; exact sky
    show wpAny (model X.prog X.w) X.A (noteFrame (.ref a) X.env) _ _ _
    refine Sky.land Zc.steady hfr hf sky' fun h3 fl3 up3 => ?_
    have J3 : Inv X pins σ' H' { s' with heap := h3 } := J.landed nb fl3.1 (up.trans up3) os ag
    obtain ⟨oe3, vs3, he3, hz3, hd3⟩ := fl3.there
    have notFr : ∀ {h : Heap} {o : Obj} {vs : Array Value}, h.FunFrames B (X.env :: X.outer) → h.get? a = some o → o.data = .fields vs → a ∉ frs (X.env :: X.outer) := fun {h o vs} ff e dd hm => by
      obtain ⟨_, o', e', hnf⟩ := ff.mem hm
      rw [e] at e'; cases e'
      exact hnf _ dd
    have nfr := notFr fl3.2.2.1 he3 hd3
    have nfS : a ∉ frs X.stack := by rw [hs]; exact nfr
    have S3 := J3.suiteA a
    refine wpAny_handleBy_cons (codeAny_handlers_test ?_) (by intro q; cases q)
    have LT : PySem.W.Looks (model X.prog X.w) h3 (typeOf (.ref a)) cls := fun A Q E s k q => wpAny_typeOf_ref (k _ _ he3) (by rw [hz3.1]; exact q)
    have LM := PySem.W.exm_one (M := model X.prog X.w) (J3.kIn) LT hb1
    have test : ∀ {Q : Value → Shared → Prop} {E : Value → Shared → Prop}, Q c { s' with heap := h3 } → wpAny (model X.prog X.w) (X.A.mark (some (.ref a))) (eval (.Name x np) X.env) Q E { s' with heap := h3 } := fun {Q E} q => by
      obtain ⟨hg, hdbg, hm | ⟨hm, hv, hnn⟩⟩ := hc
      · exact ld_glob (X := X.suiteA a) S3 hg hm q hdbg
      · exact ld_blt (X := X.suiteA a) S3 hg hm hv q hnn hdbg
    refine test (LM.here ?_)
    cases b with
    | true =>
      refine codeAny_handlers_suite_as ?_
      refine HandSPX.lands_againZ fl3 fun h4 fl4 up4 => ?_
      obtain ⟨oe4, vs4, he4, hz4, hd4⟩ := fl4.there
      have J4 : Inv X pins σ' (upd H' a (.frz oe4 (.ext fun _ => True))) { s' with heap := h4 } := J.landedA nb fl4.1 ((up.trans up3).trans up4) os ag na fl4.2.1 he4 nfS
      have S4 := J4.suiteA a
      refine store_ok (X := X.suiteA a) (v := .ref a) S4 hN hi hloc rfl (fun s5 S5 => ?_) (.inr hln)
      refine wpAny_mono ((hsu a).run _ s5 _ _ _ S5 (hyes rfl a oe4 vs4 na hz4.1 hz4.2 hd4)) (fun f s6 hsp => ?_) (fun _ _ z => False.elim z)
      have end_ : ∀ {σ6 : St} {H6 : Hp} {Q : Shared → Prop}, Inv (X.suiteA a) pins σ6 H6 s6 → (∀ s7, Inv X pins (σ6.set i none) H6 s7 → Q s7) →
          wpAny (model X.prog X.w) X.A (do bindName X.env n .none; unbindBehindTheSuite X.env n pos') (fun _ s7 => Q s7) X.xe s6 := fun {σ6 H6 Q} S6 hq => gone_ok (S6.unsuiteA ok) hN hi hln hq
      cases f with
      | next =>
        obtain ⟨σ6, H6, S6, q6⟩ := hsp
        exact end_ S6 fun s7 J7 => ⟨_, _, J7, q6⟩
      | brk =>
        obtain ⟨σ6, H6, S6, q6⟩ := hsp
        exact end_ S6 fun s7 J7 => ⟨_, _, J7, q6⟩
      | cont =>
        obtain ⟨σ6, H6, S6, q6⟩ := hsp
        exact end_ S6 fun s7 J7 => ⟨_, _, J7, q6⟩
      | ret u =>
        obtain ⟨v6, σ6, H6, S6, r6, q6⟩ := hsp
        exact end_ S6 fun s7 J7 => ⟨_, _, _, J7, r6, q6⟩
    | false =>
      show wpAny _ X.A (handleBy (.ref a) X.env []) _ _ _
      refine wpAny_handleBy_nil ?_
      obtain ⟨k1, k2, k3, oe, vs, T, oT, ts', he, hz, hd, h1, hr⟩ := id fl3
      unfold PySem.passOn
      refine wpAny_bind (wpAny_field he hd h1 ?_)
      rw [if_neg (show ¬ ((Value.ref T == Value.none) = true) from by simp)]
      have fin : wpAny (model X.prog X.w) X.A (setFlight (.ref a) X.env.frame) (fun _ s4 => wpAny (model X.prog X.w) X.A (throw (.ref a) : Sem Flow) (SP X pins D) X.xe s4) X.xe { s' with heap := h3 } := by
        rw [hf]
        refine HandSPX.setFlight_upZ fl3 fun h4 hh4 up4 => wpAny_throw (tk _ _ ?_)
        exact ⟨a, B, sI, pins, σ', H', cls, d, rfl, J, nb, (up.trans up3).trans up4, .inr (.inr (by rw [hs]; exact hh4)), na, os, ag, hno rfl⟩
      first
        | exact wpAny_bind (wpAny_pure (wpAny_bind fin))
        | exact wpAny_bind fin
  · cases f with
    | next =>
      obtain ⟨σ', H', J', q⟩ := hsp
      exact wpAny_execs_nil ⟨σ', H', J'.ofTry ok, q⟩
    | brk =>
      obtain ⟨σ', H', J', q⟩ := hsp
      exact ⟨σ', H', J'.ofTry ok, q⟩
    | cont =>
      obtain ⟨σ', H', J', q⟩ := hsp
      exact ⟨σ', H', J'.ofTry ok, q⟩
    | ret u =>
      obtain ⟨v, σ', H', J', r, q⟩ := hsp
      exact ⟨v, σ', H', J'.ofTry ok, r, q⟩
end
end L2
namespace Ow
open PySem PySem.Spec PyProof.Rows L2
/-- what the written part says of the exceptions' classes -/
structure XcK (K : PySem.W.Frag) (mg : Str → Option Value) (xs : List Str) : Prop where
  at_ : ∀ c ∈ xs, mg c = some (.ref (He.ga K c)) ∧ ExcC K (He.ga K c)
  kit : ∀ c ∈ xs, ∀ y ∈ xs, PySem.W.kitOne K (.ref (He.ga K c)) (.ref (He.ga K y)) = some (subX c y)
  exm : ∀ c ∈ xs, ∀ y ∈ xs, PySem.W.exmOne K (.ref (He.ga K c)) (.ref (He.ga K y)) = some (subX c y)
  ve : ∀ c ∈ xs, PySem.W.kitOne K (.ref (He.ga K c)) (.type "ValueError") = some true
  ty : ∀ T ∈ tyL, ∀ y ∈ xs, PySem.W.kitOne K (.type T) (.ref (He.ga K y)) = some false
  tv : ∀ T ∈ tyL, PySem.W.kitOne K (.type T) (.type "ValueError") = some false
  mkr : ∀ c ∈ xs, ownI.contains c = false → PySem.W.excIn K (He.ga K c) He.veBase "ValueError.__new__" = true ∧ PySem.W.keepIn K (.ref (He.ga K c)) = true ∧ PySem.W.subIn K (.ref (He.ga K c)) (.type "BaseException") = some true ∧ PySem.W.typeIn K (.ref (He.ga K c)) = some (.type "type")
  ini : ∀ c ∈ xs, ownI.contains c = true → XiK K mg c (fldI c)
theorem mem_of_contains {xs : List Str} {c : Str} (h : xs.contains c = true) : c ∈ xs := by simpa using h
/-- a caught exception as data -/
def exD (x : Xn) : D := match x.arg with
  | none => .ex0 x.cls
  | some (f, d) => .ex1 x.cls f d
def sRaise (c : Str) : WS := fun N ρ S => N.xc ⟨c, none⟩ ρ S
/-- what is wanted behind an except suite: its name goes -/
def ndSu (N : Nd) (i : Nat) : Nd := ⟨fun ρ S => N.nx (ρ.set i none) S, N.rt, fun ρ S => N.bk (ρ.set i none) S, fun ρ S => N.ct (ρ.set i none) S, fun _ _ _ => False⟩
def sTry (xs : List Str) (x : Str) (i : Nat) (body suite : WS) : WS := fun N ρ S => body { N with xc := fun e ρ' S' => xs.contains e.cls = true ∧ (if subX e.cls x = true then suite (ndSu N i) (ρ'.set i (some (exD e))) S' else N.xc e ρ' S') } ρ S
def sTryN (xs : List Str) (x : Str) (body suite : WS) : WS := fun N ρ S => body { N with xc := fun e ρ' S' => xs.contains e.cls = true ∧ (if subX e.cls x = true then suite { N with xc := fun _ _ _ => False } ρ' S' else N.xc e ρ' S') } ρ S
theorem monoS_Raise {c : Str} : MonoS (sRaise c) := fun _ _ _ _ h q => q.xc _ _ _ h
theorem monoS_Try {xs : List Str} {x : Str} {i : Nat} {t u : WS} (mt : MonoS t) (mu : MonoS u) : MonoS (sTry xs x i t u) := fun N N' ρ S h q => mt _ _ _ _ h ⟨q.nx, q.rt, q.bk, q.ct, fun e ρ' S' z => by
  refine ⟨z.1, ?_⟩
  by_cases hb : subX e.cls x = true
  · have z2 := z.2
    rw [if_pos hb] at z2 ⊢
    exact mu _ _ _ _ z2 ⟨fun _ _ y => q.nx _ _ y, q.rt, fun _ _ y => q.bk _ _ y, fun _ _ y => q.ct _ _ y, fun _ _ _ y => y⟩
  · have z2 := z.2
    rw [if_neg hb] at z2 ⊢
    exact q.xc _ _ _ z2⟩
theorem monoS_TryN {xs : List Str} {x : Str} {t u : WS} (mt : MonoS t) (mu : MonoS u) : MonoS (sTryN xs x t u) := fun N N' ρ S h q => mt _ _ _ _ h ⟨q.nx, q.rt, q.bk, q.ct, fun e ρ' S' z => by
  refine ⟨z.1, ?_⟩
  by_cases hb : subX e.cls x = true
  · have z2 := z.2
    rw [if_pos hb] at z2 ⊢
    exact mu _ _ _ _ z2 ⟨q.nx, q.rt, q.bk, q.ct, fun _ _ _ y => y⟩
  · have z2 := z.2
    rw [if_neg hb] at z2 ⊢
    exact q.xc _ _ _ z2⟩
section
variable {X : Cx} {W : WX} {xs : List Str} {x c n m : Str} {i j : Nat} {t u : WS} {p p2 pos pos' np : Pos} {body suite : List Stmt} {b₀ : Stmt}
theorem ps_raiseW (xk : XcK X.K X.mg xs) (hx : xs.contains c = true) (ho : ownI.contains c = false) (hc : X.calm = true) (tk : Takes X W) (hg : Gl X c) (hdb : (c == ("__debug__" : Str)) = false) :
    PS X (.Raise (some (.Call (.Name c p) [.Constant (.str m) j p2] [] pos)) none pos') (lS X.K X.gw W (sRaise c)) := by
  have hm := mem_of_contains hx
  obtain ⟨k1, k2, k3, k4⟩ := xk.mkr c hm ho
  refine (ps_raise hc tk (pmk_own PySem.F.excBase_ValueError k1 (xk.at_ c hm).1 k2 (raises_own k3 k4) hg hdb)).imp fun D σ H q => ?_
  obtain ⟨ρ, S, hS, hρ, h⟩ := q
  exact h (.ref (He.ga X.K c)) none σ H hS hρ ⟨⟨_, (xk.at_ c hm).1, rfl, (xk.at_ c hm).2⟩, rfl⟩ Fm.refl
/-- a class's own __init__ stands and keeps its promise -/
def InI (X : Cx) (c : Str) : Prop := ∃ (fd : FuncData) (k : Nat) (y : Str), FnOk X.prog X.w X.K X.mg X.base (CX X.prog X.w) k (He.fAd X.K (c, some "__init__")) fd ["self", y] (spI (He.ga X.K c) (fldI c)) ∧ Binds X.K fd ["self", y] [] ∧ Room (k + 1) X.A
theorem ps_raiseI {e : Expr} {te : WE} (xk : XcK X.K X.mg xs) (hx : xs.contains c = true) (ho : ownI.contains c = true) (hi : InI X c) (hc : X.calm = true) (tk : Takes X W) (hg : Gl X c) (hdb : (c == ("__debug__" : Str)) = false) (me : Mono te) (he : PE X e (lE X.K X.gw W te)) (hs : plainE e = true) :
    PS X (.Raise (some (.Call (.Name c p) [e] [] pos)) none pos') (lS X.K X.gw W (sRaiseF c (fldI c) te)) := by
  obtain ⟨fd, k, y, hF, hb, hr⟩ := hi
  have xi := xk.ini c (mem_of_contains hx) ho
  refine ps_raiseFW xi (xk.at_ c (mem_of_contains hx)).2 (fun C h => ?_) hF hr hb passL hc tk hg hdb me he (star_cons hs)
  have h2 : X.mg c = some (.ref C) := h
  rw [xi.glo] at h2
  cases h2
  exact xi.fld
theorem exm_at (xk : XcK X.K X.mg xs) (hx : xs.contains x = true) {e : Xn} {cls : Value} {d : Option Addr} {H : Hp} (he : xs.contains e.cls = true) (r : XR X.K X.gw H e cls d) : PySem.W.exmOne X.K cls (.ref (He.ga X.K x)) = some (subX e.cls x) := by
  obtain ⟨⟨C, h1, h2, _⟩, _⟩ := r
  have h3 := (xk.at_ e.cls (mem_of_contains he)).1
  have h4 : X.mg e.cls = some (.ref C) := h1
  rw [h3] at h4
  cases h4
  rw [h2]
  exact xk.exm _ (mem_of_contains he) _ (mem_of_contains hx)
theorem rep_exD {e : Xn} {cls : Value} {d : Option Addr} {S : Sto} {H : Hp} {a : Addr} {oe : Obj} {vs : Array Value} (s : Sim X.K X.gw H S) (r : XR X.K X.gw H e cls d) (na : H a = none) (h1 : oe.cls = cls) (h2 : oe.dict = d) (h3 : oe.data = .fields vs) :
    Rep X.K X.gw (upd H a (ExV oe)) (exD e) (.ref a) := by
  obtain ⟨⟨C, g1, g2, g3⟩, g4⟩ := r
  obtain ⟨ec, arg⟩ := e
  cases arg with
  | none => exact .ex0 ⟨C, vs, g1, g3, h1.trans g2, h2.trans g4, h3⟩ upd_same
  | some q =>
    obtain ⟨f, dv⟩ := q
    obtain ⟨hf, dd, v, e1, e2, e3⟩ := g4
    exact .ex1 ⟨C, vs, g1, g3, h1.trans g2, h2.trans e1, h3⟩ hf upd_same (by rw [upd_ne (ne_of_none e2 na)]; exact e2) (e3.fm s (s.hid na))
theorem ps_tryW (xk : XcK X.K X.mg xs) (hx : xs.contains x = true) (hs : X.stack = X.env :: X.outer) (hf : X.env.frame = some X.env.locals) (hN : X.N.Nodup) (hi : X.N[i]? = some n) (hln : X.env.kindOf n = some .local) (hg : Gl X x) (hdb : (x == ("__debug__" : Str)) = false) (tk : Takes X W)
    (mt : MonoS t) (mu : MonoS u)
    (hb : ∀ (W : WX) (pn : List (Addr × Obj)) (xe : Value → Shared → Prop), Takes (X.tr pn xe) W → PassesOwn (model X.prog X.w) X.A X.env xe → PSs (X.tr pn xe) body (lS X.K X.gw W t))
    (hsu : ∀ a : Addr, PSs (X.suiteA a) (b₀ :: suite) (lS X.K X.gw (fun _ _ _ _ => False) u)) :
    PS X (.Try body [.ExceptHandler (some (.Name x np)) (some n) (b₀ :: suite) pos'] [] [] pos) (lS X.K X.gw W (sTry xs x i t u)) :=
  (ps_try_ad (c := .ref (He.ga X.K x)) (tb := fun W => lS X.K X.gw W t) (ts := lS X.K X.gw (fun _ _ _ _ => False) u) hs hf hN hi hln ⟨hg, hdb, .inl (xk.at_ x (mem_of_contains hx)).1⟩ tk hb hsu).imp fun D σ H q => by
    obtain ⟨ρ, S, hS, hρ, h⟩ := q
    refine ⟨ρ, S, hS, hρ, mt _ _ _ _ h ⟨fun _ _ z => z, fun _ _ z => z, fun _ _ z => z, fun _ _ z => z, fun e ρ' S' z cls d σ' H' s' e' r' f' => ?_⟩⟩
    obtain ⟨he, z⟩ := z
    refine ⟨subX e.cls x, exm_at xk hx he r', fun hb a oe vs na h1 h2 h3 => ?_, fun hb => ?_⟩
    · rw [if_pos hb] at z
      have s2 : Sim X.K X.gw (upd H' a (ExV oe)) S' := s'.hidS na
      have f2 : Fm S' H' S' (upd H' a (ExV oe)) := s'.hid na
      refine ⟨_, S', s2, (e'.fm s' f2).set i (rep_exD s' r' na h1 h2 h3), mu _ _ _ _ z ?_⟩
      have f3 := f'.trans f2
      exact ⟨fun ρ3 S3 y σ3 H3 s3 e3 f4 => y _ H3 s3 (e3.unset i) (f3.trans f4), fun d3 S3 y v3 H3 s3 r3 f4 => y v3 H3 s3 r3 (f3.trans f4), fun ρ3 S3 y σ3 H3 s3 e3 f4 => y _ H3 s3 (e3.unset i) (f3.trans f4), fun ρ3 S3 y σ3 H3 s3 e3 f4 => y _ H3 s3 (e3.unset i) (f3.trans f4), fun _ _ _ y => y.elim⟩
    · rw [if_neg (by rw [hb]; exact Bool.false_ne_true)] at z
      exact z cls d σ' H' s' e' r' f'
theorem ps_tryNW (xk : XcK X.K X.mg xs) (hx : xs.contains x = true) (hs : X.stack = X.env :: X.outer) (hf : X.env.frame = some X.env.locals) (hg : Gl X x) (hdb : (x == ("__debug__" : Str)) = false) (tk : Takes X W)
    (mt : MonoS t) (mu : MonoS u)
    (hb : ∀ (W : WX) (pn : List (Addr × Obj)) (xe : Value → Shared → Prop), Takes (X.tr pn xe) W → PassesOwn (model X.prog X.w) X.A X.env xe → PSs (X.tr pn xe) body (lS X.K X.gw W t))
    (hsu : ∀ (a : Addr) (pn : List (Addr × Obj)), PSs (X.suite a pn) (b₀ :: suite) (lS X.K X.gw (fun _ _ _ _ => False) u)) :
    PS X (.Try body [.ExceptHandler (some (.Name x np)) none (b₀ :: suite) pos'] [] [] pos) (lS X.K X.gw W (sTryN xs x t u)) :=
  (ps_try_only (c := .ref (He.ga X.K x)) (tb := fun W => lS X.K X.gw W t) (ts := fun _ _ _ => lS X.K X.gw (fun _ _ _ _ => False) u) hs hf ⟨hg, hdb, .inl (xk.at_ x (mem_of_contains hx)).1⟩ tk hb (fun a oe _ _ pn _ _ => hsu a _)).imp fun D σ H q => by
    obtain ⟨ρ, S, hS, hρ, h⟩ := q
    refine ⟨ρ, S, hS, hρ, mt _ _ _ _ h ⟨fun _ _ z => z, fun _ _ z => z, fun _ _ z => z, fun _ _ z => z, fun e ρ' S' z cls d σ' H' s' e' r' f' => ?_⟩⟩
    obtain ⟨he, z⟩ := z
    refine ⟨subX e.cls x, exm_at xk hx he r', fun hb a na => ?_, fun hb => ?_⟩
    · rw [if_pos hb] at z
      refine ⟨ρ', S', s', e', mu _ _ _ _ z ?_⟩
      exact ⟨fun ρ3 S3 y σ3 H3 s3 e3 f4 => y _ H3 s3 e3 (f'.trans f4), fun d3 S3 y v3 H3 s3 r3 f4 => y v3 H3 s3 r3 (f'.trans f4), fun ρ3 S3 y σ3 H3 s3 e3 f4 => y _ H3 s3 e3 (f'.trans f4), fun ρ3 S3 y σ3 H3 s3 e3 f4 => y _ H3 s3 e3 (f'.trans f4), fun _ _ _ y => y.elim⟩
    · rw [if_neg (by rw [hb]; exact Bool.false_ne_true)] at z
      exact z cls d σ' H' s' e' r' f'
end
/-- the built-in type of data -/
def tyD (S : Sto) : D → Option String
  | .non => some "NoneType"
  | .bl _ => some "bool"
  | .int _ => some "int"
  | .str _ => some "str"
  | .tup _ => some "tuple"
  | .fl _ => some "list"
  | .ref a => match S a with
    | some (.lst _) => some "list"
    | some (.dct _ _) => some "dict"
    | some (.dcs _) => some "dict"
    | _ => none
  | _ => none
def excOf : D → Option Str
  | .ex0 c => some c
  | .ex1 c _ _ => some c
  | _ => none
/-- the class of data: an exception's, or a built-in type -/
inductive TyC where
  | ex (c : Str) | ty (T : String)
def tycD (xs : List Str) (S : Sto) (d : D) : Option TyC := match excOf d with
  | some c => if xs.contains c = true then some (.ex c) else none
  | none => (tyD S d).map .ty
def isx1 (xs : List Str) (t : TyC) : D → Option Bool
  | .glo y => if xs.contains y = true then (match t with
    | .ex c => some (subX c y)
    | .ty _ => some false) else none
  | .ty n => if (n == "ValueError") = true then (match t with
    | .ex _ => some true
    | .ty _ => some false) else none
  | _ => none
def isxs (xs : List Str) (t : TyC) : List D → Option Bool
  | [] => some false
  | c :: r => match isx1 xs t c with
    | some true => some true
    | some false => isxs xs t r
    | none => none
def isxF (xs : List Str) : FL := fun l S Q => match l with
  | [d, .tup cs] => ∃ t b, tycD xs S d = some t ∧ isxs xs t cs = some b ∧ cs.length ≤ sizeLine ∧ (cs.all fun c => (isx1 xs t c).isSome) = true ∧ Q (.bl b) S
  | [d, c] => ∃ t b, tycD xs S d = some t ∧ isx1 xs t c = some b ∧ Q (.bl b) S
  | _ => False
theorem m_isx {xs : List Str} : MonoL (isxF xs) := fun l S Q Q' h q => by
  unfold isxF at h ⊢
  split at h
  · obtain ⟨t, b, h1, h2, h3, h4, h5⟩ := h
    exact ⟨t, b, h1, h2, h3, h4, q _ _ h5⟩
  · obtain ⟨t, b, h1, h2, h3⟩ := h
    exact ⟨t, b, h1, h2, q _ _ h3⟩
  · exact h
/-- a value and its class, by the tracked heap -/
def KitH (K : PySem.W.Frag) (w : World) (H : Hp) (v : V) (t : Value) : Prop := TyX K H v t ∨ (∃ a ep xs, v = .ref a ∧ t = .type "dict" ∧ H a = some (DctO w a ep xs)) ∨
  ∃ a oe C, v = .ref a ∧ t = .ref C ∧ H a = some (ExV oe) ∧ ExcC K C ∧ oe.cls = .ref C ∧ (oe.dict = none ∨ ∃ dd fs, oe.dict = some dd ∧ H dd = some (.xd fs)) ∧ ∃ vs, oe.data = .fields vs
theorem kitH_of {X : Cx} {pins : List (Addr × Obj)} {σ : L2.St} {H : Hp} {s : Shared} {v : V} {u t : Value} (I : Inv X pins σ H s) (rx : RelV v u) (h : KitH X.K X.w H v t) : ∃ P : Heap → Prop, PySem.W.KitX X.K u t P ∧ P s.heap ∧ u ≠ .builtin "__main__.__loader__#opaque" := by
  rcases h with h | ⟨a, ep, xs, rfl, rfl, ha⟩ | ⟨a, oe, C, rfl, rfl, ha, hC, h1, h2, vs, h3⟩
  · exact kit_of I rx h
  · cases (show u = Value.ref a from rx)
    obtain ⟨⟨_, _, _, _, o, es, g1, g2, _⟩, _⟩ := (show ObjOk X.prog X.w H s.heap a (DctO X.w a ep xs) from I.hok a _ ha)
    exact ⟨_, PySem.W.kitx_dict, ⟨o, g1, g2.1⟩, fun z => nomatch z⟩
  · cases (show u = Value.ref a from rx)
    obtain ⟨g1, _⟩ := (show ObjOk X.prog X.w H s.heap a (.frz oe (.ext fun _ => True)) from I.hok a _ ha)
    have hcl : (PySem.W.clsIn X.K C).isSome = true := by
      obtain ⟨cd, hc, _⟩ := PySem.W.any_some hC.hd
      rw [hc]; rfl
    have nc : PySem.W.notCls oe = true := by unfold PySem.W.notCls; rw [h3]
    rcases h2 with h2 | ⟨dd, fs, h2, g2⟩
    · exact ⟨_, PySem.W.kitx_exc (ox := oe) (od := none) hcl hC.hg hC.hk hC.hs hC.ha hC.hn hC.ht hC.hm, ⟨g1, h1, by first | exact nc | simp [PySem.W.notCls, h3], by rw [h2]; trivial⟩, fun z => nomatch z⟩
    · obtain ⟨od, g3⟩ := objOk_get (I.hok dd _ g2)
      exact ⟨_, PySem.W.kitx_exc (ox := oe) (od := some od) hcl hC.hg hC.hk hC.hs hC.ha hC.hn hC.ht hC.hm, ⟨g1, h1, by first | exact nc | simp [PySem.W.notCls, h3], by rw [h2]; exact g3⟩, fun z => nomatch z⟩
def rIsX (K : PySem.W.Frag) (w : World) : List V → Hp → VK → Prop := fun vs H Q => ∃ v t, KitH K w H v t ∧ ((∃ c u b, vs = [v, c] ∧ ClsV c u ∧ PySem.W.kitOne K t u = some b ∧ Q (.bl b) H) ∨
  ∃ tp cs us b, vs = [v, .ref tp] ∧ SqT K H tp cs ∧ Paired ClsV cs us ∧ PySem.W.kitAny K t us = some b ∧ Q (.bl b) H)
theorem call_isX {X : Cx} : CallR X (.builtin "isinstance") (rIsX X.K X.w) := by
  intro pins s σ H vs us Q I r h
  obtain ⟨v, t, hk, ⟨c, u, b, rfl, k, e, q⟩ | ⟨tp, cs, us', b, rfl, hT, k, e, q⟩⟩ := h
  · obtain ⟨u1, u2, rfl, r1, r2⟩ := vals2 r
    have e2 := k.eq r2
    subst e2
    obtain ⟨P, Z, p, hx⟩ := kitH_of I r1 hk
    exact PySem.W.kia_one Z I.kIn p e hx fun tk => ⟨.bl b, H, I.tok tk, rfl, q⟩
  · obtain ⟨u1, u2, rfl, r1, r2⟩ := vals2 r
    cases (show u2 = Value.ref tp from r2)
    obtain ⟨P, Z, p, hx⟩ := kitH_of I r1 hk
    obtain ⟨its, rr, ⟨⟨cls, dd, data, sl⟩, ho, hc, n, hd⟩, hs⟩ := I.tuple hT
    simp only at hc hd
    subst hc hd
    have e3 := ClsV.all k rr
    subst e3
    exact PySem.W.kia_tup Z I.kIn p ho e hx fun tk => ⟨.bl b, H, I.tok tk, rfl, q⟩
section
variable {X : Cx} {xs : List Str}
/-- the class's value -/
def tycV (K : PySem.W.Frag) : TyC → Value
  | .ex c => .ref (He.ga K c)
  | .ty T => .type T
def tycOk (xs : List Str) : TyC → Prop
  | .ex c => c ∈ xs
  | .ty T => T ∈ tyL
theorem tyD_kit {d : D} {v : V} {S : Sto} {H : Hp} {T : String} (s : Sim X.K X.gw H S) (r : Rep X.K X.gw H d v) (h : tyD S d = some T) : KitH X.K X.w H v (.type T) ∧ T ∈ tyL := by
  have lt : ∀ {a : Addr} {vs : List V}, SqL X.K H a vs → v = .ref a → TyX X.K H v (.type "list") := fun {a vs} h e => by
    subst e
    rcases h with (h | ⟨o, h⟩) | ⟨o, _, _, h, h', _⟩
    · exact .base (.lst h)
    · exact .base (.frz h)
    · exact .kList h h'
  cases r with
  | non => cases h; exact ⟨.inl (.base .non), by decide⟩
  | bl c => cases h; exact ⟨.inl (.base (.bl c)), by decide⟩
  | int c => cases h; exact ⟨.inl (.base (.int c)), by decide⟩
  | str c => cases h; exact ⟨.inl (.base (.str c)), by decide⟩
  | tup h1 h2 =>
    cases h
    refine ⟨.inl ?_, by decide⟩
    rcases h1 with (h1 | ⟨o, h1⟩) | ⟨o, _, _, h1, h', _⟩
    · exact .base (.tup h1)
    · exact .fTuple h1
    · exact .kTuple h1 h'
  | fl h1 h2 => cases h; exact ⟨.inl (lt h1.sql rfl), by decide⟩
  | ref a =>
    unfold tyD at h
    cases e : S a with
    | none => simp only [e] at h; cases h
    | some o =>
      cases o with
      | lst l =>
        simp only [e] at h
        cases h
        obtain ⟨vs, g1, _⟩ := s a _ e
        exact ⟨.inl (lt (.of g1) rfl), by decide⟩
      | dct ep l =>
        simp only [e] at h
        cases h
        obtain ⟨xs, g1, _⟩ := s a _ e
        exact ⟨.inr (.inl ⟨a, ep, xs, rfl, rfl, g1⟩), by decide⟩
      | dcs l =>
        simp only [e] at h
        cases h
        obtain ⟨xs, g1, _⟩ := s a _ e
        exact ⟨.inl (.base (.dK g1)), by decide⟩
      | ins c l => simp only [e] at h; cases h
  | ty n => cases h
  | glo h' => cases h
  | ex0 _ _ => cases h
  | ex1 _ _ _ _ _ => cases h
theorem tyc_kit (xk : XcK X.K X.mg xs) {d : D} {v : V} {S : Sto} {H : Hp} {t : TyC} (s : Sim X.K X.gw H S) (r : Rep X.K X.gw H d v) (h : tycD xs S d = some t) : KitH X.K X.w H v (tycV X.K t) ∧ tycOk xs t := by
  have ga : ∀ {c : Str} {C : Addr}, xs.contains c = true → X.mg c = some (.ref C) → C = He.ga X.K c := fun {c C} hc hm => by
    rw [(xk.at_ c (mem_of_contains hc)).1] at hm
    cases hm
    rfl
  cases d with
  | ex0 c =>
    unfold tycD at h
    simp only [excOf] at h
    split at h
    · rename_i hc
      cases h
      cases r with
      | ex0 h1 h2 =>
        obtain ⟨C, vs, g1, g2, g3, g4, g5⟩ := h1
        cases ga hc g1
        exact ⟨.inr (.inr ⟨_, _, _, rfl, rfl, h2, g2, g3, .inl g4, vs, g5⟩), mem_of_contains hc⟩
    · cases h
  | ex1 c f d =>
    unfold tycD at h
    simp only [excOf] at h
    split at h
    · rename_i hc
      cases h
      cases r with
      | ex1 h1 hf h2 h3 h4 =>
        obtain ⟨C, vs, g1, g2, g3, g4, g5⟩ := h1
        cases ga hc g1
        exact ⟨.inr (.inr ⟨_, _, _, rfl, rfl, h2, g2, g3, .inr ⟨_, _, g4, h3⟩, vs, g5⟩), mem_of_contains hc⟩
    · cases h
  | _ =>
    unfold tycD at h
    simp only [excOf, Option.map_eq_some_iff] at h
    obtain ⟨T, h1, h2⟩ := h
    cases h2
    exact tyD_kit s r h1
theorem isx1_ok (xk : XcK X.K X.mg xs) {c : D} {v : V} {H : Hp} {t : TyC} {b : Bool} (ht : tycOk xs t) (r : Rep X.K X.gw H c v) (h : isx1 xs t c = some b) : ∃ u, ClsV v u ∧ PySem.W.kitOne X.K (tycV X.K t) u = some b := by
  cases r with
  | glo h' =>
    rename_i y f
    have h2 : (if xs.contains y = true then (match t with
      | .ex c => some (subX c y)
      | .ty _ => some false) else none) = some b := h
    by_cases hy : xs.contains y = true
    · rw [if_pos hy] at h2
      have hm := (xk.at_ y (mem_of_contains hy)).1
      have h'' : X.mg y = some (.ref f) := h'
      rw [hm] at h''
      cases h''
      refine ⟨_, .own _, ?_⟩
      cases t with
      | ex c => cases h2; exact xk.kit _ ht _ (mem_of_contains hy)
      | ty T => cases h2; exact xk.ty _ ht _ (mem_of_contains hy)
    · rw [if_neg hy] at h2
      cases h2
  | ty n =>
    have h2 : (if (n == "ValueError") = true then (match t with
      | .ex _ => some true
      | .ty _ => some false) else none) = some b := h
    by_cases hn : (n == "ValueError") = true
    · rw [if_pos hn] at h2
      have hn := eq_of_beq hn
      subst hn
      refine ⟨_, .ty _, ?_⟩
      cases t with
      | ex c => cases h2; exact xk.ve _ ht
      | ty T => cases h2; exact xk.tv _ ht
    · rw [if_neg hn] at h2
      cases h2
  | _ => cases h
theorem isxs_ok (xk : XcK X.K X.mg xs) {H : Hp} {t : TyC} (ht : tycOk xs t) : ∀ {cs : List D} {vs : List V} {b : Bool}, Reps X.K X.gw H cs vs → (cs.all fun c => (isx1 xs t c).isSome) = true → isxs xs t cs = some b → ∃ us, Paired ClsV vs us ∧ PySem.W.kitAny X.K (tycV X.K t) us = some b
  | _, _, _, .nil, _, h => by cases h; exact ⟨[], .nil, rfl⟩
  | c :: cs, v :: vs, b, .cons q r, ha, h => by
    rw [List.all_cons, Bool.and_eq_true] at ha
    obtain ⟨b1, e1⟩ := Option.isSome_iff_exists.mp ha.1
    obtain ⟨u, k1, k2⟩ := isx1_ok xk ht q e1
    unfold isxs at h
    rw [e1] at h
    have rest : ∀ (cs : List D) (vs : List V), Reps X.K X.gw H cs vs → (cs.all fun c => (isx1 xs t c).isSome) = true → ∃ us, Paired ClsV vs us := fun cs vs r ha => by
      induction r using Reps.rec (motive_1 := fun _ _ _ => True) with
      | nil => exact ⟨[], .nil⟩
      | cons q r _ ih =>
        rw [List.all_cons, Bool.and_eq_true] at ha
        obtain ⟨b1, e1⟩ := Option.isSome_iff_exists.mp ha.1
        obtain ⟨u, k1, _⟩ := isx1_ok xk ht q e1
        obtain ⟨us, k⟩ := ih ha.2
        exact ⟨u :: us, .cons k1 k⟩
      | _ => trivial
    cases b1 with
    | true =>
      cases h
      obtain ⟨us, k⟩ := rest cs vs r ha.2
      exact ⟨u :: us, .cons k1 k, by unfold PySem.W.kitAny; rw [k2]⟩
    | false =>
      obtain ⟨us, k3, k4⟩ := isxs_ok xk ht r ha.2 h
      exact ⟨u :: us, .cons k1 k3, by unfold PySem.W.kitAny; rw [k2]; exact k4⟩
theorem says_isx (xk : XcK X.K X.mg xs) : SaysL X.K X.gw (rIsX X.K X.w) (isxF xs) := fun ds vs S H Q s r q => by
  unfold isxF at q
  split at q
  · rename_i d cs
    obtain ⟨t, b, h1, h2, h3, h4, h5⟩ := q
    cases r with
    | cons r1 r =>
      cases r with
      | cons r2 r =>
        cases r
        obtain ⟨k1, k2⟩ := tyc_kit xk s r1 h1
        obtain ⟨a, vs, rfl, g1, g2⟩ := r2.tupV
        obtain ⟨us, k3, k4⟩ := isxs_ok xk k2 g2 h4 h2
        exact ⟨_, _, k1, .inr ⟨a, vs, us, b, rfl, g1, k3, k4, ans s (.bl b) h5⟩⟩
  · rename_i d c hnt
    obtain ⟨t, b, h1, h2, h3⟩ := q
    cases r with
    | cons r1 r =>
      cases r with
      | cons r2 r =>
        cases r
        obtain ⟨k1, k2⟩ := tyc_kit xk s r1 h1
        obtain ⟨u, k3, k4⟩ := isx1_ok xk k2 r2 h2
        exact ⟨_, _, k1, .inl ⟨_, u, b, rfl, k3, k4, ans s (.bl b) h3⟩⟩
  · exact q.elim
end
end Ow

namespace PySem
open Sem (wp)
section
variable {prog : Program} {w : World} {A : Around} {R : Result → Shared → Prop} {I : Addr} {fp wr : List Addr} {n : Nat} {P : Nat → Value → Prop} {St : Nat → Heap → Prop}
theorem codeAny_sum_loopB (W : Walks prog w A.in1 I fp wr n P St) (val : Nat → Bool) (hval : ∀ i v, P i v → v = .bool (val i)) (S : Addr) (hSf : S ∉ fp) :
    ∀ (k i : Nat) (s : Shared) (tA : Tok) (c : Nat) (stage : Int), (stage = 0 ∨ stage = 2) → n - i = k → i ≤ n → St i s.heap → s.heap.get? S = some { cls := .type "list", dict := none, data := .seq #[.int (preSum (fun i => if val i = true then 1 else 0) i) tA] c, slots := #[] } →
    (∀ h' tk t', (∀ b o, b ∉ wr → b ≠ S → s.heap.get? b = some o → h'.get? b = some o) → R (.ok (.ret (.int (preSum (fun i => if val i = true then 1 else 0) n) t'))) { s with heap := h', toks := tk }) →
    codeAny (model prog w) A (.builtin "sum.loop" ⟨[.ref I, .ref S, rawInt stage, rawInt 0], []⟩) R s := by
  have hSw : S ∉ wr := fun h => hSf (W.sub _ h)
  intro k
  induction k with
  | zero =>
    intro i s tA c stage hstage hk hi hst hS hR
    have hin : i = n := by omega
    subst hin
    refine codeAny_builtin F.entry_sum_loop ?_
    rw [Around.under_plainId F.plain_sum_loop _]
    show wpAny _ A.in1 (seqItems? (.ref S) >>= _) _ _ s
    refine wpAny_bind (wpAny_seqItems hS rfl ?_)
    show wpAny _ A.in1 (tryCatch (pyNext (.ref I)) _ >>= _) _ _ s
    refine wpAny_bind (wpAny_tryCatch (W.done s _ _ hst fun h' tk hk' => ?_))
    exact wpAny_pure (hR h' tk tA fun b o hbw _ e => hk' b o hbw e)
  | succ k ih =>
    intro i s tA c stage hstage hk hi hst hS hR
    have hlt : i < n := by omega
    refine codeAny_builtin F.entry_sum_loop ?_
    rw [Around.under_plainId F.plain_sum_loop _]
    show wpAny _ A.in1 (seqItems? (.ref S) >>= _) _ _ s
    refine wpAny_bind (wpAny_seqItems hS rfl ?_)
    show wpAny _ A.in1 (tryCatch (pyNext (.ref I)) _ >>= _) _ _ s
    refine wpAny_bind (wpAny_tryCatch (W.item i s _ _ hlt hst fun v h' tk hP hst' hk' => ?_))
    obtain rfl := hval i v hP
    have hS' := hk' S _ hSw hS
    rcases hstage with rfl | rfl
    · show wpAny _ A.in1 (if (_ : Bool) = true then (mkInt (preSum (fun i => if val i = true then 1 else 0) i + (if val i = true then (1 : Int) else 0)) >>= _) else _) _ _ _
      generalize hz : (if val i = true then (1 : Int) else 0) = z
      split
      · subst hz
        refine wpAny_bind (wpAny_mkInt ?_)
        show wpAny _ A.in1 (updateSeq S (fun _ => #[.int (preSum (fun i => if val i = true then 1 else 0) i + (if val i = true then (1 : Int) else 0)) tk]) >>= _) _ _ _
        refine wpAny_bind ?_
        refine wpAny_updateSeq hS' rfl (wpAny_pure ⟨plainId_quiet F.plain_sum_loop _, ih (i + 1) _ tk _ 0 (Or.inl rfl) (by omega) hlt (W.frame _ _ _ hst' fun b hb o e => ?_) (Heap.get?_update_self _ hS' rfl) fun h'' tk'' t'' hk'' => ?_⟩)
        · exact (Heap.get?_update_other _ _ (fun h : S = b => hSf (by rw [h]; exact hb))).trans e
        · exact hR h'' tk'' t'' fun b o hbw hbS e => hk'' b o hbw hbS ((Heap.get?_update_other _ _ (Ne.symm hbS)).trans (hk' b o hbw e))
      · subst hz
        refine wpAny_bind (wpAny_rule ?_)
        refine wpAny_bind (wpAny_attempt (wpAny_holding (PySem.add_int_bool ?_)))
        show wpAny _ A.in1 (updateSeq S (fun _ => #[.int (preSum (fun i => if val i = true then 1 else 0) i + (if val i = true then (1 : Int) else 0)) tk]) >>= _) _ _ _
        refine wpAny_bind ?_
        refine wpAny_updateSeq hS' rfl ?_
        have hS2 := Heap.get?_update_self (Obj.mapSeq fun _ => #[Value.int (preSum (fun i => if val i = true then 1 else 0) i + (if val i = true then (1 : Int) else 0)) tk]) hS' rfl
        refine wpAny_bind (wpAny_letGo ?_)
        refine wpAny_bind ?_
        refine wpAny_updateSeq hS2 rfl (wpAny_pure ⟨plainId_quiet F.plain_sum_loop _, ih (i + 1) _ tk _ 2 (Or.inr rfl) (by omega) hlt (W.frame _ _ _ hst' fun b hb o e => ?_) (Heap.get?_update_self _ hS2 rfl) fun h'' tk'' t'' hk'' => ?_⟩)
        · exact (Heap.get?_update_other _ _ (fun h : S = b => hSf (by rw [h]; exact hb))).trans ((Heap.get?_update_other _ _ (fun h : S = b => hSf (by rw [h]; exact hb))).trans e)
        · exact hR h'' tk'' t'' fun b o hbw hbS e => hk'' b o hbw hbS ((Heap.get?_update_other _ _ (Ne.symm hbS)).trans ((Heap.get?_update_other _ _ (Ne.symm hbS)).trans (hk' b o hbw e)))
    · show wpAny _ A.in1 ((holding [Value.bool (val i)] (binaryOp .Add (.int (preSum (fun i => if val i = true then 1 else 0) i) tA) (.bool (val i)))).attempt >>= _) _ _ _
      refine wpAny_bind (wpAny_attempt (wpAny_holding (PySem.add_int_bool ?_)))
      show wpAny _ A.in1 (updateSeq S (fun _ => #[.int (preSum (fun i => if val i = true then 1 else 0) i + (if val i = true then (1 : Int) else 0)) tk]) >>= _) _ _ _
      refine wpAny_bind ?_
      refine wpAny_updateSeq hS' rfl ?_
      have hS2 := Heap.get?_update_self (Obj.mapSeq fun _ => #[Value.int (preSum (fun i => if val i = true then 1 else 0) i + (if val i = true then (1 : Int) else 0)) tk]) hS' rfl
      refine wpAny_bind (wpAny_letGo ?_)
      refine wpAny_bind ?_
      refine wpAny_updateSeq hS2 rfl (wpAny_pure ⟨plainId_quiet F.plain_sum_loop _, ih (i + 1) _ tk _ 2 (Or.inr rfl) (by omega) hlt (W.frame _ _ _ hst' fun b hb o e => ?_) (Heap.get?_update_self _ hS2 rfl) fun h'' tk'' t'' hk'' => ?_⟩)
      · exact (Heap.get?_update_other _ _ (fun h : S = b => hSf (by rw [h]; exact hb))).trans ((Heap.get?_update_other _ _ (fun h : S = b => hSf (by rw [h]; exact hb))).trans e)
      · exact hR h'' tk'' t'' fun b o hbw hbS e => hk'' b o hbw hbS ((Heap.get?_update_other _ _ (Ne.symm hbS)).trans ((Heap.get?_update_other _ _ (Ne.symm hbS)).trans (hk' b o hbw e)))
end
end PySem
namespace PySem
section
variable {prog : Program} {w : World} {A : Around} {E : Value → Shared → Prop} {s : Shared}
theorem call_sum_walkB {x : Value} {Q : Value → Shared → Prop}
    (h : wpAny (model prog w) A.in1 (pyIter x) (fun it s₂ => ∃ I fp wr n P St, ∃ val : Nat → Bool, it = .ref I ∧ Walks prog w A.in1 I fp wr n P St ∧ St 0 s₂.heap ∧ (∀ b ∈ fp, b < s₂.heap.objs.size) ∧
      (∀ i v, P i v → v = .bool (val i)) ∧
      ∀ h' tk t', (∀ b o, b ∉ wr → s₂.heap.get? b = some o → h'.get? b = some o) → Q (.int (preSum (fun i => if val i = true then 1 else 0) n) t') { s₂ with heap := h', toks := tk }) E s) :
    wpAny (model prog w) A (call (.builtin "sum") [x]) Q E s := by
  refine call_function_tree F.kind_sum F.plain_sum F.entry_sum (F.args_sum1 _) ?_
  unfold Builtin.«sum»
  simp only [List.length_cons, List.length_nil]
  rw [if_neg (by decide)]
  refine wpAny_bind (wpAny_of_eq (show Builtin.Builtins.bindParams "sum" ["start"] 0 { } = pure [none] from rfl) ?_)
  refine wpAny_bind (wpAny_mono h (fun it s₂ h₂ => ?_) fun _ _ e => e)
  obtain ⟨I, fp, wr, n, P, St, val, rfl, W, hst, hfp, hval, hQ⟩ := h₂
  refine wpAny_bind (wpAny_mkInt ?_)
  refine wpAny_bind (wpAny_pure ?_)
  simp only [List.forIn_cons, List.forIn_nil]
  refine wpAny_bind (wpAny_bind (wpAny_bind (wpAny_isInstance (T := "int") (b := false) (typeIs_int _ _ _) sub_int_str ?_)))
  simp only [Bool.false_eq_true, if_false]
  refine wpAny_pure (wpAny_bind (wpAny_bind (wpAny_isInstance (T := "int") (b := false) (typeIs_int _ _ _) sub_int_bytes ?_)))
  simp only [Bool.false_eq_true, if_false]
  refine wpAny_pure (wpAny_bind (wpAny_bind (wpAny_isInstance (T := "int") (b := false) (typeIs_int _ _ _) sub_int_bytearray ?_)))
  simp only [Bool.false_eq_true, if_false]
  refine wpAny_pure (wpAny_pure ?_)
  refine wpAny_bind (wpAny_newObj_type ?_)
  have hSf : s₂.heap.objs.size ∉ fp := fun hm => Nat.lt_irrefl _ (hfp _ hm)
  refine wpAny_pure ⟨plainId_quiet F.plain_sum_loop _, codeAny_sum_loopB W val hval s₂.heap.objs.size hSf n 0 _ s₂.toks 0 0 (Or.inl rfl) rfl (Nat.zero_le _)
    (W.frame _ _ _ hst fun b _ o e => Heap.get?_push_of_some _ e) (Heap.get?_push_size _ rfl) fun h' tk t' hk => ?_⟩
  exact hQ h' tk t' fun b o hbw e => hk b o hbw (Nat.ne_of_lt (Heap.lt_size e)) (Heap.get?_push_of_some _ e)
theorem pre_bools (bs : List Bool) : ∀ j, preSum (fun i => if (bs.getD i false) = true then (1 : Int) else 0) j = ((bs.take j).countP id : Nat)
  | 0 => by simp [preSum]
  | j + 1 => by
    rw [preSum, pre_bools bs j, List.take_add_one, List.countP_append]
    cases e : bs[j]? with
    | none => simp [List.getD, e]
    | some b => cases b <;> simp [List.getD, e]
theorem sum_rawB {l : Addr} {its : List Value} {bs : List Bool} {Q : Value → Shared → Prop} (hh : A.handled = none) (hl : s.heap.IsList l its.toArray) (hi : its = bs.map Value.bool)
    (h : ∀ h' tk t', (∀ b o, s.heap.get? b = some o → h'.get? b = some o) → Q (.int ((bs.countP id : Nat) : Int) t') { s with heap := h', toks := tk }) : wpAny (model prog w) A (call (.builtin "sum") [.ref l]) Q E s := by
  subst hi
  have hlt : l < s.heap.objs.size := by obtain ⟨_, e, _⟩ := hl; exact Heap.lt_size e
  refine call_sum_walkB (wpAny_pyIter_list hl ?_)
  refine ⟨_, _, _, _, _, _, fun i => bs.getD i false, rfl, Walks.list (A := A.in1) hh _ l (Nat.ne_of_lt hlt) _, ⟨⟨_, Heap.get?_push_size _ rfl, rfl, rfl⟩, hl.push _⟩, fun b hb => ?_, fun i v hv => ?_, fun h' tk t' hk => ?_⟩
  · show b < (s.heap.push _).objs.size
    rw [Heap.size_push]
    rcases List.mem_cons.mp hb with rfl | hb
    · exact Nat.lt_succ_self _
    · rcases List.mem_cons.mp hb with rfl | hb
      · exact Nat.lt_succ_of_lt hlt
      · cases hb
  · simp only [List.getElem?_toArray, List.getElem?_map, Option.map_eq_some_iff] at hv
    obtain ⟨b, e, rfl⟩ := hv
    simp [List.getD, e]
  · rw [pre_bools, List.take_of_length_le (by simp)]
    exact h h' tk t' (old_kept hk)
end
end PySem
namespace Ow
open PySem PySem.Spec PyProof.Rows L2
section
variable {X : Cx}
def rSumB (K : PySem.W.Frag) : List V → Hp → VK → Prop := fun vs H Q => ∃ (a : Addr) (bs : List Bool), vs = [V.ref a] ∧ SqL K H a (bs.map V.bl) ∧ Q (.int (bs.countP id : Nat)) H
theorem vals_bls : ∀ {bs : List Bool} {us : List Value}, Vals (bs.map V.bl) us → us = bs.map Value.bool
  | [], _, .nil => rfl
  | b :: bs, _, .cons r t => by
    have r' : _ = Value.bool b := r
    rw [r', vals_bls t]; rfl
theorem cr_sumB (hc : X.calm = true) : CallR X (.builtin "sum") (rSumB X.K) := by
  intro pins s σ H vs us Q I r h
  obtain ⟨a, ns, rfl, hs, q⟩ := h
  obtain ⟨its, rv, hl, _⟩ := I.list hs
  rw [Vals.ref1 r]
  exact sum_rawB (I.ok.hd hc) hl.isList (vals_bls rv) fun h' tk t' hk => ⟨.int _, H, I.kept hk, ⟨_, rfl⟩, q⟩
def sumG : FQ := fun b l S Q => sumF b l S Q ∨ (b = false ∧ l.all isBl = true ∧ Q (.int (l.countP isYes : Nat)) S)
theorem m_sumG : MonoQ sumG := fun b l S Q Q' h q => h.elim (fun h => .inl (m_sum b l S Q Q' h q)) fun h => .inr ⟨h.1, h.2.1, q _ _ h.2.2⟩
theorem cr_sumG (hc : X.calm = true) : CallR X (.builtin "sum") (fun vs H Q => rSum X.K vs H Q ∨ rSumB X.K vs H Q) := fun pins s σ H vs us Q I r h => h.elim (fun h => cr_sum hc pins s σ H vs us Q I r h) fun h => cr_sumB hc pins s σ H vs us Q I r h
theorem says_sumG : SaysQ X.K X.gw (fun vs H Q => rSum X.K vs H Q ∨ rSumB X.K vs H Q) sumG := fun b l v S H Q s r q => by
  rcases q with q | q
  · exact .inl (says_sum b l v S H Q s r q)
  · obtain ⟨a, vs, e, h1, h2⟩ := r
    obtain ⟨hb, hl, q⟩ := q
    subst e hb
    have ev := reps_bls h2 hl
    subst ev
    refine .inr ⟨a, l.map isYes, rfl, by simpa using h1, ?_⟩
    rw [List.countP_map]
    exact ans s (.int _) q
end
def rCntF (K : PySem.W.Frag) : V → List V → Hp → VK → Prop := fun x xs H Q => ∃ (p : Addr) (ys : List V) (y : V), x = .ref p ∧ xs = [y] ∧ SqL K H p ys ∧ flatV y = true ∧ ys.all flatV = true ∧ Q (.int (ys.countP (fun z => eqV z y) : Nat)) H
theorem cnt_eq {y : V} : ∀ {ys : List V} {us : List Value}, Vals ys us → ys.all flatV = true → us.countP (eqU y) = ys.countP (fun z => eqV z y)
  | _, _, .nil, _ => rfl
  | _, _, .cons r t, f => by
    rw [List.all_cons, Bool.and_eq_true] at f
    rw [List.countP_cons, List.countP_cons, cnt_eq t f.2, eqU_of r f.1]
section
variable {X : Cx}
theorem mt_lcountF : MtR X "list.count" (rCntF X.K) := by
  intro pins s σ H x xs v us Q I rx rxs h
  obtain ⟨p, ys, y, rfl, rfl, hs, fy, fys, q⟩ := h
  cases rx
  obtain ⟨u, rfl, ru⟩ := rxs.one
  obtain ⟨its, rv, ⟨⟨cls, dd, data, sl⟩, n, ho, hc, hdn, hd⟩, hlen⟩ := I.list hs
  simp only at hc hd
  subst hc hd
  refine call_meets PySem.F.slot_list_count ⟨_, ho, rfl⟩ PySem.F.entry_list_count (PySem.F.args_list_count_2 _ _)
    (SeqAt.list_countAt p its.toArray n dd sl u (eqU y)) ⟨ho, fun z hz => mem_eqAt ru fy rv fys z (by simpa using hz), ?_⟩
  have ec : its.toArray.toList.countP (eqU y) = ys.countP (fun z => eqV z y) := cnt_eq rv fys
  refine ⟨.int (ys.countP (fun z => eqV z y) : Nat), H, I.tok _, ⟨s.toks, ?_⟩, q⟩
  rw [ec]
end
def wIdx (o e : WE) : WE := fun ρ S Q E => o ρ S (fun d S1 => ∃ a l0, d = .ref a ∧ S1 a = some (.lst l0) ∧ e ρ S1 (fun y S2 => ∃ l j, S2 a = some (.lst l) ∧ flatD y = true ∧ l.all flatD = true ∧ l.findIdx? (fun z => pyEq z y) = some j ∧ Q (.int (j : Nat)) S2) E) E
def wCnt (o e : WE) : WE := fun ρ S Q E => o ρ S (fun d S1 => ∃ a l0, d = .ref a ∧ S1 a = some (.lst l0) ∧ e ρ S1 (fun y S2 => ∃ l, S2 a = some (.lst l) ∧ flatD y = true ∧ l.all flatD = true ∧ Q (.int (l.countP (fun z => pyEq z y) : Nat)) S2) E) E
theorem mono_Idx {o e : WE} (mo : Mono o) (me : Mono e) : Mono (wIdx o e) := fun _ _ _ _ _ _ h q x => mo _ _ _ _ _ _ h (fun _ _ ⟨a, l0, e1, e2, h1⟩ => ⟨a, l0, e1, e2, me _ _ _ _ _ _ h1 (fun _ _ ⟨l, j, h2, h3, h4, h5, h6⟩ => ⟨l, j, h2, h3, h4, h5, q _ _ h6⟩) x⟩) x
theorem mono_Cnt {o e : WE} (mo : Mono o) (me : Mono e) : Mono (wCnt o e) := fun _ _ _ _ _ _ h q x => mo _ _ _ _ _ _ h (fun _ _ ⟨a, l0, e1, e2, h1⟩ => ⟨a, l0, e1, e2, me _ _ _ _ _ _ h1 (fun _ _ ⟨l, h2, h3, h4, h6⟩ => ⟨l, h2, h3, h4, q _ _ h6⟩) x⟩) x
section
variable {X : Cx} {W : WX} {o e : Expr} {to te : WE} {apos cpos : Pos}
theorem findIdx_rep {y : D} {u : V} {K : PySem.W.Frag} {mg : GW} {H : Hp} (r : Rep K mg H y u) (hy : flatD y = true) : ∀ {l : List D} {vs : List V} {j : Nat}, Reps K mg H l vs → l.all flatD = true → l.findIdx? (fun z => pyEq z y) = some j →
    ∃ z, vs[j]? = some z ∧ eqV z u = true ∧ ∀ (m : Nat) (z' : V), m < j → vs[m]? = some z' → eqV z' u = false
  | _, _, _, .nil, _, h => by simp at h
  | d :: l, v :: vs, j, .cons q t, k, h => by
    rw [List.all_cons, Bool.and_eq_true] at k
    have e1 := eqV_rep q r k.1 hy
    rw [List.findIdx?_cons] at h
    cases c : pyEq d y with
    | true =>
      rw [c] at h
      simp at h
      subst h
      exact ⟨v, rfl, by rw [e1, c], fun m z' hm => absurd hm (Nat.not_lt_zero _)⟩
    | false =>
      rw [c] at h
      simp only [Bool.false_eq_true, if_false, Option.map_eq_some_iff] at h
      obtain ⟨i, h1, h2⟩ := h
      subst h2
      obtain ⟨z, g1, g2, g3⟩ := findIdx_rep r hy t k.2 h1
      refine ⟨z, by simpa using g1, g2, fun m z' hm hz => ?_⟩
      cases m with
      | zero => simp at hz; rw [← hz, e1, c]
      | succ m => exact g3 m z' (by omega) (by simpa using hz)
theorem countP_rep {y : D} {u : V} {K : PySem.W.Frag} {mg : GW} {H : Hp} (r : Rep K mg H y u) (hy : flatD y = true) : ∀ {l : List D} {vs : List V}, Reps K mg H l vs → l.all flatD = true → vs.countP (fun z => eqV z u) = l.countP (fun z => pyEq z y)
  | _, _, .nil, _ => rfl
  | d :: l, v :: vs, .cons q t, k => by
    rw [List.all_cons, Bool.and_eq_true] at k
    rw [List.countP_cons, List.countP_cons, countP_rep r hy t k.2, eqV_rep q r k.1 hy]
theorem pe_idxW (mo : Mono to) (me : Mono te) (ho : PE X o (lE X.K X.gw W to)) (he : PE X e (lE X.K X.gw W te)) (hp : plainE e = true) (hb : plainO o = true) (hl : (apos.endLine == cpos.line) = true) : PE X (.Call (.Attribute o "index" apos) [e] [] cpos) (lE X.K X.gw W (wIdx to te)) :=
  (pe_bm PySem.F.plainAttrs_list PySem.F.slot_list_index PySem.F.type_list_index mt_index ho (pa_cons he pa_nil (star_cons hp)) (base_plain hb) (few_one hp) hl (star_cons hp) rfl).imp fun σ H Q q => by
    obtain ⟨ρ, S, hS, hρ, h⟩ := q
    refine lG_bind mo hS hρ h (fun d S1 v H1 h1 s1 e1 r1 f1 => ?_) fun x S1 cls d H1 h1 s1 r1 f1 => h1 cls d H1 s1 r1 f1
    obtain ⟨a, l0, rfl, ha, h1⟩ := h1
    cases r1
    refine ⟨lst_ty s1 ha, lG_bind me s1 e1 h1 (fun e S2 u H2 h2 s2 e2 r2 f2 => ?_) fun x S1 cls d H1 h1 s1 r1 f2 => h1 cls d H1 s1 r1 (f1.trans f2)⟩
    obtain ⟨l, j, hl, fy, fl, hj, h2⟩ := h2
    obtain ⟨vs, g1, g2⟩ := s2 a _ hl
    obtain ⟨z, k1, k2, k3⟩ := findIdx_rep r2 fy g2 fl hj
    exact ⟨a, vs, u, j, z, rfl, rfl, .of g1, flat_rep r2 fy, flat_reps g2 fl, k1, k2, k3, h2 _ H2 s2 (.int _) (f1.trans f2)⟩
theorem pe_cntW (mo : Mono to) (me : Mono te) (ho : PE X o (lE X.K X.gw W to)) (he : PE X e (lE X.K X.gw W te)) (hp : plainE e = true) (hb : plainO o = true) (hl : (apos.endLine == cpos.line) = true) : PE X (.Call (.Attribute o "count" apos) [e] [] cpos) (lE X.K X.gw W (wCnt to te)) :=
  (pe_bm PySem.F.plainAttrs_list PySem.F.slot_list_count PySem.F.type_list_count mt_lcountF ho (pa_cons he pa_nil (star_cons hp)) (base_plain hb) (few_one hp) hl (star_cons hp) rfl).imp fun σ H Q q => by
    obtain ⟨ρ, S, hS, hρ, h⟩ := q
    refine lG_bind mo hS hρ h (fun d S1 v H1 h1 s1 e1 r1 f1 => ?_) fun x S1 cls d H1 h1 s1 r1 f1 => h1 cls d H1 s1 r1 f1
    obtain ⟨a, l0, rfl, ha, h1⟩ := h1
    cases r1
    refine ⟨lst_ty s1 ha, lG_bind me s1 e1 h1 (fun e S2 u H2 h2 s2 e2 r2 f2 => ?_) fun x S1 cls d H1 h1 s1 r1 f2 => h1 cls d H1 s1 r1 (f1.trans f2)⟩
    obtain ⟨l, hl, fy, fl, h2⟩ := h2
    obtain ⟨vs, g1, g2⟩ := s2 a _ hl
    refine ⟨a, vs, u, rfl, rfl, .of g1, flat_rep r2 fy, flat_reps g2 fl, ?_⟩
    rw [countP_rep r2 fy g2 fl]
    exact h2 _ H2 s2 (.int _) (f1.trans f2)
def wUp (o : WE) : WE := fun ρ S Q E => o ρ S (fun d S1 => ∃ a, d = .str a ∧ a.length ≤ 5592405 ∧ Q (.str (PySem.Txt.upper a)) S1) E
theorem mono_Up {o : WE} (mo : Mono o) : Mono (wUp o) := fun _ _ _ _ _ _ h q x => mo _ _ _ _ _ _ h (fun _ _ ⟨a, e1, e2, h1⟩ => ⟨a, e1, e2, q _ _ h1⟩) x
theorem pe_upW (mo : Mono to) (ho : PE X o (lE X.K X.gw W to)) (hb : plainO o = true) (hl : (apos.endLine == cpos.line) = true) : PE X (.Call (.Attribute o "upper" apos) [] [] cpos) (lE X.K X.gw W (wUp to)) :=
  (pe_bm0 PySem.F.plainAttrs_str PySem.F.slot_str_upper PySem.F.type_str_upper mt_upper ho (base_plain hb) hl).imp fun σ H Q q => by
    obtain ⟨ρ, S, hS, hρ, h⟩ := q
    refine lG_bind mo hS hρ h (fun d S1 v H1 h1 s1 e1 r1 f1 => ?_) fun x S1 cls d H1 h1 s1 r1 f1 => h1 cls d H1 s1 r1 f1
    obtain ⟨a, rfl, hz, h1⟩ := h1
    have ev := r1.strV
    subst ev
    exact ⟨by trivial, a, rfl, rfl, hz, h1 _ H1 s1 (.str _) f1⟩
def tXa (K : PySem.W.Frag) (f : Str) (te : TE) : TE := fun σ H Q => te σ H fun x H1 => ∃ (a C dd : Addr) (oe : Obj) (v : V), x = .ref a ∧ H1 a = some (ExV oe) ∧ ExcC K C ∧ PySem.W.findIn K (.ref C) f = some none ∧ oe.cls = .ref C ∧ oe.dict = some dd ∧ (∃ vs, oe.data = .fields vs) ∧ H1 dd = some (.xd [(f, v)]) ∧ Q v H1
theorem pe_xa {e : Expr} {te : TE} {pos : Pos} {n : Str} (he : PE X e te) (hb : attributeBase e n X.env (eval e X.env) = eval e X.env) : PE X (.Attribute e n pos) (tXa X.K n te) := by
  refine ⟨fun pins s σ H Q I h => ?_⟩
  refine attr_of hb (thn (he.run pins s σ H _ I h) fun u s1 hh => ?_)
  obtain ⟨x, H1, I1, rx, a, C, dd, oe, v, ex, ea, hC, hno, ec, ed, ⟨vs, hd⟩, ef, q⟩ := hh
  subst ex
  obtain rfl : u = Value.ref a := rx
  obtain ⟨ha, _⟩ := (show ObjOk X.prog X.w H1 s1.heap a (.frz oe (.ext fun _ => True)) from I1.hok a _ ea)
  have hx : ObjOk X.prog X.w H1 s1.heap dd (.xd [(n, v)]) := I1.hok dd _ ef
  obtain ⟨mA, hns, hr⟩ := hx
  obtain ⟨od, ho, hl⟩ := lookIn_ns hns
  obtain ⟨u, hu, ru⟩ := RelO.some_of (v := v) (o := mA n) (by
    have := hr n
    simpa [List.lookup] using this)
  have J : PySem.W.InstAt s1.heap a oe C (some od) := ⟨ha, ec, by unfold PySem.W.notCls; rw [hd] <;> rfl, by rw [ed]; exact ho⟩
  exact HandSPX.exc_get I1.kIn J hC.hg hC.hk hC.hs (PySem.W.findObj_own hC.hd hno rfl (by rw [hl, hu])) (handed_of ru) ⟨v, H1, I1.tok _, ru, q⟩
def wAtt (f : Str) (o : WE) : WE := fun ρ S Q E => o ρ S (fun d S1 => ∃ c d', d = .ex1 c f d' ∧ Q d' S1) E
theorem mono_Att {f : Str} {o : WE} (mo : Mono o) : Mono (wAtt f o) := fun _ _ _ _ _ _ h q x => mo _ _ _ _ _ _ h (fun _ _ ⟨c, d', e1, h1⟩ => ⟨c, d', e1, q _ _ h1⟩) x
theorem pe_attW {pos : Pos} {n : Str} (mo : Mono to) (ho : PE X o (lE X.K X.gw W to)) (hb : plainO o = true) : PE X (.Attribute o n pos) (lE X.K X.gw W (wAtt n to)) :=
  (pe_xa ho (base_plain hb)).imp fun σ H Q q => by
    obtain ⟨ρ, S, hS, hρ, h⟩ := q
    refine lG_bind mo hS hρ h (fun d S1 v H1 h1 s1 e1 r1 f1 => ?_) fun x S1 cls d H1 h1 s1 r1 f1 => h1 cls d H1 s1 r1 f1
    obtain ⟨c, d', rfl, h1⟩ := h1
    cases r1 with
    | ex1 g1 g2 g3 g4 g5 =>
      obtain ⟨C, vs, k1, k2, k3, k4, k5⟩ := g1
      exact ⟨_, C, _, _, _, rfl, g3, k2, g2 C k1, k3, k4, ⟨vs, k5⟩, g4, h1 _ H1 s1 g5 f1⟩
end
def strF : FL := fun l S Q => match l with
  | [.int i] => i.natAbs.log2 < 1920 ∧ Q (.str (toString i)) S
  | _ => False
theorem m_str : MonoL strF := fun l S Q Q' h q => by
  unfold strF at h ⊢
  split at h
  · exact ⟨h.1, q _ _ h.2⟩
  · exact h
theorem says_str {X : Cx} : SaysL X.K X.gw (fun xs H Q => ∃ i, xs = [.int i] ∧ i.natAbs.log2 < 1920 ∧ Q (.str (toString i)) H) strF := fun ds vs S H Q s r q => by
  unfold strF at q
  split at q
  · rename_i i
    cases r with
    | cons r1 r =>
      cases r
      have ev := r1.intV
      subst ev
      exact ⟨i, rfl, q.1, ans s (.str _) q.2⟩
  · exact q.elim
def wCallV (i : Nat) (L : List (Str × Spec)) (t : WA) : WE := fun ρ S Q E => ∃ x sp, ρ[i]? = some (some (.glo x)) ∧ L.lookup x = some sp ∧ t ρ S (fun ds S1 => callS sp ds S1 Q E) E
theorem mono_CallV {i : Nat} {L : List (Str × Spec)} {t : WA} (mt : Mono t) : Mono (wCallV i L t) := fun _ _ _ _ _ _ ⟨x, sp, h1, h2, h3⟩ q e => ⟨x, sp, h1, h2, mt _ _ _ _ _ _ h3 (fun _ _ ⟨a, b, c⟩ => ⟨a, fun _ _ z => q _ _ (b _ _ z), fun _ _ z => e _ _ (c _ _ z)⟩) e⟩
section
variable {X : Cx} {W : WX} {e : Expr} {es : List Expr} {t : WA} {y : Str} {p pos : Pos} {n i : Nat} {L : List (Str × Spec)}
theorem pe_callV (F : ∀ x sp, L.lookup x = some sp → FnIn X x n sp) (tk : Takes X W) (hN : X.N[i]? = some y) (hv : Vis X.env.scope y) (hdb : (y == ("__debug__" : Str)) = false) (hcd : (y == ("__classdict__" : Str)) = false) (mt : Mono t) (hlen : LenA n t) (ha : PA X (e :: es) (lA X.K X.gw W t)) (hp : (e :: es).all plainE = true) :
    PE X (.Call (.Name y p) (e :: es) [] pos) (lE X.K X.gw W (wCallV i L t)) := by
  have h2 := hp
  rw [List.all_cons, Bool.and_eq_true] at h2
  refine ⟨fun pins s σ H Q I h => ?_⟩
  obtain ⟨ρ, S, hS, hρ, x, sp, hi, hL, h⟩ := h
  obtain ⟨f, fd, k, ps, hl, hm, hk, hF, hb, hr⟩ := F x sp hL
  obtain ⟨v, ev, rv⟩ := hρ.2 i _ hi
  have hvf : v = .ref f := by
    cases rv with
    | glo h' =>
      have h'' : X.mg x = some (.ref _) := h'
      rw [hm] at h''
      cases h''
      rfl
  subst hvf
  refine wpAny_Call_Name_kw (thn ((pe_var (pos := p) hN hv hdb hcd).run pins s σ H (fun v H1 => v = .ref f ∧ H1 = H) I ⟨.ref f, ev, rfl, rfl⟩) fun u s1 ⟨v, H1, I1, r1, q1⟩ => ?_)
  obtain ⟨rfl, rfl⟩ := q1
  cases r1
  refine PySem.W.callWith_K (h₀ := X.base) I.ok.mod.kin hk (thn (ha.run pos pins s1 σ _ (fun vs H1 => spOf X.K X.gw n sp vs H1 Q (L2.WE W σ)) I1 ?_) fun us s2 ⟨vs, H2, I2, r, q⟩ => ⟨I2.kIn, ?_⟩) (star_cons h2.1) (star_none h2.2)
  · refine lG_bind mt hS hρ (hlen _ _ _ _ h) (fun ds S1 vs H1 h1 s1 e1 r1 f1 => ?_) fun x S1 cls d H1 h1 s1 r1 f1 => h1 cls d H1 s1 r1 f1
    obtain ⟨hn, h1, h2, h3⟩ := h1
    exact ⟨by rw [← r1.length]; exact hn, ds, S1, s1, r1, h1, fun d S' z v H' s' r' f' => h2 d S' z v H' s' r' (f1.trans f'), fun y S' z cls dd H' s' r' f' => h3 y S' z cls dd H' s' r' (f1.trans f')⟩
  · exact run_fnS hF hr hb (passAt tk σ) I2 r q
end
end Ow

namespace PySem.W
open PySem PySem.Calls PyProof.Rows
mutual
theorem reads_old {h : Heap} : ∀ {v : Value} {d : PyData} {as : List Addr}, Reads h v d as → ∀ x ∈ as, ∃ o, h.get? x = some o
  | _, _, _, .none, x, hx => by cases hx
  | _, _, _, .bool _, x, hx => by cases hx
  | _, _, _, .int _ _, x, hx => by cases hx
  | _, _, _, .str _ _, x, hx => by cases hx
  | _, _, _, .list h1 h2 h3 h4, x, hx => by
    rcases List.mem_cons.mp hx with rfl | hx
    · exact ⟨_, h1⟩
    · exact readsAll_old h4 x hx
  | _, _, _, .tuple h1 h2 h3 h4, x, hx => readsAll_old h4 x hx
  | _, _, _, .dict h1 h2 h3 h4 h5, x, hx => by
    rcases List.mem_cons.mp hx with rfl | hx
    · exact ⟨_, h1⟩
    · rcases List.mem_append.mp hx with hx | hx
      · exact readsAll_old h4 x hx
      · exact readsAll_old h5 x hx
theorem readsAll_old {h : Heap} : ∀ {vs : List Value} {ds : List PyData} {as : List Addr}, ReadsAll h vs ds as → ∀ x ∈ as, ∃ o, h.get? x = some o
  | _, _, _, .nil, x, hx => by cases hx
  | _, _, _, .cons h1 h2, x, hx => by
    rcases List.mem_append.mp hx with hx | hx
    · exact reads_old h1 x hx
    · exact readsAll_old h2 x hx
end
section
variable {prog : Program} {w : World} {A : Around} {E : Value → Shared → Prop} {s : Shared} {β : Type} {bs : List β} {enc : β → PyData} {R : Value → β → Prop}
/-- sorted(d) of a dict whose keys read as data -/
theorem sorted_raw {d : Addr} {es : Array DictEntry} {ep : Nat} {Q : Value → Shared → Prop} (lo : (d == sysModules) = false) (hm : s.heap.DictRaw d es ep) (hh : A.handled = none) (hn : es.size ≤ sizeLine)
    (e : EachIs R (es.toList.map (·.key)) bs) (er : EachIs (fun v b => ∃ as, Reads s.heap v (enc b) as) (es.toList.map (·.key)) bs) (hal : AllAlike (bs.map enc)) (hk : Sortable (bs.map enc))
    (hu : ∀ b, b ∈ bs → A.units + 2 + (enc b).depth < cLine)
    (h : ∀ (h' : Heap) (tk : Nat) (D : Addr) (out : List Value) (n : Nat), (∀ b o, s.heap.get? b = some o → h'.get? b = some o) → s.heap.get? D = none → h'.get? D = some (seqObj "list" out.toArray n) → out.length = bs.length → EachIs R out (bs.mergeSort (dataLe false enc)) → Q (.ref D) { s with heap := h', toks := tk }) :
    wpAny (model prog w) A (call (.builtin "sorted") [.ref d]) Q E s := by
  refine call_function_entry kind_sorted plain_sorted entry_sorted (args_sorted1 _) ?_
  unfold Builtin.«sorted»
  refine wpAny_bind (m := checkCount "sorted" 1 1 _) (wpAny_pure ?_)
  refine wpAny_bind (kdu_collect (A := A.in1) (KdlSrc.rawDict (prog := prog) (w := w) lo) hh hm hn fun h' tk acc hkp hacc => ?_)
  have hl : acc.toList.length = es.size := by rw [Array.length_toList]; exact hacc.1
  have ea : acc.toList = es.toList.map (·.key) := by
    apply List.ext_getElem?
    intro j
    by_cases hj : j < es.size
    · have hj' : j < acc.size := by rw [hacc.1]; exact hj
      have := hacc.2 j acc[j] (Array.getElem?_eq_getElem hj')
      obtain ⟨hi, ek⟩ := this
      rw [Array.getElem?_toList, Array.getElem?_eq_getElem hj', ek, List.getElem?_map, Array.getElem?_toList, Array.getElem?_eq_getElem hi]
      rfl
    · rw [List.getElem?_eq_none (by omega), List.getElem?_eq_none (by rw [List.length_map, Array.length_toList]; omega)]
  have hL : bs.length ≤ sizeLine := by rw [← e.length, List.length_map, Array.length_toList]; exact hn
  refine wpAny_bind (wpAny_newList ?_ (by rw [hl]; exact hn))
  have ho : (h'.push { cls := .type "list", data := .seq acc.toList.toArray }).get? h'.objs.size = some (seqObj "list" acc.toList.toArray 0) := Heap.get?_push_size _ rfl
  have keep : ∀ b o, s.heap.get? b = some o → (h'.push { cls := .type "list", data := .seq acc.toList.toArray }).get? b = some o := fun b o q => Heap.get?_push_of_some _ (hkp b o q)
  have hno : s.heap.get? h'.objs.size = none := by
    cases q : s.heap.get? h'.objs.size with
    | none => rfl
    | some o => exact absurd (Heap.lt_size (hkp _ o q)) (Nat.lt_irrefl _)
  have hfin : wpAny (model prog w) A.in1 (call (.builtin "list.sort") [.ref h'.objs.size]) (fun _ s' => Q (.ref h'.objs.size) s') E { s with heap := h'.push { cls := .type "list", data := .seq acc.toList.toArray }, toks := tk } := by
    refine list_sort_data (s := { s with heap := h'.push { cls := .type "list", data := .seq acc.toList.toArray }, toks := tk }) (R := R) (enc := enc) (bs := bs) (vs := acc.toList) ho (by rw [ea]; exact e) ?_ hal hk hL (fun b hb => ?_) fun out hlen hout => ?_
    · have er' : EachIs (fun v b => ∃ as, Reads s.heap v (enc b) as) acc.toList bs := by rw [ea]; exact er
      exact er'.mono fun v b ⟨as, r⟩ => ⟨as, PyProof.Rows.Reads.keeps keep r, fun hm => by
        obtain ⟨o, ho⟩ := reads_old r _ hm
        rw [hno] at ho
        cases ho⟩
    · have := hu b hb
      show A.in1.units + 1 + (enc b).depth < cLine
      have e1 : A.in1.units = A.units + 1 := rfl
      omega
    · obtain ⟨n, hn'⟩ := PyProof.Rows.sortedHeap_at (vs := acc.toList) (out := out.toArray) ho
      exact h _ tk h'.objs.size out n (fun b o q => by
        have hb : b ≠ h'.objs.size := fun z => by rw [z, hno] at q; cases q
        rw [PyProof.Rows.sortedHeap_old hb (Heap.lt_size (keep b o q))]
        exact keep b o q) hno hn' hlen hout
  refine wpAny_bind (wpAny_holding (wpAny_mono hfin (fun _ s' x => ?_) fun _ _ e => e))
  exact wpAny_pure ⟨_, rfl, x⟩
end
end PySem.W
namespace L2
open PySem PySem.Spec PyProof.Rows
/-- sorted(xs): a list, or a dict's keys, that read as data -/
def rSortX (X : Cx) : List V → Hp → VK → Prop := fun vs H Q => ∃ (a : Addr) (bs : List (V × PyData)), vs = [.ref a] ∧
  (SqL X.K H a (bs.map (·.1)) ∨ ∃ ep xs, H a = some (Ow.DctO X.w a ep xs) ∧ bs.map (·.1) = xs.map (fun x => V.ref x.2.1)) ∧ (∀ b ∈ bs, Dp X.K H b.1 b.2) ∧ PySem.W.AllAlike (bs.map (·.2)) ∧ PySem.W.Sortable (bs.map (·.2)) ∧ (∀ b ∈ bs, b.2.depth ≤ 61) ∧
  ∀ p, H p = none → Q (.ref p) (upd H p (.lst ((bs.mergeSort (PySem.W.dataLe false (·.2))).map (·.1))))
section
variable {X : Cx}
theorem vals_refs3 : ∀ xs : List (NestedKey × Addr × Value), Vals (xs.map fun x => V.ref x.2.1) (xs.map fun x => Value.ref x.2.1)
  | [] => .nil
  | x :: xs => .cons rfl (vals_refs3 xs)
theorem each_vals : ∀ {bs : List (V × PyData)} {us : List Value}, Vals (bs.map (·.1)) us → PySem.W.EachIs (fun u b => RelV b.1 u) us bs
  | [], _, .nil => .nil
  | b :: bs, _, .cons p q => .cons p (each_vals q)
theorem vals_each : ∀ {bs : List (V × PyData)} {us : List Value}, PySem.W.EachIs (fun u b => RelV b.1 u) us bs → Vals (bs.map (·.1)) us
  | [], _, .nil => .nil
  | b :: bs, _, .cons p q => .cons p (vals_each q)
theorem each_reads {pins : List (Addr × Obj)} {σ : St} {H : Hp} {s : Shared} (I : Inv X pins σ H s) : ∀ {bs : List (V × PyData)} {us : List Value}, (∀ b ∈ bs, Dp X.K H b.1 b.2) → PySem.W.EachIs (fun u b => RelV b.1 u) us bs → PySem.W.EachIs (fun u b => ∃ as, Reads s.heap u b.2 as) us bs
  | [], _, _, .nil => .nil
  | b :: bs, _, h, .cons p q => .cons (Dp.reads I b.2 b.1 _ (h b (by simp)) p) (each_reads I (fun c hc => h c (by simp [hc])) q)
theorem cr_sortX (hc : X.calm = true) (hu : X.A.units + 65 < cLine) : CallR X (.builtin "sorted") (rSortX X) := by
  intro pins s σ H vs us Q I r h
  obtain ⟨a, bs, rfl, hs, hd, hal, hk, hdep, q⟩ := h
  rw [Vals.ref1 r]
  have hu' : ∀ b, b ∈ bs → X.A.units + 2 + b.2.depth < cLine := fun b hb => by have := hdep b hb; omega
  rcases hs with hs | ⟨ep, xs, ha, hx⟩
  · obtain ⟨its, rv, hl, hz⟩ := I.list hs
    have e := each_vals rv
    have hz' : bs.length ≤ sizeLine := by rw [List.length_map] at hz; exact hz
    refine PySem.W.sorted_data (R := fun u (b : V × PyData) => RelV b.1 u) (enc := fun (b : V × PyData) => b.2) hl.isList e (each_reads I hd e) hal hk hz' hu' fun out hlen hout => ?_
    obtain ⟨ep, he'⟩ := PyProof.Rows.sortedAll_at s.heap its out.toArray
    have hlen' : ((bs.mergeSort (PySem.W.dataLe false (·.2))).map (·.1)).length ≤ sizeLine := by rw [List.length_map, List.length_mergeSort]; exact hz'
    exact ⟨.ref _, upd H (s.heap.objs.size + 1) (.lst _), I.laid (t' := s.toks) (fun _ _ => PyProof.Rows.sortedAll_old) (Nat.le_succ _) ⟨hlen', out, ep, vals_each hout, he'⟩, rfl, q _ (I.hok.fresh (Nat.le_succ _))⟩
  · obtain ⟨⟨h1, h2, _, _, o, es, h5, h6, h7, h8⟩, _⟩ := (show ObjOk X.prog X.w H s.heap a (Ow.DctO X.w a ep xs) from I.hok a _ ha)
    have ek : es.toList.map (·.key) = xs.map (fun x => Value.ref x.2.1) := by rw [h8, List.map_map]; rfl
    have rv : Vals (bs.map (·.1)) (es.toList.map (·.key)) := by
      rw [hx, ek]
      exact vals_refs3 xs
    have e := each_vals rv
    have hz : es.size = xs.length := by have := congrArg List.length h8; simpa using this
    have hz' : bs.length ≤ sizeLine := by rw [← e.length, List.length_map, Array.length_toList]; omega
    refine PySem.W.sorted_raw (R := fun u (b : V × PyData) => RelV b.1 u) (enc := fun (b : V × PyData) => b.2) h1 ⟨o, h5, h6, h7⟩ (I.ok.hd hc) (by omega) e (each_reads I hd e) hal hk hu' fun h' tk D out n keep hno hD hlen hout => ?_
    have hlen' : ((bs.mergeSort (PySem.W.dataLe false (·.2))).map (·.1)).length ≤ sizeLine := by rw [List.length_map, List.length_mergeSort]; exact hz'
    exact ⟨.ref _, upd H D (.lst _), I.laidN (t' := tk) keep hno (I.hok.gone hno) ⟨hlen', out, n, vals_each hout, hD⟩, rfl, q _ (I.hok.gone hno)⟩
end
end L2
namespace Ow
open PySem PySem.Spec PyProof.Rows L2
def leD (x y : D) : Bool := PySem.W.dataLe false toPy x y
def srtD (l : List D) : List D := l.mergeSort leD
structure SrtOk (l : List D) : Prop where
  ok : okDs 60 l = true
  al : PySem.W.AllAlike (l.map toPy)
  so : PySem.W.Sortable (l.map toPy)
/-- what sorted goes through -/
def srtL (S : Sto) : D → Option (List D)
  | .ref a => match S a with
    | some (.lst l) => some l
    | some (.dct _ l) => some (l.map (·.1))
    | _ => none
  | .fl l => some l
  | _ => none
def srtF : FL := fun ds S Q => match ds with
  | [d] => ∃ l, srtL S d = some l ∧ SrtOk l ∧ newL (srtD l) S Q
  | _ => False
theorem m_srt : MonoL srtF := fun l S Q Q' h q => by
  unfold srtF at h ⊢
  split at h
  · obtain ⟨l, h1, h2, h3⟩ := h
    exact ⟨l, h1, h2, h3.mono q⟩
  · exact h
theorem map_mergeSort_fst {α β : Type} {le : β → β → Bool} {f : α → β} : ∀ l : List α, (l.mergeSort fun a b => le (f a) (f b)).map f = (l.map f).mergeSort le := fun l => List.map_mergeSort (r := fun a b => le (f a) (f b)) (s := le) (f := f) (l := l) fun a _ b _ => rfl
section
variable {X : Cx}
theorem reps_zip {K : PySem.W.Frag} {mg : GW} {H : Hp} : ∀ {ds : List D} {vs : List V}, Reps K mg H ds vs → (ds.zip vs).map (·.1) = ds ∧ (ds.zip vs).map (·.2) = vs ∧ ∀ p ∈ ds.zip vs, Rep K mg H p.1 p.2
  | _, _, .nil => ⟨rfl, rfl, fun _ h => by cases h⟩
  | _, _, .cons h t => by
    obtain ⟨a, b, c⟩ := reps_zip t
    refine ⟨by simp [a], by simp [b], fun p hp => ?_⟩
    rcases List.mem_cons.mp hp with rfl | hp
    · exact h
    · exact c p hp
theorem reps_of {K : PySem.W.Frag} {mg : GW} {H : Hp} : ∀ {ps : List (D × V)}, (∀ p ∈ ps, Rep K mg H p.1 p.2) → Reps K mg H (ps.map (·.1)) (ps.map (·.2))
  | [], _ => .nil
  | p :: ps, h => .cons (h p (by simp)) (reps_of fun q hq => h q (by simp [hq]))
theorem dreps_keys {K : PySem.W.Frag} {mg : GW} {H : Hp} : ∀ {l : List (D × D)} {xs : List (NestedKey × Addr × Value)}, DReps K mg H l xs → Reps K mg H (l.map (·.1)) (xs.map fun x => V.ref x.2.1)
  | _, _, .nil => .nil
  | _, _, .cons _ h _ _ t => .cons h (dreps_keys t)
theorem okDs_mem' {n : Nat} : ∀ {l : List D}, okDs n l = true → ∀ x ∈ l, okD n x = true
  | [], _, x, hx => by cases hx
  | y :: ys, h, x, hx => by
    have h' : okD n y = true ∧ okDs n ys = true := by simpa [okDs] using h
    rcases List.mem_cons.mp hx with rfl | hx
    · exact h'.1
    · exact okDs_mem' h'.2 x hx
theorem srt_core {S : Sto} {H : Hp} {Q : VK} {a : Addr} {l : List D} {us : List V} (s : Sim X.K X.gw H S) (r : Reps X.K X.gw H l us) (ok : SrtOk l)
    (hs : SqL X.K H a us ∨ ∃ ep xs, H a = some (DctO X.w a ep xs) ∧ us = xs.map (fun x => V.ref x.2.1))
    (q : newL (srtD l) S fun x S' => ∀ y H', Sim X.K X.gw H' S' → Rep X.K X.gw H' x y → Fm S H S' H' → Q y H') : rSortX X [.ref a] H Q := by
  obtain ⟨z1, z2, z3⟩ := reps_zip r
  have e1 : (((l.zip us).map fun p => (p.2, toPy p.1)).map (·.1)) = us := by rw [List.map_map]; exact z2
  have e2 : (((l.zip us).map fun p => (p.2, toPy p.1)).map (·.2)) = l.map toPy := by
    rw [List.map_map]
    have : ((fun x : V × PyData => x.2) ∘ fun p : D × V => (p.2, toPy p.1)) = toPy ∘ (fun p : D × V => p.1) := rfl
    rw [this, ← List.map_map, z1]
  refine ⟨a, (l.zip us).map fun p => (p.2, toPy p.1), rfl, by rw [e1]; exact hs, fun b hb => ?_, by rw [e2]; exact ok.al, by rw [e2]; exact ok.so, fun b hb => ?_, fun p hp => ?_⟩
  · obtain ⟨c, hc, rfl⟩ := List.mem_map.mp hb
    have hm : c.1 ∈ l := by rw [← z1]; exact List.mem_map.mpr ⟨c, hc, rfl⟩
    exact (z3 c hc).dp (okDs_mem' ok.ok _ hm)
  · obtain ⟨c, hc, rfl⟩ := List.mem_map.mp hb
    have hm : c.1 ∈ l := by rw [← z1]; exact List.mem_map.mpr ⟨c, hc, rfl⟩
    have := (lay_toPy 60 c.1 (okDs_mem' ok.ok _ hm)).2
    show (toPy c.1).depth ≤ 61
    omega
  · have m1 : ((l.zip us).map fun p => (p.2, toPy p.1)).mergeSort (PySem.W.dataLe false (·.2)) = ((l.zip us).mergeSort fun p q => leD p.1 q.1).map fun p => (p.2, toPy p.1) := by
      rw [← map_mergeSort_fst (le := PySem.W.dataLe false (fun b : V × PyData => b.2)) (f := fun p : D × V => (p.2, toPy p.1))]
      rfl
    have m2 : ((l.zip us).mergeSort fun p q => leD p.1 q.1).map (·.1) = srtD l := by
      rw [map_mergeSort_fst (le := leD) (f := fun p : D × V => p.1), z1]
      rfl
    have rr : Reps X.K X.gw H (srtD l) (((l.zip us).mergeSort fun p q => leD p.1 q.1).map (·.2)) := by
      rw [← m2]
      exact reps_of fun p hp => z3 p ((List.mergeSort_perm _ _).mem_iff.mp hp)
    rw [m1, List.map_map]
    exact new_lst (X := X) s rr q p hp
theorem says_srt : SaysL X.K X.gw (rSortX X) srtF := fun ds vs S H Q s r q => by
  unfold srtF at q
  split at q
  · obtain ⟨l, hl, ok, q⟩ := q
    cases r with
    | cons h t =>
      cases t
      unfold srtL at hl
      split at hl
      · cases h
        split at hl
        · next e =>
          cases hl
          obtain ⟨us, g1, g2⟩ := s _ _ e
          exact srt_core s g2 ok (.inl (.of g1)) q
        · next e =>
          cases hl
          obtain ⟨xs, g1, g2⟩ := s _ _ e
          exact srt_core s (dreps_keys g2) ok (.inr ⟨_, xs, g1, rfl⟩) q
        · cases hl
      · cases hl
        cases h with
        | fl h1 h2 => exact srt_core s h2 ok (.inl h1.sql) q
      · cases hl
  · exact q.elim
end
end Ow

namespace Ow
open PySem PySem.Spec PyProof.Rows L2
/-- what a module's name stands for -/
inductive Gd where
  | fn (n : Nat) (sp : Spec)
  | val (d : D)
  | blt
  /-- an exception's class, one of these -/
  | exc (xs : List Str)
  /-- the __init__ of an exception's class -/
  | mk (c : Str)
structure Gam where
  N : List Str
  sc : Scope
  fs : List (Str × Gd)
  top : Bool
  /-- no exception is handled -/
  cal : Bool := true
def GdOk (X : Cx) (x : Str) : Gd → Prop
  | .fn n sp => FnIn X x n sp
  | .val d => ∃ v u, X.mg x = some u ∧ RelV v u ∧ ∀ H, Rep X.K X.gw H d v
  | .blt => X.mg x = none
  | .exc xs => XcK X.K X.mg xs
  | .mk c => InI X c
/-- a context that the text may stand in -/
structure CxOk (G : Gam) (X : Cx) (W : WX) : Prop where
  hN : X.N = G.N
  nd : X.N.Nodup
  calm : G.cal = true → X.calm = true
  calT : G.top = true → X.calm = true
  stk : G.top = true → X.stack = X.env :: X.outer ∧ X.env.frame = some X.env.locals
  hu : X.A.units + 65 < cLine
  fre : ∀ x, G.sc.names.lookup x = some .free → X.env.scope.names.lookup x = some .cell ∨ X.env.scope.names.lookup x = some .free
  loc : ∀ x, G.sc.names.lookup x = some .local → X.env.scope.names.lookup x = some .local
  cel : ∀ x, G.sc.names.lookup x = some .cell → X.env.scope.names.lookup x = some .cell ∧ X.fn x = true
  gl : ∀ x, G.sc.names.lookup x = some .globalImplicit → Gl X x
  fns : ∀ q ∈ G.fs, GdOk X q.1 q.2
  tk : Takes X W
  pas : G.top = true → PassesOwn (model X.prog X.w) X.A X.env X.xe
  sco : G.top = true → X.env.scope = G.sc
  kin : G.top = true → X.env.scope.kind = .function
def ixS : List Str → Str → Option Nat
  | [], _ => none
  | y :: ys, x => if (y == x) = true then some 0 else (ixS ys x).map (· + 1)
theorem ixS_ok : ∀ {N : List Str} {x : Str} {i : Nat}, ixS N x = some i → N[i]? = some x
  | [], _, _, h => by cases h
  | y :: ys, x, i, h => by
    unfold ixS at h
    split at h
    · cases h
      next e => simpa using eq_of_beq e
    · cases e : ixS ys x with
      | none => rw [e] at h; cases h
      | some j =>
        rw [e] at h
        cases h
        simpa using ixS_ok e
def isVis : Option NameKind → Bool
  | some .local => true
  | some .cell => true
  | some .free => true
  | _ => false
def isLc : Option NameKind → Bool
  | some .local => true
  | some .cell => true
  | _ => false
def isOnly : Option NameKind → Bool
  | some .local => true
  | _ => false
def isGl : Option NameKind → Bool
  | some .globalImplicit => true
  | _ => false
theorem isOnly_eq {k : Option NameKind} (h : isOnly k = true) : k = some .local := by unfold isOnly at h; split at h <;> first | rfl | cases h
theorem isGl_eq {k : Option NameKind} (h : isGl k = true) : k = some .globalImplicit := by unfold isGl at h; split at h <;> first | rfl | cases h
section
variable {G : Gam} {X : Cx} {W : WX} {x : Str}
theorem CxOk.vis (c : CxOk G X W) (h : isVis (G.sc.names.lookup x) = true) : Vis X.env.scope x := by
  unfold isVis at h
  split at h
  · next e => exact .inl (c.loc x e)
  · next e => exact .inr (.inl (c.cel x e).1)
  · next e => exact .inr (c.fre x e)
  · cases h
theorem CxOk.lc (c : CxOk G X W) (h : isLc (G.sc.names.lookup x) = true) : Loc X.env.scope x ∧ (X.fn x = true ∨ X.env.scope.names.lookup x = some .local) := by
  unfold isLc at h
  split at h
  · next e => exact ⟨.inl (c.loc x e), .inr (c.loc x e)⟩
  · next e => exact ⟨.inr (c.cel x e).1, .inl (c.cel x e).2⟩
  · cases h
theorem CxOk.glo (c : CxOk G X W) (h : isGl (G.sc.names.lookup x) = true) : Gl X x := c.gl x (isGl_eq h)
theorem CxOk.fn (c : CxOk G X W) {g : Gd} (h : G.fs.lookup x = some g) : GdOk X x g := c.fns (x, g) (PySem.mem_of_lookup h)
end
theorem lookup_relab {env : Env} : ∀ {names : List (Str × NameKind)} {x : Str}, names.lookup x = some .free →
    (names.map fun (n, k) => if (k == NameKind.free && env.scope.kind == .function && env.kindOf n == some .cell) then (n, NameKind.cell) else (n, k)).lookup x = some .cell ∨
    (names.map fun (n, k) => if (k == NameKind.free && env.scope.kind == .function && env.kindOf n == some .cell) then (n, NameKind.cell) else (n, k)).lookup x = some .free
  | [], _, h => by simp at h
  | (n, k) :: r, x, h => by
    have ih := @lookup_relab env r x
    simp only [List.map_cons]
    cases hx : x == n with
    | true =>
      simp only [List.lookup_cons, hx] at h
      cases h
      split
      · left; simp [List.lookup_cons, hx]
      · right; simp [List.lookup_cons, hx]
    | false =>
      simp only [List.lookup_cons, hx] at h
      have := ih h
      split <;> (simp only [List.lookup_cons, hx]; exact this)
theorem CxOk.blk {G : Gam} {X : Cx} {W : WX} {scope : Scope} (c : CxOk G X W) (s : Shared) (H : Hp) (C : Addr) (cl : List (Str × Addr)) (fp : List Addr) :
    CxOk { G with sc := scope, top := false } (X.blk s H scope (compEnvC scope cl C X.env) fp) W0 where
  hN := c.hN
  nd := c.nd
  calm := c.calm
  calT := fun h => by cases h
  stk := fun h => by cases h
  hu := c.hu
  fre := fun x h => lookup_relab h
  loc := fun x h => lookup_relabel_local h
  cel := fun x h => ⟨oc_lookup_relabel rfl h, by show (scope.names.lookup x == some .cell) = true; rw [show scope.names.lookup x = some .cell from h]; rfl⟩
  gl := fun x h => oc_lookup_relabel rfl h
  fns := fun q hq => by
    have z := c.fns q hq
    obtain ⟨x, g⟩ := q
    cases g <;> exact z
  tk := fun u s' ⟨a, B, sI, pins, σ, H, cls, d, e, I, nb, up, sky, na, os, ag, w⟩ => w.elim
  pas := fun h => by cases h
  sco := fun h => by cases h
  kin := fun h => by cases h
theorem BlkOk.go {G : Gam} {X : Cx} {W : WX} {scope : Scope} {own : List (Str × Nat)} (c : CxOk G X W) (h : blkC G.N G.sc scope own = true) : BlkOk X.N X.env.scope scope own := by
  have b := blkOk_by h
  rw [c.hN]
  exact ⟨b.kind, b.uniq, b.ix, fun y hy e => (b.free y hy e).elim (fun z => .inl (c.cel _ z).1) (fun z => c.fre _ z), b.own⟩
structure CE (G : Gam) (e : Expr) where
  t : WE
  m : Mono t
  ok : ∀ X W, CxOk G X W → PE X e (lE X.K X.gw W t)
structure CT (G : Gam) (e : Expr) where
  t : WT
  m : Mono t
  ok : ∀ X W, CxOk G X W → PT X e (lT X.K X.gw W t)
structure CW (G : Gam) (op : BoolOp) (es : List Expr) (pos : Pos) where
  t : WT
  m : Mono t
  ok : ∀ X W, CxOk G X W → PW X (.BoolOp op es pos) (lT X.K X.gw W t)
structure CV (G : Gam) (op : BoolOp) (es : List Expr) (pos : Pos) where
  t : WE
  m : Mono t
  ok : ∀ X W, CxOk G X W → PE X (.BoolOp op es pos) (lE X.K X.gw W t)
structure CA (G : Gam) (es : List Expr) where
  t : WA
  m : Mono t
  len : LenA es.length t
  pl : es.all plainE = true
  ok : ∀ X W, CxOk G X W → PA X es (lA X.K X.gw W t)
structure CH (G : Gam) (e : Expr) where
  t : WA
  m : Mono t
  ok : ∀ X W, CxOk G X W → PE X e (lH X.K X.gw W t)
structure CQ (G : Gam) (e : Expr) where
  t : WQ
  m : Mono t
  ok : ∀ X W, CxOk G X W → PE X e (lQ X.K X.gw W t)
structure CO (G : Gam) (e : Option Expr) where
  t : WO
  m : Mono t
  ok : ∀ X W, CxOk G X W → PO X e (lO X.K X.gw W t)
structure CI (G : Gam) (tg e : Expr) where
  t : WI
  m : Mono t
  hs : ∀ env x, foldedSetIterable e env x = pure x
  ok : ∀ X W, CxOk G X W → PI X tg e (lI X.K X.gw W t)
structure CG (G : Gam) (e : Expr) where
  t : Tg
  pl : plainE e = true
  ok : ∀ X W, CxOk G X W → PG X e (lTg X.K X.gw t)
structure CGs (G : Gam) (es : List Expr) where
  t : List Tg
  pl : es.all plainE = true
  len : es.length = t.length
  ok : ∀ X W, CxOk G X W → PGs X es (lTgs X.K X.gw t)
structure CS (G : Gam) (s : Stmt) where
  t : WS
  m : MonoS t
  ok : ∀ X W, CxOk G X W → PS X s (lS X.K X.gw W t)
structure CSs (G : Gam) (ss : List Stmt) where
  t : WS
  m : MonoS t
  ok : ∀ X W, CxOk G X W → PSs X ss (lS X.K X.gw W t)
structure Cp where
  E : (G : Gam) → (e : Expr) → Option (CE G e)
  T : (G : Gam) → (e : Expr) → Option (CT G e)
  H : (G : Gam) → (e : Expr) → Option (CH G e)
  S : (G : Gam) → (s : Stmt) → Option (CS G s)
def cA (c : Cp) (G : Gam) : (es : List Expr) → Option (CA G es)
  | [] => some ⟨wNil, mono_Nil, len_Nil, rfl, fun _ _ _ => pa_nilW⟩
  | e :: es =>
    if hp : plainE e = true then
      (c.E G e).bind fun a => (cA c G es).bind fun b =>
        some ⟨wCons a.t b.t, mono_Cons a.m b.m, len_Cons a.m b.len b.m, by simp only [List.all_cons, hp, b.pl]; rfl, fun X W k => pa_consW a.m b.m (a.ok X W k) (b.ok X W k) (star_cons hp)⟩
    else none
def cW (c : Cp) (G : Gam) (op : BoolOp) (pos : Pos) : (es : List Expr) → Option (CW G op es pos)
  | [] => none
  | [a] => (c.T G a).bind fun x => some ⟨x.t, x.m, fun X W k => pw_oneW (x.ok X W k)⟩
  | a :: b :: rest => (c.T G a).bind fun x => (cW c G op pos (b :: rest)).bind fun y =>
    match op, y with
    | .And, y => some ⟨wAndT x.t y.t, mono_AndT x.m y.m, fun X W k => pw_andW x.m y.m (x.ok X W k) (y.ok X W k)⟩
    | .Or, y => some ⟨wOrT x.t y.t, mono_OrT x.m y.m, fun X W k => pw_orW x.m y.m (x.ok X W k) (y.ok X W k)⟩
theorem pe_oneV {X : Cx} {op : BoolOp} {a : Expr} {pos : Pos} {t : TE} (h : PE X a t) : PE X (.BoolOp op [a] pos) t := by
  refine ⟨fun pins s σ H Q I q => ?_⟩
  have := h.run pins s σ H Q I q
  cases op <;> exact (by simpa [eval, boolOp, evalEach] using this)
def cV (c : Cp) (G : Gam) (op : BoolOp) (pos : Pos) : (es : List Expr) → Option (CV G op es pos)
  | [] => none
  | [a] => (c.E G a).bind fun x => some ⟨x.t, x.m, fun X W k => pe_oneV (x.ok X W k)⟩
  | a :: b :: rest => (c.E G a).bind fun x => (cV c G op pos (b :: rest)).bind fun y =>
    match op, y with
    | .And, y => some ⟨wAndV x.t y.t, mono_AndV x.m y.m, fun X W k => pe_andW x.m y.m (x.ok X W k) (y.ok X W k)⟩
    | .Or, y => some ⟨wOrV x.t y.t, mono_OrV x.m y.m, fun X W k => pe_orW x.m y.m (x.ok X W k) (y.ok X W k)⟩
def cO (c : Cp) (G : Gam) : (e : Option Expr) → Option (CO G e)
  | none => some ⟨wNoP, mono_NoP, fun _ _ _ => po_noneW⟩
  | some e => (c.E G e).bind fun a => some ⟨wP a.t, mono_P a.m, fun X W k => po_someW a.m (a.ok X W k)⟩
def cGs (c : (e : Expr) → Option (CG G e)) : (es : List Expr) → Option (CGs G es)
  | [] => some ⟨[], rfl, rfl, fun _ _ _ => pgs_nilW⟩
  | e :: es => (c e).bind fun a => (cGs c es).bind fun b => some ⟨a.t :: b.t, by simp only [List.all_cons, a.pl, b.pl]; rfl, congrArg (· + 1) b.len, fun X W k => pgs_consW a.pl (a.ok X W k) (b.ok X W k)⟩
def cG0 (G : Gam) : (e : Expr) → Option (CG G e)
  | .Name x pos => if h : isLc (G.sc.names.lookup x) = true then
      match hi : ixS G.N x with
      | some i => some ⟨.nm i, rfl, fun X W k => pg_nameW k.nd (by rw [k.hN]; exact ixS_ok hi) (k.lc h).1 (k.lc h).2⟩
      | none => none
    else none
  | _ => none
def cG1 (G : Gam) (c : (e : Expr) → Option (CG G e)) : (e : Expr) → Option (CG G e)
  | .Tuple es n pos => if hc : G.cal = true then (cGs c es).bind fun a => some ⟨.tp a.t, rfl, fun X W k => pg_tupW (k.calm hc) a.pl a.len (a.ok X W k)⟩ else none
  | e => cG0 G e
def cG (G : Gam) (e : Expr) : Option (CG G e) := cG1 G (cG1 G (cG1 G (cG1 G (cG0 G)))) e
/-- a name of the module -/
structure BltX (G : Gam) (x : Str) : Prop where
  go : ∀ X W, CxOk G X W → Gl X x ∧ X.mg x = none
def bltX (G : Gam) (x : Str) : Option (PLift (BltX G x)) :=
  if h : isGl (G.sc.names.lookup x) = true then
    match hq : G.fs.lookup x with
    | some .blt => some ⟨⟨fun X W k => ⟨k.glo h, k.fn hq⟩⟩⟩
    | _ => none
  else none
def noSet : Expr → Bool
  | .Set _ _ _ => false
  | _ => true
theorem noSet_ok {e : Expr} (h : noSet e = true) (env : Env) (x : Value) : foldedSetIterable e env x = pure x := by
  cases e <;> first | rfl | cases h
def cI (c : Cp) (G : Gam) (tg : Expr) : (e : Expr) → Option (CI G tg e)
  | .Call (.Name x p) [a] [] pos =>
    if hx : (x == "range") = true then
      if hp : plainE a = true then (bltX G "range").bind fun b => (c.E G a).bind fun u => some ⟨iR1 u.t, mono_iR1 u.m, fun _ _ => rfl, fun X W k => by
        rw [eq_of_beq hx]; exact pi_r1W u.m (u.ok X W k) hp (b.down.go X W k).1 (b.down.go X W k).2⟩ else none
    else if hx : (x == "enumerate") = true then
      match tg with
      | .Tuple es n tp => if hp : plainE a = true then (bltX G "enumerate").bind fun b => (c.E G a).bind fun u => some ⟨iEn 0 u.t, mono_iEn u.m, fun _ _ => rfl, fun X W k => by
          rw [eq_of_beq hx]; exact pi_en1W u.m (u.ok X W k) hp (b.down.go X W k).1 (b.down.go X W k).2⟩ else none
      | _ => none
    else (c.E G (.Call (.Name x p) [a] [] pos)).bind fun u => some ⟨iOf u.t, mono_iOf u.m, fun _ _ => rfl, fun X W k => pi_ofW u.m (u.ok X W k)⟩
  | .Call (.Name x p) [a, b] [] pos =>
    if hx : (x == "range") = true then
      if hp : plainE a = true ∧ plainE b = true then (bltX G "range").bind fun q => (c.E G a).bind fun u => (c.E G b).bind fun v => some ⟨iR2 u.t v.t, mono_iR2 u.m v.m, fun _ _ => rfl, fun X W k => by
        rw [eq_of_beq hx]; exact pi_r2W u.m v.m (u.ok X W k) (v.ok X W k) hp.1 hp.2 (q.down.go X W k).1 (q.down.go X W k).2⟩ else none
    else if hx : (x == "zip") = true then
      match tg with
      | .Tuple es n tp => if hp : plainE a = true ∧ plainE b = true then (bltX G "zip").bind fun q => (c.E G a).bind fun u => (c.E G b).bind fun v => some ⟨iZip u.t v.t, mono_iZip u.m v.m, fun _ _ => rfl, fun X W k => by
          rw [eq_of_beq hx]; exact pi_zipW u.m v.m (u.ok X W k) (v.ok X W k) hp.1 hp.2 (q.down.go X W k).1 (q.down.go X W k).2⟩ else none
      | _ => none
    else if hx : (x == "enumerate") = true then
      match tg, b with
      | .Tuple es n tp, .Constant (.int i) j p2 => if hp : plainE a = true ∧ 0 < i ∧ i < 1000 then (bltX G "enumerate").bind fun q => (c.E G a).bind fun u => some ⟨iEn i u.t, mono_iEn u.m, fun _ _ => rfl, fun X W k => by
          rw [eq_of_beq hx]; exact pi_en2W hp.2 u.m (u.ok X W k) hp.1 (q.down.go X W k).1 (q.down.go X W k).2⟩ else none
      | _, _ => none
    else (c.E G (.Call (.Name x p) [a, b] [] pos)).bind fun u => some ⟨iOf u.t, mono_iOf u.m, fun _ _ => rfl, fun X W k => pi_ofW u.m (u.ok X W k)⟩
  | .Call (.Name x p) [a, b, d] [] pos =>
    if hx : (x == "range") = true then
      if hp : plainE a = true ∧ plainE b = true ∧ plainE d = true then (bltX G "range").bind fun q => (c.E G a).bind fun u => (c.E G b).bind fun v => (c.E G d).bind fun w => some ⟨iR3 u.t v.t w.t, mono_iR3 u.m v.m w.m, fun _ _ => rfl, fun X W k => by
        rw [eq_of_beq hx]; exact pi_r3W u.m v.m w.m (u.ok X W k) (v.ok X W k) (w.ok X W k) hp.1 hp.2.1 hp.2.2 (q.down.go X W k).1 (q.down.go X W k).2⟩ else none
    else (c.E G (.Call (.Name x p) [a, b, d] [] pos)).bind fun u => some ⟨iOf u.t, mono_iOf u.m, fun _ _ => rfl, fun X W k => pi_ofW u.m (u.ok X W k)⟩
  | .List es pos => (c.H G (.List es pos)).bind fun u => some ⟨iHid u.t, mono_iHid u.m, fun _ _ => rfl, fun X W k => pi_hidW u.m (u.ok X W k)⟩
  | .ListComp a b d pos => (c.H G (.ListComp a b d pos)).bind fun u => some ⟨iHid u.t, mono_iHid u.m, fun _ _ => rfl, fun X W k => pi_hidW u.m (u.ok X W k)⟩
  | e => if h : noSet e = true then (c.E G e).bind fun u => some ⟨iOf u.t, mono_iOf u.m, noSet_ok h, fun X W k => pi_ofW u.m (u.ok X W k)⟩ else none
def ownOf (N : List Str) : List (Str × NameKind) → List (Str × Nat)
  | [] => []
  | y :: ys => if isLc (some y.2) = true then (match ixS N y.1 with
      | some i => (y.1, i) :: ownOf N ys
      | none => ownOf N ys) else ownOf N ys
structure CIf (G : Gam) (es : List Expr) where
  t : WT
  m : Mono t
  ok : ∀ X W, CxOk G X W → PTs X es (lT X.K X.gw W t)
def cIf (c : Cp) (G : Gam) : (es : List Expr) → Option (CIf G es)
  | [] => some ⟨wYes, mono_Yes, fun _ _ _ => pts_nilW⟩
  | [e] => (c.T G e).bind fun u => some ⟨u.t, u.m, fun X W k => pts_one (u.ok X W k)⟩
  | _ => none
structure CL (G : Gam) (elt tgE iter : Expr) (ifs : List Expr) (scope : Scope) where
  src : WI
  tg : Tg
  tt : WT
  te : WE
  own : List (Str × Nat)
  ok : ∀ X W, CxOk G X W → LcOk X W src tg tt te elt tgE iter ifs scope own
  ms : Mono src
  mt : Mono tt
  me : Mono te
def cL (c : Cp) (G : Gam) (elt tgE iter : Expr) (ifs : List Expr) (scope : Scope) : Option (CL G elt tgE iter ifs scope) :=
  (cI c G tgE iter).bind fun i => (cG { G with sc := scope, top := false } tgE).bind fun g => (cIf c { G with sc := scope, top := false } ifs).bind fun f => (c.E { G with sc := scope, top := false } elt).bind fun e =>
    if h : blkC G.N G.sc scope (ownOf G.N scope.names) = true ∧ (g.t.slots.all fun i => ((ownOf G.N scope.names).map (·.2)).contains i) = true ∧ G.cal = true then
      some ⟨i.t, g.t, f.t, e.t, ownOf G.N scope.names, fun X W k => ⟨k.calm h.2.2, k.nd, BlkOk.go k h.1, i.m, f.m, e.m, fun j hj => by simpa using List.all_eq_true.mp h.2.1 j hj, i.ok X W k, fun s H C cl fp => g.ok _ W0 (k.blk s H C cl fp), fun s H C cl fp => f.ok _ W0 (k.blk s H C cl fp), fun s H C cl fp => e.ok _ W0 (k.blk s H C cl fp), i.hs X.env⟩, i.m, f.m, e.m⟩
    else none
/-- a list that nobody else reads -/
def cH (c : Cp) (G : Gam) : (e : Expr) → Option (CH G e)
  | .List es pos => if hl : es.length ≤ 1000 then (cA c G es).bind fun a => some ⟨a.t, a.m, fun X W k => pe_hLst a.m (a.ok X W k) hl a.len⟩ else none
  | .ListComp elt [⟨tgE, iter, ifs, 0⟩] scope pos => (cL c G elt tgE iter ifs scope).bind fun l => some ⟨wLc l.src l.tg (l.own.map (·.2)) l.tt l.te, mono_Lc l.ms l.mt l.me, fun X W k => (l.ok X W k).hid⟩
  | _ => none
def isHid : Expr → Bool
  | .List _ _ => true
  | .ListComp _ _ _ _ => true
  | _ => false
def cQ (c : Cp) (G : Gam) (e : Expr) : Option (CQ G e) :=
  if isHid e = true then (c.H G e).bind fun a => some ⟨qLst a.t, mono_qLst a.m, fun X W k => pe_qHid a.m (a.ok X W k)⟩
  else (c.E G e).bind fun a => some ⟨qOf a.t, mono_qOf a.m, fun X W k => pe_qOf a.m (a.ok X W k)⟩
end Ow

namespace Ow
open PySem PySem.Spec PyProof.Rows L2
def cName (G : Gam) (x : Str) (pos : Pos) : Option (CE G (.Name x pos)) :=
  if hd : (x == ("__debug__" : Str)) = false ∧ (x == ("__classdict__" : Str)) = false then
    if hv : isVis (G.sc.names.lookup x) = true then
      match hi : ixS G.N x with
      | some i => some ⟨wVar i, mono_Var, fun X W k => pe_varW (by rw [k.hN]; exact ixS_ok hi) (k.vis hv) hd.1 hd.2⟩
      | none => none
    else if hg : isGl (G.sc.names.lookup x) = true then
      match hq : G.fs.lookup x with
      | some (.val d) => some ⟨wC d, mono_C, fun X W k => by
          obtain ⟨v, u, h1, h2, h3⟩ := k.fn hq
          exact pe_cW (pe_glob (k.glo hg) h1 h2 hd.1) h3⟩
      | some (.exc xs) => if hx : xs.contains x = true then some ⟨wC (.glo x), mono_C, fun X W k =>
          pe_cW (v := .ref (He.ga X.K x)) (pe_glob (k.glo hg) ((k.fn hq).at_ x (mem_of_contains hx)).1 rfl hd.1) fun H => .glo ((k.fn hq).at_ x (mem_of_contains hx)).1⟩ else none
      | some (.fn n sp) => some ⟨wC (.glo x), mono_C, fun X W k => by
          obtain ⟨f, fd, kk, ps, a, b, c⟩ := k.fn hq
          exact pe_cW (v := .ref f) (pe_glob (k.glo hg) b rfl hd.1) fun H => .glo b⟩
      | some .blt => if hx : (x == "ValueError") = true then some ⟨wC (.ty "ValueError"), mono_C, fun X W k => by
          have hx := eq_of_beq hx; subst hx
          exact pe_cW (v := .ty "ValueError") (pe_bltn (k.glo hg) (k.fn hq) rfl rfl) fun H => .ty _⟩ else none
      | _ => none
    else none
  else none
def cBin (G : Gam) (a b : Expr) (ta : CE G a) (tb : CE G b) (pos : Pos) : (op : Operator) → Option (CE G (.BinOp a op b pos))
  | .Add => some ⟨wBin addF ta.t tb.t, mono_Bin m_add ta.m tb.m, fun X W k => pe_bin op_addA m_add says_add ta.m tb.m (ta.ok X W k) (tb.ok X W k)⟩
  | .Sub => some ⟨wBin subF ta.t tb.t, mono_Bin m_sub ta.m tb.m, fun X W k => pe_bin op_sub m_sub says_sub ta.m tb.m (ta.ok X W k) (tb.ok X W k)⟩
  | .Mult => some ⟨wBin mulF ta.t tb.t, mono_Bin m_mul ta.m tb.m, fun X W k => pe_bin op_mulA m_mul says_mul ta.m tb.m (ta.ok X W k) (tb.ok X W k)⟩
  | .FloorDiv => some ⟨wBin fdivF ta.t tb.t, mono_Bin m_fdiv ta.m tb.m, fun X W k => pe_bin op_fdivW m_fdiv says_fdiv ta.m tb.m (ta.ok X W k) (tb.ok X W k)⟩
  | .Mod => some ⟨wBin modF ta.t tb.t, mono_Bin m_mod ta.m tb.m, fun X W k => pe_bin op_mod m_mod says_mod ta.m tb.m (ta.ok X W k) (tb.ok X W k)⟩
  | .Pow => some ⟨wBin powF ta.t tb.t, mono_Bin m_pow ta.m tb.m, fun X W k => pe_bin op_pow m_pow says_pow ta.m tb.m (ta.ok X W k) (tb.ok X W k)⟩
  | .LShift => some ⟨wBin shlF ta.t tb.t, mono_Bin m_shl ta.m tb.m, fun X W k => pe_bin op_shl m_shl says_shl ta.m tb.m (ta.ok X W k) (tb.ok X W k)⟩
  | .RShift => some ⟨wBin shrF ta.t tb.t, mono_Bin m_shr ta.m tb.m, fun X W k => pe_bin op_shr m_shr says_shr ta.m tb.m (ta.ok X W k) (tb.ok X W k)⟩
  | .BitAnd => some ⟨wBin bandF ta.t tb.t, mono_Bin m_band ta.m tb.m, fun X W k => pe_bin op_and m_band says_band ta.m tb.m (ta.ok X W k) (tb.ok X W k)⟩
  | _ => none
def tyOf (y : Str) : Option TyN :=
  if (y == "int") = true then some .int else if (y == "bool") = true then some .bool else if (y == "str") = true then some .str else if (y == "tuple") = true then some .tuple else if (y == "list") = true then some .list else if (y == "dict") = true then some .dict else none
theorem tyOf_ok {y : Str} {t : TyN} (h : tyOf y = some t) : bootBuiltins y = some (.type (tyS t)) ∧ y ≠ "__name__" ∧ (y == ("__debug__" : Str)) = false := by
  unfold tyOf at h
  split at h
  · next e => cases h; rw [eq_of_beq e]; exact ⟨rfl, by decide, rfl⟩
  split at h
  · next e => cases h; rw [eq_of_beq e]; exact ⟨rfl, by decide, rfl⟩
  split at h
  · next e => cases h; rw [eq_of_beq e]; exact ⟨rfl, by decide, rfl⟩
  split at h
  · next e => cases h; rw [eq_of_beq e]; exact ⟨rfl, by decide, rfl⟩
  split at h
  · next e => cases h; rw [eq_of_beq e]; exact ⟨rfl, by decide, rfl⟩
  split at h
  · next e => cases h; rw [eq_of_beq e]; exact ⟨rfl, by decide, rfl⟩
  · cases h
structure CRg (G : Gam) (e : Expr) where
  t : WR
  m : Mono t
  ok : ∀ X W, CxOk G X W → PRg X e (lR X.K X.gw W t)
def isRg : Expr → Bool
  | .Call (.Name x _) _ [] _ => x == "range"
  | _ => false
def cRg (c : Cp) (G : Gam) : (e : Expr) → Option (CRg G e)
  | .Call (.Name x p) [a] [] pos => if hx : (x == "range") = true ∧ plainE a = true then (bltX G "range").bind fun b => (c.E G a).bind fun u => some ⟨rg1 u.t, mono_rg1 u.m, fun X W k => by
      rw [eq_of_beq hx.1]; exact prg1W u.m (u.ok X W k) hx.2 (b.down.go X W k).1 (b.down.go X W k).2⟩ else none
  | .Call (.Name x p) [a, b] [] pos => if hx : (x == "range") = true ∧ plainE a = true ∧ plainE b = true then (bltX G "range").bind fun q => (c.E G a).bind fun u => (c.E G b).bind fun v => some ⟨rg2 u.t v.t, mono_rg2 u.m v.m, fun X W k => by
      rw [eq_of_beq hx.1]; exact prg2W u.m v.m (u.ok X W k) (v.ok X W k) hx.2.1 hx.2.2 (q.down.go X W k).1 (q.down.go X W k).2⟩ else none
  | _ => none
def isSetC : Expr → Bool
  | .Call (.Name x _) [_] [] _ => x == "set"
  | _ => false
def cSset (c : Cp) (G : Gam) (p : Pos) (pos : Pos) (b : BltX G "sorted") : (e : Expr) → Option (CE G (.Call (.Name "sorted" p) [e] [] pos))
  | .Call (.Name y p2) [e] [] pos2 => if hy : (y == "set") = true ∧ plainE e = true ∧ G.cal = true then (bltX G "set").bind fun b2 => (cQ c G e).bind fun a => some ⟨wQf ssetF a.t, mono_Qf m_sset a.m, fun X W k => by
      rw [eq_of_beq hy.1]; exact pe_ssetW (k.calm hy.2.2) a.m (a.ok X W k) hy.2.1 (b.go X W k).1 (b.go X W k).2 (b2.down.go X W k).1 (b2.down.go X W k).2⟩ else none
  | _ => none
def isNm : Expr → Bool
  | .Name _ _ => true
  | _ => false
/-- a built-in of one argument -/
def cB1 (c : Cp) (G : Gam) (x : Str) (p : Pos) (e : Expr) (pos : Pos) (b : BltX G x) : Option (CE G (.Call (.Name x p) [e] [] pos)) :=
  if hp : plainE e = true then
    if hx : (x == "len") = true then
      if isHid e = true then (c.H G e).bind fun a => some ⟨wQf lenQF (qLst a.t), mono_Qf m_lenQ (mono_qLst a.m), fun X W k => by
        have hx := eq_of_beq hx; subst hx
        exact pe_callBQ call_len_seq (b.go X W k).1 (b.go X W k).2 rfl (mono_qLst a.m) m_lenQ says_lenQ (pe_qHid a.m (a.ok X W k)) hp⟩
      else (c.E G e).bind fun a => some ⟨wFn lenF (wCons a.t wNil), mono_Fn m_len (mono_Cons a.m mono_Nil), fun X W k => by
        have hx := eq_of_beq hx; subst hx
        exact pe_callBL call_lenA (b.go X W k).1 (b.go X W k).2 rfl (mono_Cons a.m mono_Nil) m_len says_len (pa_consW a.m mono_Nil (a.ok X W k) pa_nilW (star_cons hp)) (by simp [hp])⟩
    else if hx : (x == "int") = true then
      (c.E G e).bind fun a => some ⟨wFn intF (wCons a.t wNil), mono_Fn m_int (mono_Cons a.m mono_Nil), fun X W k => by
        have hx := eq_of_beq hx; subst hx
        exact pe_callTL call_int1 (b.go X W k).1 (b.go X W k).2 rfl (mono_Cons a.m mono_Nil) m_int says_int1 (pa_consW a.m mono_Nil (a.ok X W k) pa_nilW (star_cons hp)) (by simp [hp])⟩
    else if hx : (x == "str") = true then
      (c.E G e).bind fun a => some ⟨wFn strF (wCons a.t wNil), mono_Fn m_str (mono_Cons a.m mono_Nil), fun X W k => by
        have hx := eq_of_beq hx; subst hx
        exact pe_callTL call_str_int (b.go X W k).1 (b.go X W k).2 rfl (mono_Cons a.m mono_Nil) m_str says_str (pa_consW a.m mono_Nil (a.ok X W k) pa_nilW (star_cons hp)) (by simp [hp])⟩
    else if hc : G.cal = false then none
    else if hx : (x == "tuple") = true then
      if isRg e = true then (cRg c G e).bind fun a => some ⟨wTupRg a.t, mono_TupRg a.m, fun X W k => by
        have hx := eq_of_beq hx; subst hx
        exact pe_tupRgW (k.calm (by simpa using hc)) a.m (a.ok X W k) hp (b.go X W k).1 (b.go X W k).2⟩
      else (cQ c G e).bind fun a => some ⟨wQf tupF a.t, mono_Qf m_tup a.m, fun X W k => by
        have hx := eq_of_beq hx; subst hx
        exact pe_callTQ call_tuple_of (b.go X W k).1 (b.go X W k).2 rfl a.m m_tup says_tup (a.ok X W k) hp⟩
    else if hx : (x == "list") = true then
      if isRg e = true then (cRg c G e).bind fun a => some ⟨wLstRg a.t, mono_LstRg a.m, fun X W k => by
        have hx := eq_of_beq hx; subst hx
        exact pe_lstRgW (k.calm (by simpa using hc)) a.m (a.ok X W k) hp (b.go X W k).1 (b.go X W k).2⟩
      else (cQ c G e).bind fun a => some ⟨wQf lstF a.t, mono_Qf m_lst a.m, fun X W k => by
        have hx := eq_of_beq hx; subst hx
        exact pe_callTQ call_list_of (b.go X W k).1 (b.go X W k).2 rfl a.m m_lst says_lst (a.ok X W k) hp⟩
    else if hx : (x == "all") = true then
      (cQ c G e).bind fun a => some ⟨wQf allF a.t, mono_Qf m_all a.m, fun X W k => by
        have hx := eq_of_beq hx; subst hx
        exact pe_callBQ (cr_all (k.calm (by simpa using hc))) (b.go X W k).1 (b.go X W k).2 rfl a.m m_all says_all (a.ok X W k) hp⟩
    else if hx : (x == "any") = true then
      (cQ c G e).bind fun a => some ⟨wQf anyF a.t, mono_Qf m_any a.m, fun X W k => by
        have hx := eq_of_beq hx; subst hx
        exact pe_callBQ (cr_any (k.calm (by simpa using hc))) (b.go X W k).1 (b.go X W k).2 rfl a.m m_any says_any (a.ok X W k) hp⟩
    else if hx : (x == "sum") = true ∧ isNm e = true then
      (cQ c G e).bind fun a => some ⟨wQf sumG a.t, mono_Qf m_sumG a.m, fun X W k => by
        have hx := eq_of_beq hx.1; subst hx
        exact pe_callBQ (cr_sumG (k.calm (by simpa using hc))) (b.go X W k).1 (b.go X W k).2 rfl a.m m_sumG says_sumG (a.ok X W k) hp⟩
    else if hx : (x == "sum") = true then
      (cQ c G e).bind fun a => some ⟨wQf sumF a.t, mono_Qf m_sum a.m, fun X W k => by
        have hx := eq_of_beq hx; subst hx
        exact pe_callBQ (cr_sum (k.calm (by simpa using hc))) (b.go X W k).1 (b.go X W k).2 rfl a.m m_sum says_sum (a.ok X W k) hp⟩
    else if hx : (x == "sorted") = true then
      if isSetC e = true then (cSset c G p pos (by have h := eq_of_beq hx; subst h; exact b) e).bind fun a => some ⟨a.t, a.m, fun X W k => by rw [eq_of_beq hx]; exact a.ok X W k⟩
      else if isHid e = true then (cQ c G e).bind fun a => some ⟨wQf sortF a.t, mono_Qf m_sort a.m, fun X W k => by
        have hx := eq_of_beq hx; subst hx
        exact pe_callBQ cr_sortedI (b.go X W k).1 (b.go X W k).2 rfl a.m m_sort says_sort (a.ok X W k) hp⟩
      else (c.E G e).bind fun a => some ⟨wFn srtF (wCons a.t wNil), mono_Fn m_srt (mono_Cons a.m mono_Nil), fun X W k => by
        have hx := eq_of_beq hx; subst hx
        exact pe_callBL (cr_sortX (k.calm (by simpa using hc)) k.hu) (b.go X W k).1 (b.go X W k).2 rfl (mono_Cons a.m mono_Nil) m_srt says_srt (pa_consW a.m mono_Nil (a.ok X W k) pa_nilW (star_cons hp)) (by simp [hp])⟩
    else none
  else none
def excsOf : List (Str × Gd) → Option (List Str)
  | [] => none
  | (_, .exc xs) :: _ => some xs
  | _ :: r => excsOf r
theorem excsOf_ok {X : Cx} : ∀ (fs : List (Str × Gd)) {xs : List Str}, (∀ q ∈ fs, GdOk X q.1 q.2) → excsOf fs = some xs → XcK X.K X.mg xs
  | [], _, _, h => by cases h
  | (x, .exc ys) :: r, xs, a, h => by
    cases h
    exact a (x, .exc ys) (List.mem_cons_self ..)
  | (x, .fn n sp) :: r, xs, a, h => excsOf_ok r (fun q hq => a q (List.mem_cons_of_mem _ hq)) h
  | (x, .val d) :: r, xs, a, h => excsOf_ok r (fun q hq => a q (List.mem_cons_of_mem _ hq)) h
  | (x, .blt) :: r, xs, a, h => excsOf_ok r (fun q hq => a q (List.mem_cons_of_mem _ hq)) h
  | (x, .mk c) :: r, xs, a, h => excsOf_ok r (fun q hq => a q (List.mem_cons_of_mem _ hq)) h
/-- isinstance by classes of exceptions -/
def cIsx (c : Cp) (G : Gam) (p : Pos) (e f : Expr) (pos : Pos) (b : BltX G "isinstance") : Option (CE G (.Call (.Name "isinstance" p) [e, f] [] pos)) :=
  match hq : excsOf G.fs with
  | some xs => (cA c G [e, f]).bind fun a => some ⟨wFn (isxF xs) a.t, mono_Fn m_isx a.m, fun X W k =>
      pe_callBL call_isX (b.go X W k).1 (b.go X W k).2 rfl a.m m_isx (says_isx (excsOf_ok _ k.fns hq)) (a.ok X W k) a.pl⟩
  | none => none
/-- a built-in of two arguments -/
def cB2 (c : Cp) (G : Gam) (x : Str) (p : Pos) (e f : Expr) (pos : Pos) (b : BltX G x) : Option (CE G (.Call (.Name x p) [e, f] [] pos)) :=
  if hx : (x == "max") = true ∧ G.cal = true then
    (cA c G [e, f]).bind fun a => some ⟨wFn maxF a.t, mono_Fn m_max a.m, fun X W k => by
      have hc := hx.2; have hx := eq_of_beq hx.1; subst hx
      exact pe_callBL (call_max2 (k.calm hc)) (b.go X W k).1 (b.go X W k).2 rfl a.m m_max says_max (a.ok X W k) a.pl⟩
  else if hx : (x == "min") = true ∧ G.cal = true then
    (cA c G [e, f]).bind fun a => some ⟨wFn minF a.t, mono_Fn m_min a.m, fun X W k => by
      have hc := hx.2; have hx := eq_of_beq hx.1; subst hx
      exact pe_callBL (call_min2 (k.calm hc)) (b.go X W k).1 (b.go X W k).2 rfl a.m m_min says_min (a.ok X W k) a.pl⟩
  else if hx : (x == "divmod") = true then
    (cA c G [e, f]).bind fun a => some ⟨wFn dmF a.t, mono_Fn m_dm a.m, fun X W k => by
      have hx := eq_of_beq hx; subst hx
      exact pe_callBL call_divmod (b.go X W k).1 (b.go X W k).2 rfl a.m m_dm says_dm (a.ok X W k) a.pl⟩
  else if hx : (x == "isinstance") = true then
    match f with
    | .Name y p2 => if hp : plainE e = true then
        match ht : tyOf y with
        | some t => (bltX G y).bind fun q => (c.E G e).bind fun a => some ⟨wIsi a.t t, mono_Isi a.m, fun X W k => by
            have hx := eq_of_beq hx; subst hx
            exact pe_isiW a.m (a.ok X W k) hp (b.go X W k).1 (b.go X W k).2 (q.down.go X W k).1 (q.down.go X W k).2 (tyOf_ok ht).1 (tyOf_ok ht).2.1 (tyOf_ok ht).2.2⟩
        | none => (cIsx c G p e (.Name y p2) pos (by have h := eq_of_beq hx; subst h; exact b)).bind fun a => some ⟨a.t, a.m, fun X W k => by rw [eq_of_beq hx]; exact a.ok X W k⟩
      else none
    | .Tuple es n p2 => (cIsx c G p e (.Tuple es n p2) pos (by have h := eq_of_beq hx; subst h; exact b)).bind fun a => some ⟨a.t, a.m, fun X W k => by rw [eq_of_beq hx]; exact a.ok X W k⟩
    | _ => none
  else none
/-- the defs of so many parameters -/
def fnsOf (n : Nat) : List (Str × Gd) → List (Str × Spec)
  | [] => []
  | (x, .fn m sp) :: r => if m = n then (x, sp) :: fnsOf n r else fnsOf n r
  | _ :: r => fnsOf n r
theorem fnsOf_ok {X : Cx} {n : Nat} : ∀ (fs : List (Str × Gd)), (∀ q ∈ fs, GdOk X q.1 q.2) → ∀ q ∈ fnsOf n fs, FnIn X q.1 n q.2
  | [], _, q, h => by cases h
  | (x, .fn m sp) :: r, a, q, h => by
    unfold fnsOf at h
    split at h
    · next e =>
      rcases List.mem_cons.mp h with rfl | h
      · have := a (x, .fn m sp) (List.mem_cons_self ..)
        rw [e] at this
        exact this
      · exact fnsOf_ok r (fun q hq => a q (List.mem_cons_of_mem _ hq)) q h
    · exact fnsOf_ok r (fun q hq => a q (List.mem_cons_of_mem _ hq)) q h
  | (x, .val d) :: r, a, q, h => fnsOf_ok r (fun q hq => a q (List.mem_cons_of_mem _ hq)) q h
  | (x, .blt) :: r, a, q, h => fnsOf_ok r (fun q hq => a q (List.mem_cons_of_mem _ hq)) q h
  | (x, .exc xs) :: r, a, q, h => fnsOf_ok r (fun q hq => a q (List.mem_cons_of_mem _ hq)) q h
  | (x, .mk c) :: r, a, q, h => fnsOf_ok r (fun q hq => a q (List.mem_cons_of_mem _ hq)) q h
def cCall (c : Cp) (G : Gam) (x : Str) (p : Pos) (pos : Pos) : (args : List Expr) → Option (CE G (.Call (.Name x p) args [] pos))
  | [] => if hk : (x == ("__debug__" : Str)) = false ∧ isGl (G.sc.names.lookup x) = true then
      match hq : G.fs.lookup x with
      | some (.fn n sp) => if hn : n = 0 then some ⟨wCall0 sp, mono_Call0, fun X W k => by subst hn; exact pe_callFn0 (k.fn hq) (k.glo hk.2) hk.1⟩ else none
      | _ => none
    else none
  | e :: es => if hk : (x == ("__debug__" : Str)) = false ∧ isGl (G.sc.names.lookup x) = true then
      match hq : G.fs.lookup x with
      | some (.fn n sp) => (cA c G (e :: es)).bind fun a => if hn : n = (e :: es).length then some ⟨wCall sp a.t, mono_Call a.m, fun X W k => by
          subst hn; exact pe_callFn (k.fn hq) k.tk (k.glo hk.2) hk.1 a.m a.len (a.ok X W k) a.pl⟩ else none
      | some .blt => (match es with
        | [] => cB1 c G x p e pos ⟨fun X W k => ⟨k.glo hk.2, k.fn hq⟩⟩
        | [f] => cB2 c G x p e f pos ⟨fun X W k => ⟨k.glo hk.2, k.fn hq⟩⟩
        | _ => none)
      | _ => none
    else if hv : ((x == ("__debug__" : Str)) = false ∧ (x == ("__classdict__" : Str)) = false) ∧ isVis (G.sc.names.lookup x) = true then
      match hi : ixS G.N x with
      | some i => (cA c G (e :: es)).bind fun a => some ⟨wCallV i (fnsOf (e :: es).length G.fs) a.t, mono_CallV a.m, fun X W k =>
          pe_callV (fun x sp h => fnsOf_ok G.fs k.fns (x, sp) (PySem.mem_of_lookup h)) k.tk (by rw [k.hN]; exact ixS_ok hi) (k.vis hv.2) hv.1.1 hv.1.2 a.m a.len (a.ok X W k) a.pl⟩
      | none => none
    else none
def cMeth (c : Cp) (G : Gam) (o : Expr) (m : Str) (apos cpos : Pos) : (args : List Expr) → Option (CE G (.Call (.Attribute o m apos) args [] cpos))
  | [] => if hb : plainO o = true ∧ (apos.endLine == cpos.line) = true then
      if hm : (m == "pop") = true then (c.E G o).bind fun a => some ⟨wPop a.t, mono_Pop a.m, fun X W k => by
        have hm := eq_of_beq hm; subst hm; exact pe_popW a.m (a.ok X W k) hb.1 hb.2⟩
      else if hm : (m == "upper") = true then (c.E G o).bind fun a => some ⟨wUp a.t, mono_Up a.m, fun X W k => by
        have hm := eq_of_beq hm; subst hm; exact pe_upW a.m (a.ok X W k) hb.1 hb.2⟩
      else none
    else none
  | [e] => if hb : plainE e = true ∧ plainO o = true ∧ (apos.endLine == cpos.line) = true then
      if hm : (m == "append") = true then (c.E G o).bind fun a => (c.E G e).bind fun b => some ⟨wApp a.t b.t, mono_App a.m b.m, fun X W k => by
        have hm := eq_of_beq hm; subst hm; exact pe_appW a.m b.m (a.ok X W k) (b.ok X W k) hb.1 hb.2.1 hb.2.2⟩
      else if hm : (m == "pop") = true then (c.E G o).bind fun a => (c.E G e).bind fun b => some ⟨wPopAt a.t b.t, mono_PopAt a.m b.m, fun X W k => by
        have hm := eq_of_beq hm; subst hm; exact pe_popAtW a.m b.m (a.ok X W k) (b.ok X W k) hb.1 hb.2.1 hb.2.2⟩
      else if hm : (m == "index") = true then (c.E G o).bind fun a => (c.E G e).bind fun b => some ⟨wIdx a.t b.t, mono_Idx a.m b.m, fun X W k => by
        have hm := eq_of_beq hm; subst hm; exact pe_idxW a.m b.m (a.ok X W k) (b.ok X W k) hb.1 hb.2.1 hb.2.2⟩
      else if hm : (m == "count") = true then (c.E G o).bind fun a => (c.E G e).bind fun b => some ⟨wCnt a.t b.t, mono_Cnt a.m b.m, fun X W k => by
        have hm := eq_of_beq hm; subst hm; exact pe_cntW a.m b.m (a.ok X W k) (b.ok X W k) hb.1 hb.2.1 hb.2.2⟩
      else if hm : (m == "extend") = true then
        if isHid e = true then (c.E G o).bind fun a => (c.H G e).bind fun b => some ⟨wExtH a.t b.t, mono_ExtH a.m b.m, fun X W k => by
          have hm := eq_of_beq hm; subst hm; exact pe_extHW a.m b.m (a.ok X W k) (b.ok X W k) hb.1 hb.2.1 hb.2.2⟩
        else (c.E G o).bind fun a => (c.E G e).bind fun b => some ⟨wExt a.t b.t, mono_Ext a.m b.m, fun X W k => by
          have hm := eq_of_beq hm; subst hm; exact pe_extW a.m b.m (a.ok X W k) (b.ok X W k) hb.1 hb.2.1 hb.2.2⟩
      else none
    else none
  | _ => none
def noSl : Expr → Bool
  | .Slice _ _ _ _ => false
  | _ => true
theorem noSl_ok {e : Expr} (h : noSl e = true) : PlainIx e := by
  intro o i
  cases e <;> first | rfl | cases h
theorem noSet_in {e : Expr} (h : noSet e = true) (op : CmpOp) : behindInMarks op e = false := by
  cases e <;> first | rfl | cases h
structure CPr (G : Gam) (pos : Pos) (ks : List (Option Expr)) (vs : List Expr) where
  l : List (WE × WE)
  m : MonoPr l
  ok : ∀ X W, CxOk G X W → PPs X pos ks vs (lPr l X.K X.gw W)
def cPr (c : Cp) (G : Gam) (pos : Pos) : (ks : List (Option Expr)) → (vs : List Expr) → Option (CPr G pos ks vs)
  | [], [] => some ⟨[], (fun p hp => by cases hp), fun _ _ _ => pps_nil⟩
  | some k :: ks, v :: vs => (c.E G k).bind fun a => (c.E G v).bind fun b => (cPr c G pos ks vs).bind fun r => some ⟨(a.t, b.t) :: r.l, (fun p hp => by
      rcases List.mem_cons.mp hp with rfl | hp
      · exact ⟨a.m, b.m⟩
      · exact r.m p hp), fun X W h => pps_cons (a.ok X W h) (b.ok X W h) (r.ok X W h)⟩
  | _, _ => none
def strKey : Option Expr → Bool
  | some (.Constant (.str _) _ _) => true
  | _ => false
def cDict (c : Cp) (G : Gam) (pos : Pos) (ks : List (Option Expr)) (vs : List Expr) : Option (CE G (.Dict ks vs pos)) :=
  if h : ks.all (·.isSome) = true ∧ ks.length = vs.length ∧ ks.length ≤ 15 ∧ 0 < ks.length then
    have h0 : ks ≠ [] := fun z => by have := h.2.2.2; rw [z] at this; exact absurd this (by decide)
    (cPr c G pos ks vs).bind fun r =>
      if ks.all strKey = true then some ⟨wDispS r.l, mono_DispS r.m, fun X W k => pe_dispSW r.m (r.ok X W k) h.1 h.2.1 h0 h.2.2.1⟩
      else some ⟨wDispT r.l, mono_DispT r.m, fun X W k => pe_dispTW r.m (r.ok X W k) k.hu h.1 h.2.1 h0 h.2.2.1⟩
  else none
def cE (c : Cp) (G : Gam) : (e : Expr) → Option (CE G e)
  | .Constant (.int i) j pos => some ⟨wC (.int i), mono_C, fun X W k => pe_cW pe_int fun H => .int i⟩
  | .Constant (.bool i) j pos => some ⟨wC (.bl i), mono_C, fun X W k => pe_cW pe_bl fun H => .bl i⟩
  | .Constant (.str i) j pos => some ⟨wC (.str i), mono_C, fun X W k => pe_cW pe_str fun H => .str i⟩
  | .Constant .none j pos => some ⟨wC .non, mono_C, fun X W k => pe_cW pe_non fun H => .non⟩
  | .Name x pos => cName G x pos
  | .BinOp a op b pos => (c.E G a).bind fun ta => (c.E G b).bind fun tb => cBin G a b ta tb pos op
  | .UnaryOp .USub a pos => (c.E G a).bind fun ta => some ⟨wUn negF ta.t, mono_Un m_neg ta.m, fun X W k => pe_unW un_neg m_neg says_neg ta.m (ta.ok X W k)⟩
  | .UnaryOp .Not a pos => (c.E G a).bind fun ta => some ⟨wNotV ta.t, mono_NotV ta.m, fun X W k => pe_notW ta.m (ta.ok X W k)⟩
  | .BoolOp op es pos => (cV c G op pos es).bind fun a => some ⟨a.t, a.m, a.ok⟩
  | .IfExp t a b pos => (c.T G t).bind fun u => (c.E G a).bind fun ta => (c.E G b).bind fun tb => some ⟨wIfE u.t ta.t tb.t, mono_IfE u.m ta.m tb.m, fun X W k => pe_ifW u.m ta.m tb.m (u.ok X W k) (ta.ok X W k) (tb.ok X W k)⟩
  | .Compare a [op] [b] pos => if h : noSet b = true then (c.E G a).bind fun ta => (c.E G b).bind fun tb => some ⟨wBin (cmpF op) ta.t tb.t, mono_Bin m_cmp ta.m tb.m, fun X W k => pe_cmpW k.hu ta.m tb.m (ta.ok X W k) (tb.ok X W k) (noSet_in h op)⟩ else none
  | .Compare a [op, op'] [b, d] pos => if h : lastMarks [op, op'] [b, d] = false then (c.E G a).bind fun ta => (c.E G b).bind fun tb => (c.E G d).bind fun td => some ⟨wChV op op' ta.t tb.t td.t, mono_ChV ta.m tb.m td.m, fun X W k => pe_chW k.hu ta.m tb.m td.m (ta.ok X W k) (tb.ok X W k) (td.ok X W k) h⟩ else none
  | .Tuple es n pos => if hl : es.length ≤ 1000 then (cA c G es).bind fun a => some ⟨wTup a.t, mono_Tup a.m, fun X W k => pe_tupW a.m (a.ok X W k) hl a.len⟩ else none
  | .Dict [] [] pos => some ⟨wDct0, mono_Dct0, fun X W k => pe_dct0W⟩
  | .Dict ks vs pos => cDict c G pos ks vs
  | .List es pos => if hl : es.length ≤ 1000 then (cA c G es).bind fun a => some ⟨wLst a.t, mono_Lst a.m, fun X W k => pe_lstW a.m (a.ok X W k) hl a.len⟩ else none
  | .ListComp elt [⟨tgE, iter, ifs, 0⟩] scope pos => (cL c G elt tgE iter ifs scope).bind fun l => some ⟨wNew (wLc l.src l.tg (l.own.map (·.2)) l.tt l.te), mono_New (mono_Lc l.ms l.mt l.me), fun X W k => (l.ok X W k).new⟩
  | .Subscript a (.Slice none none (some (.Constant (.int (.ofNat k)) j p1)) p3) pos => if hk : 1 ≤ k then (c.E G a).bind fun ta => some ⟨wStep k ta.t, mono_Step ta.m, fun X W kk => pe_stepW hk ta.m (ta.ok X W kk)⟩ else none
  | .Subscript a (.Slice none none (some (.UnaryOp .USub (.Constant (.int 1) k p1) p2)) p3) pos => (c.E G a).bind fun ta => some ⟨wRev ta.t, mono_Rev ta.m, fun X W k => pe_revW ta.m (ta.ok X W k)⟩
  | .Subscript a (.Slice lo hi none p2) pos => (c.E G a).bind fun ta => (cO c G lo).bind fun tl => (cO c G hi).bind fun th => some ⟨wSl ta.t tl.t th.t, mono_Sl ta.m tl.m th.m, fun X W k => pe_slW ta.m tl.m th.m (ta.ok X W k) (tl.ok X W k) (th.ok X W k)⟩
  | .Subscript a b pos => if h : noSl b = true then (c.E G a).bind fun ta => (c.E G b).bind fun tb => some ⟨wBin ixF ta.t tb.t, mono_Bin m_ix ta.m tb.m, fun X W k => pe_ixB (ix_any k.hu) m_ix says_ix ta.m tb.m (ta.ok X W k) (tb.ok X W k) (noSl_ok h)⟩ else none
  | .Attribute o n pos => if hb : plainO o = true then (c.E G o).bind fun a => some ⟨wAtt n a.t, mono_Att a.m, fun X W k => pe_attW a.m (a.ok X W k) hb⟩ else none
  | .Call (.Name x p) args [] pos => cCall c G x p pos args
  | .Call (.Attribute o m apos) args [] pos => cMeth c G o m apos pos args
  | _ => none
def plainT : Expr → Bool
  | .UnaryOp .Not _ _ => false
  | .BoolOp _ _ _ => false
  | .IfExp _ _ _ _ => false
  | .Compare _ _ _ _ => false
  | _ => true
theorem plainT_ok {e : Expr} (h : plainT e = true) (env : Env) (whole : Sem Value) : isTrue e env whole = (do let v ← whole; standAt e.pos; holding [v] (truthy v)) := by
  cases e with
  | UnaryOp op a pos => cases op <;> first | rfl | cases h
  | _ => first | rfl | cases h
def cT (c : Cp) (G : Gam) : (e : Expr) → Option (CT G e)
  | .UnaryOp .Not a pos => (c.T G a).bind fun u => some ⟨wNotT u.t, mono_NotT u.m, fun X W k => pt_notW u.m (u.ok X W k)⟩
  | .BoolOp op es pos => (cW c G op pos es).bind fun u => some ⟨u.t, u.m, fun X W k => (u.ok X W k).pt⟩
  | .Compare a [op] [b] pos => if h : noSet b = true then (c.E G a).bind fun ta => (c.E G b).bind fun tb => some ⟨wCmpT op ta.t tb.t, mono_CmpT ta.m tb.m, fun X W k => pt_cmpW k.hu ta.m tb.m (ta.ok X W k) (tb.ok X W k) (noSet_in h op)⟩ else none
  | .Compare a [op, op'] [b, d] pos => if h : lastMarks [op, op'] [b, d] = false then (c.E G a).bind fun ta => (c.E G b).bind fun tb => (c.E G d).bind fun td => some ⟨wChT op op' ta.t tb.t td.t, mono_ChT ta.m tb.m td.m, fun X W k => pt_chW k.hu ta.m tb.m td.m (ta.ok X W k) (tb.ok X W k) (td.ok X W k) h⟩ else none
  | e => if h : plainT e = true then (c.E G e).bind fun a => some ⟨wTru a.t, mono_Tru a.m, fun X W k => pt_truW a.m (a.ok X W k) fun whole => plainT_ok h X.env whole⟩ else none
end Ow

namespace Ow
open PySem PySem.Spec PyProof.Rows L2
def isComp : Expr → Bool
  | .ListComp _ _ _ _ => true
  | .SetComp _ _ _ _ => true
  | .DictComp _ _ _ _ _ => true
  | _ => false
theorem noComp {e : Expr} (h : isComp e = false) (o : Option Expr) (l : Nat) (env : Env) : swapsWith e o l env = pure false := by
  cases e <;> first | rfl | cases h
def isTup : Expr → Bool
  | .Tuple _ _ _ => true
  | _ => false
theorem noTup {e : Expr} (h : isTup e = false) (t : Expr) (env : Env) : swappedStores [t] e env = pure none := by
  unfold swappedStores
  cases e with
  | Tuple a b d => cases h
  | _ => cases t <;> rfl
theorem sw_par {x y : Str} {ea eb : Expr} {px py pt pt2 : Pos} {kt k2 : Nat} {env : Env} (hk : env.scope.kind = .function) (hx : env.scope.names.lookup x = some .local) (hy : env.scope.names.lookup y = some .local)
    (hl : (py.line == px.line) = true) (hn : (x == y) = false) (pa : plainE ea = true) (pb : plainE eb = true) (h1 : (foldedForSure 8 ea && foldedForSure 8 eb) = false) (h2 : (constantsAlone 8 ea && constantsAlone 8 eb) = false) :
    swappedStores [.Tuple [.Name x px, .Name y py] kt pt] (.Tuple [ea, eb] k2 pt2) env = pure (some [x, y]) := by
  have kx : env.kindOf x = some .local := hx
  have ky : env.kindOf y = some .local := hy
  have hb : env.blockKind = .function := by unfold Env.blockKind; rw [hk]; rfl
  have hn' : (y == x) = false := by
    cases e : y == x with
    | false => rfl
    | true => rw [eq_of_beq e] at hn; simp at hn
  have hs : ([ea, eb].any fun | .Starred .. => true | _ => false) = false := by
    cases ea with
    | Starred _ _ => cases pa
    | _ =>
      cases eb with
      | Starred _ _ => cases pb
      | _ => rfl
  have hed : ([x, y] : List Str).eraseDups.length = 2 := by
    simp [List.eraseDups, List.eraseDupsBy, List.eraseDupsBy.loop, hn']
  unfold swappedStores
  simp only [hb, kx, ky, Expr.pos, hl, List.head?_cons, Option.map_some, Option.getD_some, List.filterMap_cons, List.filterMap_nil, beq_self_eq_true, Bool.and_self, if_true, List.length_cons, List.length_nil, List.all_cons, List.all_nil, Bool.and_true, hs, h1, h2]
  simp [hed]
  intro z
  exfalso
  cases ea with
  | Starred _ _ => cases pa
  | _ =>
    cases eb with
    | Starred _ _ => cases pb
    | _ => simp at z
theorem sw_par3 {x y z : Str} {ea eb ec : Expr} {px py pz pt pt2 : Pos} {kt k2 : Nat} {env : Env} (hk : env.scope.kind = .function) (hx : env.scope.names.lookup x = some .local) (hy : env.scope.names.lookup y = some .local) (hz : env.scope.names.lookup z = some .local)
    (hl : (py.line == px.line) = true) (hl2 : (pz.line == px.line) = true) (hn : (x == y) = false) (hn2 : (x == z) = false) (hn3 : (y == z) = false) (pa : plainE ea = true) (pb : plainE eb = true) (pc : plainE ec = true) (h1 : (foldedForSure 8 ea && (foldedForSure 8 eb && foldedForSure 8 ec)) = false) (h2 : (constantsAlone 8 ea && (constantsAlone 8 eb && constantsAlone 8 ec)) = false) :
    swappedStores [.Tuple [.Name x px, .Name y py, .Name z pz] kt pt] (.Tuple [ea, eb, ec] k2 pt2) env = pure (some [x, y, z]) := by
  have kx : env.kindOf x = some .local := hx
  have ky : env.kindOf y = some .local := hy
  have kz : env.kindOf z = some .local := hz
  have hb : env.blockKind = .function := by unfold Env.blockKind; rw [hk]; rfl
  have sym : ∀ {a b : Str}, (a == b) = false → (b == a) = false := fun {a b} h => by
    cases e : b == a with
    | false => rfl
    | true => rw [eq_of_beq e] at h; simp at h
  have st : ∀ {e : Expr}, plainE e = true → (match e with | .Starred .. => true | _ => false) = false := fun {e} h => by cases e <;> first | rfl | cases h
  have hs : ([ea, eb, ec].any fun | .Starred .. => true | _ => false) = false := by
    simp only [List.any_cons, List.any_nil, st pa, st pb, st pc, Bool.or_self]
  have hed : ([x, y, z] : List Str).eraseDups.length = 3 := by
    simp [List.eraseDups, List.eraseDupsBy, List.eraseDupsBy.loop, sym hn, sym hn2, sym hn3]
  unfold swappedStores
  simp only [hb, kx, ky, kz, Expr.pos, hl, hl2, List.head?_cons, Option.map_some, Option.getD_some, List.filterMap_cons, List.filterMap_nil, beq_self_eq_true, Bool.and_self, if_true, List.length_cons, List.length_nil, List.all_cons, List.all_nil, Bool.and_true, hs, h1, h2]
  simp [hed]
  rintro (z | z | z)
  · exfalso; cases ea <;> first | (cases pa; done) | (simp at z; done)
  · exfalso; cases eb <;> first | (cases pb; done) | (simp at z; done)
  · exfalso; cases ec <;> first | (cases pc; done) | (simp at z; done)
theorem sole {t e : Expr} {l : Nat} {env : Env} : swapsWithSole [t] e l env = swapsWith e (some t) l env := rfl
theorem asg_sub {o i : Expr} {ptg : Pos} {env : Env} (hi : noSl i = true) (v : Value) : assign (.Subscript o i ptg) env v = (do
      let ov ← holding [v] (eval o env)
      let iv ← holding [v, ov] (eval i env)
      standAt ptg
      holding [v, ov, iv] (setItem ov iv v)
      release [v, ov, iv] []) := by
  rw [assign]
  cases i with
  | Slice _ _ _ _ => cases hi
  | _ => rfl
theorem sw_none {x y : Str} {ea eb : Expr} {px py pt pt2 : Pos} {kt k2 : Nat} {env : Env} (hx : (env.kindOf x == some .local) = false) :
    swappedStores [.Tuple [.Name x px, .Name y py] kt pt] (.Tuple [ea, eb] k2 pt2) env = pure none := by
  unfold swappedStores
  have hx' : ¬ env.kindOf x = some .local := by simpa using hx
  have hl : ∀ l : List Str, l = ([Expr.Name x px, Expr.Name y py].filterMap fun
      | .Name id pos => if env.kindOf id = some .local ∧ pos.line = px.line then some id else none
      | _ => none) → l.length = 2 → False := fun l e h => by
    subst e
    simp only [List.filterMap_cons, List.filterMap_nil, hx', false_and, if_false] at h
    split at h <;> simp at h
  cases hf : env.blockKind != .function <;> simp [hf, Expr.pos]
  intro _ _ h
  exact (hl _ rfl h).elim
def cPar (c : Cp) (G : Gam) (x : Str) (px : Pos) (y : Str) (py : Pos) (kt : Nat) (pt : Pos) (ea eb : Expr) (k2 : Nat) (pt2 pos : Pos) : Option (CS G (.Assign [.Tuple [.Name x px, .Name y py] kt pt] (.Tuple [ea, eb] k2 pt2) pos)) :=
  if h : G.top = true ∧ isOnly (G.sc.names.lookup x) = true ∧ isOnly (G.sc.names.lookup y) = true ∧ (py.line == px.line) = true ∧ (x == y) = false ∧ plainE ea = true ∧ plainE eb = true ∧ (foldedForSure 8 ea && foldedForSure 8 eb) = false ∧ (constantsAlone 8 ea && constantsAlone 8 eb) = false then
    match hi : ixS G.N x, hj : ixS G.N y with
    | some i, some j => if hij : i ≠ j then (c.E G ea).bind fun a => (c.E G eb).bind fun b =>
        some ⟨sAsg (wTup (wCons a.t (wCons b.t wNil))) (.tp [.nm i, .nm j]), monoS_Asg (mono_Tup (mono_Cons a.m (mono_Cons b.m mono_Nil))), fun X W k =>
          have hx := k.loc x (isOnly_eq h.2.1)
          have hy := k.loc y (isOnly_eq h.2.2.1)
          ps_parW a.m b.m (k.calT h.1) k.nd (by rw [k.hN]; exact ixS_ok hi) (by rw [k.hN]; exact ixS_ok hj) hij hx hy (a.ok X W k) (b.ok X W k) h.2.2.2.2.2.1 h.2.2.2.2.2.2.1
            (sw_par (k.kin h.1) hx hy h.2.2.2.1 h.2.2.2.2.1 h.2.2.2.2.2.1 h.2.2.2.2.2.2.1 h.2.2.2.2.2.2.2.1 h.2.2.2.2.2.2.2.2)⟩ else none
    | _, _ => none
  else if h : G.top = true ∧ isOnly (G.sc.names.lookup x) = false then
    (cG G (.Tuple [.Name x px, .Name y py] kt pt)).bind fun g => (c.E G (.Tuple [ea, eb] k2 pt2)).bind fun a => some ⟨sAsg a.t g.t, monoS_Asg a.m, fun X W k =>
      ps_asgW a.m (a.ok X W k) (g.ok X W k) (sole.trans (noComp (e := .Tuple [ea, eb] k2 pt2) rfl _ _ _)) (sw_none (by
        show (X.env.scope.names.lookup x == some .local) = false
        rw [k.sco h.1]
        have := h.2
        cases e : G.sc.names.lookup x with
        | none => rfl
        | some z =>
          rw [e] at this
          cases z <;> first | rfl | cases this)) (by rw [asg_plain g.pl]; rfl)⟩
  else none
def cPar3 (c : Cp) (G : Gam) (x : Str) (px : Pos) (y : Str) (py : Pos) (z : Str) (pz : Pos) (kt : Nat) (pt : Pos) (ea eb ec : Expr) (k2 : Nat) (pt2 pos : Pos) : Option (CS G (.Assign [.Tuple [.Name x px, .Name y py, .Name z pz] kt pt] (.Tuple [ea, eb, ec] k2 pt2) pos)) :=
  if h : G.top = true ∧ isOnly (G.sc.names.lookup x) = true ∧ isOnly (G.sc.names.lookup y) = true ∧ isOnly (G.sc.names.lookup z) = true ∧ (py.line == px.line) = true ∧ (pz.line == px.line) = true ∧ (x == y) = false ∧ (x == z) = false ∧ (y == z) = false ∧ plainE ea = true ∧ plainE eb = true ∧ plainE ec = true ∧ (foldedForSure 8 ea && (foldedForSure 8 eb && foldedForSure 8 ec)) = false ∧ (constantsAlone 8 ea && (constantsAlone 8 eb && constantsAlone 8 ec)) = false then
    match hi : ixS G.N x, hj : ixS G.N y, hk : ixS G.N z with
    | some i, some j, some l => if hij : i ≠ j ∧ i ≠ l ∧ j ≠ l then (c.E G ea).bind fun a => (c.E G eb).bind fun b => (c.E G ec).bind fun d =>
        some ⟨sAsg (wTup (wCons a.t (wCons b.t (wCons d.t wNil)))) (.tp [.nm i, .nm j, .nm l]), monoS_Asg (mono_Tup (mono_Cons a.m (mono_Cons b.m (mono_Cons d.m mono_Nil)))), fun X W k => by
          obtain ⟨g1, g2, g3, g4, g5, g6, g7, g8, g9, g10, g11, g12, g13, g14⟩ := h
          have hx := k.loc x (isOnly_eq g2)
          have hy := k.loc y (isOnly_eq g3)
          have hz := k.loc z (isOnly_eq g4)
          exact ps_par3W a.m b.m d.m (k.calT g1) k.nd (by rw [k.hN]; exact ixS_ok hi) (by rw [k.hN]; exact ixS_ok hj) (by rw [k.hN]; exact ixS_ok hk) hij.1 hij.2.1 hij.2.2 hx hy hz (a.ok X W k) (b.ok X W k) (d.ok X W k) g10 g11 g12
            (sw_par3 (k.kin g1) hx hy hz g5 g6 g7 g8 g9 g10 g11 g12 g13 g14)⟩ else none
    | _, _, _ => none
  else none
theorem plain_each {t : Expr} {env : Env} (h : plainE t = true) : (assignEach [t] env).map (·.2) = [assign t env] := by
  rw [asg_plain h]; rfl
/-- t = e, plainly -/
def cAsg (c : Cp) (G : Gam) (t e : Expr) (pos : Pos) (h : isComp e = false) (ht : isTup t = false ∨ isTup e = false) (hL : (match t with | .List _ _ => false | _ => true) = true) : Option (CS G (.Assign [t] e pos)) :=
  (cG G t).bind fun g => (c.E G e).bind fun a => some ⟨sAsg a.t g.t, monoS_Asg a.m, fun X W k => ps_asgW a.m (a.ok X W k) (g.ok X W k) (noComp h _ _ _) (by
    rcases ht with ht | ht
    · unfold swappedStores
      cases t with
      | Tuple _ _ _ => cases ht
      | List _ _ => cases hL
      | _ => cases e <;> rfl
    · exact noTup ht _ _) (plain_each g.pl)⟩
def cSet (G : Gam) (c : Cp) (y : Str) (py : Pos) (elt tgE iter : Expr) (ifs : List Expr) (scope : Scope) (pos spos : Pos) : Option (CS G (.Assign [.Name y py] (.ListComp elt [⟨tgE, iter, ifs, 0⟩] scope pos) spos)) :=
  if h : G.top = true ∧ isOnly (G.sc.names.lookup y) = true ∧ (py.line == pos.line) = true ∧ (scope.names.any fun (n, k) => n == y && (k == .local || k == .cell)) = false then
    match hi : ixS G.N y with
    | some i => (cL c G elt tgE iter ifs scope).bind fun l => some ⟨sAsg (wNew (wLc l.src l.tg (l.own.map (·.2)) l.tt l.te)) (.nm i), monoS_Asg (mono_New (mono_Lc l.ms l.mt l.me)), fun X W k =>
        have hy := k.loc y (isOnly_eq h.2.1)
        (l.ok X W k).set (by rw [k.hN]; exact ixS_ok hi) hy (sw_true (k.kin h.1) hy h.2.2.1 h.2.2.2)⟩
    | none => none
  else if h : G.top = true ∧ isOnly (G.sc.names.lookup y) = false then
    (cG G (.Name y py)).bind fun g => (cL c G elt tgE iter ifs scope).bind fun l => some ⟨sAsg (wNew (wLc l.src l.tg (l.own.map (·.2)) l.tt l.te)) g.t, monoS_Asg (mono_New (mono_Lc l.ms l.mt l.me)), fun X W k =>
      ps_asgW (mono_New (mono_Lc l.ms l.mt l.me)) (l.ok X W k).new (g.ok X W k) (by
        have hk : (X.env.kindOf y == some .local) = false := by
          show (X.env.scope.names.lookup y == some .local) = false
          rw [k.sco h.1]
          have := h.2
          cases e : G.sc.names.lookup y with
          | none => rfl
          | some z =>
            rw [e] at this
            cases z <;> first | rfl | cases this
        rw [sole]
        unfold swapsWith
        simp only [hk]
        simp) (noTup rfl _ _) (plain_each rfl)⟩
  else none
/-- what is never come to -/
def sNever : WS := fun _ _ _ => False
theorem monoS_Never : MonoS sNever := fun _ _ _ _ h _ => h.elim
theorem ps_never {X : Cx} {W : WX} {s : Stmt} : PS X s (lS X.K X.gw W sNever) := ⟨fun _ _ _ _ _ _ h => by
  obtain ⟨_, _, _, _, h⟩ := h
  exact h.elim⟩
def cSs (c : Cp) (G : Gam) : (ss : List Stmt) → Option (CSs G ss)
  | [] => some ⟨sNx, monoS_Nx, fun _ _ _ => pss_nilW⟩
  | s :: ss => (c.S G s).bind fun a => (cSs c G ss).bind fun b => some ⟨sSeq a.t b.t, monoS_Seq a.m b.m, fun X W k => pss_consW a.m b.m (a.ok X W k) (b.ok X W k)⟩
def cRaise (G : Gam) (cE : (e : Expr) → Option (CE G e)) : (a b : Option Expr) → (pos : Pos) → Option (CS G (.Raise a b pos))
  | some (.Call (.Name x p) [.Constant (.str m) j p2] [] pos), none, pos' =>
    if h : G.cal = true ∧ isGl (G.sc.names.lookup x) = true ∧ (x == ("__debug__" : Str)) = false ∧ ownI.contains x = false then
      match hq : G.fs.lookup x with
      | some (.exc xs) => if hx : xs.contains x = true then some ⟨sRaise x, monoS_Raise, fun X W k => ps_raiseW (k.fn hq) hx h.2.2.2 (k.calm h.1) k.tk (k.glo h.2.1) h.2.2.1⟩ else some ⟨sNever, monoS_Never, fun _ _ _ => ps_never⟩
      | _ => some ⟨sNever, monoS_Never, fun _ _ _ => ps_never⟩
    else some ⟨sNever, monoS_Never, fun _ _ _ => ps_never⟩
  | some (.Call (.Name x p) [e] [] pos), none, pos' =>
    if h : G.cal = true ∧ isGl (G.sc.names.lookup x) = true ∧ (x == ("__debug__" : Str)) = false ∧ ownI.contains x = true ∧ plainE e = true then
      match hq : G.fs.lookup x, hi : G.fs.lookup (x ++ ".__init__") with
      | some (.exc xs), some (.mk c) => if hx : xs.contains x = true ∧ (c == x) = true then (cE e).bind fun te => some ⟨sRaiseF x (fldI x) te.t, monoS_RaiseF te.m, fun X W k =>
          ps_raiseI (k.fn hq) hx.1 h.2.2.2.1 (by have z := k.fn hi; rw [eq_of_beq hx.2] at z; exact z) (k.calm h.1) k.tk (k.glo h.2.1) h.2.2.1 te.m (te.ok X W k) h.2.2.2.2⟩ else some ⟨sNever, monoS_Never, fun _ _ _ => ps_never⟩
      | _, _ => some ⟨sNever, monoS_Never, fun _ _ _ => ps_never⟩
    else some ⟨sNever, monoS_Never, fun _ _ _ => ps_never⟩
  | _, _, _ => some ⟨sNever, monoS_Never, fun _ _ _ => ps_never⟩
def noFn : Str × Gd → Bool
  | (_, .fn _ _) => false
  | (_, .mk _) => false
  | _ => true
/-- what an except suite may use -/
def suG (G : Gam) : Gam := { G with fs := G.fs.filter noFn, top := false, cal := false }
theorem CxOk.sui {G : Gam} {X : Cx} {W : WX} (c : CxOk G X W) (X' : Cx) (hp : X'.prog = X.prog) (hw : X'.w = X.w) (hK : X'.K = X.K) (hm : X'.mg = X.mg) (hN : X'.N = X.N) (hA : X'.A.units = X.A.units) (he : X'.env = X.env) (hf : X'.fn = X.fn) (hx : X'.xe = fun _ _ => False)
    (hgl : ∀ x, Gl X x → Gl X' x) : CxOk (suG G) X' (fun _ _ _ _ => False) where
  hN := hN.trans c.hN
  nd := by rw [hN]; exact c.nd
  calm := fun h => by cases h
  calT := fun h => by cases h
  stk := fun h => by cases h
  hu := by rw [hA]; exact c.hu
  fre := fun x h => by rw [he]; exact c.fre x h
  loc := fun x h => by rw [he]; exact c.loc x h
  cel := fun x h => by rw [he, hf]; exact c.cel x h
  gl := fun x h => hgl x (c.gl x h)
  fns := fun q hq => by
    obtain ⟨h1, h2⟩ := List.mem_filter.mp hq
    have z := c.fns q h1
    obtain ⟨x, g⟩ := q
    cases g with
    | fn n sp => cases h2
    | mk c => cases h2
    | val d =>
      have z : ∃ v u, X.mg x = some u ∧ RelV v u ∧ ∀ H, Rep X.K X.gw H d v := z
      show ∃ v u, X'.mg x = some u ∧ RelV v u ∧ ∀ H, Rep X'.K X'.gw H d v
      have e : X'.gw = X.gw := by unfold Cx.gw; rw [hm, hw]
      rw [hm, hK, e]
      exact z
    | blt =>
      have z : X.mg x = none := z
      show X'.mg x = none
      rw [hm]; exact z
    | exc xs =>
      have z : XcK X.K X.mg xs := z
      show XcK X'.K X'.mg xs
      rw [hm, hK]; exact z
  tk := fun u s' ⟨a, B, sI, pins, σ, H, cls, d, e, I, nb, up, sky, na, os, ag, w⟩ => w.elim
  pas := fun h => by cases h
  sco := fun h => by cases h
  kin := fun h => by cases h
theorem CxOk.suA {G : Gam} {X : Cx} {W : WX} (c : CxOk G X W) (a : Addr) : CxOk (suG G) (X.suiteA a) (fun _ _ _ _ => False) := c.sui _ rfl rfl rfl rfl rfl rfl rfl rfl rfl fun _ z => z
theorem CxOk.suN {G : Gam} {X : Cx} {W : WX} (c : CxOk G X W) (a : Addr) (pn : List (Addr × Obj)) : CxOk (suG G) (X.suite a pn) (fun _ _ _ _ => False) := c.sui _ rfl rfl rfl rfl rfl rfl rfl rfl rfl fun _ z => z
theorem CxOk.tr {G : Gam} {X : Cx} {W W' : WX} (c : CxOk G X W) (pn : List (Addr × Obj)) (xe : Value → Shared → Prop) (tk : Takes (X.tr pn xe) W') (pa : PassesOwn (model X.prog X.w) X.A X.env xe) : CxOk G (X.tr pn xe) W' where
  hN := c.hN
  nd := c.nd
  calm := c.calm
  calT := c.calT
  stk := c.stk
  hu := c.hu
  fre := c.fre
  loc := c.loc
  cel := c.cel
  gl := c.gl
  fns := fun q hq => by
    have z := c.fns q hq
    obtain ⟨x, g⟩ := q
    cases g <;> exact z
  tk := tk
  pas := fun _ => pa
  sco := c.sco
  kin := c.kin
def cTry (c : Cp) (G : Gam) : (body : List Stmt) → (hs : List ExceptHandler) → (orelse fin : List Stmt) → (pos : Pos) → Option (CS G (.Try body hs orelse fin pos))
  | body, [.ExceptHandler (some (.Name x np)) (some n) (b₀ :: suite) pos'], [], [], pos =>
    if h : G.top = true ∧ isOnly (G.sc.names.lookup n) = true ∧ (x == ("__debug__" : Str)) = false ∧ isGl (G.sc.names.lookup x) = true then
      match hi : ixS G.N n, hq : G.fs.lookup x with
      | some i, some (.exc xs) => if hx : xs.contains x = true then (cSs c G body).bind fun b => (cSs c (suG G) (b₀ :: suite)).bind fun u =>
          some ⟨sTry xs x i b.t u.t, monoS_Try b.m u.m, fun X W k => ps_tryW (k.fn hq) hx (k.stk h.1).1 (k.stk h.1).2 k.nd (by rw [k.hN]; exact ixS_ok hi) (k.loc n (isOnly_eq h.2.1)) (k.glo h.2.2.2) h.2.2.1 k.tk b.m u.m (fun W pn xe tk pa => b.ok _ W (k.tr pn xe tk pa)) (fun a => u.ok _ _ (k.suA a))⟩ else none
      | _, _ => none
    else none
  | body, [.ExceptHandler (some (.Name x np)) none (b₀ :: suite) pos'], [], [], pos =>
    if h : G.top = true ∧ (x == ("__debug__" : Str)) = false ∧ isGl (G.sc.names.lookup x) = true then
      match hq : G.fs.lookup x with
      | some (.exc xs) => if hx : xs.contains x = true then (cSs c G body).bind fun b => (cSs c (suG G) (b₀ :: suite)).bind fun u =>
          some ⟨sTryN xs x b.t u.t, monoS_TryN b.m u.m, fun X W k => ps_tryNW (k.fn hq) hx (k.stk h.1).1 (k.stk h.1).2 (k.glo h.2.2) h.2.1 k.tk b.m u.m (fun W pn xe tk pa => b.ok _ W (k.tr pn xe tk pa)) (fun a pn => u.ok _ _ (k.suN a pn))⟩ else none
      | _ => none
    else none
  | _, _, _, _, _ => none
def cS (c : Cp) (G : Gam) : (s : Stmt) → Option (CS G s)
  | .Raise a b pos => cRaise G (c.E G) a b pos
  | .Try body hs orelse fin pos => cTry c G body hs orelse fin pos
  | .Pass pos => some ⟨sNx, monoS_Nx, fun _ _ _ => ps_passW⟩
  | .Break pos => some ⟨sBk, monoS_Bk, fun _ _ _ => ps_breakW⟩
  | .Continue pos => some ⟨sCt, monoS_Ct, fun _ _ _ => ps_contW⟩
  | .Expr (.Constant (.str x) j p) pos => some ⟨sNx, monoS_Nx, fun _ _ _ => ps_docW⟩
  | .Expr e pos => if h : isComp e = false then (c.E G e).bind fun a => some ⟨sExpr a.t, monoS_Expr a.m, fun X W k => ps_exprW a.m (a.ok X W k) (noComp h _ _ _)⟩ else none
  | .Return none pos => some ⟨sRetN, monoS_RetN, fun _ _ _ => ps_retNW⟩
  | .Return (some e) pos => (c.E G e).bind fun a => some ⟨sRet a.t, monoS_Ret a.m, fun X W k => ps_retW a.m (a.ok X W k)⟩
  | .If t a b pos => (c.T G t).bind fun u => (cSs c G a).bind fun x => (cSs c G b).bind fun y => some ⟨sIf u.t x.t y.t, monoS_If u.m x.m y.m, fun X W k => ps_ifSW u.m x.m y.m (u.ok X W k) (x.ok X W k) (y.ok X W k)⟩
  | .For tg iter body [] pos => if h : G.top = true then (cI c G tg iter).bind fun i => (cG G tg).bind fun g => (cSs c G body).bind fun b => some ⟨sFor i.t g.t b.t, monoS_For i.m b.m, fun X W k => ps_forW (k.pas h) (k.calT h) i.m b.m (i.ok X W k) (g.ok X W k) (b.ok X W k) (i.hs X.env)⟩ else none
  | .While t body [] pos => if h : G.top = true then (c.T G t).bind fun u => (cSs c G body).bind fun b => some ⟨sWhile u.t b.t, monoS_While u.m b.m, fun X W k => ps_whileW (k.pas h) u.m b.m (u.ok X W k) (b.ok X W k)⟩ else none
  | .Assign [.Name y py] (.ListComp elt [⟨tgE, iter, ifs, 0⟩] scope pos) spos => cSet G c y py elt tgE iter ifs scope pos spos
  | .Assign [.Name y py] e pos => if h : isComp e = false then cAsg c G (.Name y py) e pos h (.inl rfl) rfl else none
  | .Assign [.Tuple [.Subscript o i ptg, .Name x pn] kt pt] e pos =>
    if h : isComp e = false ∧ isTup e = false ∧ isLc (G.sc.names.lookup x) = true ∧ noSl i = true ∧ G.cal = true then
      match hi : ixS G.N x with
      | some y => (c.E G o).bind fun a => (c.E G i).bind fun b => (c.E G e).bind fun d => some ⟨sTake a.t b.t d.t y, monoS_Take a.m b.m d.m, fun X W k =>
          ps_takeW k.hu (k.calm h.2.2.2.2) k.nd (by rw [k.hN]; exact ixS_ok hi) (k.lc h.2.2.1).1 (k.lc h.2.2.1).2 a.m b.m d.m (a.ok X W k) (b.ok X W k) (d.ok X W k) (sole.trans (noComp h.1 _ _ _)) (noTup h.2.1 _ _) (asg_sub h.2.2.2.1)⟩
      | none => none
    else none
  | .Assign [.Tuple [.Name x px, .Name y py] kt pt] (.Tuple [ea, eb] k2 pt2) pos => cPar c G x px y py kt pt ea eb k2 pt2 pos
  | .Assign [.Tuple [.Name x px, .Name y py, .Name z pz] kt pt] (.Tuple [ea, eb, ec] k2 pt2) pos => cPar3 c G x px y py z pz kt pt ea eb ec k2 pt2 pos
  | .Assign [.Tuple ts kt pt] e pos => if h : isComp e = false ∧ isTup e = false then cAsg c G (.Tuple ts kt pt) e pos h.1 (.inr h.2) rfl else none
  | .Assign [.Subscript o i ptg] e pos => if h : isComp e = false ∧ noSl i = true then (c.E G o).bind fun a => (c.E G i).bind fun b => (c.E G e).bind fun d => some ⟨sSub a.t b.t d.t, monoS_Sub a.m b.m d.m, fun X W k =>
      ps_subW k.hu a.m b.m d.m (a.ok X W k) (b.ok X W k) (d.ok X W k) (sole.trans (noComp h.1 _ _ _)) (by unfold swappedStores; cases e <;> rfl) (asg_sub h.2)⟩ else none
  | _ => none
def cp : Nat → Cp
  | 0 => ⟨fun _ _ => none, fun _ _ => none, fun _ _ => none, fun _ _ => none⟩
  | n + 1 => ⟨cE (cp n), cT (cp n), cH (cp n), cS (cp n)⟩
def body (G : Gam) (ss : List Stmt) : Option (CSs G ss) := cSs (cp 40) G ss
end Ow

namespace Ow
open PySem PySem.Spec PyProof.Rows L2
def startD (N : List Str) (ds : List D) : En := ds.map some ++ List.replicate (N.length - ds.length) none
/-- what a def's body is to reach; what the store holds beyond may be forgotten -/
def ndOf (sp : Spec) (ds : List D) (S : Sto) : Nd where
  nx := fun _ S' => ∃ S1, Sub S1 S' ∧ sp.post ds S .non S1
  rt := fun d S' => ∃ S1, Sub S1 S' ∧ sp.post ds S d S1
  bk := fun _ _ => False
  ct := fun _ _ => False
  xc := fun x _ S' => ∃ S1, Sub S1 S' ∧ sp.exc ds S x S1
def BodyOk (N : List Str) (n : Nat) (sp : Spec) (t : WS) : Prop := ∀ ds S, ds.length = n → sp.pre ds S → t (ndOf sp ds S) (startD N ds) S
section
variable (P : Program) (w : World) (K : PySem.W.Frag) (mg : Str → Option Value) (base : Heap)
def FnAt (k : Nat) (x : Str) (n : Nat) (sp : Spec) : Prop := ∃ (f : Addr) (fd : FuncData) (ps : List Str), ps.length = n ∧ mg x = some (.ref f) ∧ PySem.W.keepIn K (.ref f) = true ∧
  FnOk P w K mg base (CX P w) k f fd ps (spOf K ⟨mg, w⟩ n sp) ∧ Binds K fd ps []
def GdAt (k : Nat) (x : Str) : Gd → Prop
  | .fn n sp => FnAt P w K mg base k x n sp
  | .val d => ∃ v u, mg x = some u ∧ RelV v u ∧ ∀ H, Rep K ⟨mg, w⟩ H d v
  | .blt => mg x = none
  | .exc xs => XcK K mg xs
  | .mk c => ∃ (fd : FuncData) (j : Nat) (y : Str), j + 1 ≤ k ∧ FnOk P w K mg base (CX P w) j (He.fAd K (c, some "__init__")) fd ["self", y] (spI (He.ga K c) (fldI c)) ∧ Binds K fd ["self", y] []
def GAll (k : Nat) (fs : List (Str × Gd)) : Prop := ∀ q ∈ fs, GdAt P w K mg base k q.1 q.2
end
section
variable {P : Program} {w : World} {K : PySem.W.Frag} {mg : Str → Option Value} {base : Heap} {k : Nat} {x : Str} {n : Nat} {sp : Spec} {fs : List (Str × Gd)}
theorem GAll.nil : GAll P w K mg base k [] := fun _ h => by cases h
theorem GAll.fn {j : Nat} (h : FnAt P w K mg base j x n sp) (hj : j ≤ k) (r : GAll P w K mg base k fs) : GAll P w K mg base k ((x, .fn n sp) :: fs) := fun q hq => by
  rcases List.mem_cons.mp hq with rfl | hq
  · obtain ⟨f, fd, ps, a, b, c, d, e⟩ := h
    exact ⟨f, fd, ps, a, b, c, d.mono hj, e⟩
  · exact r q hq
theorem GAll.blt (h : mg x = none) (r : GAll P w K mg base k fs) : GAll P w K mg base k ((x, .blt) :: fs) := fun q hq => by
  rcases List.mem_cons.mp hq with rfl | hq
  · exact h
  · exact r q hq
theorem GAll.exc {xs : List Str} (h : XcK K mg xs) (r : GAll P w K mg base k fs) : GAll P w K mg base k ((x, .exc xs) :: fs) := fun q hq => by
  rcases List.mem_cons.mp hq with rfl | hq
  · exact h
  · exact r q hq
theorem GAll.mk {c : Str} {fd : FuncData} {j : Nat} {y : Str} (hj : j + 1 ≤ k) (h : FnOk P w K mg base (CX P w) j (He.fAd K (c, some "__init__")) fd ["self", y] (spI (He.ga K c) (fldI c))) (hb : Binds K fd ["self", y] []) (r : GAll P w K mg base k fs) : GAll P w K mg base k ((x, .mk c) :: fs) := fun q hq => by
  rcases List.mem_cons.mp hq with rfl | hq
  · exact ⟨fd, j, y, hj, h, hb⟩
  · exact r q hq
theorem GAll.val {d : D} {v : V} {u : Value} (h : mg x = some u) (h2 : RelV v u) (h3 : ∀ H, Rep K ⟨mg, w⟩ H d v) (r : GAll P w K mg base k fs) : GAll P w K mg base k ((x, .val d) :: fs) := fun q hq => by
  rcases List.mem_cons.mp hq with rfl | hq
  · exact ⟨v, u, h, h2, h3⟩
  · exact r q hq
theorem EnvR.start {mg : GW} {H : Hp} {N : List Str} {ds : List D} {vs : List V} (r : Reps K mg H ds vs) : EnvR K mg H (startD N ds) (start N vs) := by
  unfold startD L2.start
  have hl := r.length
  refine ⟨by simp [hl], fun i d h => ?_⟩
  by_cases hi : i < ds.length
  · rw [List.getElem?_append_left (by simpa using hi), List.getElem?_map] at h
    cases e : ds[i]? with
    | none => rw [e] at h; cases h
    | some y =>
      rw [e] at h
      cases h
      obtain ⟨v, e1, e2⟩ := r.get e
      exact ⟨v, by rw [List.getElem?_append_left (by simpa [← hl] using hi), List.getElem?_map, e1]; rfl, e2⟩
  · rw [List.getElem?_append_right (by simpa using hi), List.getElem?_replicate] at h
    split at h <;> cases h
variable {qual : Str} {params : Arguments} {bd : List Stmt} {scope : Scope} {f : Addr} {fd : FuncData} {N ps : List Str}
theorem def_fn (F : FunD K x qual params bd scope [] [] f fd) (Sc : FnScope N ps scope) (hfs : GAll P w K mg base k fs) {t : WS} (hc : (body ⟨N, scope, fs, true, true⟩ bd).map CSs.t = some t) (hok : BodyOk N ps.length sp t) :
    FnOk P w K mg base (CX P w) (k + 1) f fd ps (spOf K ⟨mg, w⟩ ps.length sp) := by
  cases e : body ⟨N, scope, fs, true, true⟩ bd with
  | none => rw [e] at hc; cases hc
  | some c =>
    rw [e] at hc
    cases hc
    refine F.ok Sc (fun vs H Q E h => h.1) (fun cdv A outer s H vs Q E hr h => ?_)
    obtain ⟨hl, ds, S, hS, hr2, h1, h2, h3⟩ := h
    have ck : CxOk ⟨N, scope, fs, true, true⟩ (cxOf (CX P w) P w K mg base N qual scope f cdv A outer s H E) (fun cls d _ H => E cls d H) := {
      hN := rfl
      nd := Sc.nd
      calm := fun _ => rfl
      calT := fun _ => rfl
      stk := fun _ => ⟨rfl, rfl⟩
      hu := by have h := hr.un; have e : (cxOf (CX P w) P w K mg base N qual scope f cdv A outer s H E).A.units = (A.deeper (envOfC qual scope s.heap.objs.size f cdv)).units := rfl; omega
      fre := fun y h => .inr h
      loc := fun y h => h
      cel := fun y h => ⟨h, rfl⟩
      gl := fun y h => h
      fns := fun q hq => by
        have z := hfs q hq
        obtain ⟨y, g⟩ := q
        cases g with
        | fn n sp =>
          obtain ⟨f, fd, ps, a, b, c, d, e⟩ := z
          exact ⟨f, fd, k, ps, a, b, c, d, e, hr⟩
        | val d => exact z
        | blt => exact z
        | exc xs => exact z
        | mk c =>
          obtain ⟨fd, j, y, a, b, d⟩ := z
          exact ⟨fd, j, y, b, d, hr.mono a⟩
      tk := takes_of (E₁ := fun e' s'' => CX P w outer H s E e' s'') rfl rfl rfl rfl
      pas := fun _ => passes_of rfl
      sco := fun _ => rfl
      kin := fun _ => Sc.kind }
    refine ⟨_, c.ok _ _ ck, startD N ds, S, hS, EnvR.start hr2, c.m _ _ _ _ (hok ds S (by rw [hr2.length, hl]) h1) ?_⟩
    refine ⟨fun ρ S' z => ?_, fun d S' z => ?_, fun ρ S' z => z.elim, fun ρ S' z => z.elim, fun y ρ S' z => ?_⟩
    · obtain ⟨S1, hs, z⟩ := z
      exact fun σ' H' s1 r1 f1 => h2 _ _ z .non H' (s1.sub hs) .non (f1.sub hs)
    · obtain ⟨S1, hs, z⟩ := z
      exact fun v H' s1 r1 f1 => h2 _ _ z v H' (s1.sub hs) r1 (f1.sub hs)
    · obtain ⟨S1, hs, z⟩ := z
      exact fun cls dd σ' H' s1 r1 x1 f1 => h3 _ _ z cls dd H' (s1.sub hs) x1 (f1.sub hs)
end
section
variable {P : Program} {w : World} {K : PySem.W.Frag} {mg : Str → Option Value} {base : Heap} {k : Nat} {x : Str} {n : Nat} {sp : Spec} {fs : List (Str × Gd)}
variable {qual : Str} {params : Arguments} {bd : List Stmt} {scope : Scope} {f : Addr} {fd : FuncData} {N ps : List Str}
theorem def_ok (F : FunD K x qual params bd scope [] [] f fd) (hm : mg x = some (.ref f)) (Sc : FnScope N ps scope) (hfs : GAll P w K mg base k fs) (hb : Binds K fd ps []) {t : WS} (hc : (body ⟨N, scope, fs, true, true⟩ bd).map CSs.t = some t) (hok : BodyOk N ps.length sp t) :
    FnAt P w K mg base (k + 1) x ps.length sp := ⟨f, fd, ps, rfl, hm, F.kp, def_fn F Sc hfs hc hok, hb⟩
end
/-- what a law's def may let out -/
def CXE (P : Program) : CXT := fun outer H s E u s' => ∃ w, CX P w outer H s E u s'
theorem fn_cxe {P : Program} {w : World} {K : PySem.W.Frag} {mg : Str → Option Value} {base : Heap} {k : Nat} {f : Addr} {fd : FuncData} {ps : List Str} {sp : Sp} (F : FnOk P w K mg base (CX P w) k f fd ps sp) : FnOk P w K mg base (CXE P) k f fd ps sp :=
  ⟨F.len, fun A outer s H args us vs Q E hr he hb hv hs => codeAny_mono (F.run A outer s H args us vs Q E hr he hb hv hs) fun r s' h => by
    unfold CR at h ⊢
    split at h
    · exact h
    · exact h
    · exact ⟨w, h⟩⟩
/-- no object at all -/
def S0 : Sto := fun _ => none
theorem law_end {K : PySem.W.Frag} {mg : GW} {H : Hp} {a : Addr} {ns : List Int} {sp : Spec} (hO : Only H) (hS : SqL K H a (ns.map V.int)) (h : sp.pre [.fl (ns.map .int)] S0) (hp : ∀ d S, sp.post [.fl (ns.map .int)] S0 d S → d = .bl true) (hx : ∀ x S, sp.exc [.fl (ns.map .int)] S0 x S → False) :
    spOf K mg 1 sp [.ref a] H (fun v _ => v = .bl true) fun _ _ _ => False := by
  have hF : SqF K H a (ns.map V.int) := by
    rcases hS with (h1 | h1) | h1
    · rcases hO a with z | ⟨o, xs, z⟩ <;> (rw [h1] at z; cases z)
    · exact .inl h1
    · exact .inr h1
  have hs : Sim K mg H S0 := fun b o z => by
    have z' : (none : Option MO) = some o := z
    cases z'
  refine ⟨rfl, [.fl (ns.map .int)], S0, hs, Reps.one (Rep.fl hF (ints_reps ns)), h, fun d S' z v H' _ r _ => ?_, fun x S' z => (hx _ _ z).elim⟩
  have := hp _ _ z
  subst this
  exact r.blV
theorem cx_end {P : Program} {H : Hp} {s s' : Shared} {e : Value} (h : CXE P [] H s (fun _ _ _ => False) e s') : False := by
  obtain ⟨w, a, B, H', cls, d, h⟩ := h
  exact h.2.2.2.2.2.2.2
end Ow

namespace Ow
open PySem PySem.Spec PyProof.Rows L2
mutual
theorem relD_ok {K : PySem.W.Frag} {mg : GW} : ∀ (n : Nat) (d : D) (u : Value), relD K n d u = true → ∃ v, RelV v u ∧ ∀ H, Rep K mg H d v := by
  intro n d u h
  unfold relD at h
  split at h
  · exact ⟨.non, rfl, fun _ => .non⟩
  · cases of_decide_eq_true h; exact ⟨.bl _, rfl, fun _ => .bl _⟩
  · cases of_decide_eq_true h; exact ⟨.int _, ⟨_, rfl⟩, fun _ => .int _⟩
  · cases of_decide_eq_true h; exact ⟨.str _, ⟨_, rfl⟩, fun _ => .str _⟩
  · next n l a =>
    split at h
    · next c od its m sl q =>
      obtain ⟨h1, h2⟩ := He.ba h
      obtain ⟨h3, h4⟩ := He.ba h2
      obtain ⟨vs, r1, r2⟩ := relDs_ok (mg := mg) n l its.toList h4
      exact ⟨.ref a, rfl, fun H => .tup (.inr ⟨_, its, m, q, congrArg Value.type (of_decide_eq_true h1), rfl, of_decide_eq_true h3, r1⟩) (r2 H)⟩
    · cases h
  · cases h
theorem relDs_ok {K : PySem.W.Frag} {mg : GW} : ∀ (n : Nat) (d : List D) (u : List Value), relDs K n d u = true → ∃ v, Vals v u ∧ ∀ H, Reps K mg H d v := by
  intro n d u h
  unfold relDs at h
  split at h
  · exact ⟨[], .nil, fun _ => .nil⟩
  · next d ds v vs =>
    obtain ⟨h1, h2⟩ := He.ba h
    obtain ⟨x, a1, a2⟩ := relD_ok (mg := mg) n d v h1
    obtain ⟨xs, b1, b2⟩ := relDs_ok (mg := mg) n ds vs h2
    exact ⟨x :: xs, .cons a1 b1, fun H => .cons (a2 H) (b2 H)⟩
  · cases h
end
theorem valB_ok {K : PySem.W.Frag} {h : Heap} {mg : Str → Option Value} {w : World} (X : K.In h) (G : h.Ns mainGlobals mg) {q : Str × D} (c : valB K q = true) : ∃ v u, mg q.1 = some u ∧ RelV v u ∧ ∀ H, Rep K ⟨mg, w⟩ H q.2 v := by
  unfold valB at c
  split at c
  · next u e =>
    obtain ⟨v, a, b⟩ := relD_ok (mg := ⟨mg, w⟩) 6 q.2 u c
    exact ⟨v, u, PySem.W.mg_of X G e, a, b⟩
  · cases c
theorem excB_ok {K : PySem.W.Frag} {D : Addr} (h : excB K D = true) : ExcC K D := by
  obtain ⟨h1, h⟩ := He.ba h
  obtain ⟨h2, h⟩ := He.ba h
  obtain ⟨h3, h⟩ := He.ba h
  obtain ⟨h4, h⟩ := He.ba h
  obtain ⟨h5, h⟩ := He.ba h
  obtain ⟨h6, h⟩ := He.ba h
  obtain ⟨h7, h8⟩ := He.ba h
  exact ⟨of_decide_eq_true h1, of_decide_eq_true h2, of_decide_eq_true h3, h4, of_decide_eq_true h5, of_decide_eq_true h6, of_decide_eq_true h7, of_decide_eq_true h8⟩
theorem oexB_ok {K : PySem.W.Frag} {C : Addr} (h : oexB K C = true) : OexC K C := by
  obtain ⟨h1, h⟩ := He.ba h
  obtain ⟨h2, h⟩ := He.ba h
  obtain ⟨h3, h⟩ := He.ba h
  obtain ⟨h4, h5⟩ := He.ba h
  refine ⟨?_, of_decide_eq_true h2, of_decide_eq_true h3, of_decide_eq_true h4, h5⟩
  split at h1
  · next c dd cd sl ho =>
    split at h1
    · next C' bm k0 k1 k2 k3 n k5 hm hs =>
      obtain ⟨g1, g⟩ := He.ba h1
      obtain ⟨g2, g⟩ := He.ba g
      obtain ⟨g3, g⟩ := He.ba g
      obtain ⟨g4, g⟩ := He.ba g
      obtain ⟨g5, g6⟩ := He.ba g
      have g1 := of_decide_eq_true g1
      have g2 := of_decide_eq_true g2
      have g3 := of_decide_eq_true g3
      subst g1 g2 g3
      obtain ⟨nm, bs, mro, ns, qn, hd, sn, sb, ab, col, del⟩ := cd
      simp only at hm g4 g5
      subst hm g5
      have g4 : del = false := by cases del <;> simp_all
      subst g4
      obtain ⟨sl⟩ := sl
      simp only at hs
      subst hs
      exact ⟨nm, qn, ns, bs, bm, sn, sb, ab, col, dd, k0, k1, k2, k3, k5, ho, g6⟩
    · cases h1
  · cases h1
theorem xiB_ok {K : PySem.W.Frag} {h : Heap} {mg : Str → Option Value} (X : K.In h) (G : h.Ns mainGlobals mg) {c f : Str} (b : xiB K c f = true) : XiK K mg c f := by
  obtain ⟨h1, b⟩ := He.ba b
  obtain ⟨h2, b⟩ := He.ba b
  obtain ⟨h3, b⟩ := He.ba b
  obtain ⟨h4, b⟩ := He.ba b
  obtain ⟨h5, b⟩ := He.ba b
  obtain ⟨h6, b⟩ := He.ba b
  obtain ⟨h7, b⟩ := He.ba b
  obtain ⟨h8, h9⟩ := He.ba b
  refine ⟨oexB_ok h1, of_decide_eq_true h2, of_decide_eq_true h3, of_decide_eq_true h4, ⟨h5, of_decide_eq_true h6⟩, ?_, He.glo_ok X G h8, He.glo_ok X G h9⟩
  split at h7
  · next n e => rw [e, of_decide_eq_true h7]
  · cases h7
theorem xcB_ok {K : PySem.W.Frag} {h : Heap} {mg : Str → Option Value} (X : K.In h) (G : h.Ns mainGlobals mg) {xs : List Str} (b : xcB K xs = true) : XcK K mg xs := by
  obtain ⟨h1, h2⟩ := He.ba b
  have one : ∀ c ∈ xs, xc1 K xs c = true := fun c hc => List.all_eq_true.mp h2 c hc
  refine ⟨fun c hc => ?_, fun c hc y hy => ?_, fun c hc y hy => ?_, fun c hc => ?_, fun T hT y hy => ?_, fun T hT => of_decide_eq_true (List.all_eq_true.mp h1 T hT), fun c hc ho => ?_, fun c hc ho => ?_⟩
  · obtain ⟨k1, k⟩ := He.ba (one c hc)
    obtain ⟨k2, k⟩ := He.ba k
    exact ⟨He.glo_ok X G k1, excB_ok k2⟩
  · obtain ⟨_, k⟩ := He.ba (one c hc)
    obtain ⟨_, k⟩ := He.ba k
    obtain ⟨k, _⟩ := He.ba k
    exact of_decide_eq_true (He.ba (List.all_eq_true.mp k y hy)).1
  · obtain ⟨_, k⟩ := He.ba (one c hc)
    obtain ⟨_, k⟩ := He.ba k
    obtain ⟨k, _⟩ := He.ba k
    exact of_decide_eq_true (He.ba (List.all_eq_true.mp k y hy)).2
  · obtain ⟨_, k⟩ := He.ba (one c hc)
    obtain ⟨_, k⟩ := He.ba k
    obtain ⟨_, k⟩ := He.ba k
    exact of_decide_eq_true (He.ba k).1
  · obtain ⟨_, k⟩ := He.ba (one y hy)
    obtain ⟨_, k⟩ := He.ba k
    obtain ⟨_, k⟩ := He.ba k
    obtain ⟨_, k⟩ := He.ba k
    exact of_decide_eq_true (List.all_eq_true.mp (He.ba k).1 T hT)
  · obtain ⟨_, k⟩ := He.ba (one c hc)
    obtain ⟨_, k⟩ := He.ba k
    obtain ⟨_, k⟩ := He.ba k
    obtain ⟨_, k⟩ := He.ba k
    obtain ⟨_, k⟩ := He.ba k
    rw [ho, Bool.false_and, Bool.false_or, Bool.not_false, Bool.true_and] at k
    exact He.exc_ok k
  · obtain ⟨_, k⟩ := He.ba (one c hc)
    obtain ⟨_, k⟩ := He.ba k
    obtain ⟨_, k⟩ := He.ba k
    obtain ⟨_, k⟩ := He.ba k
    obtain ⟨_, k⟩ := He.ba k
    rw [ho, Bool.true_and, Bool.not_true, Bool.false_and, Bool.or_false] at k
    exact xiB_ok X G k
/-- the facts in one hand -/
structure Fx (fa : List He.Fa) (fn : List He.DefD) (vs : List (Str × D)) (xs : List Str) (K : PySem.W.Frag) (mg : Str → Option Value) : Prop where
  free : ∀ x, He.Fa.free x ∈ fa → mg x = none
  glo : ∀ x, He.Fa.glo x ∈ fa → mg x = some (.ref (He.ga K x))
  val : ∀ (w : World), ∀ q ∈ vs, ∃ v u, mg q.1 = some u ∧ RelV v u ∧ ∀ H, Rep K ⟨mg, w⟩ H q.2 v
  xc : XcK K mg xs
  def_ : ∀ (i : Nat) (d : He.DefD), fn[i]? = some d → ∃ fd, FunD K d.name d.qual d.params d.body d.scope (d.dvs K) (d.kws K) (He.fAd K d.at_) fd
theorem SaysV.fx {fa : List He.Fa} {fn : List He.DefD} {vs : List (Str × D)} {xs : List Str} {K : PySem.W.Frag} {h : Heap} {mg : Str → Option Value} (c : SaysV fa fn vs xs K) (X : K.In h) (G : h.Ns mainGlobals mg) : Fx fa fn vs xs K mg where
  xc := xcB_ok X G (He.ba c.2).2
  free := fun x hx => by
    obtain ⟨i, hi, e⟩ := List.getElem_of_mem hx
    exact He.free_ok X G (c.1.fact i (by rw [List.getElem?_eq_getElem hi, e]))
  glo := fun x hx => by
    obtain ⟨i, hi, e⟩ := List.getElem_of_mem hx
    exact He.glo_ok X G (c.1.fact i (by rw [List.getElem?_eq_getElem hi, e]))
  val := fun w q hq => valB_ok X G (List.all_eq_true.mp (He.ba c.2).1 q hq)
  def_ := fun i d h => c.1.def_ i h
section
variable {P : Program} {w : World} {K : PySem.W.Frag} {mg : Str → Option Value} {base : Heap} {k : Nat} {x : Str} {n : Nat} {sp : Spec} {fs : List (Str × Gd)} {fa : List He.Fa} {fn : List He.DefD} {vs : List (Str × D)} {xs : List Str}
theorem GAll.bltF (F : Fx fa fn vs xs K mg) (h : He.Fa.free x ∈ fa) (r : GAll P w K mg base k fs) : GAll P w K mg base k ((x, .blt) :: fs) := r.blt (F.free x h)
theorem GAll.valF {d : D} (F : Fx fa fn vs xs K mg) (h : (x, d) ∈ vs) (r : GAll P w K mg base k fs) : GAll P w K mg base k ((x, .val d) :: fs) := by
  obtain ⟨v, u, a, b, c⟩ := F.val w _ h
  exact r.val a b c
theorem GAll.excF (F : Fx fa fn vs xs K mg) (r : GAll P w K mg base k fs) : GAll P w K mg base k ((x, .exc xs) :: fs) := r.exc F.xc
/-- a def of the top -/
theorem at_of {params : Arguments} {bd : List Stmt} {scope : Scope} {N ps : List Str} {t : WS} (F : Fx fa fn vs xs K mg) (i : Nat) (hi : fn[i]? = some ⟨(x, none), x, x, params, bd, scope, [], []⟩) (hg : He.Fa.glo x ∈ fa) (Sc : FnScope N ps scope) (hfs : GAll P w K mg base k fs)
    (hb : ∀ (kV doc pm : Value) (an : Option Addr) (cdv ct : Value) (us : List Value), us.length = ps.length → bindArgs (PySem.W.fnOf x x params bd scope .none kV doc pm an cdv ct) ⟨us, []⟩ = pure (ps.zip us))
    (hc : (body ⟨N, scope, fs, true, true⟩ bd).map CSs.t = some t) (hok : BodyOk N ps.length sp t) : FnAt P w K mg base (k + 1) x ps.length sp := by
  obtain ⟨fd, FD⟩ := F.def_ i _ hi
  exact def_ok FD (F.glo x hg) Sc hfs (FunD.bindsN FD hb) hc hok
/-- the law's def -/
theorem law_of {params : Arguments} {bd : List Stmt} {scope : Scope} {N : List Str} {y : Str} {t : WS} (F : Fx fa fn vs xs K mg) (i : Nat) (hi : fn[i]? = some ⟨(x, none), x, x, params, bd, scope, [], []⟩) (hg : He.Fa.glo x ∈ fa) (Sc : FnScope N [y] scope) (hfs : ∀ base : Heap, GAll P w K mg base k fs)
    (hb : ∀ (kV doc pm : Value) (an : Option Addr) (cdv ct : Value) (us : List Value), us.length = [y].length → bindArgs (PySem.W.fnOf x x params bd scope .none kV doc pm an cdv ct) ⟨us, []⟩ = pure ([y].zip us))
    (hc : (body ⟨N, scope, fs, true, true⟩ bd).map CSs.t = some t) (hok : BodyOk N 1 sp t) {f : Addr} (hf : mg x = some (.ref f)) :
    ∃ fd : FuncData, (∀ (s : Shared) (v : Value), BindsTo s fd ⟨[v], []⟩ [(y, v)]) ∧ ∀ base : Heap, FnOk P w K mg base (CXE P) (k + 1) f fd [y] (spOf K ⟨mg, w⟩ 1 sp) := by
  obtain ⟨fd, FD⟩ := F.def_ i _ hi
  have e := hf.symm.trans (F.glo x hg)
  cases e
  have b := FunD.bindsA (ps := [y]) FD hb
  exact ⟨fd, fun s v => b s [v] rfl, fun base => fn_cxe (def_fn FD Sc (hfs base) hc hok)⟩
end
end Ow

namespace Ow
open PySem PySem.Spec PyProof.Rows L2
theorem ex_some {α : Type} {x : α} {P : α → Prop} : (∃ c, some x = some c ∧ P c) ↔ P x := ⟨fun ⟨c, e, h⟩ => by cases e; exact h, fun h => ⟨x, rfl, h⟩⟩
theorem ex_eq {α : Type} {x : α} {P : α → Prop} : (∃ c, x = c ∧ P c) ↔ P x := ⟨fun ⟨c, e, h⟩ => by cases e; exact h, fun h => ⟨x, rfl, h⟩⟩
theorem ex_int {i : Int} {P : Int → Prop} : (∃ c, D.int i = D.int c ∧ P c) ↔ P i := ⟨fun ⟨c, e, h⟩ => by cases e; exact h, fun h => ⟨i, rfl, h⟩⟩
theorem ex_two {i j : Int} {P : Int → Int → Prop} : (∃ a b, D.int i = D.int a ∧ D.int j = D.int b ∧ P a b) ↔ P i j := ⟨fun ⟨a, b, e, e', h⟩ => by cases e; cases e'; exact h, fun h => ⟨i, j, rfl, rfl, h⟩⟩
theorem ex_ss {x : D} {P : D → Prop} : (∃ c, some (some x) = some (some c) ∧ P c) ↔ P x := ⟨fun ⟨c, e, h⟩ => by cases e; exact h, fun h => ⟨x, rfl, h⟩⟩
section
variable {S : Sto} {Q : D → Sto → Prop} {i j : Int} {a b : List D}
theorem tru_bl {k : Bool} : truD S (.bl k) = some k := rfl
theorem tru_int : truD S (.int i) = some (i != 0) := rfl
theorem tru_tup : truD S (.tup a) = some (!a.isEmpty) := rfl
theorem lt_int {f : Int → Int → Bool} : ltD f (.int i) (.int j) = some (f i j) := rfl
theorem eq_int : eqD S (.int i) (.int j) = some (decide (i = j)) := rfl
theorem eq_str {x y : Str} : eqD S (.str x) (.str y) = some (x == y) := rfl
theorem eq_bl {x y : Bool} : eqD S (.bl x) (.bl y) = some (x == y) := rfl
theorem add_int : addF (.int i) (.int j) S Q ↔ Q (.int (i + j)) S := Iff.rfl
theorem add_tup : addF (.tup a) (.tup b) S Q ↔ (a.length + b.length ≤ sizeLine ∧ Q (.tup (a ++ b)) S) := Iff.rfl
theorem sub_int : subF (.int i) (.int j) S Q ↔ Q (.int (i - j)) S := ex_two
theorem fdiv_int : fdivF (.int i) (.int j) S Q ↔ ((0 < j ∧ j < 10 ^ 100) ∧ Q (.int (i / j)) S) := ex_two
theorem mod_int : modF (.int i) (.int j) S Q ↔ (0 < j ∧ Q (.int (i % j)) S) := ex_two
theorem pow_int : powF (.int i) (.int j) S Q ↔ ((0 ≤ j ∧ j ≤ 1000000 ∧ i.natAbs < 2 ^ 64) ∧ Q (.int (i ^ j.toNat)) S) := ex_two
theorem shl_int : shlF (.int i) (.int j) S Q ↔ ((0 ≤ j ∧ j ≤ 1000000 ∧ i.natAbs < 2 ^ 64) ∧ Q (.int (i * 2 ^ j.toNat)) S) := ex_two
theorem shr_int : shrF (.int i) (.int j) S Q ↔ (0 ≤ j ∧ Q (.int (i / 2 ^ j.toNat)) S) := ex_two
theorem band_int : bandF (.int i) (.int j) S Q ↔ Q (.int (Builtin.bitAnd i j)) S := ex_two
theorem mul_int : mulF (.int i) (.int j) S Q ↔ (mulOk i j ∧ Q (.int (i * j)) S) := Iff.rfl
theorem int_bl {k : Bool} : intF [.bl k] S Q ↔ Q (.int (if k then 1 else 0)) S := Iff.rfl
theorem dm_int : dmF [.int i, .int j] S Q ↔ ((0 < j ∧ j < 1073741824) ∧ Q (.tup [.int (i / j), .int (i % j)]) S) := Iff.rfl
theorem max_int : maxF [.int i, .int j] S Q ↔ Q (.int (max i j)) S := Iff.rfl
theorem min_int : minF [.int i, .int j] S Q ↔ Q (.int (min i j)) S := Iff.rfl
end
/-- evaluates, nothing changes -/
def Ev {α : Type} (t : WG α) (ρ : En) (S : Sto) (a : α) : Prop := ∀ (Q : α → Sto → Prop) (E : QX), Q a S → t ρ S Q E
def puR (pre : List D → Sto → Prop) (g : List D → Sto → D) : Spec := { pre := pre, post := fun ds S d S' => S' = S ∧ d = g ds S }
theorem callS_puR {pre : List D → Sto → Prop} {g : List D → Sto → D} {ds : List D} {S : Sto} {Q : D → Sto → Prop} {E : QX} (h : pre ds S) : callS (puR pre g) ds S Q E ↔ Q (g ds S) S :=
  ⟨fun z => z.2.1 _ S ⟨rfl, rfl⟩, fun q => ⟨h, fun d S' ⟨e1, e2⟩ => by subst e1; subst e2; exact q, fun _ _ z => z.elim⟩⟩
theorem ok_puR {pre : List D → Sto → Prop} {g : List D → Sto → D} {N : List Str} {n : Nat} {t : WS} (h : ∀ ds S, pre ds S → ∀ Nx : Nd, (∀ S', Sub S S' → Nx.rt (g ds S) S') → (g ds S = .non → ∀ ρ S', Sub S S' → Nx.nx ρ S') → t Nx (startD N ds) S) : BodyOk N n (puR pre g) t :=
  fun ds S _ hp => h ds S hp _ (fun S' hs => ⟨S, hs, rfl, rfl⟩) fun e ρ S' hs => ⟨S, hs, rfl, e.symm⟩
theorem asg_nm {i : Nat} {d : D} {ρ : En} : asg (.nm i) d ρ = some (ρ.set i (some d)) := by simp only [asg]
theorem asg_tp {ts : List Tg} {ds : List D} {ρ : En} : asg (.tp ts) (.tup ds) ρ = asgs ts ds ρ := by simp only [asg]
theorem asgs_nil {ρ : En} : asgs [] [] ρ = some ρ := by simp only [asgs]
theorem asgs_cons {t : Tg} {ts : List Tg} {d : D} {ds : List D} {ρ : En} : asgs (t :: ts) (d :: ds) ρ = (asg t d ρ).bind fun ρ' => asgs ts ds ρ' := by simp only [asgs]
section
variable {S : Sto} {Q : D → Sto → Prop}
theorem len_tup {l : List D} : lenF [.tup l] S Q ↔ (l.length ≤ sizeLine → Q (.int l.length) S) := by
  refine ⟨fun z => ?_, fun h => .inl ⟨_, rfl, h⟩⟩
  rcases (show (∃ p, itemsQ S (.tup l) = some p ∧ _) ∨ ∃ a ep m, D.tup l = .ref a ∧ _ from z) with ⟨p, e, h⟩ | ⟨_, _, _, e, _⟩
  · cases e; exact h
  · cases e
theorem len_fl {l : List D} : lenF [.fl l] S Q ↔ (l.length ≤ sizeLine → Q (.int l.length) S) := by
  refine ⟨fun z => ?_, fun h => .inl ⟨_, rfl, h⟩⟩
  rcases (show (∃ p, itemsQ S (.fl l) = some p ∧ _) ∨ ∃ a ep m, D.fl l = .ref a ∧ _ from z) with ⟨p, e, h⟩ | ⟨_, _, _, e, _⟩
  · cases e; exact h
  · cases e
theorem len_ref {a : Addr} {l : List D} (h : S a = some (.lst l)) : lenF [.ref a] S Q ↔ (l.length ≤ sizeLine → Q (.int l.length) S) := by
  have e : itemsQ S (.ref a) = some (false, l) := by simp [itemsQ, itemsL, h]
  refine ⟨fun z => ?_, fun z => .inl ⟨_, e, z⟩⟩
  rcases (show (∃ p, itemsQ S (.ref a) = some p ∧ _) ∨ ∃ b ep m, D.ref a = .ref b ∧ S b = some (.dct ep m) ∧ _ from z) with ⟨p, e', z⟩ | ⟨b, ep, m, e', h', _⟩
  · rw [e] at e'
    cases e'
    exact z
  · cases e'
    rw [h] at h'
    cases h'
theorem ix_tup {l : List D} {i : Int} {x : D} (h : atI l i = some x) : ixF (.tup l) (.int i) S Q ↔ Q x S := ⟨fun ⟨y, e, q⟩ => by rw [h] at e; cases e; exact q, fun q => ⟨x, h, q⟩⟩
theorem ix_ref {a : Addr} {l : List D} {i : Int} {x : D} (ha : S a = some (.lst l)) (h : atI l i = some x) : ixF (.ref a) (.int i) S Q ↔ Q x S := by
  have e : itemsL S (.ref a) = some l := by simp [itemsL, ha]
  refine ⟨fun ⟨m, y, e1, e2, q⟩ => ?_, fun q => ⟨l, x, e, h, q⟩⟩
  rw [e] at e1
  cases e1
  rw [h] at e2
  cases e2
  exact q
end
theorem atI_nat {α : Type} {l : List α} {i : Nat} {x : α} (h : l[i]? = some x) : atI l (i : Int) = some x := by
  have : i < l.length := by
    by_cases q : i < l.length
    · exact q
    · rw [List.getElem?_eq_none (by omega)] at h; cases h
  unfold atI ixN
  rw [if_pos (by omega), if_pos (by omega)]
  simpa using h
theorem lc_pure {chk : Sto → Prop} {tg : Tg} {tt : WT} {te : WE} {ρ : En} {P : List D → Sto → Prop} {S : Sto} (hc : chk S) (p : D → Bool) (f : D → D) : ∀ {l acc : List D}, (∀ d ∈ l, ∃ ρ1, asg tg d ρ = some ρ1 ∧ Ev tt ρ1 S (p d) ∧ (p d = true → Ev te ρ1 S (f d))) → P (acc ++ (l.filter p).map f) S → wLcGo chk tg tt te ρ P l acc S
  | [], acc, _, h => ⟨hc, by simpa using h⟩
  | d :: l, acc, hs, h => by
    obtain ⟨ρ1, e, h1, h2⟩ := hs d (by simp)
    refine ⟨hc, ρ1, e, h1 _ _ ?_⟩
    cases hp : p d with
    | true =>
      rw [if_pos rfl]
      exact h2 hp _ _ (lc_pure hc p f (fun d hd => hs d (by simp [hd])) (by simpa [hp] using h))
    | false =>
      rw [if_neg (by simp)]
      exact lc_pure hc p f (fun d hd => hs d (by simp [hd])) (by simpa [hp] using h)
theorem for_inv {chk : Sto → Prop} {tg : Tg} {body : WS} {N : Nd} (I : List D → En → Sto → Prop)
    (hs : ∀ d ds ρ S, I (d :: ds) ρ S → chk S ∧ ∃ ρ1, asg tg d ρ = some ρ1 ∧ ∀ R : En → Sto → Prop, (∀ ρ S, I ds ρ S → R ρ S) → body { N with nx := R, ct := R, bk := N.nx } ρ1 S)
    (hd : ∀ ρ S, I [] ρ S → chk S ∧ N.nx ρ S) : ∀ {l : List D} {ρ : En} {S : Sto}, I l ρ S → forGo chk tg body N l ρ S
  | [], ρ, S, h => hd ρ S h
  | d :: l, ρ, S, h => by
    obtain ⟨hc, ρ1, e, q⟩ := hs d l ρ S h
    exact ⟨hc, ρ1, e, q _ fun ρ S h => for_inv I hs hd h⟩
theorem chk_nil {l : List D} {S : Sto} : Src.chk ⟨l, []⟩ S := fun p hp => by cases hp
theorem chk_one {l : List D} {o : MO} {a : Addr} {S : Sto} : Src.chk ⟨l, [(a, o)]⟩ S ↔ S a = some o := ⟨fun h => h (a, o) (by simp), fun h p hp => by simp at hp; rw [hp]; exact h⟩
/-- S is S0 with a's cell changed, and more -/
def At (S0 : Sto) (a : Addr) (S : Sto) : Prop := ∃ n : Int, Sub (put S0 a (.lst [.int n])) S
theorem At.cell {S0 S : Sto} {a : Addr} (h : At S0 a S) : ∃ n : Int, S a = some (.lst [.int n]) := by
  obtain ⟨n, h⟩ := h
  exact ⟨n, h a _ put_same⟩
theorem At.start {S : Sto} {a : Addr} {n : Int} (h : S a = some (.lst [.int n])) : At S a S := ⟨n, fun b o e => by
  unfold put at e
  split at e
  · next q => cases e; rw [q]; exact h
  · exact e⟩
theorem At.new {S0 S : Sto} {a p : Addr} {o : MO} (h : At S0 a S) (hp : S p = none) : At S0 a (put S p o) ∧ S0 p = none ∧ p ≠ a := by
  obtain ⟨n, h⟩ := h
  have e := h.none hp
  unfold put at e
  split at e
  · cases e
  · next q => exact ⟨⟨n, Sub.put2 h (by unfold put; rw [if_neg q]; exact e)⟩, e, q⟩
theorem At.own {S0 S : Sto} {a p : Addr} {o : MO} (h : At S0 a S) (h1 : S0 p = none) (h2 : p ≠ a) : At S0 a (put S p o) := by
  obtain ⟨n, h⟩ := h
  exact ⟨n, Sub.put2 h (by unfold put; rw [if_neg h2]; exact h1)⟩
theorem At.take {S0 S : Sto} {a : Addr} {m : Int} (h : At S0 a S) : At S0 a (put S a (.lst [.int m])) := by
  obtain ⟨n, h⟩ := h
  refine ⟨m, fun b o e => ?_⟩
  unfold put at e ⊢
  split at e
  · next q => rw [if_pos q]; exact e
  · next q =>
    rw [if_neg q]
    exact h b o (by unfold put; rw [if_neg q]; exact e)
theorem At.old {S0 S : Sto} {a b : Addr} {o : MO} (h : At S0 a S) (e : S0 b = some o) (hb : b ≠ a) : S b = some o := by
  obtain ⟨n, h⟩ := h
  exact h b o (by unfold put; rw [if_neg hb]; exact e)
/-- a def that takes from a pack: the cell changes, nothing else -/
def pkF (pre : Addr → List D → Sto → Prop) (post : List D → Sto → D → Prop) : Spec where
  pre := fun ds S => ∃ a as n, ds = .ref a :: as ∧ S a = some (.lst [.int n]) ∧ pre a as S
  post := fun ds S d S' => ∃ a as n, ds = .ref a :: as ∧ S' = put S a (.lst [.int n]) ∧ post as S d
theorem callS_pk {pre : Addr → List D → Sto → Prop} {post : List D → Sto → D → Prop} {a : Addr} {as : List D} {S0 S : Sto} {Q : D → Sto → Prop} {E : QX} (hS : At S0 a S) (hp : pre a as S) (q : ∀ d S', post as S d → At S0 a S' → (∀ b, b ≠ a → S' b = S b) → Q d S') : callS (pkF pre post) (.ref a :: as) S Q E := by
  obtain ⟨n, hn⟩ := hS.cell
  refine ⟨⟨a, as, n, rfl, hn, hp⟩, ?_, fun _ _ z => z.elim⟩
  rintro d S' ⟨a', as', m, e, rfl, hq⟩
  cases e
  exact q d _ hq hS.take fun b hb => put_ne hb
theorem ok_pk {pre : Addr → List D → Sto → Prop} {post : List D → Sto → D → Prop} {N : List Str} {n : Nat} {t : WS} (h : ∀ a as S0, pre a as S0 → At S0 a S0 → ∀ Nx : Nd, (∀ d S', post as S0 d → At S0 a S' → Nx.rt d S') → t Nx (startD N (.ref a :: as)) S0) : BodyOk N n (pkF pre post) t := by
  rintro ds S hl ⟨a, as, m, rfl, hm, hp⟩
  exact h a as S hp (At.start hm) _ fun d S' hq ⟨k, hk⟩ => ⟨_, hk, a, as, k, rfl, rfl, hq⟩
end Ow

namespace Ow
open PySem PySem.Spec PyProof.Rows L2
/-- a thing that isinstance tells of -/
def okRef : Option MO → Bool
  | some (.ins _ _) => false
  | some _ => true
  | none => false
def kn (S : Sto) : D → Bool
  | .ref a => okRef (S a)
  | .ty _ => false
  | .glo _ => false
  | .ex0 _ => false
  | .ex1 _ _ _ => false
  | _ => true
def isB (S : Sto) (d : D) (t : TyN) : Bool := (isiD S d t).getD false
theorem isi_kn {S : Sto} {d : D} (h : kn S d = true) (t : TyN) : isiD S d t = some (isB S d t) := by
  unfold isB
  cases d with
  | ref a =>
    cases e : S a with
    | none => simp [kn, okRef, e] at h
    | some o => cases o <;> first | (simp [isiD, e]; done) | (simp [kn, okRef, e] at h)
  | ty n => cases h
  | glo x => cases h
  | ex0 _ => cases h
  | ex1 _ _ _ => cases h
  | _ => cases t <;> rfl
theorem isB_int {S : Sto} {d : D} (h : kn S d = true) : isB S d .int = (match d with | .int _ => true | .bl _ => true | _ => false) := by
  cases d with
  | ref a =>
    cases e : S a with
    | none => simp [kn, okRef, e] at h
    | some o => cases o <;> first | (simp [isB, isiD, e]; done) | (simp [kn, okRef, e] at h)
  | _ => rfl
theorem isB_bool {S : Sto} {d : D} (h : kn S d = true) : isB S d .bool = (match d with | .bl _ => true | _ => false) := by
  cases d with
  | ref a =>
    cases e : S a with
    | none => simp [kn, okRef, e] at h
    | some o => cases o <;> first | (simp [isB, isiD, e]; done) | (simp [kn, okRef, e] at h)
  | _ => rfl
theorem isB_str {S : Sto} {d : D} (h : kn S d = true) : isB S d .str = (match d with | .str _ => true | _ => false) := by
  cases d with
  | ref a =>
    cases e : S a with
    | none => simp [kn, okRef, e] at h
    | some o => cases o <;> first | (simp [isB, isiD, e]; done) | (simp [kn, okRef, e] at h)
  | _ => rfl
theorem isB_tup {S : Sto} {d : D} (h : kn S d = true) : isB S d .tuple = (match d with | .tup _ => true | _ => false) := by
  cases d with
  | ref a =>
    cases e : S a with
    | none => simp [kn, okRef, e] at h
    | some o => cases o <;> first | (simp [isB, isiD, e]; done) | (simp [kn, okRef, e] at h)
  | _ => rfl
def isWh : D → Bool
  | .int _ => true
  | _ => false
def btw : D → Int → Int → Bool
  | .int i, lo, hi => decide (lo ≤ i) && decide (i ≤ hi)
  | _, _, _ => false
def isKd : D → Bool
  | .str x => x == "whole" || (x == "either" || x == "torn")
  | _ => false
def arg (ds : List D) (i : Nat) : D := ds.getD i .non
def sp_is_whole : Spec := puR (fun ds S => ∃ d, ds = [d] ∧ kn S d = true) fun ds _ => .bl (isWh (arg ds 0))
def sp_is_between : Spec := puR (fun ds S => ∃ d lo hi, ds = [d, .int lo, .int hi] ∧ kn S d = true) fun ds _ => .bl (btw (arg ds 0) (intOf (arg ds 1)) (intOf (arg ds 2)))
def sp_is_kind : Spec := puR (fun ds S => ∃ d, ds = [d] ∧ kn S d = true) fun ds _ => .bl (isKd (arg ds 0))
def t_is_kind : WS :=
  sSeq (sRet (wAndV (wIsi (wVar 0) .str) (wBin (cmpF .In) (wVar 0) (wC (.tup [(.str "whole"), (.str "either"), (.str "torn")]))))) sNx
def t_is_whole : WS :=
  sSeq (sRet (wAndV (wIsi (wVar 0) .int) (wNotV (wIsi (wVar 0) .bool)))) sNx
def t_is_between : WS :=
  sSeq (sRet (wAndV (wCall sp_is_whole (wCons (wVar 0) (wNil))) (wChV .LtE .LtE (wVar 1) (wVar 0) (wVar 2)))) sNx
section
variable {S : Sto} {Q : D → Sto → Prop} {E : QX} {d : D}
theorem call_whole (h : kn S d = true) : callS sp_is_whole [d] S Q E ↔ Q (.bl (isWh d)) S := callS_puR ⟨d, rfl, h⟩
theorem call_between (h : kn S d = true) {lo hi : Int} : callS sp_is_between [d, .int lo, .int hi] S Q E ↔ Q (.bl (btw d lo hi)) S := callS_puR ⟨d, lo, hi, rfl, h⟩
theorem call_kind (h : kn S d = true) : callS sp_is_kind [d] S Q E ↔ Q (.bl (isKd d)) S := callS_puR ⟨d, rfl, h⟩
end
theorem ok_is_whole : BodyOk ["thing"] 1 sp_is_whole t_is_whole := by
  refine ok_puR ?_
  rintro _ S ⟨x, rfl, hk⟩ Nx hr _
  simp only [t_is_whole, sSeq, sRet, sRetN, sIf, sAsg, sExpr, sNx, sBk, sCt, sNever, sRaise, sRaiseF, sFor, sSub, wAndV, wOrV, wNotV, wAndT, wOrT, wNotT, wTru, wCmpT, wChT, wChV, wBin, wUn, wVar, wC, wCons, wNil, wTup, wIfE, wIsi, wFn, wQf, qLst, qOf, wCall, wCall0, wLc, wYes, iOf, iR1, iR2, iEn, iHid, wNew, wLst, wSl, wNoP, wP, ex_ss, ex_some, ex_eq, ex_int, ex_two, startD, List.map_cons, List.map_nil, List.length_cons, List.length_nil, List.replicate, List.cons_append, List.nil_append, List.getElem?_cons_zero, List.getElem?_cons_succ, List.set_cons_zero, List.set_cons_succ, wipeD, asg_nm, asg_tp, asgs_nil, asgs_cons, Option.bind_some, tru_bl, tru_int, tru_tup, cmpF, cmpD, lt_int, eq_int, eq_str, eq_bl, Option.map_some, sub_int, add_int, add_tup, fdiv_int, mod_int, pow_int, shl_int, shr_int, band_int, mul_int, int_bl, dm_int, max_int, min_int, len_tup, len_fl, Nat.reduceAdd, Nat.reduceSub, if_true, Bool.not_true, Bool.not_false, Bool.false_eq_true, if_false, tupF, allF, anyF, lenQF, Nat.zero_add, Nat.sub_self, isi_kn hk]
  rw [isB_int hk, isB_bool hk]
  cases x <;> exact hr S Sub.refl
theorem ok_is_between : BodyOk ["thing", "least", "most"] 3 sp_is_between t_is_between := by
  refine ok_puR ?_
  rintro _ S ⟨x, lo, hi, rfl, hk⟩ Nx hr _
  simp only [t_is_between, sSeq, sRet, sRetN, sIf, sAsg, sExpr, sNx, sBk, sCt, sNever, sRaise, sRaiseF, sFor, sSub, wAndV, wOrV, wNotV, wAndT, wOrT, wNotT, wTru, wCmpT, wChT, wChV, wBin, wUn, wVar, wC, wCons, wNil, wTup, wIfE, wIsi, wFn, wQf, qLst, qOf, wCall, wCall0, wLc, wYes, iOf, iR1, iR2, iEn, iHid, wNew, wLst, wSl, wNoP, wP, ex_ss, ex_some, ex_eq, ex_int, ex_two, startD, List.map_cons, List.map_nil, List.length_cons, List.length_nil, List.replicate, List.cons_append, List.nil_append, List.getElem?_cons_zero, List.getElem?_cons_succ, List.set_cons_zero, List.set_cons_succ, wipeD, asg_nm, asg_tp, asgs_nil, asgs_cons, Option.bind_some, tru_bl, tru_int, tru_tup, cmpF, cmpD, lt_int, eq_int, eq_str, eq_bl, Option.map_some, sub_int, add_int, add_tup, fdiv_int, mod_int, pow_int, shl_int, shr_int, band_int, mul_int, int_bl, dm_int, max_int, min_int, len_tup, len_fl, Nat.reduceAdd, Nat.reduceSub, if_true, Bool.not_true, Bool.not_false, Bool.false_eq_true, if_false, tupF, allF, anyF, lenQF, Nat.zero_add, Nat.sub_self, call_whole hk]
  have hr : Nx.rt (.bl (btw x lo hi)) S := hr S Sub.refl
  cases x with
  | int i =>
    simp only [isWh, sSeq, sRet, sRetN, sIf, sAsg, sExpr, sNx, sBk, sCt, sNever, sRaise, sRaiseF, sFor, sSub, wAndV, wOrV, wNotV, wAndT, wOrT, wNotT, wTru, wCmpT, wChT, wChV, wBin, wUn, wVar, wC, wCons, wNil, wTup, wIfE, wIsi, wFn, wQf, qLst, qOf, wCall, wCall0, wLc, wYes, iOf, iR1, iR2, iEn, iHid, wNew, wLst, wSl, wNoP, wP, ex_ss, ex_some, ex_eq, ex_int, ex_two, startD, List.map_cons, List.map_nil, List.length_cons, List.length_nil, List.replicate, List.cons_append, List.nil_append, List.getElem?_cons_zero, List.getElem?_cons_succ, List.set_cons_zero, List.set_cons_succ, wipeD, asg_nm, asg_tp, asgs_nil, asgs_cons, Option.bind_some, tru_bl, tru_int, tru_tup, cmpF, cmpD, lt_int, eq_int, eq_str, eq_bl, Option.map_some, sub_int, add_int, add_tup, fdiv_int, mod_int, pow_int, shl_int, shr_int, band_int, mul_int, int_bl, dm_int, max_int, min_int, len_tup, len_fl, Nat.reduceAdd, Nat.reduceSub, if_true, Bool.not_true, Bool.not_false, Bool.false_eq_true, if_false, tupF, allF, anyF, lenQF, Nat.zero_add, Nat.sub_self]
    simp only [btw] at hr
    cases h : decide (lo ≤ i) with
    | true =>
      rw [h] at hr
      simpa using hr
    | false =>
      rw [h] at hr
      simpa using hr
  | _ => exact hr
theorem ok_is_kind : BodyOk ["thing"] 1 sp_is_kind t_is_kind := by
  refine ok_puR ?_
  rintro _ S ⟨x, rfl, hk⟩ Nx hr _
  have hr : Nx.rt (.bl (isKd x)) S := hr S Sub.refl
  simp only [t_is_kind, sSeq, sRet, sRetN, sIf, sAsg, sExpr, sNx, sBk, sCt, sNever, sRaise, sRaiseF, sFor, sSub, wAndV, wOrV, wNotV, wAndT, wOrT, wNotT, wTru, wCmpT, wChT, wChV, wBin, wUn, wVar, wC, wCons, wNil, wTup, wIfE, wIsi, wFn, wQf, qLst, qOf, wCall, wCall0, wLc, wYes, iOf, iR1, iR2, iEn, iHid, wNew, wLst, wSl, wNoP, wP, ex_ss, ex_some, ex_eq, ex_int, ex_two, startD, List.map_cons, List.map_nil, List.length_cons, List.length_nil, List.replicate, List.cons_append, List.nil_append, List.getElem?_cons_zero, List.getElem?_cons_succ, List.set_cons_zero, List.set_cons_succ, wipeD, asg_nm, asg_tp, asgs_nil, asgs_cons, Option.bind_some, tru_bl, tru_int, tru_tup, cmpF, cmpD, lt_int, eq_int, eq_str, eq_bl, Option.map_some, sub_int, add_int, add_tup, fdiv_int, mod_int, pow_int, shl_int, shr_int, band_int, mul_int, int_bl, dm_int, max_int, min_int, len_tup, len_fl, Nat.reduceAdd, Nat.reduceSub, if_true, Bool.not_true, Bool.not_false, Bool.false_eq_true, if_false, tupF, allF, anyF, lenQF, Nat.zero_add, Nat.sub_self, isi_kn hk]
  rw [isB_str hk]
  cases x with
  | str y =>
    simp only [sSeq, sRet, sRetN, sIf, sAsg, sExpr, sNx, sBk, sCt, sNever, sRaise, sRaiseF, sFor, sSub, wAndV, wOrV, wNotV, wAndT, wOrT, wNotT, wTru, wCmpT, wChT, wChV, wBin, wUn, wVar, wC, wCons, wNil, wTup, wIfE, wIsi, wFn, wQf, qLst, qOf, wCall, wCall0, wLc, wYes, iOf, iR1, iR2, iEn, iHid, wNew, wLst, wSl, wNoP, wP, ex_ss, ex_some, ex_eq, ex_int, ex_two, startD, List.map_cons, List.map_nil, List.length_cons, List.length_nil, List.replicate, List.cons_append, List.nil_append, List.getElem?_cons_zero, List.getElem?_cons_succ, List.set_cons_zero, List.set_cons_succ, wipeD, asg_nm, asg_tp, asgs_nil, asgs_cons, Option.bind_some, tru_bl, tru_int, tru_tup, cmpF, cmpD, lt_int, eq_int, eq_str, eq_bl, Option.map_some, sub_int, add_int, add_tup, fdiv_int, mod_int, pow_int, shl_int, shr_int, band_int, mul_int, int_bl, dm_int, max_int, min_int, len_tup, len_fl, Nat.reduceAdd, Nat.reduceSub, if_true, Bool.not_true, Bool.not_false, Bool.false_eq_true, if_false, tupF, allF, anyF, lenQF, Nat.zero_add, Nat.sub_self]
    refine ⟨_, rfl, ?_⟩
    have e : isKd (.str y) = ([D.str "whole", .str "either", .str "torn"].any fun z => pyEq z (.str y)) := by
      simp only [isKd, List.any_cons, List.any_nil, pyEq, Bool.or_false]
      rw [Bool.beq_comm (a := y), Bool.beq_comm (a := y), Bool.beq_comm (a := y)]
    rw [← e]
    exact hr
  | _ => exact hr
end Ow

namespace Ow
open PySem PySem.Spec PyProof.Rows L2
mutual
/-- a thing that isinstance tells of, to the ground -/
def knd (S : Sto) : D → Bool
  | .tup l => knds S l
  | .ref a => okRef (S a)
  | .ty _ => false
  | .glo _ => false
  | .ex0 _ => false
  | .ex1 _ _ _ => false
  | _ => true
def knds (S : Sto) : List D → Bool
  | [] => true
  | x :: xs => knd S x && knds S xs
end
theorem knd_kn {S : Sto} {d : D} (h : knd S d = true) : kn S d = true := by
  cases d <;> first | rfl | (simp only [knd] at h; exact h)
theorem knds_mem {S : Sto} : ∀ {l : List D}, knds S l = true → ∀ x ∈ l, knd S x = true
  | [], _, x, hx => by cases hx
  | y :: ys, h, x, hx => by
    simp only [knds, Bool.and_eq_true] at h
    rcases List.mem_cons.mp hx with rfl | hx
    · exact h.1
    · exact knds_mem h.2 x hx
theorem len_two {l : List D} (h : l.length = 2) : ∃ a b, l = [a, b] := by
  match l, h with
  | [a, b], _ => exact ⟨a, b, rfl⟩
theorem len_three {l : List D} (h : l.length = 3) : ∃ a b c, l = [a, b, c] := by
  match l, h with
  | [a, b, c], _ => exact ⟨a, b, c, rfl⟩
theorem len_four {l : List D} (h : l.length = 4) : ∃ a b c d, l = [a, b, c, d] := by
  match l, h with
  | [a, b, c, d], _ => exact ⟨a, b, c, d, rfl⟩
def intB : D → (Int → Bool) → Bool
  | .int i, f => f i
  | _, _ => false
def strB : D → Str → Bool
  | .str x, y => x == y
  | _, _ => false
section
variable {S : Sto} {Q : D → Sto → Prop} {a b c d : D}
theorem ix30 : ixF (.tup [a, b, c]) (.int 0) S Q ↔ Q a S := ix_tup rfl
theorem ix31 : ixF (.tup [a, b, c]) (.int 1) S Q ↔ Q b S := ix_tup rfl
theorem ix32 : ixF (.tup [a, b, c]) (.int 2) S Q ↔ Q c S := ix_tup rfl
theorem ix20 : ixF (.tup [a, b]) (.int 0) S Q ↔ Q a S := ix_tup rfl
theorem ix21 : ixF (.tup [a, b]) (.int 1) S Q ↔ Q b S := ix_tup rfl
theorem ix40 : ixF (.tup [a, b, c, d]) (.int 0) S Q ↔ Q a S := ix_tup rfl
theorem ix41 : ixF (.tup [a, b, c, d]) (.int 1) S Q ↔ Q b S := ix_tup rfl
theorem ix42 : ixF (.tup [a, b, c, d]) (.int 2) S Q ↔ Q c S := ix_tup rfl
theorem btw_int {i lo hi : Int} : btw (.int i) lo hi = (decide (lo ≤ i) && decide (i ≤ hi)) := rfl
end
theorem len_no {n : Nat} {l : List D} (h : ¬ l.length = n) : decide ((l.length : Int) = (n : Int)) = false := by
  simp only [decide_eq_false_iff_not]
  omega
structure Bx where
  kind : Str
  size : Int
  start : Int
def Bx.d (b : Bx) : D := .tup [.str b.kind, .int b.size, .int b.start]
def boxL : List D → Bool
  | [k, s, t] => isKd k && intB s fun i => btw s 2 5 && btw t 0 (i - 1)
  | _ => false
def boxB : D → Bool
  | .tup l => boxL l
  | _ => false
theorem boxL_no {l : List D} (h : ¬ l.length = 3) : boxL l = false := by
  match l with
  | [_, _, _] => simp at h
  | [] => rfl
  | [_] => rfl
  | [_, _] => rfl
  | _ :: _ :: _ :: _ :: _ => rfl
structure Bx.ok (b : Bx) : Prop where
  kd : isKd (.str b.kind) = true
  s2 : 2 ≤ b.size
  s5 : b.size ≤ 5
  t0 : 0 ≤ b.start
  t1 : b.start < b.size
theorem Bx.ok.box {b : Bx} (h : b.ok) : boxB b.d = true := by
  have := h.s2; have := h.s5; have := h.t0; have := h.t1
  simp only [Bx.d, boxB, boxL, h.kd, intB, btw_int, Bool.and_eq_true, decide_eq_true_eq, true_and]
  omega
theorem boxB_of {d : D} (h : boxB d = true) : ∃ b : Bx, d = b.d ∧ b.ok := by
  cases d with
  | tup l =>
    by_cases h3 : l.length = 3
    · obtain ⟨k, s, t, rfl⟩ := len_three h3
      simp only [boxB, boxL, Bool.and_eq_true] at h
      obtain ⟨h1, h2⟩ := h
      cases k with
      | str k =>
        cases s with
        | int s =>
          cases t with
          | int t =>
            simp only [intB, btw_int, Bool.and_eq_true, decide_eq_true_eq] at h2
            exact ⟨⟨k, s, t⟩, rfl, h1, h2.1.1, h2.1.2, h2.2.1, by show t < s; omega⟩
          | _ => simp [intB, btw] at h2
        | _ => simp [intB] at h2
      | _ => simp [isKd] at h1
    · simp [boxB, boxL_no h3] at h
  | _ => cases h
def sp_is_box : Spec := puR (fun ds S => ∃ d, ds = [d] ∧ knd S d = true) fun ds _ => .bl (boxB (arg ds 0))
def t_is_box : WS :=
  sSeq
  (sIf (wOrT (wNotT (wTru (wIsi (wVar 0) .tuple))) (wOrT (wCmpT .NotEq (wFn lenF (wCons (wVar 0) wNil)) (wC (.int 3))) (wNotT (wTru (wCall sp_is_kind (wCons (wBin ixF (wVar 0) (wC (.int 0))) (wNil))))))) (sSeq (sRet (wC (.bl false))) sNx) (sNx)) <|
  sSeq (sRet (wAndV (wCall sp_is_between (wCons (wBin ixF (wVar 0) (wC (.int 1))) (wCons (wC (.int 2)) (wCons (wC (.int 5)) (wNil))))) (wCall sp_is_between (wCons (wBin ixF (wVar 0) (wC (.int 2))) (wCons (wC (.int 0)) (wCons (wBin subF (wBin ixF (wVar 0) (wC (.int 1))) (wC (.int 1))) (wNil))))))) sNx
theorem call_box {S : Sto} {Q : D → Sto → Prop} {E : QX} {d : D} (h : knd S d = true) : callS sp_is_box [d] S Q E ↔ Q (.bl (boxB d)) S := callS_puR ⟨d, rfl, h⟩
theorem ok_is_box : BodyOk ["thing"] 1 sp_is_box t_is_box := by
  refine ok_puR ?_
  rintro _ S ⟨x, rfl, hk⟩ Nx hr _
  have hr : Nx.rt (.bl (boxB x)) S := hr S Sub.refl
  have hk' := knd_kn hk
  simp only [t_is_box, sSeq, sRet, sRetN, sIf, sAsg, sExpr, sNx, sBk, sCt, sNever, sRaise, sRaiseF, sFor, sSub, wAndV, wOrV, wNotV, wAndT, wOrT, wNotT, wTru, wCmpT, wChT, wChV, wBin, wUn, wVar, wC, wCons, wNil, wTup, wIfE, wIsi, wFn, wQf, qLst, qOf, wCall, wCall0, wLc, wYes, iOf, iR1, iR2, iEn, iHid, wNew, wLst, wSl, wNoP, wP, ex_ss, ex_some, ex_eq, ex_int, ex_two, startD, List.map_cons, List.map_nil, List.length_cons, List.length_nil, List.replicate, List.cons_append, List.nil_append, List.getElem?_cons_zero, List.getElem?_cons_succ, List.set_cons_zero, List.set_cons_succ, wipeD, asg_nm, asg_tp, asgs_nil, asgs_cons, Option.bind_some, tru_bl, tru_int, tru_tup, cmpF, cmpD, lt_int, eq_int, eq_str, eq_bl, Option.map_some, sub_int, add_int, add_tup, fdiv_int, mod_int, pow_int, shl_int, shr_int, band_int, mul_int, int_bl, dm_int, max_int, min_int, len_tup, len_fl, Nat.reduceAdd, Nat.reduceSub, if_true, Bool.not_true, Bool.not_false, Bool.false_eq_true, if_false, tupF, allF, anyF, lenQF, Nat.zero_add, Nat.sub_self, isi_kn hk', isB_tup hk']
  cases x with
  | tup l =>
    simp only [sSeq, sRet, sRetN, sIf, sAsg, sExpr, sNx, sBk, sCt, sNever, sRaise, sRaiseF, sFor, sSub, wAndV, wOrV, wNotV, wAndT, wOrT, wNotT, wTru, wCmpT, wChT, wChV, wBin, wUn, wVar, wC, wCons, wNil, wTup, wIfE, wIsi, wFn, wQf, qLst, qOf, wCall, wCall0, wLc, wYes, iOf, iR1, iR2, iEn, iHid, wNew, wLst, wSl, wNoP, wP, ex_ss, ex_some, ex_eq, ex_int, ex_two, startD, List.map_cons, List.map_nil, List.length_cons, List.length_nil, List.replicate, List.cons_append, List.nil_append, List.getElem?_cons_zero, List.getElem?_cons_succ, List.set_cons_zero, List.set_cons_succ, wipeD, asg_nm, asg_tp, asgs_nil, asgs_cons, Option.bind_some, tru_bl, tru_int, tru_tup, cmpF, cmpD, lt_int, eq_int, eq_str, eq_bl, Option.map_some, sub_int, add_int, add_tup, fdiv_int, mod_int, pow_int, shl_int, shr_int, band_int, mul_int, int_bl, dm_int, max_int, min_int, len_tup, len_fl, Nat.reduceAdd, Nat.reduceSub, if_true, Bool.not_true, Bool.not_false, Bool.false_eq_true, if_false, tupF, allF, anyF, lenQF, Nat.zero_add, Nat.sub_self]
    intro hz
    by_cases h3 : l.length = 3
    · obtain ⟨a, b, c, rfl⟩ := len_three h3
      simp only [knd, knds, Bool.and_eq_true] at hk
      have ha := knd_kn hk.1
      have hb := knd_kn hk.2.1
      have hc := knd_kn hk.2.2.1
      have e : decide (((0 + 1 + 1 + 1 : Nat) : Int) = 3) = true := rfl
      simp only [sSeq, sRet, sRetN, sIf, sAsg, sExpr, sNx, sBk, sCt, sNever, sRaise, sRaiseF, sFor, sSub, wAndV, wOrV, wNotV, wAndT, wOrT, wNotT, wTru, wCmpT, wChT, wChV, wBin, wUn, wVar, wC, wCons, wNil, wTup, wIfE, wIsi, wFn, wQf, qLst, qOf, wCall, wCall0, wLc, wYes, iOf, iR1, iR2, iEn, iHid, wNew, wLst, wSl, wNoP, wP, ex_ss, ex_some, ex_eq, ex_int, ex_two, startD, List.map_cons, List.map_nil, List.length_cons, List.length_nil, List.replicate, List.cons_append, List.nil_append, List.getElem?_cons_zero, List.getElem?_cons_succ, List.set_cons_zero, List.set_cons_succ, wipeD, asg_nm, asg_tp, asgs_nil, asgs_cons, Option.bind_some, tru_bl, tru_int, tru_tup, cmpF, cmpD, lt_int, eq_int, eq_str, eq_bl, Option.map_some, sub_int, add_int, add_tup, fdiv_int, mod_int, pow_int, shl_int, shr_int, band_int, mul_int, int_bl, dm_int, max_int, min_int, len_tup, len_fl, Nat.reduceAdd, Nat.reduceSub, if_true, Bool.not_true, Bool.not_false, Bool.false_eq_true, if_false, tupF, allF, anyF, lenQF, Nat.zero_add, Nat.sub_self, ix30, ix31, ix32, call_kind ha, call_between hb, e]
      simp only [boxB, boxL] at hr
      cases hA : isKd a with
      | false =>
        rw [hA] at hr
        exact hr
      | true =>
        rw [hA] at hr
        simp only [sSeq, sRet, sRetN, sIf, sAsg, sExpr, sNx, sBk, sCt, sNever, sRaise, sRaiseF, sFor, sSub, wAndV, wOrV, wNotV, wAndT, wOrT, wNotT, wTru, wCmpT, wChT, wChV, wBin, wUn, wVar, wC, wCons, wNil, wTup, wIfE, wIsi, wFn, wQf, qLst, qOf, wCall, wCall0, wLc, wYes, iOf, iR1, iR2, iEn, iHid, wNew, wLst, wSl, wNoP, wP, ex_ss, ex_some, ex_eq, ex_int, ex_two, startD, List.map_cons, List.map_nil, List.length_cons, List.length_nil, List.replicate, List.cons_append, List.nil_append, List.getElem?_cons_zero, List.getElem?_cons_succ, List.set_cons_zero, List.set_cons_succ, wipeD, asg_nm, asg_tp, asgs_nil, asgs_cons, Option.bind_some, tru_bl, tru_int, tru_tup, cmpF, cmpD, lt_int, eq_int, eq_str, eq_bl, Option.map_some, sub_int, add_int, add_tup, fdiv_int, mod_int, pow_int, shl_int, shr_int, band_int, mul_int, int_bl, dm_int, max_int, min_int, len_tup, len_fl, Nat.reduceAdd, Nat.reduceSub, if_true, Bool.not_true, Bool.not_false, Bool.false_eq_true, if_false, tupF, allF, anyF, lenQF, Nat.zero_add, Nat.sub_self]
        cases b with
        | int i =>
          simp only [sSeq, sRet, sRetN, sIf, sAsg, sExpr, sNx, sBk, sCt, sNever, sRaise, sRaiseF, sFor, sSub, wAndV, wOrV, wNotV, wAndT, wOrT, wNotT, wTru, wCmpT, wChT, wChV, wBin, wUn, wVar, wC, wCons, wNil, wTup, wIfE, wIsi, wFn, wQf, qLst, qOf, wCall, wCall0, wLc, wYes, iOf, iR1, iR2, iEn, iHid, wNew, wLst, wSl, wNoP, wP, ex_ss, ex_some, ex_eq, ex_int, ex_two, startD, List.map_cons, List.map_nil, List.length_cons, List.length_nil, List.replicate, List.cons_append, List.nil_append, List.getElem?_cons_zero, List.getElem?_cons_succ, List.set_cons_zero, List.set_cons_succ, wipeD, asg_nm, asg_tp, asgs_nil, asgs_cons, Option.bind_some, tru_bl, tru_int, tru_tup, cmpF, cmpD, lt_int, eq_int, eq_str, eq_bl, Option.map_some, sub_int, add_int, add_tup, fdiv_int, mod_int, pow_int, shl_int, shr_int, band_int, mul_int, int_bl, dm_int, max_int, min_int, len_tup, len_fl, Nat.reduceAdd, Nat.reduceSub, if_true, Bool.not_true, Bool.not_false, Bool.false_eq_true, if_false, tupF, allF, anyF, lenQF, Nat.zero_add, Nat.sub_self, call_between hc]
          simp only [intB] at hr
          cases hB : btw (.int i) 2 5 with
          | true => rw [hB] at hr; exact hr
          | false => rw [hB] at hr; exact hr
        | _ => exact hr
    · simp only [boxB, boxL_no h3] at hr
      rw [show decide ((l.length : Int) = 3) = false from len_no (n := 3) h3]
      exact hr
  | _ => exact hr
def boxesB (most : Int) : D → Bool
  | .tup l => decide (1 ≤ (l.length : Int)) && (decide ((l.length : Int) ≤ most) && l.all boxB)
  | _ => false
def sp_are_boxes : Spec := puR (fun ds S => ∃ d most, ds = [d, .int most] ∧ knd S d = true) fun ds _ => .bl (boxesB (intOf (arg ds 1)) (arg ds 0))
def t_are_boxes : WS :=
  sSeq (sRet (wAndV (wIsi (wVar 0) .tuple) (wAndV (wChV .LtE .LtE (wC (.int 1)) (wFn lenF (wCons (wVar 0) wNil)) (wVar 1)) (wQf allF (qLst (wLc (iOf (wVar 0)) (.nm 2) [2] (wYes) (wCall sp_is_box (wCons (wVar 2) (wNil))))))))) sNx
theorem call_boxes {S : Sto} {Q : D → Sto → Prop} {E : QX} {d : D} {most : Int} (h : knd S d = true) : callS sp_are_boxes [d, .int most] S Q E ↔ Q (.bl (boxesB most d)) S := callS_puR ⟨d, most, rfl, h⟩
theorem all_bl {l : List D} {f : D → Bool} : (l.map fun x => D.bl (f x)).all isBl = true := by
  induction l with
  | nil => rfl
  | cons x xs ih => simp only [List.map_cons, List.all_cons, isBl, ih]; rfl
theorem all_yes {l : List D} {f : D → Bool} : (l.map fun x => D.bl (f x)).all isYes = l.all f := by
  induction l with
  | nil => rfl
  | cons x xs ih => simp only [List.map_cons, List.all_cons, isYes, ih]
theorem filt_true {l : List D} : l.filter (fun _ => true) = l := by induction l with | nil => rfl | cons x xs ih => simp
theorem ok_are_boxes : BodyOk ["thing", "most", "box"] 2 sp_are_boxes t_are_boxes := by
  refine ok_puR ?_
  rintro _ S ⟨x, most, rfl, hk⟩ Nx hr _
  have hr : Nx.rt (.bl (boxesB most x)) S := hr S Sub.refl
  have hk' := knd_kn hk
  simp only [t_are_boxes, sSeq, sRet, sRetN, sIf, sAsg, sExpr, sNx, sBk, sCt, sNever, sRaise, sRaiseF, sFor, sSub, wAndV, wOrV, wNotV, wAndT, wOrT, wNotT, wTru, wCmpT, wChT, wChV, wBin, wUn, wVar, wC, wCons, wNil, wTup, wIfE, wIsi, wFn, wQf, qLst, qOf, wCall, wCall0, wLc, wYes, iOf, iR1, iR2, iEn, iHid, wNew, wLst, wSl, wNoP, wP, ex_ss, ex_some, ex_eq, ex_int, ex_two, startD, List.map_cons, List.map_nil, List.length_cons, List.length_nil, List.replicate, List.cons_append, List.nil_append, List.getElem?_cons_zero, List.getElem?_cons_succ, List.set_cons_zero, List.set_cons_succ, wipeD, asg_nm, asg_tp, asgs_nil, asgs_cons, Option.bind_some, tru_bl, tru_int, tru_tup, cmpF, cmpD, lt_int, eq_int, eq_str, eq_bl, Option.map_some, sub_int, add_int, add_tup, fdiv_int, mod_int, pow_int, shl_int, shr_int, band_int, mul_int, int_bl, dm_int, max_int, min_int, len_tup, len_fl, Nat.reduceAdd, Nat.reduceSub, if_true, Bool.not_true, Bool.not_false, Bool.false_eq_true, if_false, tupF, allF, anyF, lenQF, Nat.zero_add, Nat.sub_self, isi_kn hk', isB_tup hk']
  cases x with
  | tup l =>
    simp only [sSeq, sRet, sRetN, sIf, sAsg, sExpr, sNx, sBk, sCt, sNever, sRaise, sRaiseF, sFor, sSub, wAndV, wOrV, wNotV, wAndT, wOrT, wNotT, wTru, wCmpT, wChT, wChV, wBin, wUn, wVar, wC, wCons, wNil, wTup, wIfE, wIsi, wFn, wQf, qLst, qOf, wCall, wCall0, wLc, wYes, iOf, iR1, iR2, iEn, iHid, wNew, wLst, wSl, wNoP, wP, ex_ss, ex_some, ex_eq, ex_int, ex_two, startD, List.map_cons, List.map_nil, List.length_cons, List.length_nil, List.replicate, List.cons_append, List.nil_append, List.getElem?_cons_zero, List.getElem?_cons_succ, List.set_cons_zero, List.set_cons_succ, wipeD, asg_nm, asg_tp, asgs_nil, asgs_cons, Option.bind_some, tru_bl, tru_int, tru_tup, cmpF, cmpD, lt_int, eq_int, eq_str, eq_bl, Option.map_some, sub_int, add_int, add_tup, fdiv_int, mod_int, pow_int, shl_int, shr_int, band_int, mul_int, int_bl, dm_int, max_int, min_int, len_tup, len_fl, Nat.reduceAdd, Nat.reduceSub, if_true, Bool.not_true, Bool.not_false, Bool.false_eq_true, if_false, tupF, allF, anyF, lenQF, Nat.zero_add, Nat.sub_self]
    intro hz
    simp only [srcA, srcD, sSeq, sRet, sRetN, sIf, sAsg, sExpr, sNx, sBk, sCt, sNever, sRaise, sRaiseF, sFor, sSub, wAndV, wOrV, wNotV, wAndT, wOrT, wNotT, wTru, wCmpT, wChT, wChV, wBin, wUn, wVar, wC, wCons, wNil, wTup, wIfE, wIsi, wFn, wQf, qLst, qOf, wCall, wCall0, wLc, wYes, iOf, iR1, iR2, iEn, iHid, wNew, wLst, wSl, wNoP, wP, ex_ss, ex_some, ex_eq, ex_int, ex_two, startD, List.map_cons, List.map_nil, List.length_cons, List.length_nil, List.replicate, List.cons_append, List.nil_append, List.getElem?_cons_zero, List.getElem?_cons_succ, List.set_cons_zero, List.set_cons_succ, wipeD, asg_nm, asg_tp, asgs_nil, asgs_cons, Option.bind_some, tru_bl, tru_int, tru_tup, cmpF, cmpD, lt_int, eq_int, eq_str, eq_bl, Option.map_some, sub_int, add_int, add_tup, fdiv_int, mod_int, pow_int, shl_int, shr_int, band_int, mul_int, int_bl, dm_int, max_int, min_int, len_tup, len_fl, Nat.reduceAdd, Nat.reduceSub, if_true, Bool.not_true, Bool.not_false, Bool.false_eq_true, if_false, tupF, allF, anyF, lenQF, Nat.zero_add, Nat.sub_self]
    simp only [boxesB] at hr
    cases h1 : decide (1 ≤ (l.length : Int)) with
    | false => rw [h1] at hr; exact hr
    | true =>
      rw [h1] at hr
      simp only [sSeq, sRet, sRetN, sIf, sAsg, sExpr, sNx, sBk, sCt, sNever, sRaise, sRaiseF, sFor, sSub, wAndV, wOrV, wNotV, wAndT, wOrT, wNotT, wTru, wCmpT, wChT, wChV, wBin, wUn, wVar, wC, wCons, wNil, wTup, wIfE, wIsi, wFn, wQf, qLst, qOf, wCall, wCall0, wLc, wYes, iOf, iR1, iR2, iEn, iHid, wNew, wLst, wSl, wNoP, wP, ex_ss, ex_some, ex_eq, ex_int, ex_two, startD, List.map_cons, List.map_nil, List.length_cons, List.length_nil, List.replicate, List.cons_append, List.nil_append, List.getElem?_cons_zero, List.getElem?_cons_succ, List.set_cons_zero, List.set_cons_succ, wipeD, asg_nm, asg_tp, asgs_nil, asgs_cons, Option.bind_some, tru_bl, tru_int, tru_tup, cmpF, cmpD, lt_int, eq_int, eq_str, eq_bl, Option.map_some, sub_int, add_int, add_tup, fdiv_int, mod_int, pow_int, shl_int, shr_int, band_int, mul_int, int_bl, dm_int, max_int, min_int, len_tup, len_fl, Nat.reduceAdd, Nat.reduceSub, if_true, Bool.not_true, Bool.not_false, Bool.false_eq_true, if_false, tupF, allF, anyF, lenQF, Nat.zero_add, Nat.sub_self]
      cases h2 : decide ((l.length : Int) ≤ most) with
      | false => rw [h2] at hr; exact hr
      | true =>
        rw [h2] at hr
        simp only [sSeq, sRet, sRetN, sIf, sAsg, sExpr, sNx, sBk, sCt, sNever, sRaise, sRaiseF, sFor, sSub, wAndV, wOrV, wNotV, wAndT, wOrT, wNotT, wTru, wCmpT, wChT, wChV, wBin, wUn, wVar, wC, wCons, wNil, wTup, wIfE, wIsi, wFn, wQf, qLst, qOf, wCall, wCall0, wLc, wYes, iOf, iR1, iR2, iEn, iHid, wNew, wLst, wSl, wNoP, wP, ex_ss, ex_some, ex_eq, ex_int, ex_two, startD, List.map_cons, List.map_nil, List.length_cons, List.length_nil, List.replicate, List.cons_append, List.nil_append, List.getElem?_cons_zero, List.getElem?_cons_succ, List.set_cons_zero, List.set_cons_succ, wipeD, asg_nm, asg_tp, asgs_nil, asgs_cons, Option.bind_some, tru_bl, tru_int, tru_tup, cmpF, cmpD, lt_int, eq_int, eq_str, eq_bl, Option.map_some, sub_int, add_int, add_tup, fdiv_int, mod_int, pow_int, shl_int, shr_int, band_int, mul_int, int_bl, dm_int, max_int, min_int, len_tup, len_fl, Nat.reduceAdd, Nat.reduceSub, if_true, Bool.not_true, Bool.not_false, Bool.false_eq_true, if_false, tupF, allF, anyF, lenQF, Nat.zero_add, Nat.sub_self]
        refine lc_pure chk_nil (fun _ => true) (fun x => .bl (boxB x)) (fun d hd => ⟨_, rfl, fun Q E q => q, fun _ Q E q => ?_⟩) ?_
        · have := knds_mem (by simpa only [knd] using hk) d hd
          simp only [sSeq, sRet, sRetN, sIf, sAsg, sExpr, sNx, sBk, sCt, sNever, sRaise, sRaiseF, sFor, sSub, wAndV, wOrV, wNotV, wAndT, wOrT, wNotT, wTru, wCmpT, wChT, wChV, wBin, wUn, wVar, wC, wCons, wNil, wTup, wIfE, wIsi, wFn, wQf, qLst, qOf, wCall, wCall0, wLc, wYes, iOf, iR1, iR2, iEn, iHid, wNew, wLst, wSl, wNoP, wP, ex_ss, ex_some, ex_eq, ex_int, ex_two, startD, List.map_cons, List.map_nil, List.length_cons, List.length_nil, List.replicate, List.cons_append, List.nil_append, List.getElem?_cons_zero, List.getElem?_cons_succ, List.set_cons_zero, List.set_cons_succ, wipeD, asg_nm, asg_tp, asgs_nil, asgs_cons, Option.bind_some, tru_bl, tru_int, tru_tup, cmpF, cmpD, lt_int, eq_int, eq_str, eq_bl, Option.map_some, sub_int, add_int, add_tup, fdiv_int, mod_int, pow_int, shl_int, shr_int, band_int, mul_int, int_bl, dm_int, max_int, min_int, len_tup, len_fl, Nat.reduceAdd, Nat.reduceSub, if_true, Bool.not_true, Bool.not_false, Bool.false_eq_true, if_false, tupF, allF, anyF, lenQF, Nat.zero_add, Nat.sub_self, call_box this]
          exact q
        · rw [List.nil_append, filt_true]
          exact ⟨trivial, all_bl, by rw [all_yes]; exact hr⟩
  | _ => exact hr
def incB (l : List D) : Bool := (rngD 0 ((l.length : Int) - 1)).all fun k => decide (intOf (l.getD (intOf k).toNat .non) < intOf (l.getD ((intOf k).toNat + 1) .non))
def numsB (size : Int) : D → Bool
  | .tup l => l.all (fun x => btw x 0 (size - 1)) && incB l
  | _ => false
def sp_are_numbers : Spec := puR (fun ds S => ∃ d size, ds = [d, .int size] ∧ knd S d = true) fun ds _ => .bl (numsB (intOf (arg ds 1)) (arg ds 0))
def t_are_numbers : WS :=
  sSeq
  (sIf (wOrT (wNotT (wTru (wIsi (wVar 0) .tuple))) (wNotT (wTru (wQf allF (qLst (wLc (iOf (wVar 0)) (.nm 2) [2] (wYes) (wCall sp_is_between (wCons (wVar 2) (wCons (wC (.int 0)) (wCons (wBin subF (wVar 1) (wC (.int 1))) (wNil))))))))))) (sSeq (sRet (wC (.bl false))) sNx) (sNx)) <|
  sSeq (sRet (wQf allF (qLst (wLc (iR1 (wBin subF (wFn lenF (wCons (wVar 0) wNil)) (wC (.int 1)))) (.nm 3) [3] (wYes) (wBin (cmpF .Lt) (wBin ixF (wVar 0) (wVar 3)) (wBin ixF (wVar 0) (wBin addF (wVar 3) (wC (.int 1))))))))) sNx
theorem call_nums {S : Sto} {Q : D → Sto → Prop} {E : QX} {d : D} {size : Int} (h : knd S d = true) : callS sp_are_numbers [d, .int size] S Q E ↔ Q (.bl (numsB size d)) S := callS_puR ⟨d, size, rfl, h⟩
theorem rng_mem {lo hi : Int} {d : D} (h : d ∈ rngD lo hi) : ∃ k : Nat, d = .int (lo + k) ∧ (k : Int) < hi - lo := by
  unfold rngD at h
  obtain ⟨k, hk, rfl⟩ := List.mem_map.mp h
  exact ⟨k, rfl, by have := List.mem_range.mp hk; omega⟩
theorem rg_ok {n : Int} (h : n ≤ (sizeLine : Int)) (h0 : -10 ≤ n) : rgOk 0 n := by
  unfold rgOk sizeLine at *
  omega
theorem btw_of {d : D} {lo hi : Int} (h : btw d lo hi = true) : ∃ i, d = .int i ∧ lo ≤ i ∧ i ≤ hi := by
  cases d with
  | int i => simp only [btw_int, Bool.and_eq_true, decide_eq_true_eq] at h; exact ⟨i, rfl, h⟩
  | _ => cases h
theorem ok_are_numbers : BodyOk ["thing", "size", "one", "k"] 2 sp_are_numbers t_are_numbers := by
  refine ok_puR ?_
  rintro _ S ⟨x, size, rfl, hk⟩ Nx hr _
  have hr : Nx.rt (.bl (numsB size x)) S := hr S Sub.refl
  have hk' := knd_kn hk
  simp only [t_are_numbers, sSeq, sRet, sRetN, sIf, sAsg, sExpr, sNx, sBk, sCt, sNever, sRaise, sRaiseF, sFor, sSub, wAndV, wOrV, wNotV, wAndT, wOrT, wNotT, wTru, wCmpT, wChT, wChV, wBin, wUn, wVar, wC, wCons, wNil, wTup, wIfE, wIsi, wFn, wQf, qLst, qOf, wCall, wCall0, wLc, wYes, iOf, iR1, iR2, iEn, iHid, wNew, wLst, wSl, wNoP, wP, ex_ss, ex_some, ex_eq, ex_int, ex_two, startD, List.map_cons, List.map_nil, List.length_cons, List.length_nil, List.replicate, List.cons_append, List.nil_append, List.getElem?_cons_zero, List.getElem?_cons_succ, List.set_cons_zero, List.set_cons_succ, wipeD, asg_nm, asg_tp, asgs_nil, asgs_cons, Option.bind_some, tru_bl, tru_int, tru_tup, cmpF, cmpD, lt_int, eq_int, eq_str, eq_bl, Option.map_some, sub_int, add_int, add_tup, fdiv_int, mod_int, pow_int, shl_int, shr_int, band_int, mul_int, int_bl, dm_int, max_int, min_int, len_tup, len_fl, Nat.reduceAdd, Nat.reduceSub, if_true, Bool.not_true, Bool.not_false, Bool.false_eq_true, if_false, tupF, allF, anyF, lenQF, Nat.zero_add, Nat.sub_self, isi_kn hk', isB_tup hk']
  cases x with
  | tup l =>
    simp only [sSeq, sRet, sRetN, sIf, sAsg, sExpr, sNx, sBk, sCt, sNever, sRaise, sRaiseF, sFor, sSub, wAndV, wOrV, wNotV, wAndT, wOrT, wNotT, wTru, wCmpT, wChT, wChV, wBin, wUn, wVar, wC, wCons, wNil, wTup, wIfE, wIsi, wFn, wQf, qLst, qOf, wCall, wCall0, wLc, wYes, iOf, iR1, iR2, iEn, iHid, wNew, wLst, wSl, wNoP, wP, ex_ss, ex_some, ex_eq, ex_int, ex_two, startD, List.map_cons, List.map_nil, List.length_cons, List.length_nil, List.replicate, List.cons_append, List.nil_append, List.getElem?_cons_zero, List.getElem?_cons_succ, List.set_cons_zero, List.set_cons_succ, wipeD, asg_nm, asg_tp, asgs_nil, asgs_cons, Option.bind_some, tru_bl, tru_int, tru_tup, cmpF, cmpD, lt_int, eq_int, eq_str, eq_bl, Option.map_some, sub_int, add_int, add_tup, fdiv_int, mod_int, pow_int, shl_int, shr_int, band_int, mul_int, int_bl, dm_int, max_int, min_int, len_tup, len_fl, Nat.reduceAdd, Nat.reduceSub, if_true, Bool.not_true, Bool.not_false, Bool.false_eq_true, if_false, tupF, allF, anyF, lenQF, Nat.zero_add, Nat.sub_self, srcA, srcD]
    simp only [numsB] at hr
    refine lc_pure chk_nil (fun _ => true) (fun x => .bl (btw x 0 (size - 1))) (fun d hd => ⟨_, rfl, fun Q E q => q, fun _ Q E q => ?_⟩) ?_
    · have := knds_mem (by simpa only [knd] using hk) d hd
      simp only [sSeq, sRet, sRetN, sIf, sAsg, sExpr, sNx, sBk, sCt, sNever, sRaise, sRaiseF, sFor, sSub, wAndV, wOrV, wNotV, wAndT, wOrT, wNotT, wTru, wCmpT, wChT, wChV, wBin, wUn, wVar, wC, wCons, wNil, wTup, wIfE, wIsi, wFn, wQf, qLst, qOf, wCall, wCall0, wLc, wYes, iOf, iR1, iR2, iEn, iHid, wNew, wLst, wSl, wNoP, wP, ex_ss, ex_some, ex_eq, ex_int, ex_two, startD, List.map_cons, List.map_nil, List.length_cons, List.length_nil, List.replicate, List.cons_append, List.nil_append, List.getElem?_cons_zero, List.getElem?_cons_succ, List.set_cons_zero, List.set_cons_succ, wipeD, asg_nm, asg_tp, asgs_nil, asgs_cons, Option.bind_some, tru_bl, tru_int, tru_tup, cmpF, cmpD, lt_int, eq_int, eq_str, eq_bl, Option.map_some, sub_int, add_int, add_tup, fdiv_int, mod_int, pow_int, shl_int, shr_int, band_int, mul_int, int_bl, dm_int, max_int, min_int, len_tup, len_fl, Nat.reduceAdd, Nat.reduceSub, if_true, Bool.not_true, Bool.not_false, Bool.false_eq_true, if_false, tupF, allF, anyF, lenQF, Nat.zero_add, Nat.sub_self, call_between (knd_kn this)]
      exact q
    · rw [List.nil_append, filt_true]
      refine ⟨trivial, all_bl, ?_⟩
      rw [all_yes]
      cases h1 : l.all fun x => btw x 0 (size - 1) with
      | false => rw [h1] at hr; exact hr
      | true =>
        rw [h1] at hr
        simp only [sSeq, sRet, sRetN, sIf, sAsg, sExpr, sNx, sBk, sCt, sNever, sRaise, sRaiseF, sFor, sSub, wAndV, wOrV, wNotV, wAndT, wOrT, wNotT, wTru, wCmpT, wChT, wChV, wBin, wUn, wVar, wC, wCons, wNil, wTup, wIfE, wIsi, wFn, wQf, qLst, qOf, wCall, wCall0, wLc, wYes, iOf, iR1, iR2, iEn, iHid, wNew, wLst, wSl, wNoP, wP, ex_ss, ex_some, ex_eq, ex_int, ex_two, startD, List.map_cons, List.map_nil, List.length_cons, List.length_nil, List.replicate, List.cons_append, List.nil_append, List.getElem?_cons_zero, List.getElem?_cons_succ, List.set_cons_zero, List.set_cons_succ, wipeD, asg_nm, asg_tp, asgs_nil, asgs_cons, Option.bind_some, tru_bl, tru_int, tru_tup, cmpF, cmpD, lt_int, eq_int, eq_str, eq_bl, Option.map_some, sub_int, add_int, add_tup, fdiv_int, mod_int, pow_int, shl_int, shr_int, band_int, mul_int, int_bl, dm_int, max_int, min_int, len_tup, len_fl, Nat.reduceAdd, Nat.reduceSub, if_true, Bool.not_true, Bool.not_false, Bool.false_eq_true, if_false, tupF, allF, anyF, lenQF, Nat.zero_add, Nat.sub_self]
        intro hz
        refine ⟨rg_ok (by omega) (by omega), ?_⟩
        have hA := List.all_eq_true.mp h1
        refine lc_pure chk_nil (fun _ => true) (fun k => .bl (decide (intOf (l.getD (intOf k).toNat .non) < intOf (l.getD ((intOf k).toNat + 1) .non)))) (fun d hd => ?_) ?_
        · obtain ⟨k, rfl, hk2⟩ := rng_mem hd
          have l1 : k < l.length := by omega
          have l2 : k + 1 < l.length := by omega
          obtain ⟨i, e1, _⟩ := btw_of (hA l[k] (List.getElem_mem l1))
          obtain ⟨j, e2, _⟩ := btw_of (hA l[k + 1] (List.getElem_mem l2))
          have a1 : atI l ((0 : Int) + (k : Int)) = some (.int i) := by rw [Int.zero_add]; exact atI_nat (by rw [List.getElem?_eq_getElem l1, e1])
          have a2 : atI l ((0 : Int) + (k : Int) + 1) = some (.int j) := by
            rw [Int.zero_add]
            exact atI_nat (i := k + 1) (by rw [List.getElem?_eq_getElem l2, e2])
          refine ⟨_, rfl, fun Q E q => q, fun _ Q E q => ?_⟩
          simp only [sSeq, sRet, sRetN, sIf, sAsg, sExpr, sNx, sBk, sCt, sNever, sRaise, sRaiseF, sFor, sSub, wAndV, wOrV, wNotV, wAndT, wOrT, wNotT, wTru, wCmpT, wChT, wChV, wBin, wUn, wVar, wC, wCons, wNil, wTup, wIfE, wIsi, wFn, wQf, qLst, qOf, wCall, wCall0, wLc, wYes, iOf, iR1, iR2, iEn, iHid, wNew, wLst, wSl, wNoP, wP, ex_ss, ex_some, ex_eq, ex_int, ex_two, startD, List.map_cons, List.map_nil, List.length_cons, List.length_nil, List.replicate, List.cons_append, List.nil_append, List.getElem?_cons_zero, List.getElem?_cons_succ, List.set_cons_zero, List.set_cons_succ, wipeD, asg_nm, asg_tp, asgs_nil, asgs_cons, Option.bind_some, tru_bl, tru_int, tru_tup, cmpF, cmpD, lt_int, eq_int, eq_str, eq_bl, Option.map_some, sub_int, add_int, add_tup, fdiv_int, mod_int, pow_int, shl_int, shr_int, band_int, mul_int, int_bl, dm_int, max_int, min_int, len_tup, len_fl, Nat.reduceAdd, Nat.reduceSub, if_true, Bool.not_true, Bool.not_false, Bool.false_eq_true, if_false, tupF, allF, anyF, lenQF, Nat.zero_add, Nat.sub_self, ix_tup a1, ix_tup a2]
          have g1 : l.getD ((0 : Int) + (k : Int)).toNat .non = .int i := by
            rw [Int.zero_add, Int.toNat_natCast, List.getD_eq_getElem?_getD, List.getElem?_eq_getElem l1, e1]; rfl
          have g2 : l.getD (((0 : Int) + (k : Int)).toNat + 1) .non = .int j := by
            rw [Int.zero_add, Int.toNat_natCast, List.getD_eq_getElem?_getD, List.getElem?_eq_getElem l2, e2]; rfl
          simp only [intOf, g1, g2] at q
          exact q
        · rw [List.nil_append, filt_true]
          exact ⟨trivial, all_bl, by rw [all_yes]; exact hr⟩
  | _ => exact hr
end Ow

namespace Ow
open PySem PySem.Spec PyProof.Rows L2
def szAt (bs : List Bx) (i : Int) : Int := (bs[i.toNat]?.map Bx.size).getD 0
theorem at_box {bs : List Bx} {i : Int} (h0 : 0 ≤ i) (h1 : i ≤ (bs.length : Int) - 1) : ∃ b, bs[i.toNat]? = some b ∧ atI (bs.map Bx.d) i = some b.d := by
  have hl : i.toNat < bs.length := by omega
  refine ⟨bs[i.toNat], List.getElem?_eq_getElem hl, ?_⟩
  have := atI_nat (l := bs.map Bx.d) (i := i.toNat) (x := bs[i.toNat].d) (by rw [List.getElem?_map, List.getElem?_eq_getElem hl]; rfl)
  rwa [show ((i.toNat : Nat) : Int) = i by omega] at this
def writeL (bs : List Bx) : List D → Bool
  | [w, b, v] => strB w "write" && intB b fun i => btw b 0 ((bs.length : Int) - 1) && btw v 0 (szAt bs i - 1)
  | _ => false
def writeB (bs : List Bx) : D → Bool
  | .tup l => writeL bs l
  | _ => false
theorem writeL_no {bs : List Bx} {l : List D} (h : ¬ l.length = 3) : writeL bs l = false := by
  match l with
  | [_, _, _] => simp at h
  | [] => rfl
  | [_] => rfl
  | [_, _] => rfl
  | _ :: _ :: _ :: _ :: _ => rfl
def lookL (bs : List Bx) : List D → Bool
  | [w, b, ns, t] => strB w "look" && intB b fun i => btw b 0 ((bs.length : Int) - 1) && numsB (szAt bs i) ns
  | _ => false
def lookB (bs : List Bx) : D → Bool
  | .tup l => lookL bs l
  | _ => false
theorem lookL_no {bs : List Bx} {l : List D} (h : ¬ l.length = 4) : lookL bs l = false := by
  match l with
  | [_, _, _, _] => simp at h
  | [] => rfl
  | [_] => rfl
  | [_, _] => rfl
  | [_, _, _] => rfl
  | _ :: _ :: _ :: _ :: _ :: _ => rfl
def bxs (bs : List Bx) : D := .tup (bs.map Bx.d)
def sp_is_write : Spec := { pre := fun ds S => ∃ bs d, ds = [bxs bs, d] ∧ knd S d = true, post := fun ds S r S' => S' = S ∧ ∀ bs d, ds = [bxs bs, d] → r = .bl (writeB bs d) }
def sp_is_look : Spec := { pre := fun ds S => ∃ bs d, ds = [bxs bs, d] ∧ knd S d = true, post := fun ds S r S' => S' = S ∧ ∀ bs d, ds = [bxs bs, d] → r = .bl (lookB bs d) }
theorem Bx.inj : ∀ {bs cs : List Bx}, bs.map Bx.d = cs.map Bx.d → bs = cs
  | [], [], _ => rfl
  | [], _ :: _, h => by cases h
  | _ :: _, [], h => by cases h
  | ⟨a, b, c⟩ :: bs, ⟨a', b', c'⟩ :: cs, h => by
    simp only [List.map_cons, Bx.d, List.cons.injEq, D.tup.injEq, D.str.injEq, D.int.injEq, and_true] at h
    obtain ⟨⟨rfl, rfl, rfl⟩, h⟩ := h
    rw [Bx.inj h]
theorem bxs_inj {bs cs : List Bx} {d e : D} (h : [bxs bs, d] = [bxs cs, e]) : bs = cs ∧ d = e := by
  simp only [bxs, List.cons.injEq, D.tup.injEq, and_true] at h
  exact ⟨Bx.inj h.1, h.2⟩
section
variable {S : Sto} {Q : D → Sto → Prop} {E : QX} {d : D} {bs : List Bx}
theorem call_write (h : knd S d = true) : callS sp_is_write [bxs bs, d] S Q E ↔ Q (.bl (writeB bs d)) S :=
  ⟨fun z => z.2.1 _ S ⟨rfl, fun cs e he => by obtain ⟨rfl, rfl⟩ := bxs_inj he; rfl⟩, fun q => ⟨⟨bs, d, rfl, h⟩, fun r S' ⟨e1, e2⟩ => by rw [e1, e2 bs d rfl]; exact q, fun _ _ z => z.elim⟩⟩
theorem call_look (h : knd S d = true) : callS sp_is_look [bxs bs, d] S Q E ↔ Q (.bl (lookB bs d)) S :=
  ⟨fun z => z.2.1 _ S ⟨rfl, fun cs e he => by obtain ⟨rfl, rfl⟩ := bxs_inj he; rfl⟩, fun q => ⟨⟨bs, d, rfl, h⟩, fun r S' ⟨e1, e2⟩ => by rw [e1, e2 bs d rfl]; exact q, fun _ _ z => z.elim⟩⟩
end
def t_is_write : WS :=
  sSeq
  (sIf (wOrT (wNotT (wTru (wIsi (wVar 1) .tuple))) (wOrT (wCmpT .NotEq (wFn lenF (wCons (wVar 1) wNil)) (wC (.int 3))) (wOrT (wNotT (wTru (wIsi (wBin ixF (wVar 1) (wC (.int 0))) .str))) (wCmpT .NotEq (wBin ixF (wVar 1) (wC (.int 0))) (wC (.str "write")))))) (sSeq (sRet (wC (.bl false))) sNx) (sNx)) <|
  sSeq (sRet (wAndV (wCall sp_is_between (wCons (wBin ixF (wVar 1) (wC (.int 1))) (wCons (wC (.int 0)) (wCons (wBin subF (wFn lenF (wCons (wVar 0) wNil)) (wC (.int 1))) (wNil))))) (wCall sp_is_between (wCons (wBin ixF (wVar 1) (wC (.int 2))) (wCons (wC (.int 0)) (wCons (wBin subF (wBin ixF (wBin ixF (wVar 0) (wBin ixF (wVar 1) (wC (.int 1)))) (wC (.int 1))) (wC (.int 1))) (wNil))))))) sNx
theorem szAt_of {bs : List Bx} {i : Int} {b : Bx} (h : bs[i.toNat]? = some b) : szAt bs i = b.size := by simp [szAt, h]
theorem ok_is_write : BodyOk ["boxes", "thing"] 2 sp_is_write t_is_write := by
  rintro _ S _ ⟨bs, x, rfl, hk⟩
  have hr : (ndOf sp_is_write [bxs bs, x] S).rt (.bl (writeB bs x)) S := ⟨S, Sub.refl, rfl, fun cs e he => by obtain ⟨rfl, rfl⟩ := bxs_inj he; rfl⟩
  generalize ndOf sp_is_write [bxs bs, x] S = Nx at hr
  have hk' := knd_kn hk
  simp only [t_is_write, sSeq, sRet, sRetN, sIf, sAsg, sExpr, sNx, sBk, sCt, sNever, sRaise, sRaiseF, sFor, sSub, wAndV, wOrV, wNotV, wAndT, wOrT, wNotT, wTru, wCmpT, wChT, wChV, wBin, wUn, wVar, wC, wCons, wNil, wTup, wIfE, wIsi, wFn, wQf, qLst, qOf, wCall, wCall0, wLc, wYes, iOf, iR1, iR2, iEn, iHid, wNew, wLst, wSl, wNoP, wP, ex_ss, ex_some, ex_eq, ex_int, ex_two, startD, List.map_cons, List.map_nil, List.length_cons, List.length_nil, List.replicate, List.cons_append, List.nil_append, List.getElem?_cons_zero, List.getElem?_cons_succ, List.set_cons_zero, List.set_cons_succ, wipeD, asg_nm, asg_tp, asgs_nil, asgs_cons, Option.bind_some, tru_bl, tru_int, tru_tup, cmpF, cmpD, lt_int, eq_int, eq_str, eq_bl, Option.map_some, sub_int, add_int, add_tup, fdiv_int, mod_int, pow_int, shl_int, shr_int, band_int, mul_int, int_bl, dm_int, max_int, min_int, len_tup, len_fl, Nat.reduceAdd, Nat.reduceSub, if_true, Bool.not_true, Bool.not_false, Bool.false_eq_true, if_false, tupF, allF, anyF, lenQF, Nat.zero_add, Nat.sub_self, isi_kn hk', isB_tup hk']
  cases x with
  | tup l =>
    simp only [sSeq, sRet, sRetN, sIf, sAsg, sExpr, sNx, sBk, sCt, sNever, sRaise, sRaiseF, sFor, sSub, wAndV, wOrV, wNotV, wAndT, wOrT, wNotT, wTru, wCmpT, wChT, wChV, wBin, wUn, wVar, wC, wCons, wNil, wTup, wIfE, wIsi, wFn, wQf, qLst, qOf, wCall, wCall0, wLc, wYes, iOf, iR1, iR2, iEn, iHid, wNew, wLst, wSl, wNoP, wP, ex_ss, ex_some, ex_eq, ex_int, ex_two, startD, List.map_cons, List.map_nil, List.length_cons, List.length_nil, List.replicate, List.cons_append, List.nil_append, List.getElem?_cons_zero, List.getElem?_cons_succ, List.set_cons_zero, List.set_cons_succ, wipeD, asg_nm, asg_tp, asgs_nil, asgs_cons, Option.bind_some, tru_bl, tru_int, tru_tup, cmpF, cmpD, lt_int, eq_int, eq_str, eq_bl, Option.map_some, sub_int, add_int, add_tup, fdiv_int, mod_int, pow_int, shl_int, shr_int, band_int, mul_int, int_bl, dm_int, max_int, min_int, len_tup, len_fl, Nat.reduceAdd, Nat.reduceSub, if_true, Bool.not_true, Bool.not_false, Bool.false_eq_true, if_false, tupF, allF, anyF, lenQF, Nat.zero_add, Nat.sub_self]
    intro hz
    by_cases h3 : l.length = 3
    · obtain ⟨a, b, c, rfl⟩ := len_three h3
      simp only [knd, knds, Bool.and_eq_true] at hk
      have ha := knd_kn hk.1
      have hb := knd_kn hk.2.1
      have hc := knd_kn hk.2.2.1
      have e : decide (((0 + 1 + 1 + 1 : Nat) : Int) = 3) = true := rfl
      simp only [sSeq, sRet, sRetN, sIf, sAsg, sExpr, sNx, sBk, sCt, sNever, sRaise, sRaiseF, sFor, sSub, wAndV, wOrV, wNotV, wAndT, wOrT, wNotT, wTru, wCmpT, wChT, wChV, wBin, wUn, wVar, wC, wCons, wNil, wTup, wIfE, wIsi, wFn, wQf, qLst, qOf, wCall, wCall0, wLc, wYes, iOf, iR1, iR2, iEn, iHid, wNew, wLst, wSl, wNoP, wP, ex_ss, ex_some, ex_eq, ex_int, ex_two, startD, List.map_cons, List.map_nil, List.length_cons, List.length_nil, List.replicate, List.cons_append, List.nil_append, List.getElem?_cons_zero, List.getElem?_cons_succ, List.set_cons_zero, List.set_cons_succ, wipeD, asg_nm, asg_tp, asgs_nil, asgs_cons, Option.bind_some, tru_bl, tru_int, tru_tup, cmpF, cmpD, lt_int, eq_int, eq_str, eq_bl, Option.map_some, sub_int, add_int, add_tup, fdiv_int, mod_int, pow_int, shl_int, shr_int, band_int, mul_int, int_bl, dm_int, max_int, min_int, len_tup, len_fl, Nat.reduceAdd, Nat.reduceSub, if_true, Bool.not_true, Bool.not_false, Bool.false_eq_true, if_false, tupF, allF, anyF, lenQF, Nat.zero_add, Nat.sub_self, ix30, ix31, ix32, isi_kn ha, isB_str ha, e]
      simp only [writeB, writeL] at hr
      cases a with
      | str w =>
        simp only [sSeq, sRet, sRetN, sIf, sAsg, sExpr, sNx, sBk, sCt, sNever, sRaise, sRaiseF, sFor, sSub, wAndV, wOrV, wNotV, wAndT, wOrT, wNotT, wTru, wCmpT, wChT, wChV, wBin, wUn, wVar, wC, wCons, wNil, wTup, wIfE, wIsi, wFn, wQf, qLst, qOf, wCall, wCall0, wLc, wYes, iOf, iR1, iR2, iEn, iHid, wNew, wLst, wSl, wNoP, wP, ex_ss, ex_some, ex_eq, ex_int, ex_two, startD, List.map_cons, List.map_nil, List.length_cons, List.length_nil, List.replicate, List.cons_append, List.nil_append, List.getElem?_cons_zero, List.getElem?_cons_succ, List.set_cons_zero, List.set_cons_succ, wipeD, asg_nm, asg_tp, asgs_nil, asgs_cons, Option.bind_some, tru_bl, tru_int, tru_tup, cmpF, cmpD, lt_int, eq_int, eq_str, eq_bl, Option.map_some, sub_int, add_int, add_tup, fdiv_int, mod_int, pow_int, shl_int, shr_int, band_int, mul_int, int_bl, dm_int, max_int, min_int, len_tup, len_fl, Nat.reduceAdd, Nat.reduceSub, if_true, Bool.not_true, Bool.not_false, Bool.false_eq_true, if_false, tupF, allF, anyF, lenQF, Nat.zero_add, Nat.sub_self]
        simp only [strB] at hr
        cases hw : w == ("write" : Str) with
        | false => rw [hw] at hr; exact hr
        | true =>
          rw [hw] at hr
          simp only [sSeq, sRet, sRetN, sIf, sAsg, sExpr, sNx, sBk, sCt, sNever, sRaise, sRaiseF, sFor, sSub, wAndV, wOrV, wNotV, wAndT, wOrT, wNotT, wTru, wCmpT, wChT, wChV, wBin, wUn, wVar, wC, wCons, wNil, wTup, wIfE, wIsi, wFn, wQf, qLst, qOf, wCall, wCall0, wLc, wYes, iOf, iR1, iR2, iEn, iHid, wNew, wLst, wSl, wNoP, wP, ex_ss, ex_some, ex_eq, ex_int, ex_two, startD, List.map_cons, List.map_nil, List.length_cons, List.length_nil, List.replicate, List.cons_append, List.nil_append, List.getElem?_cons_zero, List.getElem?_cons_succ, List.set_cons_zero, List.set_cons_succ, wipeD, asg_nm, asg_tp, asgs_nil, asgs_cons, Option.bind_some, tru_bl, tru_int, tru_tup, cmpF, cmpD, lt_int, eq_int, eq_str, eq_bl, Option.map_some, sub_int, add_int, add_tup, fdiv_int, mod_int, pow_int, shl_int, shr_int, band_int, mul_int, int_bl, dm_int, max_int, min_int, len_tup, len_fl, Nat.reduceAdd, Nat.reduceSub, if_true, Bool.not_true, Bool.not_false, Bool.false_eq_true, if_false, tupF, allF, anyF, lenQF, Nat.zero_add, Nat.sub_self, bxs]
          intro hz2
          simp only [sSeq, sRet, sRetN, sIf, sAsg, sExpr, sNx, sBk, sCt, sNever, sRaise, sRaiseF, sFor, sSub, wAndV, wOrV, wNotV, wAndT, wOrT, wNotT, wTru, wCmpT, wChT, wChV, wBin, wUn, wVar, wC, wCons, wNil, wTup, wIfE, wIsi, wFn, wQf, qLst, qOf, wCall, wCall0, wLc, wYes, iOf, iR1, iR2, iEn, iHid, wNew, wLst, wSl, wNoP, wP, ex_ss, ex_some, ex_eq, ex_int, ex_two, startD, List.map_cons, List.map_nil, List.length_cons, List.length_nil, List.replicate, List.cons_append, List.nil_append, List.getElem?_cons_zero, List.getElem?_cons_succ, List.set_cons_zero, List.set_cons_succ, wipeD, asg_nm, asg_tp, asgs_nil, asgs_cons, Option.bind_some, tru_bl, tru_int, tru_tup, cmpF, cmpD, lt_int, eq_int, eq_str, eq_bl, Option.map_some, sub_int, add_int, add_tup, fdiv_int, mod_int, pow_int, shl_int, shr_int, band_int, mul_int, int_bl, dm_int, max_int, min_int, len_tup, len_fl, Nat.reduceAdd, Nat.reduceSub, if_true, Bool.not_true, Bool.not_false, Bool.false_eq_true, if_false, tupF, allF, anyF, lenQF, Nat.zero_add, Nat.sub_self, call_between hb, List.length_map]
          cases b with
          | int i =>
            simp only [intB] at hr
            cases hB : btw (.int i) 0 ((bs.length : Int) - 1) with
            | false => rw [hB] at hr; exact hr
            | true =>
              rw [hB] at hr
              obtain ⟨j, e1, h0, h1⟩ := btw_of hB
              cases e1
              obtain ⟨bx, g1, g2⟩ := at_box h0 h1
              simp only [sSeq, sRet, sRetN, sIf, sAsg, sExpr, sNx, sBk, sCt, sNever, sRaise, sRaiseF, sFor, sSub, wAndV, wOrV, wNotV, wAndT, wOrT, wNotT, wTru, wCmpT, wChT, wChV, wBin, wUn, wVar, wC, wCons, wNil, wTup, wIfE, wIsi, wFn, wQf, qLst, qOf, wCall, wCall0, wLc, wYes, iOf, iR1, iR2, iEn, iHid, wNew, wLst, wSl, wNoP, wP, ex_ss, ex_some, ex_eq, ex_int, ex_two, startD, List.map_cons, List.map_nil, List.length_cons, List.length_nil, List.replicate, List.cons_append, List.nil_append, List.getElem?_cons_zero, List.getElem?_cons_succ, List.set_cons_zero, List.set_cons_succ, wipeD, asg_nm, asg_tp, asgs_nil, asgs_cons, Option.bind_some, tru_bl, tru_int, tru_tup, cmpF, cmpD, lt_int, eq_int, eq_str, eq_bl, Option.map_some, sub_int, add_int, add_tup, fdiv_int, mod_int, pow_int, shl_int, shr_int, band_int, mul_int, int_bl, dm_int, max_int, min_int, len_tup, len_fl, Nat.reduceAdd, Nat.reduceSub, if_true, Bool.not_true, Bool.not_false, Bool.false_eq_true, if_false, tupF, allF, anyF, lenQF, Nat.zero_add, Nat.sub_self, ix_tup g2, Bx.d, ix31, call_between hc]
              rw [szAt_of g1] at hr
              exact hr
          | _ => exact hr
      | _ => exact hr
    · simp only [writeB, writeL_no h3] at hr
      rw [show decide ((l.length : Int) = 3) = false from len_no (n := 3) h3]
      exact hr
  | _ => exact hr
def t_is_look : WS :=
  sSeq
  (sIf (wOrT (wNotT (wTru (wIsi (wVar 1) .tuple))) (wOrT (wCmpT .NotEq (wFn lenF (wCons (wVar 1) wNil)) (wC (.int 4))) (wOrT (wNotT (wTru (wIsi (wBin ixF (wVar 1) (wC (.int 0))) .str))) (wCmpT .NotEq (wBin ixF (wVar 1) (wC (.int 0))) (wC (.str "look")))))) (sSeq (sRet (wC (.bl false))) sNx) (sNx)) <|
  sSeq (sRet (wAndV (wCall sp_is_between (wCons (wBin ixF (wVar 1) (wC (.int 1))) (wCons (wC (.int 0)) (wCons (wBin subF (wFn lenF (wCons (wVar 0) wNil)) (wC (.int 1))) (wNil))))) (wCall sp_are_numbers (wCons (wBin ixF (wVar 1) (wC (.int 2))) (wCons (wBin ixF (wBin ixF (wVar 0) (wBin ixF (wVar 1) (wC (.int 1)))) (wC (.int 1))) (wNil)))))) sNx
theorem ok_is_look : BodyOk ["boxes", "thing"] 2 sp_is_look t_is_look := by
  rintro _ S _ ⟨bs, x, rfl, hk⟩
  have hr : (ndOf sp_is_look [bxs bs, x] S).rt (.bl (lookB bs x)) S := ⟨S, Sub.refl, rfl, fun cs e he => by obtain ⟨rfl, rfl⟩ := bxs_inj he; rfl⟩
  generalize ndOf sp_is_look [bxs bs, x] S = Nx at hr
  have hk' := knd_kn hk
  simp only [t_is_look, sSeq, sRet, sRetN, sIf, sAsg, sExpr, sNx, sBk, sCt, sNever, sRaise, sRaiseF, sFor, sSub, wAndV, wOrV, wNotV, wAndT, wOrT, wNotT, wTru, wCmpT, wChT, wChV, wBin, wUn, wVar, wC, wCons, wNil, wTup, wIfE, wIsi, wFn, wQf, qLst, qOf, wCall, wCall0, wLc, wYes, iOf, iR1, iR2, iEn, iHid, wNew, wLst, wSl, wNoP, wP, ex_ss, ex_some, ex_eq, ex_int, ex_two, startD, List.map_cons, List.map_nil, List.length_cons, List.length_nil, List.replicate, List.cons_append, List.nil_append, List.getElem?_cons_zero, List.getElem?_cons_succ, List.set_cons_zero, List.set_cons_succ, wipeD, asg_nm, asg_tp, asgs_nil, asgs_cons, Option.bind_some, tru_bl, tru_int, tru_tup, cmpF, cmpD, lt_int, eq_int, eq_str, eq_bl, Option.map_some, sub_int, add_int, add_tup, fdiv_int, mod_int, pow_int, shl_int, shr_int, band_int, mul_int, int_bl, dm_int, max_int, min_int, len_tup, len_fl, Nat.reduceAdd, Nat.reduceSub, if_true, Bool.not_true, Bool.not_false, Bool.false_eq_true, if_false, tupF, allF, anyF, lenQF, Nat.zero_add, Nat.sub_self, isi_kn hk', isB_tup hk']
  cases x with
  | tup l =>
    simp only [sSeq, sRet, sRetN, sIf, sAsg, sExpr, sNx, sBk, sCt, sNever, sRaise, sRaiseF, sFor, sSub, wAndV, wOrV, wNotV, wAndT, wOrT, wNotT, wTru, wCmpT, wChT, wChV, wBin, wUn, wVar, wC, wCons, wNil, wTup, wIfE, wIsi, wFn, wQf, qLst, qOf, wCall, wCall0, wLc, wYes, iOf, iR1, iR2, iEn, iHid, wNew, wLst, wSl, wNoP, wP, ex_ss, ex_some, ex_eq, ex_int, ex_two, startD, List.map_cons, List.map_nil, List.length_cons, List.length_nil, List.replicate, List.cons_append, List.nil_append, List.getElem?_cons_zero, List.getElem?_cons_succ, List.set_cons_zero, List.set_cons_succ, wipeD, asg_nm, asg_tp, asgs_nil, asgs_cons, Option.bind_some, tru_bl, tru_int, tru_tup, cmpF, cmpD, lt_int, eq_int, eq_str, eq_bl, Option.map_some, sub_int, add_int, add_tup, fdiv_int, mod_int, pow_int, shl_int, shr_int, band_int, mul_int, int_bl, dm_int, max_int, min_int, len_tup, len_fl, Nat.reduceAdd, Nat.reduceSub, if_true, Bool.not_true, Bool.not_false, Bool.false_eq_true, if_false, tupF, allF, anyF, lenQF, Nat.zero_add, Nat.sub_self]
    intro hz
    by_cases h3 : l.length = 4
    · obtain ⟨a, b, c, d, rfl⟩ := len_four h3
      simp only [knd, knds, Bool.and_eq_true] at hk
      have ha := knd_kn hk.1
      have hb := knd_kn hk.2.1
      have hc := hk.2.2.1
      have e : decide (((0 + 1 + 1 + 1 + 1 : Nat) : Int) = 4) = true := rfl
      simp only [sSeq, sRet, sRetN, sIf, sAsg, sExpr, sNx, sBk, sCt, sNever, sRaise, sRaiseF, sFor, sSub, wAndV, wOrV, wNotV, wAndT, wOrT, wNotT, wTru, wCmpT, wChT, wChV, wBin, wUn, wVar, wC, wCons, wNil, wTup, wIfE, wIsi, wFn, wQf, qLst, qOf, wCall, wCall0, wLc, wYes, iOf, iR1, iR2, iEn, iHid, wNew, wLst, wSl, wNoP, wP, ex_ss, ex_some, ex_eq, ex_int, ex_two, startD, List.map_cons, List.map_nil, List.length_cons, List.length_nil, List.replicate, List.cons_append, List.nil_append, List.getElem?_cons_zero, List.getElem?_cons_succ, List.set_cons_zero, List.set_cons_succ, wipeD, asg_nm, asg_tp, asgs_nil, asgs_cons, Option.bind_some, tru_bl, tru_int, tru_tup, cmpF, cmpD, lt_int, eq_int, eq_str, eq_bl, Option.map_some, sub_int, add_int, add_tup, fdiv_int, mod_int, pow_int, shl_int, shr_int, band_int, mul_int, int_bl, dm_int, max_int, min_int, len_tup, len_fl, Nat.reduceAdd, Nat.reduceSub, if_true, Bool.not_true, Bool.not_false, Bool.false_eq_true, if_false, tupF, allF, anyF, lenQF, Nat.zero_add, Nat.sub_self, ix40, ix41, ix42, isi_kn ha, isB_str ha, e]
      simp only [lookB, lookL] at hr
      cases a with
      | str w =>
        simp only [sSeq, sRet, sRetN, sIf, sAsg, sExpr, sNx, sBk, sCt, sNever, sRaise, sRaiseF, sFor, sSub, wAndV, wOrV, wNotV, wAndT, wOrT, wNotT, wTru, wCmpT, wChT, wChV, wBin, wUn, wVar, wC, wCons, wNil, wTup, wIfE, wIsi, wFn, wQf, qLst, qOf, wCall, wCall0, wLc, wYes, iOf, iR1, iR2, iEn, iHid, wNew, wLst, wSl, wNoP, wP, ex_ss, ex_some, ex_eq, ex_int, ex_two, startD, List.map_cons, List.map_nil, List.length_cons, List.length_nil, List.replicate, List.cons_append, List.nil_append, List.getElem?_cons_zero, List.getElem?_cons_succ, List.set_cons_zero, List.set_cons_succ, wipeD, asg_nm, asg_tp, asgs_nil, asgs_cons, Option.bind_some, tru_bl, tru_int, tru_tup, cmpF, cmpD, lt_int, eq_int, eq_str, eq_bl, Option.map_some, sub_int, add_int, add_tup, fdiv_int, mod_int, pow_int, shl_int, shr_int, band_int, mul_int, int_bl, dm_int, max_int, min_int, len_tup, len_fl, Nat.reduceAdd, Nat.reduceSub, if_true, Bool.not_true, Bool.not_false, Bool.false_eq_true, if_false, tupF, allF, anyF, lenQF, Nat.zero_add, Nat.sub_self]
        simp only [strB] at hr
        cases hw : w == ("look" : Str) with
        | false => rw [hw] at hr; exact hr
        | true =>
          rw [hw] at hr
          simp only [sSeq, sRet, sRetN, sIf, sAsg, sExpr, sNx, sBk, sCt, sNever, sRaise, sRaiseF, sFor, sSub, wAndV, wOrV, wNotV, wAndT, wOrT, wNotT, wTru, wCmpT, wChT, wChV, wBin, wUn, wVar, wC, wCons, wNil, wTup, wIfE, wIsi, wFn, wQf, qLst, qOf, wCall, wCall0, wLc, wYes, iOf, iR1, iR2, iEn, iHid, wNew, wLst, wSl, wNoP, wP, ex_ss, ex_some, ex_eq, ex_int, ex_two, startD, List.map_cons, List.map_nil, List.length_cons, List.length_nil, List.replicate, List.cons_append, List.nil_append, List.getElem?_cons_zero, List.getElem?_cons_succ, List.set_cons_zero, List.set_cons_succ, wipeD, asg_nm, asg_tp, asgs_nil, asgs_cons, Option.bind_some, tru_bl, tru_int, tru_tup, cmpF, cmpD, lt_int, eq_int, eq_str, eq_bl, Option.map_some, sub_int, add_int, add_tup, fdiv_int, mod_int, pow_int, shl_int, shr_int, band_int, mul_int, int_bl, dm_int, max_int, min_int, len_tup, len_fl, Nat.reduceAdd, Nat.reduceSub, if_true, Bool.not_true, Bool.not_false, Bool.false_eq_true, if_false, tupF, allF, anyF, lenQF, Nat.zero_add, Nat.sub_self, bxs]
          intro hz2
          simp only [sSeq, sRet, sRetN, sIf, sAsg, sExpr, sNx, sBk, sCt, sNever, sRaise, sRaiseF, sFor, sSub, wAndV, wOrV, wNotV, wAndT, wOrT, wNotT, wTru, wCmpT, wChT, wChV, wBin, wUn, wVar, wC, wCons, wNil, wTup, wIfE, wIsi, wFn, wQf, qLst, qOf, wCall, wCall0, wLc, wYes, iOf, iR1, iR2, iEn, iHid, wNew, wLst, wSl, wNoP, wP, ex_ss, ex_some, ex_eq, ex_int, ex_two, startD, List.map_cons, List.map_nil, List.length_cons, List.length_nil, List.replicate, List.cons_append, List.nil_append, List.getElem?_cons_zero, List.getElem?_cons_succ, List.set_cons_zero, List.set_cons_succ, wipeD, asg_nm, asg_tp, asgs_nil, asgs_cons, Option.bind_some, tru_bl, tru_int, tru_tup, cmpF, cmpD, lt_int, eq_int, eq_str, eq_bl, Option.map_some, sub_int, add_int, add_tup, fdiv_int, mod_int, pow_int, shl_int, shr_int, band_int, mul_int, int_bl, dm_int, max_int, min_int, len_tup, len_fl, Nat.reduceAdd, Nat.reduceSub, if_true, Bool.not_true, Bool.not_false, Bool.false_eq_true, if_false, tupF, allF, anyF, lenQF, Nat.zero_add, Nat.sub_self, call_between hb, List.length_map]
          cases b with
          | int i =>
            simp only [intB] at hr
            cases hB : btw (.int i) 0 ((bs.length : Int) - 1) with
            | false => rw [hB] at hr; exact hr
            | true =>
              rw [hB] at hr
              obtain ⟨j, e1, h0, h1⟩ := btw_of hB
              cases e1
              obtain ⟨bx, g1, g2⟩ := at_box h0 h1
              simp only [sSeq, sRet, sRetN, sIf, sAsg, sExpr, sNx, sBk, sCt, sNever, sRaise, sRaiseF, sFor, sSub, wAndV, wOrV, wNotV, wAndT, wOrT, wNotT, wTru, wCmpT, wChT, wChV, wBin, wUn, wVar, wC, wCons, wNil, wTup, wIfE, wIsi, wFn, wQf, qLst, qOf, wCall, wCall0, wLc, wYes, iOf, iR1, iR2, iEn, iHid, wNew, wLst, wSl, wNoP, wP, ex_ss, ex_some, ex_eq, ex_int, ex_two, startD, List.map_cons, List.map_nil, List.length_cons, List.length_nil, List.replicate, List.cons_append, List.nil_append, List.getElem?_cons_zero, List.getElem?_cons_succ, List.set_cons_zero, List.set_cons_succ, wipeD, asg_nm, asg_tp, asgs_nil, asgs_cons, Option.bind_some, tru_bl, tru_int, tru_tup, cmpF, cmpD, lt_int, eq_int, eq_str, eq_bl, Option.map_some, sub_int, add_int, add_tup, fdiv_int, mod_int, pow_int, shl_int, shr_int, band_int, mul_int, int_bl, dm_int, max_int, min_int, len_tup, len_fl, Nat.reduceAdd, Nat.reduceSub, if_true, Bool.not_true, Bool.not_false, Bool.false_eq_true, if_false, tupF, allF, anyF, lenQF, Nat.zero_add, Nat.sub_self, ix_tup g2, Bx.d, ix31, call_nums hc]
              rw [szAt_of g1] at hr
              exact hr
          | _ => exact hr
      | _ => exact hr
    · simp only [lookB, lookL_no h3] at hr
      rw [show decide ((l.length : Int) = 4) = false from len_no (n := 4) h3]
      exact hr
  | _ => exact hr
def placeB (d : D) (at_ within many : Int) : Bool := if at_ < within then btw d 1 within else if at_ = within then btw d within within else btw d (within + 1) many
def endsL (most : Int) : List D → Bool
  | [a, b, c] => (match c with
    | .tup rows => (decide (1 ≤ (rows.length : Int)) && decide ((rows.length : Int) ≤ most)) && intB b fun i => btw b 1 rows.length && btw a 0 (i - 1)
    | _ => false)
  | _ => false
def endsB (most : Int) : D → Bool
  | .tup l => endsL most l
  | _ => false
theorem endsL_no {most : Int} {l : List D} (h : ¬ l.length = 3) : endsL most l = false := by
  match l with
  | [_, _, _] => simp at h
  | [] => rfl
  | [_] => rfl
  | [_, _] => rfl
  | _ :: _ :: _ :: _ :: _ => rfl
def sp_has_ends : Spec := puR (fun ds S => ∃ d m, ds = [d, .int m] ∧ knd S d = true) fun ds _ => .bl (endsB (intOf (arg ds 1)) (arg ds 0))
def t_has_ends : WS :=
  sSeq
  (sIf (wOrT (wNotT (wTru (wIsi (wVar 0) .tuple))) (wOrT (wCmpT .NotEq (wFn lenF (wCons (wVar 0) wNil)) (wC (.int 3))) (wNotT (wTru (wIsi (wBin ixF (wVar 0) (wC (.int 2))) .tuple))))) (sSeq (sRet (wC (.bl false))) sNx) (sNx)) <|
  sSeq
  (sIf (wOrT (wNotT (wChT .LtE .LtE (wC (.int 1)) (wFn lenF (wCons (wBin ixF (wVar 0) (wC (.int 2))) wNil)) (wVar 1))) (wNotT (wTru (wCall sp_is_between (wCons (wBin ixF (wVar 0) (wC (.int 1))) (wCons (wC (.int 1)) (wCons (wFn lenF (wCons (wBin ixF (wVar 0) (wC (.int 2))) wNil)) (wNil)))))))) (sSeq (sRet (wC (.bl false))) sNx) (sNx)) <|
  sSeq (sRet (wCall sp_is_between (wCons (wBin ixF (wVar 0) (wC (.int 0))) (wCons (wC (.int 0)) (wCons (wBin subF (wBin ixF (wVar 0) (wC (.int 1))) (wC (.int 1))) (wNil)))))) sNx
theorem call_ends {S : Sto} {Q : D → Sto → Prop} {E : QX} {d : D} {m : Int} (h : knd S d = true) : callS sp_has_ends [d, .int m] S Q E ↔ Q (.bl (endsB m d)) S := callS_puR ⟨d, m, rfl, h⟩
theorem ok_has_ends : BodyOk ["thing", "most"] 2 sp_has_ends t_has_ends := by
  refine ok_puR ?_
  rintro _ S ⟨x, m, rfl, hk⟩ Nx hr _
  have hr : Nx.rt (.bl (endsB m x)) S := hr S Sub.refl
  have hk' := knd_kn hk
  simp only [t_has_ends, sSeq, sRet, sRetN, sIf, sAsg, sExpr, sNx, sBk, sCt, sNever, sRaise, sRaiseF, sFor, sSub, wAndV, wOrV, wNotV, wAndT, wOrT, wNotT, wTru, wCmpT, wChT, wChV, wBin, wUn, wVar, wC, wCons, wNil, wTup, wIfE, wIsi, wFn, wQf, qLst, qOf, wCall, wCall0, wLc, wYes, iOf, iR1, iR2, iEn, iHid, wNew, wLst, wSl, wNoP, wP, ex_ss, ex_some, ex_eq, ex_int, ex_two, startD, List.map_cons, List.map_nil, List.length_cons, List.length_nil, List.replicate, List.cons_append, List.nil_append, List.getElem?_cons_zero, List.getElem?_cons_succ, List.set_cons_zero, List.set_cons_succ, wipeD, asg_nm, asg_tp, asgs_nil, asgs_cons, Option.bind_some, tru_bl, tru_int, tru_tup, cmpF, cmpD, lt_int, eq_int, eq_str, eq_bl, Option.map_some, sub_int, add_int, add_tup, fdiv_int, mod_int, pow_int, shl_int, shr_int, band_int, mul_int, int_bl, dm_int, max_int, min_int, len_tup, len_fl, Nat.reduceAdd, Nat.reduceSub, if_true, Bool.not_true, Bool.not_false, Bool.false_eq_true, if_false, tupF, allF, anyF, lenQF, Nat.zero_add, Nat.sub_self, isi_kn hk', isB_tup hk']
  cases x with
  | tup l =>
    simp only [sSeq, sRet, sRetN, sIf, sAsg, sExpr, sNx, sBk, sCt, sNever, sRaise, sRaiseF, sFor, sSub, wAndV, wOrV, wNotV, wAndT, wOrT, wNotT, wTru, wCmpT, wChT, wChV, wBin, wUn, wVar, wC, wCons, wNil, wTup, wIfE, wIsi, wFn, wQf, qLst, qOf, wCall, wCall0, wLc, wYes, iOf, iR1, iR2, iEn, iHid, wNew, wLst, wSl, wNoP, wP, ex_ss, ex_some, ex_eq, ex_int, ex_two, startD, List.map_cons, List.map_nil, List.length_cons, List.length_nil, List.replicate, List.cons_append, List.nil_append, List.getElem?_cons_zero, List.getElem?_cons_succ, List.set_cons_zero, List.set_cons_succ, wipeD, asg_nm, asg_tp, asgs_nil, asgs_cons, Option.bind_some, tru_bl, tru_int, tru_tup, cmpF, cmpD, lt_int, eq_int, eq_str, eq_bl, Option.map_some, sub_int, add_int, add_tup, fdiv_int, mod_int, pow_int, shl_int, shr_int, band_int, mul_int, int_bl, dm_int, max_int, min_int, len_tup, len_fl, Nat.reduceAdd, Nat.reduceSub, if_true, Bool.not_true, Bool.not_false, Bool.false_eq_true, if_false, tupF, allF, anyF, lenQF, Nat.zero_add, Nat.sub_self]
    intro hz
    by_cases h3 : l.length = 3
    · obtain ⟨a, b, c, rfl⟩ := len_three h3
      simp only [knd, knds, Bool.and_eq_true] at hk
      have ha := knd_kn hk.1
      have hb := knd_kn hk.2.1
      have hc := knd_kn hk.2.2.1
      have e : decide (((0 + 1 + 1 + 1 : Nat) : Int) = 3) = true := rfl
      simp only [sSeq, sRet, sRetN, sIf, sAsg, sExpr, sNx, sBk, sCt, sNever, sRaise, sRaiseF, sFor, sSub, wAndV, wOrV, wNotV, wAndT, wOrT, wNotT, wTru, wCmpT, wChT, wChV, wBin, wUn, wVar, wC, wCons, wNil, wTup, wIfE, wIsi, wFn, wQf, qLst, qOf, wCall, wCall0, wLc, wYes, iOf, iR1, iR2, iEn, iHid, wNew, wLst, wSl, wNoP, wP, ex_ss, ex_some, ex_eq, ex_int, ex_two, startD, List.map_cons, List.map_nil, List.length_cons, List.length_nil, List.replicate, List.cons_append, List.nil_append, List.getElem?_cons_zero, List.getElem?_cons_succ, List.set_cons_zero, List.set_cons_succ, wipeD, asg_nm, asg_tp, asgs_nil, asgs_cons, Option.bind_some, tru_bl, tru_int, tru_tup, cmpF, cmpD, lt_int, eq_int, eq_str, eq_bl, Option.map_some, sub_int, add_int, add_tup, fdiv_int, mod_int, pow_int, shl_int, shr_int, band_int, mul_int, int_bl, dm_int, max_int, min_int, len_tup, len_fl, Nat.reduceAdd, Nat.reduceSub, if_true, Bool.not_true, Bool.not_false, Bool.false_eq_true, if_false, tupF, allF, anyF, lenQF, Nat.zero_add, Nat.sub_self, ix30, ix31, ix32, isi_kn hc, isB_tup hc, e]
      simp only [endsB, endsL] at hr
      cases c with
      | tup rows =>
        simp only [sSeq, sRet, sRetN, sIf, sAsg, sExpr, sNx, sBk, sCt, sNever, sRaise, sRaiseF, sFor, sSub, wAndV, wOrV, wNotV, wAndT, wOrT, wNotT, wTru, wCmpT, wChT, wChV, wBin, wUn, wVar, wC, wCons, wNil, wTup, wIfE, wIsi, wFn, wQf, qLst, qOf, wCall, wCall0, wLc, wYes, iOf, iR1, iR2, iEn, iHid, wNew, wLst, wSl, wNoP, wP, ex_ss, ex_some, ex_eq, ex_int, ex_two, startD, List.map_cons, List.map_nil, List.length_cons, List.length_nil, List.replicate, List.cons_append, List.nil_append, List.getElem?_cons_zero, List.getElem?_cons_succ, List.set_cons_zero, List.set_cons_succ, wipeD, asg_nm, asg_tp, asgs_nil, asgs_cons, Option.bind_some, tru_bl, tru_int, tru_tup, cmpF, cmpD, lt_int, eq_int, eq_str, eq_bl, Option.map_some, sub_int, add_int, add_tup, fdiv_int, mod_int, pow_int, shl_int, shr_int, band_int, mul_int, int_bl, dm_int, max_int, min_int, len_tup, len_fl, Nat.reduceAdd, Nat.reduceSub, if_true, Bool.not_true, Bool.not_false, Bool.false_eq_true, if_false, tupF, allF, anyF, lenQF, Nat.zero_add, Nat.sub_self]
        intro hz2
        simp only [] at hr
        cases h1 : decide (1 ≤ (rows.length : Int)) with
        | false => rw [h1] at hr; simpa using hr
        | true =>
          rw [h1] at hr
          simp only [sSeq, sRet, sRetN, sIf, sAsg, sExpr, sNx, sBk, sCt, sNever, sRaise, sRaiseF, sFor, sSub, wAndV, wOrV, wNotV, wAndT, wOrT, wNotT, wTru, wCmpT, wChT, wChV, wBin, wUn, wVar, wC, wCons, wNil, wTup, wIfE, wIsi, wFn, wQf, qLst, qOf, wCall, wCall0, wLc, wYes, iOf, iR1, iR2, iEn, iHid, wNew, wLst, wSl, wNoP, wP, ex_ss, ex_some, ex_eq, ex_int, ex_two, startD, List.map_cons, List.map_nil, List.length_cons, List.length_nil, List.replicate, List.cons_append, List.nil_append, List.getElem?_cons_zero, List.getElem?_cons_succ, List.set_cons_zero, List.set_cons_succ, wipeD, asg_nm, asg_tp, asgs_nil, asgs_cons, Option.bind_some, tru_bl, tru_int, tru_tup, cmpF, cmpD, lt_int, eq_int, eq_str, eq_bl, Option.map_some, sub_int, add_int, add_tup, fdiv_int, mod_int, pow_int, shl_int, shr_int, band_int, mul_int, int_bl, dm_int, max_int, min_int, len_tup, len_fl, Nat.reduceAdd, Nat.reduceSub, if_true, Bool.not_true, Bool.not_false, Bool.false_eq_true, if_false, tupF, allF, anyF, lenQF, Nat.zero_add, Nat.sub_self]
          cases h2 : decide ((rows.length : Int) ≤ m) with
          | false => rw [h2] at hr; simpa using hr
          | true =>
            rw [h2] at hr
            simp only [sSeq, sRet, sRetN, sIf, sAsg, sExpr, sNx, sBk, sCt, sNever, sRaise, sRaiseF, sFor, sSub, wAndV, wOrV, wNotV, wAndT, wOrT, wNotT, wTru, wCmpT, wChT, wChV, wBin, wUn, wVar, wC, wCons, wNil, wTup, wIfE, wIsi, wFn, wQf, qLst, qOf, wCall, wCall0, wLc, wYes, iOf, iR1, iR2, iEn, iHid, wNew, wLst, wSl, wNoP, wP, ex_ss, ex_some, ex_eq, ex_int, ex_two, startD, List.map_cons, List.map_nil, List.length_cons, List.length_nil, List.replicate, List.cons_append, List.nil_append, List.getElem?_cons_zero, List.getElem?_cons_succ, List.set_cons_zero, List.set_cons_succ, wipeD, asg_nm, asg_tp, asgs_nil, asgs_cons, Option.bind_some, tru_bl, tru_int, tru_tup, cmpF, cmpD, lt_int, eq_int, eq_str, eq_bl, Option.map_some, sub_int, add_int, add_tup, fdiv_int, mod_int, pow_int, shl_int, shr_int, band_int, mul_int, int_bl, dm_int, max_int, min_int, len_tup, len_fl, Nat.reduceAdd, Nat.reduceSub, if_true, Bool.not_true, Bool.not_false, Bool.false_eq_true, if_false, tupF, allF, anyF, lenQF, Nat.zero_add, Nat.sub_self]
            intro _
            simp only [sSeq, sRet, sRetN, sIf, sAsg, sExpr, sNx, sBk, sCt, sNever, sRaise, sRaiseF, sFor, sSub, wAndV, wOrV, wNotV, wAndT, wOrT, wNotT, wTru, wCmpT, wChT, wChV, wBin, wUn, wVar, wC, wCons, wNil, wTup, wIfE, wIsi, wFn, wQf, qLst, qOf, wCall, wCall0, wLc, wYes, iOf, iR1, iR2, iEn, iHid, wNew, wLst, wSl, wNoP, wP, ex_ss, ex_some, ex_eq, ex_int, ex_two, startD, List.map_cons, List.map_nil, List.length_cons, List.length_nil, List.replicate, List.cons_append, List.nil_append, List.getElem?_cons_zero, List.getElem?_cons_succ, List.set_cons_zero, List.set_cons_succ, wipeD, asg_nm, asg_tp, asgs_nil, asgs_cons, Option.bind_some, tru_bl, tru_int, tru_tup, cmpF, cmpD, lt_int, eq_int, eq_str, eq_bl, Option.map_some, sub_int, add_int, add_tup, fdiv_int, mod_int, pow_int, shl_int, shr_int, band_int, mul_int, int_bl, dm_int, max_int, min_int, len_tup, len_fl, Nat.reduceAdd, Nat.reduceSub, if_true, Bool.not_true, Bool.not_false, Bool.false_eq_true, if_false, tupF, allF, anyF, lenQF, Nat.zero_add, Nat.sub_self, call_between hb]
            cases b with
            | int i =>
              simp only [intB] at hr
              cases hB : btw (.int i) 1 rows.length with
              | false => rw [hB] at hr; simpa using hr
              | true =>
                rw [hB] at hr
                simp only [sSeq, sRet, sRetN, sIf, sAsg, sExpr, sNx, sBk, sCt, sNever, sRaise, sRaiseF, sFor, sSub, wAndV, wOrV, wNotV, wAndT, wOrT, wNotT, wTru, wCmpT, wChT, wChV, wBin, wUn, wVar, wC, wCons, wNil, wTup, wIfE, wIsi, wFn, wQf, qLst, qOf, wCall, wCall0, wLc, wYes, iOf, iR1, iR2, iEn, iHid, wNew, wLst, wSl, wNoP, wP, ex_ss, ex_some, ex_eq, ex_int, ex_two, startD, List.map_cons, List.map_nil, List.length_cons, List.length_nil, List.replicate, List.cons_append, List.nil_append, List.getElem?_cons_zero, List.getElem?_cons_succ, List.set_cons_zero, List.set_cons_succ, wipeD, asg_nm, asg_tp, asgs_nil, asgs_cons, Option.bind_some, tru_bl, tru_int, tru_tup, cmpF, cmpD, lt_int, eq_int, eq_str, eq_bl, Option.map_some, sub_int, add_int, add_tup, fdiv_int, mod_int, pow_int, shl_int, shr_int, band_int, mul_int, int_bl, dm_int, max_int, min_int, len_tup, len_fl, Nat.reduceAdd, Nat.reduceSub, if_true, Bool.not_true, Bool.not_false, Bool.false_eq_true, if_false, tupF, allF, anyF, lenQF, Nat.zero_add, Nat.sub_self, call_between ha]
                exact hr
            | _ => exact hr
      | _ => exact hr
    · simp only [endsB, endsL_no h3] at hr
      rw [show decide ((l.length : Int) = 3) = false from len_no (n := 3) h3]
      exact hr
  | _ => exact hr
end Ow

namespace Ow
open PySem PySem.Spec PyProof.Rows L2
inductive Rw where
  | wr (b v : Int)
  | lk (b : Int) (ns : List Int) (t : Int)
def Rw.d : Rw → D
  | .wr b v => .tup [.str "write", .int b, .int v]
  | .lk b ns t => .tup [.str "look", .int b, .tup (ns.map .int), .int t]
structure Pg where
  door : Int
  within : Int
  rows : List Rw
def Pg.d (p : Pg) : D := .tup [.int p.door, .int p.within, .tup (p.rows.map Rw.d)]
structure Wy where
  boxes : List Bx
  hands : List Pg
def hds (hs : List Pg) : D := .tup (hs.map Pg.d)
def Wy.d (w : Wy) : D := .tup [bxs w.boxes, hds w.hands]
def Rw.ok (bs : List Bx) (within many at_ : Int) : Rw → Prop
  | .wr b v => 0 ≤ b ∧ b < bs.length ∧ 0 ≤ v ∧ v < szAt bs b
  | .lk b ns t => 0 ≤ b ∧ b < bs.length ∧ numsB (szAt bs b) (.tup (ns.map .int)) = true ∧ placeB (.int t) at_ within many = true
def third : D → D
  | .tup [_, _, _, t] => t
  | _ => .non
def rowB (bs : List Bx) (within many at_ : Int) (d : D) : Bool := writeB bs d || (lookB bs d && placeB (third d) at_ within many)
def rowsB (bs : List Bx) (within many : Int) : Int → List D → Bool
  | _, [] => true
  | k, r :: rs => rowB bs within many k r && rowsB bs within many (k + 1) rs
theorem strB_of {d : D} {x : Str} (h : strB d x = true) : d = .str x := by
  cases d with
  | str y => rw [eq_of_beq (show (y == x) = true from h)]
  | _ => cases h
theorem ints_of : ∀ {l : List D} {lo hi : Int}, (l.all fun x => btw x lo hi) = true → ∃ ns : List Int, l = ns.map .int
  | [], _, _, _ => ⟨[], rfl⟩
  | x :: xs, lo, hi, h => by
    simp only [List.all_cons, Bool.and_eq_true] at h
    obtain ⟨i, rfl, _⟩ := btw_of h.1
    obtain ⟨ns, rfl⟩ := ints_of h.2
    exact ⟨i :: ns, rfl⟩
theorem writeB_of {bs : List Bx} {d : D} (h : writeB bs d = true) : ∃ b v, d = (Rw.wr b v).d ∧ ∀ w m a, (Rw.wr b v).ok bs w m a := by
  cases d with
  | tup l =>
    by_cases h3 : l.length = 3
    · obtain ⟨w, b, v, rfl⟩ := len_three h3
      simp only [writeB, writeL, Bool.and_eq_true] at h
      obtain ⟨h1, h2⟩ := h
      rw [strB_of h1]
      cases b with
      | int i =>
        simp only [intB, Bool.and_eq_true] at h2
        obtain ⟨j, e, a1, a2⟩ := btw_of h2.1
        cases e
        obtain ⟨v, rfl, a3, a4⟩ := btw_of h2.2
        exact ⟨i, v, rfl, fun _ _ _ => ⟨a1, by omega, a3, by omega⟩⟩
      | _ => cases h2
    · simp [writeB, writeL_no h3] at h
  | _ => cases h
theorem lookB_of {bs : List Bx} {d : D} (h : lookB bs d = true) : ∃ (b : Int) (ns : List Int) (t : D), d = .tup [.str "look", .int b, .tup (ns.map .int), t] ∧ 0 ≤ b ∧ b < bs.length ∧ numsB (szAt bs b) (.tup (ns.map .int)) = true := by
  cases d with
  | tup l =>
    by_cases h3 : l.length = 4
    · obtain ⟨w, b, v, t, rfl⟩ := len_four h3
      simp only [lookB, lookL, Bool.and_eq_true] at h
      obtain ⟨h1, h2⟩ := h
      rw [strB_of h1]
      cases b with
      | int i =>
        simp only [intB, Bool.and_eq_true] at h2
        obtain ⟨j, e, a1, a2⟩ := btw_of h2.1
        cases e
        have h4 := h2.2
        cases v with
        | tup l =>
          simp only [numsB, Bool.and_eq_true] at h4
          obtain ⟨ns, rfl⟩ := ints_of h4.1
          exact ⟨i, ns, t, rfl, a1, by omega, h2.2⟩
        | _ => cases h4
      | _ => cases h2
    · simp [lookB, lookL_no h3] at h
  | _ => cases h
theorem Rw.ok.row {bs : List Bx} {w m a : Int} {r : Rw} (h : r.ok bs w m a) : rowB bs w m a r.d = true := by
  unfold rowB
  cases r with
  | wr b v =>
    obtain ⟨h1, h2, h3, h4⟩ := h
    have : writeB bs (Rw.wr b v).d = true := by
      simp only [Rw.d, writeB, writeL, strB, intB, btw_int, Bool.and_eq_true, decide_eq_true_eq, beq_self_eq_true, true_and]
      omega
    rw [this]; rfl
  | lk b ns t =>
    obtain ⟨h1, h2, h3, h4⟩ := h
    have : lookB bs (Rw.lk b ns t).d = true := by
      simp only [Rw.d, lookB, lookL, strB, intB, btw_int, Bool.and_eq_true, decide_eq_true_eq, beq_self_eq_true, true_and, h3, and_true]
      omega
    rw [this]
    simp [Rw.d, third, h4]
def rowsOk (bs : List Bx) (within many : Int) : Int → List Rw → Prop
  | _, [] => True
  | k, r :: rs => r.ok bs within many k ∧ rowsOk bs within many (k + 1) rs
theorem rowsOk.rows {bs : List Bx} {w m : Int} : ∀ {k : Int} {rs : List Rw}, rowsOk bs w m k rs → rowsB bs w m k (rs.map Rw.d) = true
  | _, [], _ => rfl
  | k, r :: rs, h => by simp only [List.map_cons, rowsB, h.1.row, rowsOk.rows h.2]; rfl
structure Pg.ok (bs : List Bx) (p : Pg) : Prop where
  n1 : 1 ≤ p.rows.length
  n16 : p.rows.length ≤ 16
  w1 : 1 ≤ p.within
  wn : p.within ≤ p.rows.length
  d0 : 0 ≤ p.door
  dw : p.door < p.within
  rows : rowsOk bs p.within p.rows.length 1 p.rows
def progB (bs : List Bx) (d : D) : Bool := endsB 16 d && match d with
  | .tup [_, .int w, .tup rows] => rowsB bs w rows.length 1 rows
  | _ => false
theorem endsB_of {m : Int} {d : D} (h : endsB m d = true) : ∃ a w rows, d = .tup [.int a, .int w, .tup rows] ∧ 1 ≤ (rows.length : Int) ∧ (rows.length : Int) ≤ m ∧ 1 ≤ w ∧ w ≤ rows.length ∧ 0 ≤ a ∧ a < w := by
  cases d with
  | tup l =>
    by_cases h3 : l.length = 3
    · obtain ⟨a, b, c, rfl⟩ := len_three h3
      cases c with
      | tup rows =>
        simp only [endsB, endsL, Bool.and_eq_true, decide_eq_true_eq] at h
        obtain ⟨⟨h1, h2⟩, h4⟩ := h
        cases b with
        | int i =>
          simp only [intB, Bool.and_eq_true] at h4
          obtain ⟨j, e, a1, a2⟩ := btw_of h4.1
          cases e
          obtain ⟨v, rfl, a3, a4⟩ := btw_of h4.2
          exact ⟨v, i, rows, rfl, h1, h2, a1, a2, a3, by omega⟩
        | _ => cases h4
      | _ => simp [endsB, endsL] at h
    · simp [endsB, endsL_no h3] at h
  | _ => cases h
theorem Pg.ok.ends {bs : List Bx} {p : Pg} (h : p.ok bs) : endsB 16 p.d = true := by
  have := h.n1; have := h.n16; have := h.w1; have := h.wn; have := h.d0; have := h.dw
  simp only [Pg.d, endsB, endsL, intB, btw_int, List.length_map, Bool.and_eq_true, decide_eq_true_eq]
  omega
theorem Pg.ok.prog {bs : List Bx} {p : Pg} (h : p.ok bs) : progB bs p.d = true := by
  unfold progB
  rw [h.ends]
  have := h.rows.rows
  simpa [Pg.d, List.length_map] using this
theorem numD_cons {k : Int} {x : D} {xs : List D} : numD k (x :: xs) = .tup [.int k, x] :: numD (k + 1) xs := by
  unfold numD
  rw [List.length_cons, List.range_succ_eq_map, List.map_cons, List.map_map]
  congr 1
  · simp
  · apply List.map_congr_left
    intro i _
    simp only [Function.comp, List.getD_cons_succ, Nat.succ_eq_add_one]
    congr 3
    push_cast
    omega
end Ow

namespace Ow
open PySem PySem.Spec PyProof.Rows L2
def Rw.isWr (k : Int) : Rw → Bool
  | .wr b _ => decide (b = k)
  | _ => false
def Pg.wrote (k : Int) (p : Pg) : Bool := p.rows.any (Rw.isWr k)
def wrs (hs : List Pg) (k : Int) : Nat := (hs.filter (Pg.wrote k)).length
theorem map_inj {α : Type} {f : α → D} (hf : ∀ a b, f a = f b → a = b) : ∀ {l m : List α}, l.map f = m.map f → l = m
  | [], [], _ => rfl
  | [], _ :: _, h => by cases h
  | _ :: _, [], h => by cases h
  | a :: l, b :: m, h => by
    simp only [List.map_cons, List.cons.injEq] at h
    rw [hf _ _ h.1, map_inj hf h.2]
theorem Rw.injD : ∀ {r s : Rw}, r.d = s.d → r = s := by
  intro r s h
  cases r with
  | wr b v =>
    cases s with
    | wr c u => simp only [Rw.d, D.tup.injEq, List.cons.injEq, D.int.injEq] at h; rw [h.2.1, h.2.2.1]
    | lk c ns t => simp [Rw.d] at h
  | lk b ns t =>
    cases s with
    | wr c u => simp [Rw.d] at h
    | lk c ms u =>
      simp only [Rw.d, D.tup.injEq, List.cons.injEq, D.int.injEq] at h
      have : ns = ms := by
        have e := h.2.2.1
        exact map_inj (f := D.int) (fun a b e => by cases e; rfl) e
      rw [h.2.1, this, h.2.2.2.1]
theorem Pg.injD {p q : Pg} (h : p.d = q.d) : p = q := by
  obtain ⟨a, b, c⟩ := p
  obtain ⟨a', b', c'⟩ := q
  simp only [Pg.d, D.tup.injEq, List.cons.injEq, D.int.injEq, and_true] at h
  obtain ⟨rfl, rfl, h⟩ := h
  rw [map_inj (fun _ _ => Rw.injD) h]
theorem Wy.injD {p q : Wy} (h : p.d = q.d) : p = q := by
  obtain ⟨a, b⟩ := p
  obtain ⟨a', b'⟩ := q
  simp only [Wy.d, bxs, hds, D.tup.injEq, List.cons.injEq, and_true] at h
  rw [Bx.inj h.1, map_inj (fun _ _ => Pg.injD) h.2]
/-- a def whose promise is said of structured arguments -/
def stR (α : Type) (enc : α → List D) (pre : α → Sto → Prop) (g : α → Sto → D) : Spec := { pre := fun ds S => ∃ x, ds = enc x ∧ pre x S, post := fun ds S d S' => S' = S ∧ ∀ x, ds = enc x → d = g x S }
theorem callS_st {α : Type} {enc : α → List D} {pre : α → Sto → Prop} {g : α → Sto → D} (inj : ∀ a b, enc a = enc b → a = b) {x : α} {ds : List D} {S : Sto} {Q : D → Sto → Prop} {E : QX} (e : ds = enc x) (h : pre x S) : callS (stR α enc pre g) ds S Q E ↔ Q (g x S) S := by
  subst e
  exact ⟨fun z => z.2.1 _ S ⟨rfl, fun y hy => by rw [inj _ _ hy]⟩, fun q => ⟨⟨x, rfl, h⟩, fun d S' ⟨e1, e2⟩ => by rw [e1, e2 x rfl]; exact q, fun _ _ z => z.elim⟩⟩
theorem ok_st {α : Type} {enc : α → List D} {pre : α → Sto → Prop} {g : α → Sto → D} (inj : ∀ a b, enc a = enc b → a = b) {N : List Str} {n : Nat} {t : WS} (h : ∀ x S, pre x S → ∀ Nx : Nd, (∀ S', Sub S S' → Nx.rt (g x S) S') → (g x S = .non → ∀ ρ S', Sub S S' → Nx.nx ρ S') → t Nx (startD N (enc x)) S) : BodyOk N n (stR α enc pre g) t := by
  rintro _ S _ ⟨x, rfl, hp⟩
  exact h x S hp _ (fun S' hs => ⟨S, hs, rfl, fun y hy => by rw [inj _ _ hy]⟩) fun e ρ S' hs => ⟨S, hs, rfl, fun y hy => by rw [← inj _ _ hy, e]⟩
/-- as lc_pure, over a mapped list -/
theorem lc_map {α : Type} {chk : Sto → Prop} {tg : Tg} {tt : WT} {te : WE} {ρ : En} {P : List D → Sto → Prop} {S : Sto} (hc : chk S) (enc : α → D) (p : α → Bool) (f : α → D) : ∀ {l : List α} {acc : List D}, (∀ x ∈ l, ∃ ρ1, asg tg (enc x) ρ = some ρ1 ∧ Ev tt ρ1 S (p x) ∧ (p x = true → Ev te ρ1 S (f x))) → P (acc ++ (l.filter p).map f) S → wLcGo chk tg tt te ρ P (l.map enc) acc S
  | [], acc, _, h => ⟨hc, by simpa using h⟩
  | d :: l, acc, hs, h => by
    obtain ⟨ρ1, e, h1, h2⟩ := hs d (by simp)
    refine ⟨hc, ρ1, e, h1 _ _ ?_⟩
    cases hp : p d with
    | true =>
      rw [if_pos rfl]
      exact h2 hp _ _ (lc_map hc enc p f (fun d hd => hs d (by simp [hd])) (by simpa [hp] using h))
    | false =>
      rw [if_neg (by simp)]
      exact lc_map hc enc p f (fun d hd => hs d (by simp [hd])) (by simpa [hp] using h)
theorem allM_bl {α : Type} {l : List α} {f : α → Bool} : (l.map fun x => D.bl (f x)).all isBl = true := by
  induction l with
  | nil => rfl
  | cons x xs ih => simp only [List.map_cons, List.all_cons, isBl, ih]; rfl
theorem anyM_yes {α : Type} {l : List α} {f : α → Bool} : (l.map fun x => D.bl (f x)).any isYes = l.any f := by
  induction l with
  | nil => rfl
  | cons x xs ih => simp only [List.map_cons, List.any_cons, isYes, ih]
theorem filtM {α : Type} {l : List α} : l.filter (fun _ => true) = l := by induction l with | nil => rfl | cons x xs ih => simp
theorem eq_tup {S : Sto} {a b : List D} (h1 : okDs 59 a = true) (h2 : okDs 59 b = true) : eqD S (.tup a) (.tup b) = some (pyEqs a b) := by
  have h1' : okD 60 (.tup a) = true := h1
  have h2' : okD 60 (.tup b) = true := h2
  simp only [eqD, scalD, itemsL, h1', h2', pyEq]
  rfl
structure Wy.ok (w : Wy) : Prop where
  bok : ∀ b ∈ w.boxes, b.ok
  b1 : 1 ≤ w.boxes.length
  b12 : w.boxes.length ≤ 12
  h1 : 1 ≤ w.hands.length
  h4 : w.hands.length ≤ 4
  pok : ∀ p ∈ w.hands, p.ok w.boxes
  one : ∀ (k : Nat) (b : Bx), w.boxes[k]? = some b → b.kind = "whole" ∨ wrs w.hands k ≤ 1
theorem boxes_of : ∀ {l : List D}, l.all boxB = true → ∃ bs : List Bx, l = bs.map Bx.d ∧ ∀ b ∈ bs, b.ok
  | [], _ => ⟨[], rfl, fun _ h => by cases h⟩
  | x :: xs, h => by
    simp only [List.all_cons, Bool.and_eq_true] at h
    obtain ⟨b, rfl, o⟩ := boxB_of h.1
    obtain ⟨bs, rfl, os⟩ := boxes_of h.2
    exact ⟨b :: bs, rfl, fun c hc => by rcases List.mem_cons.mp hc with rfl | hc; exact o; exact os c hc⟩
theorem boxesB_of {m : Int} {d : D} (h : boxesB m d = true) : ∃ bs : List Bx, d = bxs bs ∧ (∀ b ∈ bs, b.ok) ∧ 1 ≤ (bs.length : Int) ∧ (bs.length : Int) ≤ m := by
  cases d with
  | tup l =>
    simp only [boxesB, Bool.and_eq_true, decide_eq_true_eq] at h
    obtain ⟨bs, rfl, o⟩ := boxes_of h.2.2
    rw [List.length_map] at h
    exact ⟨bs, rfl, o, h.1, h.2.1⟩
  | _ => cases h
theorem boxes_ok {m : Int} {bs : List Bx} (h : ∀ b ∈ bs, b.ok) (h1 : 1 ≤ (bs.length : Int)) (hm : (bs.length : Int) ≤ m) : boxesB m (bxs bs) = true := by
  simp only [boxesB, bxs, List.length_map, Bool.and_eq_true, decide_eq_true_eq, List.all_map, List.all_eq_true]
  exact ⟨h1, hm, fun b hb => (h b hb).box⟩
def oneB (bs : List Bx) (hs : List Pg) : Int → List Bx → Bool
  | _, [] => true
  | k, b :: r => (b.kind == "whole" || decide ((wrs hs k : Int) ≤ 1)) && oneB bs hs (k + 1) r
theorem oneB_iff {bs : List Bx} {hs : List Pg} : ∀ {k : Int} {r : List Bx}, oneB bs hs k r = true ↔ ∀ (j : Nat) (b : Bx), r[j]? = some b → b.kind = "whole" ∨ wrs hs (k + j) ≤ 1
  | k, [] => ⟨fun _ j b h => by simp at h, fun _ => rfl⟩
  | k, c :: r => by
    have ih := oneB_iff (bs := bs) (hs := hs) (k := k + 1) (r := r)
    simp only [oneB, Bool.and_eq_true, Bool.or_eq_true, beq_iff_eq, decide_eq_true_eq, ih]
    constructor
    · rintro ⟨h1, h2⟩ j b hj
      cases j with
      | zero => cases hj; simpa using (show c.kind = "whole" ∨ wrs hs k ≤ 1 by rcases h1 with h | h; exact .inl h; exact .inr (by omega))
      | succ j =>
        have := h2 j b (by simpa using hj)
        rwa [show k + 1 + (j : Int) = k + ((j + 1 : Nat) : Int) by push_cast; omega] at this
    · intro h
      refine ⟨?_, fun j b hj => ?_⟩
      · have := h 0 c rfl
        simp only [Int.natCast_zero, Int.add_zero] at this
        rcases this with h | h
        · exact .inl h
        · exact .inr (by omega)
      · have := h (j + 1) b (by simpa using hj)
        rwa [show k + ((j + 1 : Nat) : Int) = k + 1 + (j : Int) by push_cast; omega] at this
end Ow

namespace Ow
open PySem PySem.Spec PyProof.Rows L2
def sp_law_mixed : Spec := { pre := fun ds _ => ∃ c : Int, ds = [.int c], post := fun _ S d S' => S' = S ∧ ∃ r : Int, d = .int r ∧ 0 ≤ r ∧ r < 10 ^ 60 }
/-- by any factor -/
def mixT (K : Int) : WS :=
  sSeq (sRet (wBin modF (wBin mulF (wBin modF (wVar 0) (wBin powF (wC (.int 10)) (wC (.int 60)))) (wC (.int K))) (wBin powF (wC (.int 10)) (wC (.int 60))))) sNx
def t_law_mixed : WS :=
  sSeq (sRet (wBin modF (wBin mulF (wBin modF (wVar 0) (wBin powF (wC (.int 10)) (wC (.int 60)))) (wC (.int 977121254719662437295027903255115309200128864190695864829866917))) (wBin powF (wC (.int 10)) (wC (.int 60))))) sNx
theorem call_mixed {S : Sto} {Q : D → Sto → Prop} {E : QX} {c : Int} (q : ∀ r : Int, 0 ≤ r → r < 10 ^ 60 → Q (.int r) S) : callS sp_law_mixed [.int c] S Q E :=
  ⟨⟨c, rfl⟩, fun d S' ⟨e, r, e2, r0, r1⟩ => by rw [e, e2]; exact q r r0 r1, fun _ _ z => z.elim⟩
theorem pow60 : (0 ≤ (60 : Int) ∧ (60 : Int) ≤ 1000000 ∧ (10 : Int).natAbs < 2 ^ 64) := by decide
theorem pow25 : (0 ≤ (25 : Int) ∧ (25 : Int) ≤ 1000000 ∧ (10 : Int).natAbs < 2 ^ 64) := by decide
theorem ten60 : (10 : Int) ^ (60 : Int).toNat = 10 ^ 60 := rfl
theorem ten25 : (10 : Int) ^ (25 : Int).toNat = 10 ^ 25 := rfl
theorem big_ok {i : Int} (h0 : 0 ≤ i) (h : i < 10 ^ 60) : i.natAbs < 2 ^ 4000 := by
  have e : (10 : Nat) ^ 60 < 2 ^ 4000 := by decide +kernel
  have : (i.natAbs : Int) < ((10 ^ 60 : Nat) : Int) := by
    rw [Int.natAbs_of_nonneg h0]
    exact_mod_cast h
  omega
theorem ok_mix {K : Int} (hK : K.natAbs < 2 ^ 4000) : BodyOk ["_law_cell"] 1 sp_law_mixed (mixT K) := by
  rintro _ S _ ⟨c, rfl⟩
  have hr : ∀ r : Int, 0 ≤ r → r < 10 ^ 60 → (ndOf sp_law_mixed [.int c] S).rt (.int r) S := fun r r0 r1 => ⟨S, Sub.refl, rfl, r, rfl, r0, r1⟩
  generalize ndOf sp_law_mixed [.int c] S = Nx at hr
  simp only [mixT, sSeq, sRet, sRetN, sIf, sAsg, sExpr, sNx, sBk, sCt, sNever, sRaise, sRaiseF, sFor, sSub, wAndV, wOrV, wNotV, wAndT, wOrT, wNotT, wTru, wCmpT, wChT, wChV, wBin, wUn, wVar, wC, wCons, wNil, wTup, wIfE, wIsi, wFn, wQf, qLst, qOf, wCall, wCall0, wLc, wYes, iOf, iR1, iR2, iEn, iHid, wNew, wLst, wSl, wNoP, wP, ex_ss, ex_some, ex_eq, ex_int, ex_two, startD, List.map_cons, List.map_nil, List.length_cons, List.length_nil, List.replicate, List.cons_append, List.nil_append, List.getElem?_cons_zero, List.getElem?_cons_succ, List.set_cons_zero, List.set_cons_succ, wipeD, asg_nm, asg_tp, asgs_nil, asgs_cons, Option.bind_some, tru_bl, tru_int, tru_tup, cmpF, cmpD, lt_int, eq_int, eq_str, eq_bl, Option.map_some, sub_int, add_int, add_tup, fdiv_int, mod_int, pow_int, shl_int, shr_int, band_int, mul_int, int_bl, dm_int, max_int, min_int, len_tup, len_fl, Nat.reduceAdd, Nat.reduceSub, if_true, Bool.not_true, Bool.not_false, Bool.false_eq_true, if_false, tupF, allF, anyF, lenQF, Nat.zero_add, Nat.sub_self, ten60]
  exact ⟨pow60, by decide, .inr (.inr ⟨big_ok (Int.emod_nonneg _ (by decide)) (Int.emod_lt_of_pos _ (by decide)), hK⟩), pow60, by decide, hr _ (Int.emod_nonneg _ (by decide)) (Int.emod_lt_of_pos _ (by decide))⟩
theorem ok_law_mixed : BodyOk ["_law_cell"] 1 sp_law_mixed t_law_mixed := ok_mix (by decide +kernel)
def sp_law_take : Spec := pkF (fun _ as _ => ∃ k : Int, as = [.int k] ∧ 0 < k ∧ k < 1073741824) fun as _ d => ∃ k r : Int, as = [.int k] ∧ d = .int r ∧ 0 ≤ r ∧ r < k
def t_law_take : WS :=
  sSeq
  (sTake (wVar 0) (wC (.int 0)) (wFn dmF (wCons (wBin ixF (wVar 0) (wC (.int 0))) (wCons (wVar 1) (wNil)))) 2) <|
  sSeq (sRet (wVar 2)) sNx
theorem ok_law_take : BodyOk ["_law_pack_here", "_law_size", "_law_digit"] 2 sp_law_take t_law_take := by
  refine ok_pk ?_
  rintro a _ S ⟨k, rfl, h0, h1⟩ hA Nx hr
  obtain ⟨n, hn⟩ := hA.cell
  simp only [t_law_take, sSeq, sRet, sRetN, sIf, sAsg, sExpr, sNx, sBk, sCt, sNever, sRaise, sRaiseF, sFor, sSub, wAndV, wOrV, wNotV, wAndT, wOrT, wNotT, wTru, wCmpT, wChT, wChV, wBin, wUn, wVar, wC, wCons, wNil, wTup, wIfE, wIsi, wFn, wQf, qLst, qOf, wCall, wCall0, wLc, wYes, iOf, iR1, iR2, iEn, iHid, wNew, wLst, wSl, wNoP, wP, ex_ss, ex_some, ex_eq, ex_int, ex_two, startD, List.map_cons, List.map_nil, List.length_cons, List.length_nil, List.replicate, List.cons_append, List.nil_append, List.getElem?_cons_zero, List.getElem?_cons_succ, List.set_cons_zero, List.set_cons_succ, wipeD, asg_nm, asg_tp, asgs_nil, asgs_cons, Option.bind_some, tru_bl, tru_int, tru_tup, cmpF, cmpD, lt_int, eq_int, eq_str, eq_bl, Option.map_some, sub_int, add_int, add_tup, fdiv_int, mod_int, pow_int, shl_int, shr_int, band_int, mul_int, int_bl, dm_int, max_int, min_int, len_tup, len_fl, Nat.reduceAdd, Nat.reduceSub, if_true, Bool.not_true, Bool.not_false, Bool.false_eq_true, if_false, tupF, allF, anyF, lenQF, Nat.zero_add, Nat.sub_self, sTake, ix_ref hn (show atI [D.int n] 0 = some (.int n) from rfl)]
  refine ⟨⟨h0, h1⟩, _, _, rfl, .inl ⟨a, [.int n], 0, 0, rfl, rfl, hn, rfl, hr _ _ ⟨k, _, rfl, rfl, Int.emod_nonneg _ (by omega), Int.emod_lt_of_pos _ h0⟩ hA.take⟩⟩
theorem call_take {S0 S : Sto} {a : Addr} {k : Int} {Q : D → Sto → Prop} {E : QX} (hS : At S0 a S) (h0 : 0 < k) (h1 : k < 1073741824) (q : ∀ (r : Int) S', 0 ≤ r → r < k → At S0 a S' → (∀ b, b ≠ a → S' b = S b) → Q (.int r) S') : callS sp_law_take [.ref a, .int k] S Q E :=
  callS_pk hS ⟨k, rfl, h0, h1⟩ fun d S' hp hA hb => by
    obtain ⟨k', r, e, rfl, a1, a2⟩ := hp
    cases e
    exact q r S' a1 a2 hA hb
def sp_law_numbers : Spec := pkF (fun _ as _ => ∃ k : Int, as = [.int k] ∧ 1 ≤ k ∧ k ≤ 20) fun as _ d => ∃ (k : Int) (ns : List Int), as = [.int k] ∧ d = .tup (ns.map .int) ∧ numsB k d = true
def t_law_numbers : WS :=
  sSeq
  (sAsg (wCall sp_law_take (wCons (wVar 0) (wCons (wBin shlF (wC (.int 1)) (wVar 1)) (wNil)))) (.nm 2)) <|
  sSeq (sRet (wQf tupF (qLst (wLc (iR1 (wVar 1)) (.nm 3) [3] (wCmpT .Eq (wBin bandF (wBin shrF (wVar 2) (wVar 3)) (wC (.int 1))) (wC (.int 1))) (wVar 3))))) sNx
theorem inc_of {ns : List Int} (h : ns.Pairwise (· < ·)) : incB (ns.map .int) = true := by
  unfold incB
  rw [List.all_eq_true]
  intro d hd
  obtain ⟨k, rfl, hk⟩ := rng_mem hd
  rw [List.length_map] at hk
  have l1 : k < ns.length := by omega
  have l2 : k + 1 < ns.length := by omega
  have g1 : (ns.map D.int).getD (intOf (.int (0 + (k : Int)))).toNat .non = .int ns[k] := by
    simp only [intOf, Int.zero_add, Int.toNat_natCast, List.getD_eq_getElem?_getD, List.getElem?_map, List.getElem?_eq_getElem l1, Option.map_some, Option.getD_some]
  have g2 : (ns.map D.int).getD ((intOf (.int (0 + (k : Int)))).toNat + 1) .non = .int ns[k + 1] := by
    simp only [intOf, Int.zero_add, Int.toNat_natCast, List.getD_eq_getElem?_getD, List.getElem?_map, List.getElem?_eq_getElem l2, Option.map_some, Option.getD_some]
  rw [g1, g2]
  exact decide_eq_true (List.pairwise_iff_getElem.mp h k (k + 1) l1 l2 (by omega))
theorem nums_of {ns : List Int} {size : Int} (h : ns.Pairwise (· < ·)) (hb : ∀ n ∈ ns, 0 ≤ n ∧ n < size) : numsB size (.tup (ns.map .int)) = true := by
  simp only [numsB, Bool.and_eq_true, inc_of h, and_true, List.all_map, List.all_eq_true]
  intro n hn
  have := hb n hn
  simp only [Function.comp, btw_int, Bool.and_eq_true, decide_eq_true_eq]
  omega
theorem rng_filter {size : Int} {p : D → Bool} : ∃ ns : List Int, (rngD 0 size).filter p = ns.map .int ∧ ns.Pairwise (· < ·) ∧ ∀ n ∈ ns, 0 ≤ n ∧ n < size := by
  refine ⟨(((List.range size.toNat).map fun i => ((i : Nat) : Int)).filter fun n => p (.int n)), ?_, ?_, ?_⟩
  · unfold rngD
    rw [show (size - 0).toNat = size.toNat by omega, show ((List.range size.toNat).map fun i => D.int (0 + ((i : Nat) : Int))) = ((List.range size.toNat).map fun i => ((i : Nat) : Int)).map D.int by rw [List.map_map]; apply List.map_congr_left; intro i _; simp, List.filter_map]
    rfl
  · apply List.Pairwise.filter
    rw [List.pairwise_map]
    exact List.Pairwise.imp (fun h => by exact_mod_cast h) List.pairwise_lt_range
  · intro n hn
    obtain ⟨i, hi, rfl⟩ := List.mem_map.mp (List.mem_filter.mp hn).1
    have := List.mem_range.mp hi
    omega
theorem map_idD {l : List D} : l.map (fun x => x) = l := List.map_id' l
theorem shl_ok {k : Int} (h1 : 1 ≤ k) (h2 : k ≤ 20) : 0 < (1 : Int) * 2 ^ k.toNat ∧ (1 : Int) * 2 ^ k.toNat < 1073741824 := by
  have e : (2 : Int) ^ k.toNat ≤ 2 ^ 20 := by
    have : (2 : Nat) ^ k.toNat ≤ 2 ^ 20 := Nat.pow_le_pow_right (by decide) (by omega)
    exact_mod_cast this
  have e0 : 0 < (2 : Int) ^ k.toNat := Int.pow_pos (by decide)
  have e2 : (2 : Int) ^ 20 = 1048576 := rfl
  omega
theorem ok_law_numbers : BodyOk ["_law_pack_here", "_law_size", "_law_bits", "_law_number"] 2 sp_law_numbers t_law_numbers := by
  refine ok_pk ?_
  rintro a _ S ⟨k, rfl, h0, h1⟩ hA Nx hr
  simp only [t_law_numbers, sSeq, sRet, sRetN, sIf, sAsg, sExpr, sNx, sBk, sCt, sNever, sRaise, sRaiseF, sFor, sSub, wAndV, wOrV, wNotV, wAndT, wOrT, wNotT, wTru, wCmpT, wChT, wChV, wBin, wUn, wVar, wC, wCons, wNil, wTup, wIfE, wIsi, wFn, wQf, qLst, qOf, wCall, wCall0, wLc, wYes, iOf, iR1, iR2, iEn, iHid, wNew, wLst, wSl, wNoP, wP, ex_ss, ex_some, ex_eq, ex_int, ex_two, startD, List.map_cons, List.map_nil, List.length_cons, List.length_nil, List.replicate, List.cons_append, List.nil_append, List.getElem?_cons_zero, List.getElem?_cons_succ, List.set_cons_zero, List.set_cons_succ, wipeD, asg_nm, asg_tp, asgs_nil, asgs_cons, Option.bind_some, tru_bl, tru_int, tru_tup, cmpF, cmpD, lt_int, eq_int, eq_str, eq_bl, Option.map_some, sub_int, add_int, add_tup, fdiv_int, mod_int, pow_int, shl_int, shr_int, band_int, mul_int, int_bl, dm_int, max_int, min_int, len_tup, len_fl, Nat.reduceAdd, Nat.reduceSub, if_true, Bool.not_true, Bool.not_false, Bool.false_eq_true, if_false, tupF, allF, anyF, lenQF, Nat.zero_add, Nat.sub_self]
  refine ⟨⟨by omega, by omega, by decide⟩, call_take hA (shl_ok h0 h1).1 (shl_ok h0 h1).2 fun r S' r0 r1 hA' _ => ?_⟩
  refine ⟨rg_ok (by unfold sizeLine; omega) (by omega), ?_⟩
  refine lc_pure chk_nil (fun d => decide (Builtin.bitAnd (r / 2 ^ (intOf d).toNat) 1 = 1)) (fun d => d) (fun d hd => ?_) ?_
  · obtain ⟨j, rfl, hj⟩ := rng_mem hd
    refine ⟨_, rfl, fun Q E q => ?_, fun _ Q E q => ?_⟩
    · simp only [sSeq, sRet, sRetN, sIf, sAsg, sExpr, sNx, sBk, sCt, sNever, sRaise, sRaiseF, sFor, sSub, wAndV, wOrV, wNotV, wAndT, wOrT, wNotT, wTru, wCmpT, wChT, wChV, wBin, wUn, wVar, wC, wCons, wNil, wTup, wIfE, wIsi, wFn, wQf, qLst, qOf, wCall, wCall0, wLc, wYes, iOf, iR1, iR2, iEn, iHid, wNew, wLst, wSl, wNoP, wP, ex_ss, ex_some, ex_eq, ex_int, ex_two, startD, List.map_cons, List.map_nil, List.length_cons, List.length_nil, List.replicate, List.cons_append, List.nil_append, List.getElem?_cons_zero, List.getElem?_cons_succ, List.set_cons_zero, List.set_cons_succ, wipeD, asg_nm, asg_tp, asgs_nil, asgs_cons, Option.bind_some, tru_bl, tru_int, tru_tup, cmpF, cmpD, lt_int, eq_int, eq_str, eq_bl, Option.map_some, sub_int, add_int, add_tup, fdiv_int, mod_int, pow_int, shl_int, shr_int, band_int, mul_int, int_bl, dm_int, max_int, min_int, len_tup, len_fl, Nat.reduceAdd, Nat.reduceSub, if_true, Bool.not_true, Bool.not_false, Bool.false_eq_true, if_false, tupF, allF, anyF, lenQF, Nat.zero_add, Nat.sub_self]
      exact ⟨by omega, q⟩
    · simp only [sSeq, sRet, sRetN, sIf, sAsg, sExpr, sNx, sBk, sCt, sNever, sRaise, sRaiseF, sFor, sSub, wAndV, wOrV, wNotV, wAndT, wOrT, wNotT, wTru, wCmpT, wChT, wChV, wBin, wUn, wVar, wC, wCons, wNil, wTup, wIfE, wIsi, wFn, wQf, qLst, qOf, wCall, wCall0, wLc, wYes, iOf, iR1, iR2, iEn, iHid, wNew, wLst, wSl, wNoP, wP, ex_ss, ex_some, ex_eq, ex_int, ex_two, startD, List.map_cons, List.map_nil, List.length_cons, List.length_nil, List.replicate, List.cons_append, List.nil_append, List.getElem?_cons_zero, List.getElem?_cons_succ, List.set_cons_zero, List.set_cons_succ, wipeD, asg_nm, asg_tp, asgs_nil, asgs_cons, Option.bind_some, tru_bl, tru_int, tru_tup, cmpF, cmpD, lt_int, eq_int, eq_str, eq_bl, Option.map_some, sub_int, add_int, add_tup, fdiv_int, mod_int, pow_int, shl_int, shr_int, band_int, mul_int, int_bl, dm_int, max_int, min_int, len_tup, len_fl, Nat.reduceAdd, Nat.reduceSub, if_true, Bool.not_true, Bool.not_false, Bool.false_eq_true, if_false, tupF, allF, anyF, lenQF, Nat.zero_add, Nat.sub_self]
      exact q
  · rw [List.nil_append, map_idD]
    obtain ⟨ns, e, o1, o2⟩ := rng_filter (size := k) (p := fun d => decide (Builtin.bitAnd (r / 2 ^ (intOf d).toNat) 1 = 1))
    rw [e]
    exact hr _ _ ⟨k, ns, rfl, rfl, nums_of o1 o2⟩ hA'
theorem call_numbers {S0 S : Sto} {a : Addr} {k : Int} {Q : D → Sto → Prop} {E : QX} (hS : At S0 a S) (h0 : 1 ≤ k) (h1 : k ≤ 20) (q : ∀ (ns : List Int) S', numsB k (.tup (ns.map .int)) = true → At S0 a S' → (∀ b, b ≠ a → S' b = S b) → Q (.tup (ns.map .int)) S') : callS sp_law_numbers [.ref a, .int k] S Q E :=
  callS_pk hS ⟨k, rfl, h0, h1⟩ fun d S' hp hA hb => by
    obtain ⟨k', ns, e, rfl, hn⟩ := hp
    cases e
    exact q ns S' hn hA hb
/-- the sizes of a way's boxes -/
structure SzOk (ss : List Int) : Prop where
  n1 : 1 ≤ ss.length
  n12 : ss.length ≤ 12
  sz : ∀ s ∈ ss, 2 ≤ s ∧ s ≤ 5
def RowOk (ss : List Int) (w m p : Int) (r : Rw) : Prop := ∀ bs : List Bx, bs.map Bx.size = ss → r.ok bs w m p
def sp_law_row : Spec := pkF (fun a as S => ∃ (b : Addr) (ss : List Int) (p w m : Int), as = [.ref b, .int p, .int w, .int m] ∧ b ≠ a ∧ S b = some (.lst (ss.map .int)) ∧ SzOk ss ∧ 1 ≤ w ∧ w ≤ m ∧ p ≤ m ∧ m ≤ 1000)
  fun as S d => ∃ (b : Addr) (ss : List Int) (p w m : Int) (r : Rw), as = [.ref b, .int p, .int w, .int m] ∧ S b = some (.lst (ss.map .int)) ∧ d = r.d ∧ RowOk ss w m p r
theorem map_int_inj {a b : List Int} (h : a.map D.int = b.map D.int) : a = b := map_inj (f := D.int) (fun a b e => by cases e; rfl) h
theorem call_row {S0 S : Sto} {a b : Addr} {ss : List Int} {p w m : Int} {Q : D → Sto → Prop} {E : QX} (hS : At S0 a S) (hba : b ≠ a) (hb : S b = some (.lst (ss.map .int))) (hss : SzOk ss) (h1 : 1 ≤ w) (h2 : w ≤ m) (h3 : p ≤ m) (h4 : m ≤ 1000)
    (q : ∀ (r : Rw) S', RowOk ss w m p r → At S0 a S' → (∀ b, b ≠ a → S' b = S b) → Q r.d S') : callS sp_law_row [.ref a, .ref b, .int p, .int w, .int m] S Q E :=
  callS_pk hS ⟨b, ss, p, w, m, rfl, hba, hb, hss, h1, h2, h3, h4⟩ fun d S' hp hA hf => by
    obtain ⟨b', ss', p', w', m', r, e, e2, rfl, ho⟩ := hp
    cases e
    rw [hb] at e2
    have : ss = ss' := map_int_inj (MO.lst.inj (Option.some.inj e2))
    subst this
    exact q r S' ho hA hf
theorem rng_cons {lo hi : Int} (h : lo < hi) : rngD lo hi = .int lo :: rngD (lo + 1) hi := by
  unfold rngD
  rw [show (hi - lo).toNat = (hi - (lo + 1)).toNat + 1 by omega, List.range_succ_eq_map, List.map_cons, List.map_map]
  congr 1
  · simp
  · apply List.map_congr_left
    intro i _
    simp only [Function.comp]
    congr 1
    push_cast
    omega
theorem rng_nil {lo hi : Int} (h : hi ≤ lo) : rngD lo hi = [] := by
  unfold rngD
  rw [show (hi - lo).toNat = 0 by omega]
  rfl
end Ow

namespace Ow
open PySem PySem.Spec PyProof.Rows L2
/-- as the box, but for its kind -/
structure Alike (hs : List Pg) (k : Int) (b c : Bx) : Prop where
  size : c.size = b.size
  start : c.start = b.start
  kd : isKd (.str c.kind) = true
  one : c.kind = "whole" ∨ wrs hs k ≤ 1
def AllAl (hs : List Pg) (bs cs : List Bx) : Prop := ∀ (j : Nat) (c : Bx), cs[j]? = some c → ∃ b, bs[j]? = some b ∧ Alike hs j b c
theorem atI_lt {α : Type} {l : List α} {i : Int} (h0 : 0 ≤ i) (h1 : i < l.length) : ∃ x, l[i.toNat]? = some x ∧ x ∈ l ∧ atI l i = some x := by
  have hl : i.toNat < l.length := by omega
  refine ⟨l[i.toNat], List.getElem?_eq_getElem hl, List.getElem_mem hl, ?_⟩
  have := atI_nat (l := l) (i := i.toNat) (x := l[i.toNat]) (List.getElem?_eq_getElem hl)
  rwa [show ((i.toNat : Nat) : Int) = i by omega] at this
theorem kinds4 {x : D} (h : x ∈ ([.str "whole", .str "either", .str "torn", .str "whole"] : List D)) : ∃ z : Str, x = .str z ∧ isKd (.str z) = true := by
  simp only [List.mem_cons, List.not_mem_nil, or_false] at h
  rcases h with rfl | rfl | rfl | rfl
  · exact ⟨_, rfl, rfl⟩
  · exact ⟨_, rfl, by decide⟩
  · exact ⟨_, rfl, by decide⟩
  · exact ⟨_, rfl, rfl⟩
/-- boxes of other kinds, for hands that fit -/
theorem AllAl.ok {w : Wy} {hs : List Pg} {cs : List Bx} (hb : ∀ b ∈ w.boxes, b.ok) (b1 : 1 ≤ w.boxes.length) (b12 : w.boxes.length ≤ 12) (h1 : 1 ≤ hs.length) (h4 : hs.length ≤ 4) (pok : ∀ p ∈ hs, ∀ bs : List Bx, bs.map Bx.size = w.boxes.map Bx.size → p.ok bs)
    (hl : cs.length = w.boxes.length) (h : AllAl hs w.boxes cs) : (Wy.mk cs hs).ok ∧ cs.map Bx.size = w.boxes.map Bx.size := by
  have es : cs.map Bx.size = w.boxes.map Bx.size := by
    apply List.ext_getElem?
    intro j
    rw [List.getElem?_map, List.getElem?_map]
    cases e : cs[j]? with
    | none =>
      rw [List.getElem?_eq_none_iff] at e
      rw [List.getElem?_eq_none (by omega)]
    | some c =>
      obtain ⟨b, e2, al⟩ := h j c e
      rw [e2]
      simp [al.size]
  refine ⟨⟨fun c hc => ?_, by show 1 ≤ cs.length; omega, by show cs.length ≤ 12; omega, h1, h4, fun p hp => pok p hp cs es, fun k c hk => ?_⟩, es⟩
  · obtain ⟨j, hj, e⟩ := List.getElem_of_mem hc
    obtain ⟨b, e2, al⟩ := h j c (by rw [List.getElem?_eq_getElem hj, e])
    have ob := hb b (List.mem_of_getElem? e2)
    exact ⟨al.kd, by rw [al.size]; exact ob.s2, by rw [al.size]; exact ob.s5, by rw [al.start]; exact ob.t0, by rw [al.start, al.size]; exact ob.t1⟩
  · obtain ⟨b, _, al⟩ := h k c hk
    exact al.one
end Ow

namespace Ow
open PySem PySem.Spec PyProof.Rows L2
def All2 {α β : Type} (G : α → β → Prop) : List α → List β → Prop
  | [], [] => True
  | x :: xs, y :: ys => G x y ∧ All2 G xs ys
  | _, _ => False
theorem All2.len {α β : Type} {G : α → β → Prop} : ∀ {l : List α} {m : List β}, All2 G l m → m.length = l.length
  | [], [], _ => rfl
  | [], _ :: _, h => h.elim
  | _ :: _, [], h => h.elim
  | _ :: _, _ :: _, h => congrArg (· + 1) (All2.len h.2)
theorem All2.mem {α β : Type} {G : α → β → Prop} : ∀ {l : List α} {m : List β}, All2 G l m → ∀ y ∈ m, ∃ x ∈ l, G x y
  | [], [], _, y, hy => by cases hy
  | [], _ :: _, h, _, _ => h.elim
  | _ :: _, [], h, _, _ => h.elim
  | x :: _, z :: _, h, y, hy => by
    rcases List.mem_cons.mp hy with rfl | hy
    · exact ⟨x, by simp, h.1⟩
    · obtain ⟨w, hw, g⟩ := All2.mem h.2 y hy
      exact ⟨w, by simp [hw], g⟩
theorem All2.sizes : ∀ {ss : List Int} {bs : List Bx}, All2 (fun s b => b.size = s ∧ b.ok) ss bs → bs.map Bx.size = ss
  | [], [], _ => rfl
  | [], _ :: _, h => h.elim
  | _ :: _, [], h => h.elim
  | s :: ss, b :: bs, h => by rw [List.map_cons, h.1.1, All2.sizes h.2]
/-- a comprehension that draws -/
theorem lc_draw {α β : Type} {chk : Sto → Prop} {tg : Tg} {te : WE} {ρ : En} {P : List D → Sto → Prop} (enc : α → D) (out : β → D) (G : α → β → Prop) (I : Sto → Prop) (hc : ∀ S, I S → chk S) : ∀ {l : List α} {S : Sto} {acc : List D},
    (∀ x ∈ l, ∀ S, I S → ∃ ρ1, asg tg (enc x) ρ = some ρ1 ∧ ∀ Q : D → Sto → Prop, (∀ y S', G x y → I S' → Q (out y) S') → te ρ1 S Q (fun _ _ => False)) → I S → (∀ (ys : List β) S', All2 G l ys → I S' → P (acc ++ ys.map out) S') → wLcGo chk tg wYes te ρ P (l.map enc) acc S
  | [], S, acc, _, hI, h => ⟨hc S hI, by simpa using h [] S trivial hI⟩
  | x :: l, S, acc, hs, hI, h => by
    obtain ⟨ρ1, e, q⟩ := hs x (by simp) S hI
    refine ⟨hc S hI, ρ1, e, ?_⟩
    simp only [wYes, if_true]
    refine q _ fun y S' g hI' => lc_draw enc out G I hc (fun x hx => hs x (by simp [hx])) hI' fun ys S'' ha hI'' => ?_
    have := h (y :: ys) S'' ⟨g, ha⟩ hI''
    simpa using this
theorem src_ref {S : Sto} {p : Addr} {l : List D} (h : S p = some (.lst l)) : srcA S (.ref p) = some ⟨l, [(p, .lst l)]⟩ := by simp [srcA, srcD, h]
end Ow

namespace Ow
open PySem PySem.Spec PyProof.Rows L2
def Bx.okB (b : Bx) : Bool := isKd (.str b.kind) && decide (2 ≤ b.size ∧ b.size ≤ 5 ∧ 0 ≤ b.start ∧ b.start < b.size)
def Rw.okB (bs : List Bx) (within many at_ : Int) : Rw → Bool
  | .wr b v => decide (0 ≤ b ∧ b < bs.length ∧ 0 ≤ v ∧ v < szAt bs b)
  | .lk b ns t => decide (0 ≤ b ∧ b < bs.length) && (numsB (szAt bs b) (.tup (ns.map .int)) && placeB (.int t) at_ within many)
def rowsOkB (bs : List Bx) (within many : Int) : Int → List Rw → Bool
  | _, [] => true
  | k, r :: rs => r.okB bs within many k && rowsOkB bs within many (k + 1) rs
def Pg.okB (bs : List Bx) (p : Pg) : Bool := decide (1 ≤ p.rows.length ∧ p.rows.length ≤ 16 ∧ 1 ≤ p.within ∧ p.within ≤ p.rows.length ∧ 0 ≤ p.door ∧ p.door < p.within) && rowsOkB bs p.within p.rows.length 1 p.rows
def Wy.okB (w : Wy) : Bool := w.boxes.all Bx.okB && (decide (1 ≤ w.boxes.length ∧ w.boxes.length ≤ 12 ∧ 1 ≤ w.hands.length ∧ w.hands.length ≤ 4) && (w.hands.all (Pg.okB w.boxes) && oneB w.boxes w.hands 0 w.boxes))
theorem Rw.okB_ok {bs : List Bx} {w m a : Int} {r : Rw} (h : r.okB bs w m a = true) : r.ok bs w m a := by
  cases r with
  | wr b v =>
    simp only [Rw.okB, decide_eq_true_eq] at h
    exact h
  | lk b ns t =>
    simp only [Rw.okB, Bool.and_eq_true, decide_eq_true_eq] at h
    exact ⟨h.1.1, h.1.2, h.2.1, h.2.2⟩
theorem rowsOkB_ok {bs : List Bx} {w m : Int} : ∀ {k : Int} {rs : List Rw}, rowsOkB bs w m k rs = true → rowsOk bs w m k rs
  | _, [], _ => trivial
  | k, r :: rs, h => by
    simp only [rowsOkB, Bool.and_eq_true] at h
    exact ⟨Rw.okB_ok h.1, rowsOkB_ok h.2⟩
theorem Pg.okB_ok {bs : List Bx} {p : Pg} (h : p.okB bs = true) : p.ok bs := by
  simp only [Pg.okB, Bool.and_eq_true, decide_eq_true_eq] at h
  obtain ⟨⟨h1, h2, h3, h4, h5, h6⟩, h7⟩ := h
  exact ⟨h1, h2, h3, h4, h5, h6, rowsOkB_ok h7⟩
theorem Wy.okB_ok {w : Wy} (h : w.okB = true) : w.ok := by
  simp only [Wy.okB, Bool.and_eq_true, decide_eq_true_eq, List.all_eq_true] at h
  obtain ⟨h1, ⟨h2, h3, h4, h5⟩, h6, h7⟩ := h
  refine ⟨fun b hb => ?_, h2, h3, h4, h5, fun p hp => Pg.okB_ok (h6 p hp), fun k b hk => ?_⟩
  · have := h1 b hb
    simp only [Bx.okB, Bool.and_eq_true, decide_eq_true_eq] at this
    exact ⟨this.1, this.2.1, this.2.2.1, this.2.2.2.1, this.2.2.2.2⟩
  · have := oneB_iff.mp h7 k b hk
    rwa [Int.zero_add] at this
def pet (i : Int) : Pg := ⟨2, 5, [.wr i 1, .wr 2 (1 - i), .lk (1 - i) [1] 5, .lk 2 [i] 3, .wr i 0]⟩
def dek (i : Int) : Pg := ⟨1, 8, [.wr i 1, .lk (1 - i) [1] 8, .lk 2 [1 - i] 2, .wr i 0, .lk 2 [i] 5, .wr i 1, .lk (1 - i) [0] 7, .wr 2 (1 - i), .wr i 0]⟩
def trn (i m : Int) : Pg := ⟨0, 2, [.lk 0 [i] 1, .wr 0 ((i + 1) % m)]⟩
def flg (i : Int) : Pg := ⟨1, 3, [.wr i 1, .lk (1 - i) [0] 2, .wr i 0]⟩
def obr (i m : Int) : List Rw := [.wr i 0] ++ ((List.range i.toNat).map fun j => .lk j [0] 2) ++ [.wr i 1] ++ ((List.range i.toNat).map fun j => .lk j [0] 1) ++ ((List.range (m - i - 1).toNat).map fun j => .lk (i + 1 + j) [0] (2 * i + 3))
def obt (i m : Int) : Pg := ⟨0, (obr i m).length + 1, obr i m ++ [.wr i 0]⟩
def bit : Bx := ⟨"whole", 2, 0⟩
def base (k : Int) : Wy :=
  if k = 0 then ⟨[bit, bit, bit], [pet 0, pet 1]⟩ else if k = 1 then ⟨[bit, bit, bit], [dek 0, dek 1]⟩ else if k = 2 then ⟨[bit], [trn 0 2, trn 1 2]⟩ else if k = 3 then ⟨[bit, bit], [flg 0, flg 1]⟩
  else if k = 4 then ⟨[bit, bit], [obt 0 2, obt 1 2]⟩ else if k = 5 then ⟨[bit, bit], [⟨0, 2, [.wr 0 1, .wr 0 0]⟩, ⟨0, 2, [.wr 1 1, .wr 1 0]⟩]⟩ else if k = 6 then ⟨[⟨"whole", 3, 0⟩], [trn 0 3, trn 1 3, trn 2 3]⟩
  else ⟨[bit, bit, bit], [obt 0 3, obt 1 3, obt 2 3]⟩
section
variable {S : Sto} {Q : D → Sto → Prop} {E : QX} {i m : Int}
theorem mul_tup {l : List D} : mulF (.tup l) (.int i) S Q ↔ (l ≠ [] ∧ 0 ≤ i ∧ i ≤ 1000 ∧ l.length ≤ 1000 ∧ Q (.tup (repD i l)) S) := Iff.rfl
end
end Ow

namespace Ow
open PySem PySem.Spec PyProof.Rows L2
theorem cut_to {α : Type} {l : List α} {i : Nat} (h : i ≤ l.length) : HT.sIx l.length l.length (some (i : Int)) = i := by
  rw [HT.sIx_nat]
  omega
theorem cut_from {α : Type} {l : List α} {i : Nat} (h : i ≤ l.length) : HT.sIx l.length 0 (some (i : Int)) = i := by
  rw [HT.sIx_nat]
  omega
theorem cutD_to {l : List D} {i : Int} (h0 : 0 ≤ i) (h : i ≤ l.length) : cutD l none (some i) = l.take i.toNat := by
  unfold cutD
  have := cut_to (l := l) (i := i.toNat) (by omega)
  rw [show ((i.toNat : Nat) : Int) = i by omega] at this
  rw [this]
  simp [HT.sIx]
theorem cutD_from {l : List D} {i : Int} (h0 : 0 ≤ i) (h : i ≤ l.length) : cutD l (some i) none = l.drop i.toNat := by
  unfold cutD
  have := cut_from (l := l) (i := i.toNat) (by omega)
  rw [show ((i.toNat : Nat) : Int) = i by omega] at this
  rw [this, show HT.sIx l.length l.length none = l.length from rfl]
  rw [List.take_of_length_le (by rw [List.length_drop]; omega)]
section
variable {S : Sto} {Q : D → Sto → Prop} {l : List D}
theorem sl_tup {lo hi : Option Int} : slD (.tup l) lo hi S Q ↔ Q (.tup (cutD l lo hi)) S := Iff.rfl
end
theorem set_cut {α : Type} {l : List α} {i : Nat} {x : α} (h : i < l.length) : l.take i ++ [x] ++ l.drop (i + 1) = l.set i x := by
  rw [List.set_eq_take_append_cons_drop, if_pos h]
  simp
theorem map_set' {α : Type} {f : α → D} {l : List α} {i : Nat} {x : α} : (l.map f).set i (f x) = (l.set i x).map f := by rw [List.map_set]
theorem small {n : Nat} (h : n ≤ 1000) : n ≤ sizeLine := Nat.le_trans h (by decide)
end Ow

namespace Ow
open PySem PySem.Spec PyProof.Rows L2
/-- a drawn way: two or three hands, at most three boxes -/
structure Wy.dr (w : Wy) : Prop where
  ok : w.ok
  h2 : 2 ≤ w.hands.length
  h3 : w.hands.length ≤ 3
  b3 : w.boxes.length ≤ 3
theorem At.sub {S S' : Sto} {p : Addr} (h : At S p S') (hp : S p = none) : Sub S S' := by
  obtain ⟨n, h⟩ := h
  intro b o e
  have : b ≠ p := fun z => by rw [z, hp] at e; cases e
  exact h b o (by rw [put_ne this]; exact e)
theorem sub_pack {S S' : Sto} {p : Addr} {n : Int} (h : Sub S S') (hp : S' p = none) : At S p (put S' p (.lst [.int n])) ∧ S p = none := by
  refine ⟨⟨n, fun b o e => ?_⟩, h.none hp⟩
  unfold put at e ⊢
  split at e
  · next q => rw [if_pos q]; exact e
  · next q => rw [if_neg q]; exact h b o e
def scr (ns : List Int) : D := .fl (ns.map .int)
def sp_law_pack : Spec := { pre := fun ds _ => ∃ (ns : List Int) (k : Int), ds = [scr ns, .int k] ∧ ns.length ≤ 900 ∧ 0 ≤ k ∧ k ≤ 1000, post := fun ds S d S' => ∃ p n, S p = none ∧ d = .ref p ∧ S' = put S p (.lst [.int n]) }
def t_law_pack : WS :=
  sSeq
  (sAsg (wC (.int 0)) (.nm 2)) <|
  sSeq
  (sFor (iHid (wCons (wBin addF (wVar 1) (wC (.int 1))) (wCons (wVar 1) (wNil)))) (.nm 3) (sSeq
   (sAsg (wBin fdivF (wCall sp_law_mixed (wCons (wBin addF (wBin addF (wBin mulF (wC (.int 6007)) (wVar 3)) (wC (.int 41))) (wBin mulF (wC (.int 11)) (wBin ixF (wBin addF (wVar 0) (wLst (wCons (wC (.int 0)) (wNil)))) (wC (.int 0))))) (wNil))) (wBin powF (wC (.int 10)) (wC (.int 25)))) (.nm 4)) <|
   sSeq (sAsg (wBin addF (wBin mulF (wVar 2) (wBin powF (wC (.int 10)) (wC (.int 60)))) (wCall sp_law_mixed (wCons (wBin ixF (wBin addF (wSl (wVar 0) (wP (wVar 3)) (wP (wBin addF (wVar 3) (wC (.int 1))))) (wLst (wCons (wVar 4) (wNil)))) (wC (.int 0))) (wNil)))) (.nm 2)) sNx)) <|
  sSeq (sRet (wLst (wCons (wVar 2) (wNil)))) sNx
theorem add_fr {S : Sto} {Q : D → Sto → Prop} {l m : List D} {q : Addr} (h : S q = some (.lst m)) (hz : l.length + m.length ≤ sizeLine) (k : newL (l ++ m) S Q) : addF (.fl l) (.ref q) S Q := ⟨l, m, rfl, by simp [itemsL, h], hz, k⟩
theorem add_rr {S : Sto} {Q : D → Sto → Prop} {l m : List D} {p q : Addr} (h0 : S p = some (.lst l)) (h : S q = some (.lst m)) (hz : l.length + m.length ≤ sizeLine) (k : newL (l ++ m) S Q) : addF (.ref p) (.ref q) S Q := ⟨l, m, by simp [itemsL, h0], by simp [itemsL, h], hz, k⟩
theorem head_int {xs : List Int} {y : Int} : ∃ c : Int, atI (xs.map D.int ++ [D.int y]) 0 = some (.int c) := by
  cases xs with
  | nil => exact ⟨y, rfl⟩
  | cons x xs => exact ⟨x, atI_nat (l := (x :: xs).map D.int ++ [D.int y]) (i := 0) rfl⟩
theorem cut_map {ns : List Int} {a b : Option Int} : ∃ xs : List Int, cutD (ns.map D.int) a b = xs.map D.int ∧ xs.length ≤ ns.length := by
  unfold cutD
  rw [← List.map_drop, ← List.map_take]
  exact ⟨_, rfl, by rw [List.length_take, List.length_drop]; omega⟩
theorem ok_law_pack : BodyOk ["_law_script", "_law_k", "_law_found", "_law_at", "_law_lack"] 2 sp_law_pack t_law_pack := by
  rintro _ S _ ⟨ns, k, rfl, hn, k0, k1⟩
  have hr : ∀ p n S', S p = none → Sub (put S p (.lst [.int n])) S' → (ndOf sp_law_pack [scr ns, .int k] S).rt (.ref p) S' := fun p n S' h1 h2 => ⟨_, h2, p, n, h1, rfl, rfl⟩
  generalize ndOf sp_law_pack [scr ns, .int k] S = Nx at hr
  simp only [t_law_pack, scr, sSeq, sRet, sRetN, sIf, sAsg, sExpr, sNx, sBk, sCt, sNever, sRaise, sRaiseF, sFor, sSub, wAndV, wOrV, wNotV, wAndT, wOrT, wNotT, wTru, wCmpT, wChT, wChV, wBin, wUn, wVar, wC, wCons, wNil, wTup, wIfE, wIsi, wFn, wQf, qLst, qOf, wCall, wCall0, wLc, wYes, iOf, iR1, iR2, iEn, iHid, wNew, wLst, wSl, wNoP, wP, ex_ss, ex_some, ex_eq, ex_int, ex_two, startD, List.map_cons, List.map_nil, List.length_cons, List.length_nil, List.replicate, List.cons_append, List.nil_append, List.getElem?_cons_zero, List.getElem?_cons_succ, List.set_cons_zero, List.set_cons_succ, wipeD, asg_nm, asg_tp, asgs_nil, asgs_cons, Option.bind_some, tru_bl, tru_int, tru_tup, cmpF, cmpD, lt_int, eq_int, eq_str, eq_bl, Option.map_some, sub_int, add_int, add_tup, fdiv_int, mod_int, pow_int, shl_int, shr_int, band_int, mul_int, int_bl, dm_int, max_int, min_int, len_tup, len_fl, Nat.reduceAdd, Nat.reduceSub, if_true, Bool.not_true, Bool.not_false, Bool.false_eq_true, if_false, tupF, allF, anyF, lenQF, Nat.zero_add, Nat.sub_self]
  refine for_inv (fun ds ρ S' => Sub S S' ∧ ∃ (f : Int) (u v : Option D), ρ = [some (.fl (ns.map .int)), some (.int k), some (.int f), u, v] ∧ ((ds = [.int (k + 1), .int k] ∧ f = 0) ∨ (ds = [.int k] ∧ 0 ≤ f ∧ f < 10 ^ 60) ∨ ds = [])) ?_ ?_ ⟨Sub.refl, 0, none, none, rfl, .inl ⟨rfl, rfl⟩⟩
  · rintro d ds ρ S' ⟨hS, f, u, v, rfl, hc⟩
    have hat : ∃ t : Int, d = .int t ∧ 0 ≤ t ∧ t ≤ 2000 ∧ f.natAbs < 2 ^ 4000 ∧ ((ds = [.int k] ∧ f = 0) ∨ ds = []) := by
      rcases hc with ⟨e, rfl⟩ | ⟨e, f0, f1⟩ | e
      · cases e
        exact ⟨k + 1, rfl, by omega, by omega, by decide +kernel, .inl ⟨rfl, rfl⟩⟩
      · cases e
        exact ⟨k, rfl, by omega, by omega, big_ok f0 f1, .inr rfl⟩
      · cases e
    obtain ⟨t, rfl, t0, t1, hf, hds⟩ := hat
    refine ⟨chk_nil, _, rfl, fun R hR => ?_⟩
    simp only [sSeq, sRet, sRetN, sIf, sAsg, sExpr, sNx, sBk, sCt, sNever, sRaise, sRaiseF, sFor, sSub, wAndV, wOrV, wNotV, wAndT, wOrT, wNotT, wTru, wCmpT, wChT, wChV, wBin, wUn, wVar, wC, wCons, wNil, wTup, wIfE, wIsi, wFn, wQf, qLst, qOf, wCall, wCall0, wLc, wYes, iOf, iR1, iR2, iEn, iHid, wNew, wLst, wSl, wNoP, wP, ex_ss, ex_some, ex_eq, ex_int, ex_two, startD, List.map_cons, List.map_nil, List.length_cons, List.length_nil, List.replicate, List.cons_append, List.nil_append, List.getElem?_cons_zero, List.getElem?_cons_succ, List.set_cons_zero, List.set_cons_succ, wipeD, asg_nm, asg_tp, asgs_nil, asgs_cons, Option.bind_some, tru_bl, tru_int, tru_tup, cmpF, cmpD, lt_int, eq_int, eq_str, eq_bl, Option.map_some, sub_int, add_int, add_tup, fdiv_int, mod_int, pow_int, shl_int, shr_int, band_int, mul_int, int_bl, dm_int, max_int, min_int, len_tup, len_fl, Nat.reduceAdd, Nat.reduceSub, if_true, Bool.not_true, Bool.not_false, Bool.false_eq_true, if_false, tupF, allF, anyF, lenQF, Nat.zero_add, Nat.sub_self]
    refine ⟨.inl ⟨by decide, by decide⟩, ?_⟩
    intro q1 hq1
    have s1 : Sub S (put S' q1 (.lst [.int 0])) := Sub.put2 hS (hS.none hq1)
    refine add_fr put_same (small (by simp only [List.length_map, List.length_cons, List.length_nil]; omega)) ?_
    intro q2 hq2
    have s2 := Sub.put2 (o := .lst (ns.map D.int ++ [D.int 0])) s1 (s1.none hq2)
    obtain ⟨c, hc0⟩ := head_int (xs := ns) (y := 0)
    rw [ix_ref put_same hc0]
    simp only [sSeq, sRet, sRetN, sIf, sAsg, sExpr, sNx, sBk, sCt, sNever, sRaise, sRaiseF, sFor, sSub, wAndV, wOrV, wNotV, wAndT, wOrT, wNotT, wTru, wCmpT, wChT, wChV, wBin, wUn, wVar, wC, wCons, wNil, wTup, wIfE, wIsi, wFn, wQf, qLst, qOf, wCall, wCall0, wLc, wYes, iOf, iR1, iR2, iEn, iHid, wNew, wLst, wSl, wNoP, wP, ex_ss, ex_some, ex_eq, ex_int, ex_two, startD, List.map_cons, List.map_nil, List.length_cons, List.length_nil, List.replicate, List.cons_append, List.nil_append, List.getElem?_cons_zero, List.getElem?_cons_succ, List.set_cons_zero, List.set_cons_succ, wipeD, asg_nm, asg_tp, asgs_nil, asgs_cons, Option.bind_some, tru_bl, tru_int, tru_tup, cmpF, cmpD, lt_int, eq_int, eq_str, eq_bl, Option.map_some, sub_int, add_int, add_tup, fdiv_int, mod_int, pow_int, shl_int, shr_int, band_int, mul_int, int_bl, dm_int, max_int, min_int, len_tup, len_fl, Nat.reduceAdd, Nat.reduceSub, if_true, Bool.not_true, Bool.not_false, Bool.false_eq_true, if_false, tupF, allF, anyF, lenQF, Nat.zero_add, Nat.sub_self, ten25, ten60]
    refine ⟨.inl ⟨by decide, by decide⟩, call_mixed fun m1 _ _ => ?_⟩
    simp only [sSeq, sRet, sRetN, sIf, sAsg, sExpr, sNx, sBk, sCt, sNever, sRaise, sRaiseF, sFor, sSub, wAndV, wOrV, wNotV, wAndT, wOrT, wNotT, wTru, wCmpT, wChT, wChV, wBin, wUn, wVar, wC, wCons, wNil, wTup, wIfE, wIsi, wFn, wQf, qLst, qOf, wCall, wCall0, wLc, wYes, iOf, iR1, iR2, iEn, iHid, wNew, wLst, wSl, wNoP, wP, ex_ss, ex_some, ex_eq, ex_int, ex_two, startD, List.map_cons, List.map_nil, List.length_cons, List.length_nil, List.replicate, List.cons_append, List.nil_append, List.getElem?_cons_zero, List.getElem?_cons_succ, List.set_cons_zero, List.set_cons_succ, wipeD, asg_nm, asg_tp, asgs_nil, asgs_cons, Option.bind_some, tru_bl, tru_int, tru_tup, cmpF, cmpD, lt_int, eq_int, eq_str, eq_bl, Option.map_some, sub_int, add_int, add_tup, fdiv_int, mod_int, pow_int, shl_int, shr_int, band_int, mul_int, int_bl, dm_int, max_int, min_int, len_tup, len_fl, Nat.reduceAdd, Nat.reduceSub, if_true, Bool.not_true, Bool.not_false, Bool.false_eq_true, if_false, tupF, allF, anyF, lenQF, Nat.zero_add, Nat.sub_self, ten25, ten60]
    refine ⟨pow25, ⟨by decide, by decide +kernel⟩, pow60, .inr (.inr ⟨hf, by decide +kernel⟩), ?_⟩
    refine ⟨_, rfl, ?_⟩
    intro q3 hq3
    obtain ⟨xs, ex, lx⟩ := cut_map (ns := ns) (a := some t) (b := some (t + 1))
    rw [ex] at *
    have s3 := Sub.put2 (o := .lst (xs.map D.int)) s2 (s2.none hq3)
    intro q4 hq4
    have s4 := Sub.put2 (o := .lst [.int (m1 / 10 ^ 25)]) s3 (s3.none hq4)
    have h34 : q3 ≠ q4 := fun e => by rw [← e, put_same] at hq4; cases hq4
    refine add_rr (l := xs.map D.int) (m := [.int (m1 / 10 ^ 25)]) (by rw [put_ne h34, put_same]) put_same (small (by simp only [List.length_map, List.length_cons, List.length_nil]; omega)) ?_
    intro q5 hq5
    have s5 := Sub.put2 (o := .lst (xs.map D.int ++ [.int (m1 / 10 ^ 25)])) s4 (s4.none hq5)
    obtain ⟨c2, hc2⟩ := head_int (xs := xs) (y := m1 / 10 ^ 25)
    rw [ix_ref put_same hc2]
    refine call_mixed fun m2 m20 m21 => ?_
    simp only [sSeq, sRet, sRetN, sIf, sAsg, sExpr, sNx, sBk, sCt, sNever, sRaise, sRaiseF, sFor, sSub, wAndV, wOrV, wNotV, wAndT, wOrT, wNotT, wTru, wCmpT, wChT, wChV, wBin, wUn, wVar, wC, wCons, wNil, wTup, wIfE, wIsi, wFn, wQf, qLst, qOf, wCall, wCall0, wLc, wYes, iOf, iR1, iR2, iEn, iHid, wNew, wLst, wSl, wNoP, wP, ex_ss, ex_some, ex_eq, ex_int, ex_two, startD, List.map_cons, List.map_nil, List.length_cons, List.length_nil, List.replicate, List.cons_append, List.nil_append, List.getElem?_cons_zero, List.getElem?_cons_succ, List.set_cons_zero, List.set_cons_succ, wipeD, asg_nm, asg_tp, asgs_nil, asgs_cons, Option.bind_some, tru_bl, tru_int, tru_tup, cmpF, cmpD, lt_int, eq_int, eq_str, eq_bl, Option.map_some, sub_int, add_int, add_tup, fdiv_int, mod_int, pow_int, shl_int, shr_int, band_int, mul_int, int_bl, dm_int, max_int, min_int, len_tup, len_fl, Nat.reduceAdd, Nat.reduceSub, if_true, Bool.not_true, Bool.not_false, Bool.false_eq_true, if_false, tupF, allF, anyF, lenQF, Nat.zero_add, Nat.sub_self]
    refine hR _ _ ⟨s5, _, _, _, rfl, ?_⟩
    rcases hds with ⟨rfl, rfl⟩ | rfl
    · exact .inr (.inl ⟨rfl, by omega, by omega⟩)
    · exact .inr (.inr rfl)
  · rintro ρ S' ⟨hS, f, u, v, rfl, hc⟩
    refine ⟨chk_nil, ?_⟩
    simp only [sSeq, sRet, sRetN, sIf, sAsg, sExpr, sNx, sBk, sCt, sNever, sRaise, sRaiseF, sFor, sSub, wAndV, wOrV, wNotV, wAndT, wOrT, wNotT, wTru, wCmpT, wChT, wChV, wBin, wUn, wVar, wC, wCons, wNil, wTup, wIfE, wIsi, wFn, wQf, qLst, qOf, wCall, wCall0, wLc, wYes, iOf, iR1, iR2, iEn, iHid, wNew, wLst, wSl, wNoP, wP, ex_ss, ex_some, ex_eq, ex_int, ex_two, startD, List.map_cons, List.map_nil, List.length_cons, List.length_nil, List.replicate, List.cons_append, List.nil_append, List.getElem?_cons_zero, List.getElem?_cons_succ, List.set_cons_zero, List.set_cons_succ, wipeD, asg_nm, asg_tp, asgs_nil, asgs_cons, Option.bind_some, tru_bl, tru_int, tru_tup, cmpF, cmpD, lt_int, eq_int, eq_str, eq_bl, Option.map_some, sub_int, add_int, add_tup, fdiv_int, mod_int, pow_int, shl_int, shr_int, band_int, mul_int, int_bl, dm_int, max_int, min_int, len_tup, len_fl, Nat.reduceAdd, Nat.reduceSub, if_true, Bool.not_true, Bool.not_false, Bool.false_eq_true, if_false, tupF, allF, anyF, lenQF, Nat.zero_add, Nat.sub_self]
    intro q hq
    exact hr q f _ (hS.none hq) (fun b o e => by
      unfold put at e ⊢
      split at e
      · next z => rw [if_pos z]; exact e
      · next z => rw [if_neg z]; exact hS b o e)
theorem call_pack {S0 S : Sto} {ns : List Int} {k : Int} {Q : D → Sto → Prop} {E : QX} (hS : Sub S0 S) (hn : ns.length ≤ 900) (k0 : 0 ≤ k) (k1 : k ≤ 1000) (q : ∀ p S', S0 p = none → At S0 p S' → Q (.ref p) S') : callS sp_law_pack [scr ns, .int k] S Q E := by
  refine ⟨⟨ns, k, rfl, hn, k0, k1⟩, ?_, fun _ _ z => z.elim⟩
  rintro d S' ⟨p, n, hp, rfl, rfl⟩
  have := sub_pack (n := n) hS hp
  exact q p _ this.2 this.1
end Ow

namespace Ow
open PySem PySem.Spec PyProof.Rows L2
theorem kinds3 {x : D} (h : x ∈ ([.str "whole", .str "either", .str "torn"] : List D)) : ∃ z : Str, x = .str z ∧ isKd (.str z) = true := by
  simp only [List.mem_cons, List.not_mem_nil, or_false] at h
  rcases h with rfl | rfl | rfl
  · exact ⟨_, rfl, rfl⟩
  · exact ⟨_, rfl, by decide⟩
  · exact ⟨_, rfl, by decide⟩
theorem Sub.tr {S0 S1 S2 : Sto} (h : Sub S0 S1) (h' : Sub S1 S2) : Sub S0 S2 := fun a o e => h' a o (h a o e)
end Ow

namespace Ow
open PySem PySem.Spec PyProof.Rows L2
theorem knds_map {S : Sto} {α : Type} {f : α → D} (h : ∀ x, knd S (f x) = true) : ∀ l : List α, knds S (l.map f) = true
  | [] => rfl
  | x :: l => by simp only [List.map_cons, knds, h x, knds_map h l]; rfl
theorem knd_bx {S : Sto} (b : Bx) : knd S b.d = true := rfl
/-- a def that raises a class or hands something back; the store stays -/
def xR (pre : List D → Sto → Prop) (fl : List D → Sto → Option Str → Prop) (po : List D → Sto → D → Prop) : Spec :=
  { pre := pre, post := fun ds S d S' => S' = S ∧ fl ds S none ∧ po ds S d, exc := fun ds S x S' => S' = S ∧ x.arg = none ∧ fl ds S (some x.cls) }
section
variable {pre : List D → Sto → Prop} {fl : List D → Sto → Option Str → Prop} {po : List D → Sto → D → Prop} {ds : List D} {S : Sto} {Q : D → Sto → Prop} {E : QX}
theorem callS_xR (h : pre ds S) (hf : ∀ o, fl ds S o ↔ o = none) {d0 : D} (h0 : po ds S d0) (h1 : ∀ d, po ds S d → d = d0) : callS (xR pre fl po) ds S Q E ↔ Q d0 S := by
  refine ⟨fun z => z.2.1 d0 S ⟨rfl, (hf _).mpr rfl, h0⟩, fun q => ⟨h, ?_, ?_⟩⟩
  · rintro d S' ⟨e1, _, e3⟩
    rw [e1, h1 d e3]
    exact q
  · rintro x S' ⟨_, _, e3⟩
    cases (hf _).mp e3
theorem callS_xRx (h : pre ds S) {c : Str} (hf : ∀ o, fl ds S o ↔ o = some c) : callS (xR pre fl po) ds S Q E ↔ E ⟨c, none⟩ S := by
  refine ⟨fun z => z.2.2 ⟨c, none⟩ S ⟨rfl, rfl, (hf _).mpr rfl⟩, fun q => ⟨h, ?_, ?_⟩⟩
  · rintro d S' ⟨_, e2, _⟩
    cases (hf _).mp e2
  · rintro ⟨xc, xa⟩ S' ⟨e1, e2, e3⟩
    have e4 := (hf _).mp e3
    simp only at e2 e4
    cases e4
    subst e2 e1
    exact q
theorem ok_xR {N : List Str} {n : Nat} {t : WS} (h : ∀ ds S, pre ds S → ∀ Nx : Nd, (fl ds S none → ∀ d, po ds S d → ∀ S', Sub S S' → Nx.rt d S') → (fl ds S none → po ds S .non → ∀ ρ S', Sub S S' → Nx.nx ρ S') → (∀ c, fl ds S (some c) → ∀ ρ S', Sub S S' → Nx.xc ⟨c, none⟩ ρ S') → t Nx (startD N ds) S) :
    BodyOk N n (xR pre fl po) t := fun ds S _ hp => h ds S hp _ (fun hf d hd S' hs => ⟨S, hs, rfl, hf, hd⟩) (fun hf hd ρ S' hs => ⟨S, hs, rfl, hf, hd⟩) fun c hf ρ S' hs => ⟨S, hs, rfl, rfl, hf⟩
end
theorem btw_yes {i lo hi : Int} (h0 : lo ≤ i) (h1 : i ≤ hi) : btw (.int i) lo hi = true := by
  simp only [btw_int, Bool.and_eq_true, decide_eq_true_eq]
  exact ⟨h0, h1⟩
end Ow

namespace Ow
open PySem PySem.Spec PyProof.Rows L2
def spPut : Spec := { pre := fun ds _ => ∃ (l : List D) (i : Int) (x : D), ds = [.tup l, .int i, x] ∧ 0 ≤ i ∧ i < l.length ∧ l.length ≤ 900, post := fun ds S d S' => S' = S ∧ ∀ (l : List D) (i : Int) (x : D), ds = [.tup l, .int i, x] → d = .tup (l.set i.toNat x) }
def sp_law_put : Spec := spPut
def t_put_in : WS :=
  sSeq (sRet (wBin addF (wBin addF (wSl (wVar 0) (wNoP) (wP (wVar 1))) (wTup (wCons (wVar 2) (wNil)))) (wSl (wVar 0) (wP (wBin addF (wVar 1) (wC (.int 1)))) (wNoP)))) sNx
theorem call_put {S : Sto} {Q : D → Sto → Prop} {E : QX} {l : List D} {i : Int} {x : D} (h0 : 0 ≤ i) (h1 : i < l.length) (hl : l.length ≤ 900) : callS spPut [.tup l, .int i, x] S Q E ↔ Q (.tup (l.set i.toNat x)) S :=
  ⟨fun z => z.2.1 _ S ⟨rfl, fun l' i' x' e => by cases e; rfl⟩, fun q => ⟨⟨l, i, x, rfl, h0, h1, hl⟩, fun r S' ⟨e1, e2⟩ => by rw [e1, e2 l i x rfl]; exact q, fun _ _ z => z.elim⟩⟩
theorem ok_put_any : BodyOk ["some", "at", "thing"] 3 spPut t_put_in := by
  rintro _ S _ ⟨l, i, x, rfl, h0, h1, hl⟩
  have hr : (ndOf spPut [.tup l, .int i, x] S).rt (.tup (l.set i.toNat x)) S := ⟨S, Sub.refl, rfl, fun l' i' x' e => by cases e; rfl⟩
  generalize ndOf spPut [.tup l, .int i, x] S = Nx at hr
  have e : cutD l none (some i) ++ [x] ++ cutD l (some (i + 1)) none = l.set i.toNat x := by
    rw [cutD_to h0 (by omega), cutD_from (by omega) (by omega), show (i + 1).toNat = i.toNat + 1 by omega, set_cut (by omega)]
  have el := congrArg List.length e
  rw [List.length_append, List.length_append, List.length_set] at el
  simp only [t_put_in, sSeq, sRet, sRetN, sIf, sAsg, sExpr, sNx, sBk, sCt, sNever, sRaise, sRaiseF, sFor, sSub, wAndV, wOrV, wNotV, wAndT, wOrT, wNotT, wTru, wCmpT, wChT, wChV, wBin, wUn, wVar, wC, wCons, wNil, wTup, wIfE, wIsi, wFn, wQf, qLst, qOf, wCall, wCall0, wLc, wYes, iOf, iR1, iR2, iEn, iHid, wNew, wLst, wSl, wNoP, wP, ex_ss, ex_some, ex_eq, ex_int, ex_two, startD, List.map_cons, List.map_nil, List.length_cons, List.length_nil, List.replicate, List.cons_append, List.nil_append, List.getElem?_cons_zero, List.getElem?_cons_succ, List.set_cons_zero, List.set_cons_succ, wipeD, asg_nm, asg_tp, asgs_nil, asgs_cons, Option.bind_some, tru_bl, tru_int, tru_tup, cmpF, cmpD, lt_int, eq_int, eq_str, eq_bl, Option.map_some, sub_int, add_int, add_tup, fdiv_int, mod_int, pow_int, shl_int, shr_int, band_int, mul_int, int_bl, dm_int, max_int, min_int, len_tup, len_fl, Nat.reduceAdd, Nat.reduceSub, if_true, Bool.not_true, Bool.not_false, Bool.false_eq_true, if_false, tupF, allF, anyF, lenQF, Nat.zero_add, Nat.sub_self, sl_tup]
  refine ⟨small (by omega), small (by rw [List.length_append]; omega), ?_⟩
  rw [e]
  exact hr
def t_law_put : WS :=
  sSeq (sRet (wBin addF (wBin addF (wSl (wVar 0) (wNoP) (wP (wVar 1))) (wTup (wCons (wVar 2) (wNil)))) (wSl (wVar 0) (wP (wBin addF (wVar 1) (wC (.int 1)))) (wNoP)))) sNx
theorem ok_law_put : BodyOk ["_law_some", "_law_at", "_law_one"] 3 sp_law_put t_law_put := ok_put_any
def nxt (p : Pg) (pl : Int) : Int := if pl = p.rows.length then 0 else pl + 1
/-- a standing: the hands' spots, the boxes' values -/
structure Sd where
  spots : List Int
  vals : List Int
def Sd.d (s : Sd) : D := .tup [.tup (s.spots.map .int), .tup (s.vals.map .int)]
/-- a spot of a program: even, or behind a write of a box that isn't whole -/
def SpotOk (bs : List Bx) (p : Pg) (s : Int) : Prop := 0 ≤ s ∧ s ≤ 2 * p.rows.length + 1 ∧ s ≠ 1 ∧ (s % 2 = 1 → ∃ b v bx, p.rows[(s / 2 - 1).toNat]? = some (.wr b v) ∧ bs[b.toNat]? = some bx ∧ bx.kind ≠ "whole")
structure Sd.ok (w : Wy) (s : Sd) : Prop where
  n : s.spots.length = w.hands.length
  m : s.vals.length = w.boxes.length
  sp : ∀ (i : Nat) (p : Pg) (x : Int), w.hands[i]? = some p → s.spots[i]? = some x → SpotOk w.boxes p x
  va : ∀ (i : Nat) (b : Bx) (x : Int), w.boxes[i]? = some b → s.vals[i]? = some x → 0 ≤ x ∧ x < b.size
def wnow (box : Int) : List Pg → List Int → Option Int
  | p :: hs, x :: xs => if x % 2 = 1 then (match p.rows[(x / 2 - 1).toNat]? with
      | some (.wr b v) => if b = box then some v else wnow box hs xs
      | _ => wnow box hs xs) else wnow box hs xs
  | _, _ => none
def optD : Option Int → D
  | some i => .int i
  | none => .non
theorem pairD_cons {a b : D} {l m : List D} : pairD (a :: l) (b :: m) = .tup [a, b] :: pairD l m := by
  unfold pairD
  rw [List.length_cons, List.length_cons, Nat.add_min_add_right, List.range_succ_eq_map, List.map_cons, List.map_map]
  rfl
def two (a b : Int) : List Int := if a = b then [a] else if a < b then [a, b] else [b, a]
theorem two_one {a b : Int} {ns : List Int} (h : ns.Pairwise (· < ·)) (hm : ∀ k, k ∈ ns ↔ k ∈ [a, b]) : ns = two a b := by
  have uniq : ∀ {l m : List Int}, l.Pairwise (· < ·) → m.Pairwise (· < ·) → (∀ k, k ∈ l ↔ k ∈ m) → l = m := fun {l m} hl hm h => by
    have nl : l.Nodup := hl.imp fun z => by omega
    have nm : m.Nodup := hm.imp fun z => by omega
    have pm : l.Perm m := (List.perm_ext_iff_of_nodup nl nm).mpr h
    have l1 : l.Pairwise (· ≤ ·) := hl.imp fun z => by omega
    have m1 : m.Pairwise (· ≤ ·) := hm.imp fun z => by omega
    exact pm.eq_of_pairwise (fun a b _ _ h1 h2 => by omega) l1 m1
  unfold two
  split
  · next e => subst e; exact uniq h (by simp) (fun k => by simp [hm])
  · split
    · exact uniq h (by simp; omega) hm
    · exact uniq h (by simp; omega) (fun k => by rw [hm]; simp; exact Or.comm)
def vAt (s : Sd) (b : Int) : Int := s.vals.getD b.toNat 0
def told (w : Wy) (s : Sd) (b : Int) : List Int := match w.boxes[b.toNat]?, wnow b w.hands s.spots with
  | some bx, some c => if bx.kind = "torn" then (List.range bx.size.toNat).map fun i => ((i : Nat) : Int) else two (vAt s b) c
  | _, _ => [vAt s b]
theorem Sd.injD {a b : Sd} (h : a.d = b.d) : a = b := by
  obtain ⟨a1, a2⟩ := a
  obtain ⟨b1, b2⟩ := b
  simp only [Sd.d, D.tup.injEq, List.cons.injEq, and_true] at h
  rw [map_int_inj h.1, map_int_inj h.2]
/-- a def that hands back a new list -/
def nwF (α : Type) (enc : α → List D) (pre : α → Prop) (g : α → List D) : Spec := { pre := fun ds _ => ∃ x, ds = enc x ∧ pre x, post := fun ds S d S' => ∃ p, S p = none ∧ d = .ref p ∧ ∀ x, ds = enc x → S' = put S p (.lst (g x)) }
theorem callS_nw {α : Type} {enc : α → List D} {pre : α → Prop} {g : α → List D} {x : α} {ds : List D} {S : Sto} {Q : D → Sto → Prop} {E : QX} (e : ds = enc x) (h : pre x) (q : newL (g x) S Q) : callS (nwF α enc pre g) ds S Q E := by
  subst e
  refine ⟨⟨x, rfl, h⟩, ?_, fun _ _ z => z.elim⟩
  rintro d S' ⟨p, hp, rfl, e⟩
  rw [e x rfl]
  exact q p hp
theorem ok_nw {α : Type} {enc : α → List D} {pre : α → Prop} {g : α → List D} (inj : ∀ a b, enc a = enc b → a = b) {N : List Str} {n : Nat} {t : WS} (h : ∀ x S, pre x → ∀ Nx : Nd, (∀ p S', S p = none → Sub (put S p (.lst (g x))) S' → Nx.rt (.ref p) S') → t Nx (startD N (enc x)) S) : BodyOk N n (nwF α enc pre g) t := by
  rintro _ S _ ⟨x, rfl, hp⟩
  exact h x S hp _ fun p S' h1 h2 => ⟨_, h2, p, h1, rfl, fun y hy => by rw [inj _ _ hy]⟩
end Ow

namespace Ow
open PySem PySem.Spec PyProof.Rows L2
theorem for_map {α : Type} {chk : Sto → Prop} {tg : Tg} {body : WS} {N : Nd} (enc : α → D) (I : List α → En → Sto → Prop)
    (hs : ∀ x xs ρ S, I (x :: xs) ρ S → chk S ∧ ∃ ρ1, asg tg (enc x) ρ = some ρ1 ∧ ∀ R : En → Sto → Prop, (∀ ρ S, I xs ρ S → R ρ S) → body { N with nx := R, ct := R, bk := N.nx } ρ1 S)
    (hd : ∀ ρ S, I [] ρ S → chk S ∧ N.nx ρ S) : ∀ {l : List α} {ρ : En} {S : Sto}, I l ρ S → forGo chk tg body N (l.map enc) ρ S
  | [], ρ, S, h => hd ρ S h
  | x :: l, ρ, S, h => by
    obtain ⟨hc, ρ1, e, q⟩ := hs x l ρ S h
    exact ⟨hc, ρ1, e, q _ fun ρ S h => for_map enc I hs hd h⟩
theorem for_rng {chk : Sto → Prop} {tg : Tg} {body : WS} {N : Nd} {hi : Int} (I : Int → En → Sto → Prop)
    (hs : ∀ k ρ S, k < hi → I k ρ S → chk S ∧ ∃ ρ1, asg tg (.int k) ρ = some ρ1 ∧ ∀ R : En → Sto → Prop, (∀ ρ S, I (k + 1) ρ S → R ρ S) → body { N with nx := R, ct := R, bk := N.nx } ρ1 S)
    (hd : ∀ ρ S, I hi ρ S → chk S ∧ N.nx ρ S) {lo : Int} (hl : lo ≤ hi) {ρ : En} {S : Sto} (h : I lo ρ S) : forGo chk tg body N (rngD lo hi) ρ S := by
  have go : ∀ (n : Nat) (lo : Int) (ρ : En) (S : Sto), (hi - lo).toNat = n → lo ≤ hi → I lo ρ S → forGo chk tg body N (rngD lo hi) ρ S := by
    intro n
    induction n with
    | zero =>
      intro lo ρ S e hl h
      have : lo = hi := by omega
      subst this
      rw [rng_nil (by omega)]
      exact hd ρ S h
    | succ n ih =>
      intro lo ρ S e hl h
      have hlt : lo < hi := by omega
      rw [rng_cons hlt]
      obtain ⟨hc, ρ1, e1, q⟩ := hs lo ρ S hlt h
      exact ⟨hc, ρ1, e1, q _ fun ρ S h => ih (lo + 1) ρ S (by omega) (by omega) h⟩
  exact go _ lo ρ S rfl hl h
class Enc (α : Type) where
  e : α → D
  inj : ∀ a b, e a = e b → a = b
instance : Enc Int := ⟨.int, fun _ _ h => by cases h; rfl⟩
instance : Enc D := ⟨fun d => d, fun _ _ h => h⟩
instance : Enc Wy := ⟨Wy.d, fun _ _ h => Wy.injD h⟩
instance : Enc Sd := ⟨Sd.d, fun _ _ h => Sd.injD h⟩
instance : Enc Pg := ⟨Pg.d, fun _ _ h => Pg.injD h⟩
instance : Enc (List Bx) := ⟨bxs, fun _ _ h => Bx.inj (D.tup.inj h)⟩
instance : Enc (List Pg) := ⟨hds, fun _ _ h => map_inj (fun _ _ => Pg.injD) (D.tup.inj h)⟩
instance : Enc (List Int) := ⟨fun l => .tup (l.map .int), fun _ _ h => map_int_inj (D.tup.inj h)⟩
section
variable {α β γ δ : Type} [Enc α] [Enc β] [Enc γ] [Enc δ]
def en1 (a : α) : List D := [Enc.e a]
def en2 (x : α × β) : List D := [Enc.e x.1, Enc.e x.2]
def en3 (x : α × β × γ) : List D := [Enc.e x.1, Enc.e x.2.1, Enc.e x.2.2]
def en4 (x : α × β × γ × δ) : List D := [Enc.e x.1, Enc.e x.2.1, Enc.e x.2.2.1, Enc.e x.2.2.2]
theorem en1_inj (a b : α) (h : en1 a = en1 b) : a = b := by
  simp only [en1, List.cons.injEq, and_true] at h
  exact Enc.inj _ _ h
theorem en2_inj (a b : α × β) (h : en2 a = en2 b) : a = b := by
  obtain ⟨a1, a2⟩ := a
  obtain ⟨b1, b2⟩ := b
  simp only [en2, List.cons.injEq, and_true] at h
  rw [Enc.inj _ _ h.1, Enc.inj _ _ h.2]
theorem en3_inj (a b : α × β × γ) (h : en3 a = en3 b) : a = b := by
  obtain ⟨a1, a2, a3⟩ := a
  obtain ⟨b1, b2, b3⟩ := b
  simp only [en3, List.cons.injEq, and_true] at h
  rw [Enc.inj _ _ h.1, Enc.inj _ _ h.2.1, Enc.inj _ _ h.2.2]
theorem en4_inj (a b : α × β × γ × δ) (h : en4 a = en4 b) : a = b := by
  obtain ⟨a1, a2, a3, a4⟩ := a
  obtain ⟨b1, b2, b3, b4⟩ := b
  simp only [en4, List.cons.injEq, and_true] at h
  rw [Enc.inj _ _ h.1, Enc.inj _ _ h.2.1, Enc.inj _ _ h.2.2.1, Enc.inj _ _ h.2.2.2]
def sp1 (pre : α → Sto → Prop) (g : α → Sto → D) : Spec := stR α en1 pre g
def sp2 (pre : α → β → Sto → Prop) (g : α → β → Sto → D) : Spec := stR (α × β) en2 (fun x => pre x.1 x.2) fun x => g x.1 x.2
def sp3 (pre : α → β → γ → Sto → Prop) (g : α → β → γ → Sto → D) : Spec := stR (α × β × γ) en3 (fun x => pre x.1 x.2.1 x.2.2) fun x => g x.1 x.2.1 x.2.2
def sp4 (pre : α → β → γ → δ → Sto → Prop) (g : α → β → γ → δ → Sto → D) : Spec := stR (α × β × γ × δ) en4 (fun x => pre x.1 x.2.1 x.2.2.1 x.2.2.2) fun x => g x.1 x.2.1 x.2.2.1 x.2.2.2
variable {S : Sto} {Q : D → Sto → Prop} {E : QX}
theorem call1 {pre : α → Sto → Prop} {g : α → Sto → D} (a : α) (h : pre a S) : callS (sp1 pre g) [Enc.e a] S Q E ↔ Q (g a S) S := callS_st (x := a) en1_inj rfl h
theorem call2 {pre : α → β → Sto → Prop} {g : α → β → Sto → D} (a : α) (b : β) (h : pre a b S) : callS (sp2 pre g) [Enc.e a, Enc.e b] S Q E ↔ Q (g a b S) S := callS_st (x := (a, b)) en2_inj rfl h
theorem call3 {pre : α → β → γ → Sto → Prop} {g : α → β → γ → Sto → D} (a : α) (b : β) (c : γ) (h : pre a b c S) : callS (sp3 pre g) [Enc.e a, Enc.e b, Enc.e c] S Q E ↔ Q (g a b c S) S := callS_st (x := (a, b, c)) en3_inj rfl h
theorem call4 {pre : α → β → γ → δ → Sto → Prop} {g : α → β → γ → δ → Sto → D} (a : α) (b : β) (c : γ) (d : δ) (h : pre a b c d S) : callS (sp4 pre g) [Enc.e a, Enc.e b, Enc.e c, Enc.e d] S Q E ↔ Q (g a b c d S) S := callS_st (x := (a, b, c, d)) en4_inj rfl h
variable {N : List Str} {n : Nat} {t : WS}
theorem ok1 {pre : α → Sto → Prop} {g : α → Sto → D} (h : ∀ a S, pre a S → ∀ Nx : Nd, (∀ S', Sub S S' → Nx.rt (g a S) S') → (g a S = .non → ∀ ρ S', Sub S S' → Nx.nx ρ S') → t Nx (startD N [Enc.e a]) S) : BodyOk N n (sp1 pre g) t := ok_st en1_inj h
theorem ok2 {pre : α → β → Sto → Prop} {g : α → β → Sto → D} (h : ∀ a b S, pre a b S → ∀ Nx : Nd, (∀ S', Sub S S' → Nx.rt (g a b S) S') → (g a b S = .non → ∀ ρ S', Sub S S' → Nx.nx ρ S') → t Nx (startD N [Enc.e a, Enc.e b]) S) : BodyOk N n (sp2 pre g) t := ok_st en2_inj fun x => h x.1 x.2
theorem ok3 {pre : α → β → γ → Sto → Prop} {g : α → β → γ → Sto → D} (h : ∀ a b c S, pre a b c S → ∀ Nx : Nd, (∀ S', Sub S S' → Nx.rt (g a b c S) S') → (g a b c S = .non → ∀ ρ S', Sub S S' → Nx.nx ρ S') → t Nx (startD N [Enc.e a, Enc.e b, Enc.e c]) S) : BodyOk N n (sp3 pre g) t := ok_st en3_inj fun x => h x.1 x.2.1 x.2.2
theorem ok4 {pre : α → β → γ → δ → Sto → Prop} {g : α → β → γ → δ → Sto → D} (h : ∀ a b c d S, pre a b c d S → ∀ Nx : Nd, (∀ S', Sub S S' → Nx.rt (g a b c d S) S') → (g a b c d S = .non → ∀ ρ S', Sub S S' → Nx.nx ρ S') → t Nx (startD N [Enc.e a, Enc.e b, Enc.e c, Enc.e d]) S) : BodyOk N n (sp4 pre g) t := ok_st en4_inj fun x => h x.1 x.2.1 x.2.2.1 x.2.2.2
def nw2 (pre : α → β → Prop) (g : α → β → List D) : Spec := nwF (α × β) en2 (fun x => pre x.1 x.2) fun x => g x.1 x.2
def nw3 (pre : α → β → γ → Prop) (g : α → β → γ → List D) : Spec := nwF (α × β × γ) en3 (fun x => pre x.1 x.2.1 x.2.2) fun x => g x.1 x.2.1 x.2.2
theorem callN2 {pre : α → β → Prop} {g : α → β → List D} (a : α) (b : β) (h : pre a b) (q : newL (g a b) S Q) : callS (nw2 pre g) [Enc.e a, Enc.e b] S Q E := callS_nw (x := (a, b)) rfl h q
theorem callN3 {pre : α → β → γ → Prop} {g : α → β → γ → List D} (a : α) (b : β) (c : γ) (h : pre a b c) (q : newL (g a b c) S Q) : callS (nw3 pre g) [Enc.e a, Enc.e b, Enc.e c] S Q E := callS_nw (x := (a, b, c)) rfl h q
theorem okN2 {pre : α → β → Prop} {g : α → β → List D} (h : ∀ a b S, pre a b → ∀ Nx : Nd, (∀ p S', S p = none → Sub (put S p (.lst (g a b))) S' → Nx.rt (.ref p) S') → t Nx (startD N [Enc.e a, Enc.e b]) S) : BodyOk N n (nw2 pre g) t := ok_nw en2_inj fun x => h x.1 x.2
theorem okN3 {pre : α → β → γ → Prop} {g : α → β → γ → List D} (h : ∀ a b c S, pre a b c → ∀ Nx : Nd, (∀ p S', S p = none → Sub (put S p (.lst (g a b c))) S' → Nx.rt (.ref p) S') → t Nx (startD N [Enc.e a, Enc.e b, Enc.e c]) S) : BodyOk N n (nw3 pre g) t := ok_nw en3_inj fun x => h x.1 x.2.1 x.2.2
end
section
variable {S : Sto} {Q : D → Sto → Prop} {w : Wy} {s : Sd} {p : Pg} {b : Bx} {hs : List Pg} {bs : List Bx} {ρ : En} {t1 t2 t3 t4 : Tg} {x y : Int} {ns : List Int}
theorem ix_w0 : ixF w.d (.int 0) S Q ↔ Q (bxs w.boxes) S := ix_tup rfl
theorem ix_w1 : ixF w.d (.int 1) S Q ↔ Q (hds w.hands) S := ix_tup rfl
theorem ix_s0 : ixF s.d (.int 0) S Q ↔ Q (.tup (s.spots.map .int)) S := ix_tup rfl
theorem ix_s1 : ixF s.d (.int 1) S Q ↔ Q (.tup (s.vals.map .int)) S := ix_tup rfl
theorem ix_p0 : ixF p.d (.int 0) S Q ↔ Q (.int p.door) S := ix_tup rfl
theorem ix_p1 : ixF p.d (.int 1) S Q ↔ Q (.int p.within) S := ix_tup rfl
theorem ix_p2 : ixF p.d (.int 2) S Q ↔ Q (.tup (p.rows.map Rw.d)) S := ix_tup rfl
theorem ix_b0 : ixF b.d (.int 0) S Q ↔ Q (.str b.kind) S := ix_tup rfl
theorem ix_b1 : ixF b.d (.int 1) S Q ↔ Q (.int b.size) S := ix_tup rfl
theorem ix_b2 : ixF b.d (.int 2) S Q ↔ Q (.int b.start) S := ix_tup rfl
theorem ix_wr0 : ixF (Rw.wr x y).d (.int 0) S Q ↔ Q (.str "write") S := ix_tup rfl
theorem ix_wr1 : ixF (Rw.wr x y).d (.int 1) S Q ↔ Q (.int x) S := ix_tup rfl
theorem ix_wr2 : ixF (Rw.wr x y).d (.int 2) S Q ↔ Q (.int y) S := ix_tup rfl
theorem ix_lk0 : ixF (Rw.lk x ns y).d (.int 0) S Q ↔ Q (.str "look") S := ix_tup rfl
theorem ix_lk1 : ixF (Rw.lk x ns y).d (.int 1) S Q ↔ Q (.int x) S := ix_tup rfl
theorem ix_lk2 : ixF (Rw.lk x ns y).d (.int 2) S Q ↔ Q (.tup (ns.map .int)) S := ix_tup rfl
theorem ix_lk3 : ixF (Rw.lk x ns y).d (.int 3) S Q ↔ Q (.int y) S := ix_tup rfl
theorem asg_w : asg (.tp [t1, t2]) w.d ρ = asgs [t1, t2] [bxs w.boxes, hds w.hands] ρ := asg_tp
theorem asg_s : asg (.tp [t1, t2]) s.d ρ = asgs [t1, t2] [.tup (s.spots.map .int), .tup (s.vals.map .int)] ρ := asg_tp
theorem asg_p : asg (.tp [t1, t2, t3]) p.d ρ = asgs [t1, t2, t3] [.int p.door, .int p.within, .tup (p.rows.map Rw.d)] ρ := asg_tp
theorem asg_b : asg (.tp [t1, t2, t3]) b.d ρ = asgs [t1, t2, t3] [.str b.kind, .int b.size, .int b.start] ρ := asg_tp
theorem asg_wr : asg (.tp [t1, t2, t3]) (Rw.wr x y).d ρ = asgs [t1, t2, t3] [.str "write", .int x, .int y] ρ := asg_tp
theorem asg_lk : asg (.tp [t1, t2, t3, t4]) (Rw.lk x ns y).d ρ = asgs [t1, t2, t3, t4] [.str "look", .int x, .tup (ns.map .int), .int y] ρ := asg_tp
theorem len_h : lenF [hds hs] S Q ↔ (hs.length ≤ sizeLine → Q (.int hs.length) S) := by unfold hds; rw [len_tup, List.length_map]
theorem len_b : lenF [bxs bs] S Q ↔ (bs.length ≤ sizeLine → Q (.int bs.length) S) := by unfold bxs; rw [len_tup, List.length_map]
theorem len_map {α : Type} {f : α → D} {l : List α} : lenF [.tup (l.map f)] S Q ↔ (l.length ≤ sizeLine → Q (.int l.length) S) := by rw [len_tup, List.length_map]
theorem src_h : srcA S (hds hs) = some ⟨hs.map Pg.d, []⟩ := rfl
theorem src_b : srcA S (bxs bs) = some ⟨bs.map Bx.d, []⟩ := rfl
theorem srcD_t {l : List D} : srcD S (.tup l) = some ⟨l, []⟩ := rfl
theorem src_t {l : List D} : srcA S (.tup l) = some ⟨l, []⟩ := rfl
theorem sl_h {lo hi : Option Int} : slD (hds hs) lo hi S Q ↔ Q (.tup (cutD (hs.map Pg.d) lo hi)) S := Iff.rfl
theorem sl_b {lo hi : Option Int} : slD (bxs bs) lo hi S Q ↔ Q (.tup (cutD (bs.map Bx.d) lo hi)) S := Iff.rfl
theorem ix_map {α : Type} {f : α → D} {l : List α} {i : Int} {x : α} (h0 : 0 ≤ i) (h : l[i.toNat]? = some x) : ixF (.tup (l.map f)) (.int i) S Q ↔ Q (f x) S := by
  refine ix_tup ?_
  have := atI_nat (l := l.map f) (i := i.toNat) (x := f x) (by rw [List.getElem?_map, h]; rfl)
  rwa [show ((i.toNat : Nat) : Int) = i by omega] at this
end
section
variable {S : Sto} {i : Int} {b : Bool} {x : Str} {l : List D} {o : Option Int}
theorem isi_ib : isiD S (.int i) .bool = some false := rfl
theorem isi_ii : isiD S (.int i) .int = some true := rfl
theorem isi_it : isiD S (.int i) .tuple = some false := rfl
theorem isi_bb : isiD S (.bl b) .bool = some true := rfl
theorem isi_bi : isiD S (.bl b) .int = some true := rfl
theorem isi_tt : isiD S (.tup l) .tuple = some true := rfl
theorem isi_tb : isiD S (.tup l) .bool = some false := rfl
theorem isi_ti : isiD S (.tup l) .int = some false := rfl
theorem isi_ss : isiD S (.str x) .str = some true := rfl
theorem isi_nb : isiD S .non .bool = some false := rfl
theorem isi_ni : isiD S .non .int = some false := rfl
theorem isi_nt : isiD S .non .tuple = some false := rfl
theorem isi_ob : isiD S (optD o) .bool = some false := by cases o <;> rfl
theorem isi_wt {w : Wy} : isiD S w.d .tuple = some true := rfl
theorem isi_sdt {s : Sd} : isiD S s.d .tuple = some true := rfl
end
theorem neg_int {S : Sto} {Q : D → Sto → Prop} {i : Int} : negF (.int i) S Q ↔ Q (.int (-i)) S := ex_int
theorem in_ints {S : Sto} {c : Int} {ns : List Int} : inD S (.int c) (.tup (ns.map .int)) = some (decide (c ∈ ns)) := by
  have h1 : (ns.map D.int).all flatD = true := by simp [flatD]
  have h2 : ((ns.map D.int).any fun z => pyEq z (.int c)) = decide (c ∈ ns) := by
    induction ns with
    | nil => rfl
    | cons n ns ih =>
      rw [List.map_cons, List.any_cons, ih (by simp [flatD])]
      simp only [pyEq, List.mem_cons]
      by_cases h : c = n
      · subst h; simp
      · have : (n == c) = false := by simpa using fun z => h z.symm
        simp [this, h]
  simp only [inD, itemsQ, h1, flatD, h2]
  rfl
structure Stp where
  h : Int
  c : Option Int
  deriving DecidableEq
def Stp.d (q : Stp) : D := .tup [.int q.h, optD q.c]
def kindAt (w : Wy) (b : Int) : Str := (w.boxes[b.toNat]?.map Bx.kind).getD "whole"
/-- behind a write -/
def wst (w : Wy) (s : Sd) (h : Int) (p : Pg) (x b v : Int) : Sd := if kindAt w b ≠ "whole" ∧ x % 2 = 0 then ⟨s.spots.set h.toNat (x + 1), s.vals⟩ else ⟨s.spots.set h.toNat (2 * nxt p (x / 2)), s.vals.set b.toNat v⟩
def lst (s : Sd) (h : Int) (p : Pg) (x : Int) (ns : List Int) (t c : Int) : Sd := ⟨s.spots.set h.toNat (if c ∈ ns then 2 * nxt p (x / 2) else 2 * t), s.vals⟩
/-- the steps of a hand -/
def hst (w : Wy) (s : Sd) (h : Int) : List (Stp × Sd) := match w.hands[h.toNat]?, s.spots[h.toNat]? with
  | some p, some x => if x = 0 then [(⟨h, none⟩, ⟨s.spots.set h.toNat 2, s.vals⟩)] else (match p.rows[(x / 2 - 1).toNat]? with
    | some (.wr b v) => [(⟨h, none⟩, wst w s h p x b v)]
    | some (.lk b ns t) => (told w s b).map fun c => (⟨h, some c⟩, lst s h p x ns t c)
    | none => [])
  | _, _ => []
def hands (w : Wy) : List Int := (List.range w.hands.length).map fun i => ((i : Nat) : Int)
def steps (w : Wy) (s : Sd) : List (Stp × Sd) := (hands w).flatMap (hst w s)
theorem rowsOk_get {bs : List Bx} {w m : Int} : ∀ {k : Int} {rs : List Rw} {i : Nat} {r : Rw}, rowsOk bs w m k rs → rs[i]? = some r → r.ok bs w m (k + i)
  | _, [], _, _, _, e => by simp at e
  | k, r :: rs, 0, r', h, e => by simp at e; subst e; simpa using h.1
  | k, r :: rs, i + 1, r', h, e => by
    have := rowsOk_get (i := i) h.2 (by simpa using e)
    rw [show k + ((i + 1 : Nat) : Int) = k + 1 + i by omega]
    exact this
structure StHd (w : Wy) (s : Sd) (h : Int) : Prop where
  ow : w.ok
  os : s.ok w
  h0 : 0 ≤ h
  h1 : h < w.hands.length
theorem getE {α : Type} {l : List α} {i : Nat} (h : i < l.length) : ∃ x, l[i]? = some x ∧ x ∈ l := ⟨l[i], List.getElem?_eq_getElem h, List.getElem_mem h⟩
theorem StHd.at {w : Wy} {s : Sd} {h : Int} (H : StHd w s h) : ∃ p x, w.hands[h.toNat]? = some p ∧ p ∈ w.hands ∧ s.spots[h.toNat]? = some x ∧ SpotOk w.boxes p x := by
  have h0 := H.h0
  have h1 := H.h1
  have n := H.os.n
  obtain ⟨p, e1, m1⟩ := getE (l := w.hands) (i := h.toNat) (by omega)
  obtain ⟨x, e2, _⟩ := getE (l := s.spots) (i := h.toNat) (by omega)
  exact ⟨p, x, e1, m1, e2, H.os.sp _ _ _ e1 e2⟩
theorem SpotOk.row {bs : List Bx} {p : Pg} {x : Int} (h : SpotOk bs p x) (hx : x ≠ 0) (op : p.ok bs) : ∃ r, p.rows[(x / 2 - 1).toNat]? = some r ∧ 0 ≤ x / 2 - 1 ∧ r.ok bs p.within p.rows.length (x / 2) := by
  obtain ⟨h1, h2, h3, _⟩ := h
  obtain ⟨r, e, _⟩ := getE (l := p.rows) (i := (x / 2 - 1).toNat) (by omega)
  refine ⟨r, e, by omega, ?_⟩
  have := rowsOk_get op.rows e
  rwa [show (1 : Int) + ((x / 2 - 1).toNat : Nat) = x / 2 by omega] at this
theorem boxAt {w : Wy} {b : Int} (h0 : 0 ≤ b) (h1 : b < w.boxes.length) : ∃ bx, w.boxes[b.toNat]? = some bx ∧ bx ∈ w.boxes ∧ kindAt w b = bx.kind := by
  obtain ⟨bx, e, m⟩ := getE (l := w.boxes) (i := b.toNat) (by omega)
  exact ⟨bx, e, m, by simp [kindAt, e]⟩
theorem put_ints {S : Sto} {Q : D → Sto → Prop} {E : QX} {l : List Int} {i x : Int} (h0 : 0 ≤ i) (h1 : i < l.length) (hl : l.length ≤ 900) : callS spPut [.tup (l.map .int), .int i, .int x] S Q E ↔ Q (.tup ((l.set i.toNat x).map .int)) S := by
  rw [call_put h0 (by simpa using h1) (by simpa using hl), map_set']
theorem put_ints2 {S : Sto} {Q : D → Sto → Prop} {E : QX} {l : List Int} {i x : Int} (h0 : 0 ≤ i) (h1 : i < l.length) (hl : l.length ≤ 900) : callS sp_law_put [.tup (l.map .int), .int i, .int x] S Q E ↔ Q (.tup ((l.set i.toNat x).map .int)) S := put_ints h0 h1 hl
theorem hst_out {w : Wy} {s : Sd} {h : Int} {p : Pg} (e1 : w.hands[h.toNat]? = some p) (e2 : s.spots[h.toNat]? = some 0) : hst w s h = [(⟨h, none⟩, ⟨s.spots.set h.toNat 2, s.vals⟩)] := by
  unfold hst; simp only [e1, e2, if_true]
theorem hst_wr {w : Wy} {s : Sd} {h : Int} {p : Pg} {x b v : Int} (e1 : w.hands[h.toNat]? = some p) (e2 : s.spots[h.toNat]? = some x) (hx : x ≠ 0) (e3 : p.rows[(x / 2 - 1).toNat]? = some (.wr b v)) : hst w s h = [(⟨h, none⟩, wst w s h p x b v)] := by
  unfold hst; simp only [e1, e2, e3, if_neg hx]
theorem hst_lk {w : Wy} {s : Sd} {h : Int} {p : Pg} {x b t : Int} {ns : List Int} (e1 : w.hands[h.toNat]? = some p) (e2 : s.spots[h.toNat]? = some x) (hx : x ≠ 0) (e3 : p.rows[(x / 2 - 1).toNat]? = some (.lk b ns t)) : hst w s h = (told w s b).map fun c => (⟨h, some c⟩, lst s h p x ns t c) := by
  unfold hst; simp only [e1, e2, e3, if_neg hx]
section
variable {S : Sto} {Q : D → Sto → Prop} {E : QX} {w : Wy} {s : Sd} {h : Int}
end
end Ow

namespace Ow
open PySem PySem.Spec PyProof.Rows L2
local macro_rules | `(tactic| dsimp! [$ts,*]) => `(tactic| try simp only [$ts,*, sSeq, sRet, sRetN, sIf, sAsg, sExpr, sNx, sBk, sCt, sNever, sRaise, sRaiseF, sFor, sSub, wAndV, wOrV, wNotV, wAndT, wOrT, wNotT, wTru, wCmpT, wChT, wChV, wBin, wUn, wVar, wC, wCons, wNil, wTup, wIfE, wIsi, wFn, wQf, qLst, qOf, wCall, wCall0, wLc, wYes, iOf, iR1, iR2, iEn, iHid, wNew, wLst, wSl, wNoP, wP, ex_ss, ex_some, ex_eq, ex_int, ex_two, startD, List.map_cons, List.map_nil, List.length_cons, List.length_nil, List.replicate, List.cons_append, List.nil_append, List.getElem?_cons_zero, List.getElem?_cons_succ, List.set_cons_zero, List.set_cons_succ, wipeD, asg_nm, asg_tp, asgs_nil, asgs_cons, Option.bind_some, tru_bl, tru_int, tru_tup, cmpF, cmpD, lt_int, eq_int, eq_str, eq_bl, Option.map_some, sub_int, add_int, add_tup, fdiv_int, mod_int, pow_int, shl_int, shr_int, band_int, mul_int, int_bl, dm_int, max_int, min_int, len_tup, len_fl, Nat.reduceAdd, Nat.reduceSub, if_true, Bool.not_true, Bool.not_false, Bool.false_eq_true, if_false, tupF, allF, anyF, lenQF, Nat.zero_add, Nat.sub_self, wApp, wExt, iZip, ix_w0, ix_w1, ix_s0, ix_s1, ix_p0, ix_p1, ix_p2, ix_b0, ix_b1, ix_b2, ix_wr0, ix_wr1, ix_wr2, ix_lk0, ix_lk1, ix_lk2, ix_lk3, asg_w, asg_s, asg_p, asg_b, asg_wr, asg_lk, len_h, len_b, len_map, src_h, src_b, src_t, srcD_t, sl_h, sl_b, ix20, ix21, sl_tup, in_ints, decide_true, decide_false, List.length_map, neg_int, isi_ib, isi_ii, isi_it, isi_bb, isi_bi, isi_tt, isi_tb, isi_ti, isi_ss, isi_nb, isi_ni, isi_nt, isi_ob, isi_wt, isi_sdt])
local macro_rules | `(tactic| dsimp! []) => `(tactic| try simp only [sSeq, sRet, sRetN, sIf, sAsg, sExpr, sNx, sBk, sCt, sNever, sRaise, sRaiseF, sFor, sSub, wAndV, wOrV, wNotV, wAndT, wOrT, wNotT, wTru, wCmpT, wChT, wChV, wBin, wUn, wVar, wC, wCons, wNil, wTup, wIfE, wIsi, wFn, wQf, qLst, qOf, wCall, wCall0, wLc, wYes, iOf, iR1, iR2, iEn, iHid, wNew, wLst, wSl, wNoP, wP, ex_ss, ex_some, ex_eq, ex_int, ex_two, startD, List.map_cons, List.map_nil, List.length_cons, List.length_nil, List.replicate, List.cons_append, List.nil_append, List.getElem?_cons_zero, List.getElem?_cons_succ, List.set_cons_zero, List.set_cons_succ, wipeD, asg_nm, asg_tp, asgs_nil, asgs_cons, Option.bind_some, tru_bl, tru_int, tru_tup, cmpF, cmpD, lt_int, eq_int, eq_str, eq_bl, Option.map_some, sub_int, add_int, add_tup, fdiv_int, mod_int, pow_int, shl_int, shr_int, band_int, mul_int, int_bl, dm_int, max_int, min_int, len_tup, len_fl, Nat.reduceAdd, Nat.reduceSub, if_true, Bool.not_true, Bool.not_false, Bool.false_eq_true, if_false, tupF, allF, anyF, lenQF, Nat.zero_add, Nat.sub_self, wApp, wExt, iZip, ix_w0, ix_w1, ix_s0, ix_s1, ix_p0, ix_p1, ix_p2, ix_b0, ix_b1, ix_b2, ix_wr0, ix_wr1, ix_wr2, ix_lk0, ix_lk1, ix_lk2, ix_lk3, asg_w, asg_s, asg_p, asg_b, asg_wr, asg_lk, len_h, len_b, len_map, src_h, src_b, src_t, srcD_t, sl_h, sl_b, ix20, ix21, sl_tup, in_ints, decide_true, decide_false, List.length_map, neg_int, isi_ib, isi_ii, isi_it, isi_bb, isi_bi, isi_tt, isi_tb, isi_ti, isi_ss, isi_nb, isi_ni, isi_nt, isi_ob, isi_wt, isi_sdt])
theorem new_ne {S : Sto} {p q : Addr} {o : MO} (h : put S p o q = none) : q ≠ p ∧ S q = none := by
  by_cases e : q = p
  · subst e; rw [put_same] at h; cases h
  · rw [put_ne e] at h; exact ⟨e, h⟩
theorem two_len {a b : Int} : (two a b).length ≤ 2 := by
  unfold two; split
  · simp
  · split <;> simp
theorem mul_two {x : Int} : mulOk 2 x := .inl ⟨by decide, by decide⟩
end Ow

namespace Ow
open PySem PySem.Spec PyProof.Rows L2
local macro_rules | `(tactic| dsimp! [$ts,*]) => `(tactic| try simp only [$ts,*, sSeq, sRet, sRetN, sIf, sAsg, sExpr, sNx, sBk, sCt, sNever, sRaise, sRaiseF, sFor, sSub, wAndV, wOrV, wNotV, wAndT, wOrT, wNotT, wTru, wCmpT, wChT, wChV, wBin, wUn, wVar, wC, wCons, wNil, wTup, wIfE, wIsi, wFn, wQf, qLst, qOf, wCall, wCall0, wLc, wYes, iOf, iR1, iR2, iEn, iHid, wNew, wLst, wSl, wNoP, wP, ex_ss, ex_some, ex_eq, ex_int, ex_two, startD, List.map_cons, List.map_nil, List.length_cons, List.length_nil, List.replicate, List.cons_append, List.nil_append, List.getElem?_cons_zero, List.getElem?_cons_succ, List.set_cons_zero, List.set_cons_succ, wipeD, asg_nm, asg_tp, asgs_nil, asgs_cons, Option.bind_some, tru_bl, tru_int, tru_tup, cmpF, cmpD, lt_int, eq_int, eq_str, eq_bl, Option.map_some, sub_int, add_int, add_tup, fdiv_int, mod_int, pow_int, shl_int, shr_int, band_int, mul_int, int_bl, dm_int, max_int, min_int, len_tup, len_fl, Nat.reduceAdd, Nat.reduceSub, if_true, Bool.not_true, Bool.not_false, Bool.false_eq_true, if_false, tupF, allF, anyF, lenQF, Nat.zero_add, Nat.sub_self, wApp, wExt, iZip, ix_w0, ix_w1, ix_s0, ix_s1, ix_p0, ix_p1, ix_p2, ix_b0, ix_b1, ix_b2, ix_wr0, ix_wr1, ix_wr2, ix_lk0, ix_lk1, ix_lk2, ix_lk3, asg_w, asg_s, asg_p, asg_b, asg_wr, asg_lk, len_h, len_b, len_map, src_h, src_b, src_t, srcD_t, sl_h, sl_b, ix20, ix21, sl_tup, in_ints, decide_true, decide_false, List.length_map, neg_int, isi_ib, isi_ii, isi_it, isi_bb, isi_bi, isi_tt, isi_tb, isi_ti, isi_ss, isi_nb, isi_ni, isi_nt, isi_ob, isi_wt, isi_sdt])
local macro_rules | `(tactic| dsimp! []) => `(tactic| try simp only [sSeq, sRet, sRetN, sIf, sAsg, sExpr, sNx, sBk, sCt, sNever, sRaise, sRaiseF, sFor, sSub, wAndV, wOrV, wNotV, wAndT, wOrT, wNotT, wTru, wCmpT, wChT, wChV, wBin, wUn, wVar, wC, wCons, wNil, wTup, wIfE, wIsi, wFn, wQf, qLst, qOf, wCall, wCall0, wLc, wYes, iOf, iR1, iR2, iEn, iHid, wNew, wLst, wSl, wNoP, wP, ex_ss, ex_some, ex_eq, ex_int, ex_two, startD, List.map_cons, List.map_nil, List.length_cons, List.length_nil, List.replicate, List.cons_append, List.nil_append, List.getElem?_cons_zero, List.getElem?_cons_succ, List.set_cons_zero, List.set_cons_succ, wipeD, asg_nm, asg_tp, asgs_nil, asgs_cons, Option.bind_some, tru_bl, tru_int, tru_tup, cmpF, cmpD, lt_int, eq_int, eq_str, eq_bl, Option.map_some, sub_int, add_int, add_tup, fdiv_int, mod_int, pow_int, shl_int, shr_int, band_int, mul_int, int_bl, dm_int, max_int, min_int, len_tup, len_fl, Nat.reduceAdd, Nat.reduceSub, if_true, Bool.not_true, Bool.not_false, Bool.false_eq_true, if_false, tupF, allF, anyF, lenQF, Nat.zero_add, Nat.sub_self, wApp, wExt, iZip, ix_w0, ix_w1, ix_s0, ix_s1, ix_p0, ix_p1, ix_p2, ix_b0, ix_b1, ix_b2, ix_wr0, ix_wr1, ix_wr2, ix_lk0, ix_lk1, ix_lk2, ix_lk3, asg_w, asg_s, asg_p, asg_b, asg_wr, asg_lk, len_h, len_b, len_map, src_h, src_b, src_t, srcD_t, sl_h, sl_b, ix20, ix21, sl_tup, in_ints, decide_true, decide_false, List.length_map, neg_int, isi_ib, isi_ii, isi_it, isi_bb, isi_bi, isi_tt, isi_tb, isi_ti, isi_ss, isi_nb, isi_ni, isi_nt, isi_ob, isi_wt, isi_sdt])
def vB (b : Bx) : D → Bool
  | .int i => decide (0 ≤ i) && decide (i < b.size)
  | _ => false
def allP {α : Type} (f : α → D → Bool) : List α → List D → Bool
  | x :: xs, d :: ds => f x d && allP f xs ds
  | _, _ => true
/-- all([f(x, d) for x, d in zip(..)]) -/
theorem lc_zip {α : Type} {chk : Sto → Prop} {t1 t2 : Nat} {te : WE} {ρ : En} {S : Sto} (hc : chk S) {Q : List D → Sto → Prop} (enc : α → D) (f : α → D → Bool) : ∀ {xs : List α} {ds : List D} {acc : List D}, ds.length = xs.length → (∀ x d, x ∈ xs → d ∈ ds → Ev te ((ρ.set t1 (some (enc x))).set t2 (some d)) S (.bl (f x d))) →
    (∀ l : List D, l.all isBl = acc.all isBl → l.all isYes = (acc.all isYes && allP f xs ds) → Q l S) → wLcGo chk (.tp [.nm t1, .nm t2]) wYes te ρ Q (pairD (xs.map enc) ds) acc S
  | [], [], acc, _, _, q => ⟨hc, q acc rfl (by simp [allP])⟩
  | x :: xs, d :: ds, acc, h, hs, q => by
    rw [List.map_cons, pairD_cons]
    refine ⟨hc, _, rfl, ?_⟩
    rw [show wYes = fun _ S Q _ => Q true S from rfl]
    simp only [if_true]
    refine hs x d (by simp) (by simp) _ _ ?_
    refine lc_zip hc enc f (by simpa using h) (fun y e hy he => hs y e (by simp [hy]) (by simp [he])) fun l h1 h2 => q l ?_ ?_
    · rw [h1, List.all_append]; simp [isBl]
    · rw [h2, List.all_append]; simp [isYes, allP, Bool.and_assoc]
end Ow

namespace Ow
open PySem PySem.Spec PyProof.Rows L2
local macro_rules | `(tactic| dsimp! [$ts,*]) => `(tactic| try simp only [$ts,*, sSeq, sRet, sRetN, sIf, sAsg, sExpr, sNx, sBk, sCt, sNever, sRaise, sRaiseF, sFor, sSub, wAndV, wOrV, wNotV, wAndT, wOrT, wNotT, wTru, wCmpT, wChT, wChV, wBin, wUn, wVar, wC, wCons, wNil, wTup, wIfE, wIsi, wFn, wQf, qLst, qOf, wCall, wCall0, wLc, wYes, iOf, iR1, iR2, iEn, iHid, wNew, wLst, wSl, wNoP, wP, ex_ss, ex_some, ex_eq, ex_int, ex_two, startD, List.map_cons, List.map_nil, List.length_cons, List.length_nil, List.replicate, List.cons_append, List.nil_append, List.getElem?_cons_zero, List.getElem?_cons_succ, List.set_cons_zero, List.set_cons_succ, wipeD, asg_nm, asg_tp, asgs_nil, asgs_cons, Option.bind_some, tru_bl, tru_int, tru_tup, cmpF, cmpD, lt_int, eq_int, eq_str, eq_bl, Option.map_some, sub_int, add_int, add_tup, fdiv_int, mod_int, pow_int, shl_int, shr_int, band_int, mul_int, int_bl, dm_int, max_int, min_int, len_tup, len_fl, Nat.reduceAdd, Nat.reduceSub, if_true, Bool.not_true, Bool.not_false, Bool.false_eq_true, if_false, tupF, allF, anyF, lenQF, Nat.zero_add, Nat.sub_self, wApp, wExt, iZip, ix_w0, ix_w1, ix_s0, ix_s1, ix_p0, ix_p1, ix_p2, ix_b0, ix_b1, ix_b2, ix_wr0, ix_wr1, ix_wr2, ix_lk0, ix_lk1, ix_lk2, ix_lk3, asg_w, asg_s, asg_p, asg_b, asg_wr, asg_lk, len_h, len_b, len_map, src_h, src_b, src_t, srcD_t, sl_h, sl_b, ix20, ix21, sl_tup, in_ints, decide_true, decide_false, List.length_map, neg_int, isi_ib, isi_ii, isi_it, isi_bb, isi_bi, isi_tt, isi_tb, isi_ti, isi_ss, isi_nb, isi_ni, isi_nt, isi_ob, isi_wt, isi_sdt])
local macro_rules | `(tactic| dsimp! []) => `(tactic| try simp only [sSeq, sRet, sRetN, sIf, sAsg, sExpr, sNx, sBk, sCt, sNever, sRaise, sRaiseF, sFor, sSub, wAndV, wOrV, wNotV, wAndT, wOrT, wNotT, wTru, wCmpT, wChT, wChV, wBin, wUn, wVar, wC, wCons, wNil, wTup, wIfE, wIsi, wFn, wQf, qLst, qOf, wCall, wCall0, wLc, wYes, iOf, iR1, iR2, iEn, iHid, wNew, wLst, wSl, wNoP, wP, ex_ss, ex_some, ex_eq, ex_int, ex_two, startD, List.map_cons, List.map_nil, List.length_cons, List.length_nil, List.replicate, List.cons_append, List.nil_append, List.getElem?_cons_zero, List.getElem?_cons_succ, List.set_cons_zero, List.set_cons_succ, wipeD, asg_nm, asg_tp, asgs_nil, asgs_cons, Option.bind_some, tru_bl, tru_int, tru_tup, cmpF, cmpD, lt_int, eq_int, eq_str, eq_bl, Option.map_some, sub_int, add_int, add_tup, fdiv_int, mod_int, pow_int, shl_int, shr_int, band_int, mul_int, int_bl, dm_int, max_int, min_int, len_tup, len_fl, Nat.reduceAdd, Nat.reduceSub, if_true, Bool.not_true, Bool.not_false, Bool.false_eq_true, if_false, tupF, allF, anyF, lenQF, Nat.zero_add, Nat.sub_self, wApp, wExt, iZip, ix_w0, ix_w1, ix_s0, ix_s1, ix_p0, ix_p1, ix_p2, ix_b0, ix_b1, ix_b2, ix_wr0, ix_wr1, ix_wr2, ix_lk0, ix_lk1, ix_lk2, ix_lk3, asg_w, asg_s, asg_p, asg_b, asg_wr, asg_lk, len_h, len_b, len_map, src_h, src_b, src_t, srcD_t, sl_h, sl_b, ix20, ix21, sl_tup, in_ints, decide_true, decide_false, List.length_map, neg_int, isi_ib, isi_ii, isi_it, isi_bb, isi_bi, isi_tt, isi_tb, isi_ti, isi_ss, isi_nb, isi_ni, isi_nt, isi_ob, isi_wt, isi_sdt])
def first (w : Wy) : Sd := ⟨List.replicate w.hands.length 0, w.boxes.map Bx.start⟩
theorem Sd.ok.spot {w : Wy} {s : Sd} (os : s.ok w) {h : Nat} {p : Pg} {y : Int} (e : w.hands[h]? = some p) (so : SpotOk w.boxes p y) : (Sd.mk (s.spots.set h y) s.vals).ok w := by
  refine ⟨by simpa using os.n, os.m, fun i q x e1 e2 => ?_, os.va⟩
  simp only at e2
  by_cases hi : h = i
  · subst hi
    rw [e] at e1
    cases e1
    rw [List.getElem?_set] at e2
    simp only [if_true] at e2
    split at e2
    · cases e2; exact so
    · cases e2
  · rw [List.getElem?_set_ne hi] at e2
    exact os.sp i q x e1 e2
theorem Sd.ok.val {w : Wy} {s : Sd} (os : s.ok w) {k : Nat} {v : Int} (h : ∀ b, w.boxes[k]? = some b → 0 ≤ v ∧ v < b.size) : (Sd.mk s.spots (s.vals.set k v)).ok w := by
  refine ⟨os.n, by simpa using os.m, os.sp, fun i b x e1 e2 => ?_⟩
  simp only at e2
  by_cases hi : k = i
  · subst hi
    rw [List.getElem?_set] at e2
    simp only [if_true] at e2
    split at e2
    · cases e2; exact h b e1
    · cases e2
  · rw [List.getElem?_set_ne hi] at e2
    exact os.va i b x e1 e2
theorem nxt_spot {bs : List Bx} {p : Pg} {k : Int} (h0 : 0 ≤ k) (h1 : k ≤ p.rows.length) : SpotOk bs p (2 * nxt p k) := by
  unfold nxt
  split
  · exact ⟨by omega, by omega, by omega, fun z => by omega⟩
  · exact ⟨by omega, by omega, by omega, fun z => by omega⟩
theorem place_lim {t a w m : Int} (h : placeB (.int t) a w m = true) (w1 : 1 ≤ w) (wm : w ≤ m) : 1 ≤ t ∧ t ≤ m := by
  unfold placeB at h
  split at h
  · simp only [btw_int, Bool.and_eq_true, decide_eq_true_eq] at h; omega
  · split at h
    · simp only [btw_int, Bool.and_eq_true, decide_eq_true_eq] at h; omega
    · simp only [btw_int, Bool.and_eq_true, decide_eq_true_eq] at h; omega
theorem hst_ok {w : Wy} {s : Sd} {h : Int} (H : StHd w s h) {q : Stp × Sd} (hq : q ∈ hst w s h) : q.2.ok w ∧ q.1.h = h := by
  obtain ⟨p, x, e1, mp, e2, so⟩ := H.at
  have op := H.ow.pok p mp
  have n1 := op.n1
  by_cases hx : x = 0
  · subst hx
    rw [hst_out e1 e2] at hq
    rw [List.mem_singleton.mp hq]
    exact ⟨H.os.spot e1 ⟨by omega, by omega, by omega, fun z => by omega⟩, rfl⟩
  · obtain ⟨r, e3, x0, ro⟩ := so.row hx op
    have lim : 0 ≤ x / 2 ∧ x / 2 ≤ p.rows.length := by
      have := so.2.1
      omega
    cases r with
    | wr b v =>
      rw [hst_wr e1 e2 hx e3] at hq
      rw [List.mem_singleton.mp hq]
      refine ⟨?_, rfl⟩
      obtain ⟨b0, b1, v0, v1⟩ := ro
      obtain ⟨bx, eb, mb, kb⟩ := boxAt (w := w) b0 b1
      show (wst w s h p x b v).ok w
      unfold wst
      rw [kb]
      split
      · next c =>
        obtain ⟨s1, s2, s3, s4⟩ := so
        refine H.os.spot e1 ⟨by omega, by omega, by omega, fun _ => ?_⟩
        rw [show (x + 1) / 2 = x / 2 by omega]
        exact ⟨b, v, bx, e3, eb, c.1⟩
      · refine Sd.ok.val (s := ⟨s.spots.set h.toNat (2 * nxt p (x / 2)), s.vals⟩) (H.os.spot e1 (nxt_spot lim.1 lim.2)) fun bx' eb' => ?_
        rw [szAt_of eb'] at v1
        exact ⟨v0, v1⟩
    | lk b ns t =>
      rw [hst_lk e1 e2 hx e3] at hq
      obtain ⟨c, hc, rfl⟩ := List.mem_map.mp hq
      refine ⟨?_, rfl⟩
      obtain ⟨b0, b1, _, pl⟩ := ro
      have := place_lim pl op.w1 op.wn
      refine H.os.spot e1 ?_
      split
      · exact nxt_spot lim.1 lim.2
      · exact ⟨by omega, by omega, by omega, fun z => by omega⟩
theorem steps_ok {w : Wy} {s : Sd} (ow : w.ok) (os : s.ok w) {q : Stp × Sd} (hq : q ∈ steps w s) : q.2.ok w := by
  unfold steps hands at hq
  obtain ⟨h, hh, hq⟩ := List.mem_flatMap.mp hq
  obtain ⟨i, hi, rfl⟩ := List.mem_map.mp hh
  have := List.mem_range.mp hi
  exact (hst_ok ⟨ow, os, by omega, by omega⟩ hq).1
theorem torn_rng {n : Int} : rngD 0 n = ((List.range n.toNat).map fun i => ((i : Nat) : Int)).map D.int := by
  unfold rngD
  rw [List.map_map, Int.sub_zero]
  apply List.map_congr_left
  intro i _
  simp
end Ow

namespace Ow
open PySem PySem.Spec PyProof.Rows L2
local macro_rules | `(tactic| dsimp! [$ts,*]) => `(tactic| try simp only [$ts,*, sSeq, sRet, sRetN, sIf, sAsg, sExpr, sNx, sBk, sCt, sNever, sRaise, sRaiseF, sFor, sSub, wAndV, wOrV, wNotV, wAndT, wOrT, wNotT, wTru, wCmpT, wChT, wChV, wBin, wUn, wVar, wC, wCons, wNil, wTup, wIfE, wIsi, wFn, wQf, qLst, qOf, wCall, wCall0, wLc, wYes, iOf, iR1, iR2, iEn, iHid, wNew, wLst, wSl, wNoP, wP, ex_ss, ex_some, ex_eq, ex_int, ex_two, startD, List.map_cons, List.map_nil, List.length_cons, List.length_nil, List.replicate, List.cons_append, List.nil_append, List.getElem?_cons_zero, List.getElem?_cons_succ, List.set_cons_zero, List.set_cons_succ, wipeD, asg_nm, asg_tp, asgs_nil, asgs_cons, Option.bind_some, tru_bl, tru_int, tru_tup, cmpF, cmpD, lt_int, eq_int, eq_str, eq_bl, Option.map_some, sub_int, add_int, add_tup, fdiv_int, mod_int, pow_int, shl_int, shr_int, band_int, mul_int, int_bl, dm_int, max_int, min_int, len_tup, len_fl, Nat.reduceAdd, Nat.reduceSub, if_true, Bool.not_true, Bool.not_false, Bool.false_eq_true, if_false, tupF, allF, anyF, lenQF, Nat.zero_add, Nat.sub_self, wApp, wExt, iZip, ix_w0, ix_w1, ix_s0, ix_s1, ix_p0, ix_p1, ix_p2, ix_b0, ix_b1, ix_b2, ix_wr0, ix_wr1, ix_wr2, ix_lk0, ix_lk1, ix_lk2, ix_lk3, asg_w, asg_s, asg_p, asg_b, asg_wr, asg_lk, len_h, len_b, len_map, src_h, src_b, src_t, srcD_t, sl_h, sl_b, ix20, ix21, sl_tup, in_ints, decide_true, decide_false, List.length_map, neg_int, isi_ib, isi_ii, isi_it, isi_bb, isi_bi, isi_tt, isi_tb, isi_ti, isi_ss, isi_nb, isi_ni, isi_nt, isi_ob, isi_wt, isi_sdt])
local macro_rules | `(tactic| dsimp! []) => `(tactic| try simp only [sSeq, sRet, sRetN, sIf, sAsg, sExpr, sNx, sBk, sCt, sNever, sRaise, sRaiseF, sFor, sSub, wAndV, wOrV, wNotV, wAndT, wOrT, wNotT, wTru, wCmpT, wChT, wChV, wBin, wUn, wVar, wC, wCons, wNil, wTup, wIfE, wIsi, wFn, wQf, qLst, qOf, wCall, wCall0, wLc, wYes, iOf, iR1, iR2, iEn, iHid, wNew, wLst, wSl, wNoP, wP, ex_ss, ex_some, ex_eq, ex_int, ex_two, startD, List.map_cons, List.map_nil, List.length_cons, List.length_nil, List.replicate, List.cons_append, List.nil_append, List.getElem?_cons_zero, List.getElem?_cons_succ, List.set_cons_zero, List.set_cons_succ, wipeD, asg_nm, asg_tp, asgs_nil, asgs_cons, Option.bind_some, tru_bl, tru_int, tru_tup, cmpF, cmpD, lt_int, eq_int, eq_str, eq_bl, Option.map_some, sub_int, add_int, add_tup, fdiv_int, mod_int, pow_int, shl_int, shr_int, band_int, mul_int, int_bl, dm_int, max_int, min_int, len_tup, len_fl, Nat.reduceAdd, Nat.reduceSub, if_true, Bool.not_true, Bool.not_false, Bool.false_eq_true, if_false, tupF, allF, anyF, lenQF, Nat.zero_add, Nat.sub_self, wApp, wExt, iZip, ix_w0, ix_w1, ix_s0, ix_s1, ix_p0, ix_p1, ix_p2, ix_b0, ix_b1, ix_b2, ix_wr0, ix_wr1, ix_wr2, ix_lk0, ix_lk1, ix_lk2, ix_lk3, asg_w, asg_s, asg_p, asg_b, asg_wr, asg_lk, len_h, len_b, len_map, src_h, src_b, src_t, srcD_t, sl_h, sl_b, ix20, ix21, sl_tup, in_ints, decide_true, decide_false, List.length_map, neg_int, isi_ib, isi_ii, isi_it, isi_bb, isi_bi, isi_tt, isi_tb, isi_ti, isi_ss, isi_nb, isi_ni, isi_nt, isi_ob, isi_wt, isi_sdt])
end Ow

namespace Ow
open PySem PySem.Spec PyProof.Rows L2
local macro_rules | `(tactic| dsimp! [$ts,*]) => `(tactic| try simp only [$ts,*, sSeq, sRet, sRetN, sIf, sAsg, sExpr, sNx, sBk, sCt, sNever, sRaise, sRaiseF, sFor, sSub, wAndV, wOrV, wNotV, wAndT, wOrT, wNotT, wTru, wCmpT, wChT, wChV, wBin, wUn, wVar, wC, wCons, wNil, wTup, wIfE, wIsi, wFn, wQf, qLst, qOf, wCall, wCall0, wLc, wYes, iOf, iR1, iR2, iEn, iHid, wNew, wLst, wSl, wNoP, wP, ex_ss, ex_some, ex_eq, ex_int, ex_two, startD, List.map_cons, List.map_nil, List.length_cons, List.length_nil, List.replicate, List.cons_append, List.nil_append, List.getElem?_cons_zero, List.getElem?_cons_succ, List.set_cons_zero, List.set_cons_succ, wipeD, asg_nm, asg_tp, asgs_nil, asgs_cons, Option.bind_some, tru_bl, tru_int, tru_tup, cmpF, cmpD, lt_int, eq_int, eq_str, eq_bl, Option.map_some, sub_int, add_int, add_tup, fdiv_int, mod_int, pow_int, shl_int, shr_int, band_int, mul_int, int_bl, dm_int, max_int, min_int, len_tup, len_fl, Nat.reduceAdd, Nat.reduceSub, if_true, Bool.not_true, Bool.not_false, Bool.false_eq_true, if_false, tupF, allF, anyF, lenQF, Nat.zero_add, Nat.sub_self, wApp, wExt, iZip, ix_w0, ix_w1, ix_s0, ix_s1, ix_p0, ix_p1, ix_p2, ix_b0, ix_b1, ix_b2, ix_wr0, ix_wr1, ix_wr2, ix_lk0, ix_lk1, ix_lk2, ix_lk3, asg_w, asg_s, asg_p, asg_b, asg_wr, asg_lk, len_h, len_b, len_map, src_h, src_b, src_t, srcD_t, sl_h, sl_b, ix20, ix21, sl_tup, in_ints, decide_true, decide_false, List.length_map, neg_int, isi_ib, isi_ii, isi_it, isi_bb, isi_bi, isi_tt, isi_tb, isi_ti, isi_ss, isi_nb, isi_ni, isi_nt, isi_ob, isi_wt, isi_sdt])
local macro_rules | `(tactic| dsimp! []) => `(tactic| try simp only [sSeq, sRet, sRetN, sIf, sAsg, sExpr, sNx, sBk, sCt, sNever, sRaise, sRaiseF, sFor, sSub, wAndV, wOrV, wNotV, wAndT, wOrT, wNotT, wTru, wCmpT, wChT, wChV, wBin, wUn, wVar, wC, wCons, wNil, wTup, wIfE, wIsi, wFn, wQf, qLst, qOf, wCall, wCall0, wLc, wYes, iOf, iR1, iR2, iEn, iHid, wNew, wLst, wSl, wNoP, wP, ex_ss, ex_some, ex_eq, ex_int, ex_two, startD, List.map_cons, List.map_nil, List.length_cons, List.length_nil, List.replicate, List.cons_append, List.nil_append, List.getElem?_cons_zero, List.getElem?_cons_succ, List.set_cons_zero, List.set_cons_succ, wipeD, asg_nm, asg_tp, asgs_nil, asgs_cons, Option.bind_some, tru_bl, tru_int, tru_tup, cmpF, cmpD, lt_int, eq_int, eq_str, eq_bl, Option.map_some, sub_int, add_int, add_tup, fdiv_int, mod_int, pow_int, shl_int, shr_int, band_int, mul_int, int_bl, dm_int, max_int, min_int, len_tup, len_fl, Nat.reduceAdd, Nat.reduceSub, if_true, Bool.not_true, Bool.not_false, Bool.false_eq_true, if_false, tupF, allF, anyF, lenQF, Nat.zero_add, Nat.sub_self, wApp, wExt, iZip, ix_w0, ix_w1, ix_s0, ix_s1, ix_p0, ix_p1, ix_p2, ix_b0, ix_b1, ix_b2, ix_wr0, ix_wr1, ix_wr2, ix_lk0, ix_lk1, ix_lk2, ix_lk3, asg_w, asg_s, asg_p, asg_b, asg_wr, asg_lk, len_h, len_b, len_map, src_h, src_b, src_t, srcD_t, sl_h, sl_b, ix20, ix21, sl_tup, in_ints, decide_true, decide_false, List.length_map, neg_int, isi_ib, isi_ii, isi_it, isi_bb, isi_bi, isi_tt, isi_tb, isi_ti, isi_ss, isi_nb, isi_ni, isi_nt, isi_ob, isi_wt, isi_sdt])
theorem All2.get {α β : Type} {G : α → β → Prop} : ∀ {l : List α} {m : List β}, All2 G l m → ∀ (i : Nat) (x : α) (y : β), l[i]? = some x → m[i]? = some y → G x y
  | [], [], _, i, x, y, h, _ => by simp at h
  | x :: l, y :: m, h, 0, x', y', e1, e2 => by simp at e1 e2; subst e1; subst e2; exact h.1
  | x :: l, y :: m, h, i + 1, x', y', e1, e2 => All2.get h.2 i x' y' (by simpa using e1) (by simpa using e2)
end Ow

namespace Ow
open PySem PySem.Spec PyProof.Rows L2
local macro_rules | `(tactic| dsimp! [$ts,*]) => `(tactic| try simp only [$ts,*, sSeq, sRet, sRetN, sIf, sAsg, sExpr, sNx, sBk, sCt, sNever, sRaise, sRaiseF, sFor, sSub, wAndV, wOrV, wNotV, wAndT, wOrT, wNotT, wTru, wCmpT, wChT, wChV, wBin, wUn, wVar, wC, wCons, wNil, wTup, wIfE, wIsi, wFn, wQf, qLst, qOf, wCall, wCall0, wLc, wYes, iOf, iR1, iR2, iEn, iHid, wNew, wLst, wSl, wNoP, wP, ex_ss, ex_some, ex_eq, ex_int, ex_two, startD, List.map_cons, List.map_nil, List.length_cons, List.length_nil, List.replicate, List.cons_append, List.nil_append, List.getElem?_cons_zero, List.getElem?_cons_succ, List.set_cons_zero, List.set_cons_succ, wipeD, asg_nm, asg_tp, asgs_nil, asgs_cons, Option.bind_some, tru_bl, tru_int, tru_tup, cmpF, cmpD, lt_int, eq_int, eq_str, eq_bl, Option.map_some, sub_int, add_int, add_tup, fdiv_int, mod_int, pow_int, shl_int, shr_int, band_int, mul_int, int_bl, dm_int, max_int, min_int, len_tup, len_fl, Nat.reduceAdd, Nat.reduceSub, if_true, Bool.not_true, Bool.not_false, Bool.false_eq_true, if_false, tupF, allF, anyF, lenQF, Nat.zero_add, Nat.sub_self, wApp, wExt, iZip, ix_w0, ix_w1, ix_s0, ix_s1, ix_p0, ix_p1, ix_p2, ix_b0, ix_b1, ix_b2, ix_wr0, ix_wr1, ix_wr2, ix_lk0, ix_lk1, ix_lk2, ix_lk3, asg_w, asg_s, asg_p, asg_b, asg_wr, asg_lk, len_h, len_b, len_map, src_h, src_b, src_t, srcD_t, sl_h, sl_b, ix20, ix21, sl_tup, in_ints, decide_true, decide_false, List.length_map, neg_int, isi_ib, isi_ii, isi_it, isi_bb, isi_bi, isi_tt, isi_tb, isi_ti, isi_ss, isi_nb, isi_ni, isi_nt, isi_ob, isi_wt, isi_sdt])
local macro_rules | `(tactic| dsimp! []) => `(tactic| try simp only [sSeq, sRet, sRetN, sIf, sAsg, sExpr, sNx, sBk, sCt, sNever, sRaise, sRaiseF, sFor, sSub, wAndV, wOrV, wNotV, wAndT, wOrT, wNotT, wTru, wCmpT, wChT, wChV, wBin, wUn, wVar, wC, wCons, wNil, wTup, wIfE, wIsi, wFn, wQf, qLst, qOf, wCall, wCall0, wLc, wYes, iOf, iR1, iR2, iEn, iHid, wNew, wLst, wSl, wNoP, wP, ex_ss, ex_some, ex_eq, ex_int, ex_two, startD, List.map_cons, List.map_nil, List.length_cons, List.length_nil, List.replicate, List.cons_append, List.nil_append, List.getElem?_cons_zero, List.getElem?_cons_succ, List.set_cons_zero, List.set_cons_succ, wipeD, asg_nm, asg_tp, asgs_nil, asgs_cons, Option.bind_some, tru_bl, tru_int, tru_tup, cmpF, cmpD, lt_int, eq_int, eq_str, eq_bl, Option.map_some, sub_int, add_int, add_tup, fdiv_int, mod_int, pow_int, shl_int, shr_int, band_int, mul_int, int_bl, dm_int, max_int, min_int, len_tup, len_fl, Nat.reduceAdd, Nat.reduceSub, if_true, Bool.not_true, Bool.not_false, Bool.false_eq_true, if_false, tupF, allF, anyF, lenQF, Nat.zero_add, Nat.sub_self, wApp, wExt, iZip, ix_w0, ix_w1, ix_s0, ix_s1, ix_p0, ix_p1, ix_p2, ix_b0, ix_b1, ix_b2, ix_wr0, ix_wr1, ix_wr2, ix_lk0, ix_lk1, ix_lk2, ix_lk3, asg_w, asg_s, asg_p, asg_b, asg_wr, asg_lk, len_h, len_b, len_map, src_h, src_b, src_t, srcD_t, sl_h, sl_b, ix20, ix21, sl_tup, in_ints, decide_true, decide_false, List.length_map, neg_int, isi_ib, isi_ii, isi_it, isi_bb, isi_bi, isi_tt, isi_tb, isi_ti, isi_ss, isi_nb, isi_ni, isi_nt, isi_ob, isi_wt, isi_sdt])
/-- a run from a standing, with what is behind each step -/
def Path (w : Wy) : Sd → List (Stp × Sd) → Prop
  | _, [] => True
  | s, q :: r => q ∈ steps w s ∧ Path w q.2 r
def endOf (s : Sd) : List (Stp × Sd) → Sd
  | [] => s
  | q :: r => endOf q.2 r
theorem Path.ok {w : Wy} (ow : w.ok) : ∀ {s : Sd} {r : List (Stp × Sd)}, s.ok w → Path w s r → (endOf s r).ok w ∧ ∀ q ∈ r, q.2.ok w
  | _, [], os, _ => ⟨os, fun q hq => by cases hq⟩
  | s, q :: r, os, h => by
    have oq := steps_ok ow os h.1
    have := Path.ok ow oq h.2
    refine ⟨this.1, fun p hp => ?_⟩
    rcases List.mem_cons.mp hp with rfl | hp
    · exact oq
    · exact this.2 p hp
end Ow

namespace Ow
open PySem PySem.Spec PyProof.Rows L2
theorem for_each {chk : Sto → Prop} {tg : Tg} {body : WS} {N : Nd} (P : D → Prop) (I : En → Sto → Prop)
    (hs : ∀ d ρ S, P d → I ρ S → chk S ∧ ∃ ρ1, asg tg d ρ = some ρ1 ∧ ∀ R : En → Sto → Prop, (∀ ρ S, I ρ S → R ρ S) → body { N with nx := R, ct := R, bk := N.nx } ρ1 S)
    (hd : ∀ ρ S, I ρ S → chk S ∧ N.nx ρ S) : ∀ {l : List D} {ρ : En} {S : Sto}, (∀ d ∈ l, P d) → I ρ S → forGo chk tg body N l ρ S
  | [], ρ, S, _, h => hd ρ S h
  | d :: l, ρ, S, hP, h => by
    obtain ⟨hc, ρ1, e, q⟩ := hs d ρ S (hP d (by simp)) h
    exact ⟨hc, ρ1, e, q _ fun ρ S h => for_each P I hs hd (fun d hd => hP d (by simp [hd])) h⟩
/-- a stop between statements -/
theorem seq_gen {A T : WS} {N : Nd} {ρ : En} {S : Sto} (K : En → Sto → Prop) (hT : ∀ ρ S, K ρ S → T N ρ S) (h : ∀ T' : WS, (∀ ρ S, K ρ S → T' N ρ S) → sSeq A T' N ρ S) : sSeq A T N ρ S := h T hT
theorem rgc {j c : Int} (h1 : 1 ≤ j) (h16 : j ≤ 16) (hc : c = 2 ∨ c = 4) : ∃ n : Nat, RgC 0 j c n ∧ n ≤ sizeLine ∧ ∀ d ∈ rngC 0 c n, ∃ k : Int, d = .int k ∧ 0 ≤ k ∧ k < j := by
  have : j = 1 ∨ j = 2 ∨ j = 3 ∨ j = 4 ∨ j = 5 ∨ j = 6 ∨ j = 7 ∨ j = 8 ∨ j = 9 ∨ j = 10 ∨ j = 11 ∨ j = 12 ∨ j = 13 ∨ j = 14 ∨ j = 15 ∨ j = 16 := by omega
  have key : ∃ n : Nat, RgC 0 j c n ∧ ((n : Int) - 1) * c < j ∧ n ≤ 16 := by
    rcases hc with rfl | rfl <;> rcases this with rfl | rfl | rfl | rfl | rfl | rfl | rfl | rfl | rfl | rfl | rfl | rfl | rfl | rfl | rfl | rfl <;> exact ⟨_, ⟨by decide, by decide, by decide +kernel, rfl⟩, by decide +kernel, by decide +kernel⟩
  obtain ⟨n, hR, hn, hm⟩ := key
  refine ⟨n, hR, Nat.le_trans hm (by decide), fun d hd => ?_⟩
  obtain ⟨i, hi, rfl⟩ := List.mem_map.mp hd
  have := List.mem_range.mp hi
  refine ⟨_, rfl, ?_, ?_⟩
  · rcases hc with rfl | rfl <;> omega
  · rcases hc with rfl | rfl <;> omega
mutual
theorem pyEq_self : ∀ {n : Nat} {d : D}, okD n d = true → pyEq d d = true
  | n, .non, _ => rfl
  | n, .bl a, _ => by simp [pyEq]
  | n, .int i, _ => by simp [pyEq]
  | n, .str x, _ => by simp [pyEq]
  | n + 1, .tup l, h => by simp only [okD] at h; simp only [pyEq]; exact pyEqs_self h
  | 0, .tup l, h => by simp [okD] at h
  | n, .fl l, h => by simp [okD] at h
  | n, .ref a, h => by simp [okD] at h
  | n, .ty a, h => by simp [okD] at h
  | n, .glo a, h => by simp [okD] at h
  | n, .ex0 a, h => by simp [okD] at h
  | n, .ex1 a b d, h => by simp [okD] at h
theorem pyEqs_self : ∀ {n : Nat} {l : List D}, okDs n l = true → pyEqs l l = true
  | n, [], _ => rfl
  | n, x :: xs, h => by simp only [okDs, Bool.and_eq_true] at h; simp only [pyEqs, pyEq_self h.1, pyEqs_self h.2]; rfl
end
theorem eqD_tup {S : Sto} {l : List D} (h : okDs 59 l = true) : eqD S (.tup l) (.tup l) = some true := by
  rw [eq_tup h h, pyEqs_self h]
theorem okDs_map {α : Type} {n : Nat} {f : α → D} (h : ∀ x, okD n (f x) = true) : ∀ l : List α, okDs n (l.map f) = true
  | [] => rfl
  | x :: l => by simp only [List.map_cons, okDs, h x, okDs_map h l]; rfl
theorem okD_int {n : Nat} {i : Int} : okD n (.int i) = true := by cases n <;> rfl
theorem okD_ints {n : Nat} {l : List Int} : okD (n + 1) (.tup (l.map .int)) = true := by simp only [okD]; exact okDs_map (fun _ => okD_int) l
theorem okD_sd {n : Nat} {s : Sd} : okD (n + 2) s.d = true := by simp only [Sd.d, okD, okDs, okDs_map (f := D.int) (fun _ => okD_int)]; rfl
def spLaw : Spec := { pre := fun ds _ => ∃ ns : List Int, ds = [scr ns] ∧ ns.length ≤ 63, post := fun _ S d S' => S' = S ∧ d = .bl true }
theorem ok_spLaw {N : List Str} {n : Nat} {t : WS} (h : ∀ (ns : List Int) (S : Sto) (Nx : Nd), ns.length ≤ 63 → (∀ S', Sub S S' → Nx.rt (.bl true) S') → t Nx (startD N [scr ns]) S) : BodyOk N n spLaw t := by
  rintro _ S _ ⟨ns, rfl, hn⟩
  exact h ns S _ hn fun S' h => ⟨S, h, rfl, rfl⟩
theorem len_scr {S : Sto} {Q : D → Sto → Prop} {ns : List Int} : lenF [scr ns] S Q ↔ (ns.length ≤ sizeLine → Q (.int ns.length) S) := by unfold scr; rw [len_fl, List.length_map]
end Ow

namespace Ow
open PySem PySem.Spec PyProof.Rows L2
local macro_rules | `(tactic| dsimp! [$ts,*]) => `(tactic| try simp only [$ts,*, sSeq, sRet, sRetN, sIf, sAsg, sExpr, sNx, sBk, sCt, sNever, sRaise, sRaiseF, sFor, sSub, wAndV, wOrV, wNotV, wAndT, wOrT, wNotT, wTru, wCmpT, wChT, wChV, wBin, wUn, wVar, wC, wCons, wNil, wTup, wIfE, wIsi, wFn, wQf, qLst, qOf, wCall, wCall0, wLc, wYes, iOf, iR1, iR2, iEn, iHid, wNew, wLst, wSl, wNoP, wP, ex_ss, ex_some, ex_eq, ex_int, ex_two, startD, List.map_cons, List.map_nil, List.length_cons, List.length_nil, List.replicate, List.cons_append, List.nil_append, List.getElem?_cons_zero, List.getElem?_cons_succ, List.set_cons_zero, List.set_cons_succ, wipeD, asg_nm, asg_tp, asgs_nil, asgs_cons, Option.bind_some, tru_bl, tru_int, tru_tup, cmpF, cmpD, lt_int, eq_int, eq_str, eq_bl, Option.map_some, sub_int, add_int, add_tup, fdiv_int, mod_int, pow_int, shl_int, shr_int, band_int, mul_int, int_bl, dm_int, max_int, min_int, len_tup, len_fl, Nat.reduceAdd, Nat.reduceSub, if_true, Bool.not_true, Bool.not_false, Bool.false_eq_true, if_false, tupF, allF, anyF, lenQF, Nat.zero_add, Nat.sub_self, wApp, wExt, iZip, ix_w0, ix_w1, ix_s0, ix_s1, ix_p0, ix_p1, ix_p2, ix_b0, ix_b1, ix_b2, ix_wr0, ix_wr1, ix_wr2, ix_lk0, ix_lk1, ix_lk2, ix_lk3, asg_w, asg_s, asg_p, asg_b, asg_wr, asg_lk, len_h, len_b, len_map, src_h, src_b, src_t, srcD_t, sl_h, sl_b, ix20, ix21, sl_tup, in_ints, decide_true, decide_false, List.length_map, neg_int, isi_ib, isi_ii, isi_it, isi_bb, isi_bi, isi_tt, isi_tb, isi_ti, isi_ss, isi_nb, isi_ni, isi_nt, isi_ob, isi_wt, isi_sdt])
local macro_rules | `(tactic| dsimp! []) => `(tactic| try simp only [sSeq, sRet, sRetN, sIf, sAsg, sExpr, sNx, sBk, sCt, sNever, sRaise, sRaiseF, sFor, sSub, wAndV, wOrV, wNotV, wAndT, wOrT, wNotT, wTru, wCmpT, wChT, wChV, wBin, wUn, wVar, wC, wCons, wNil, wTup, wIfE, wIsi, wFn, wQf, qLst, qOf, wCall, wCall0, wLc, wYes, iOf, iR1, iR2, iEn, iHid, wNew, wLst, wSl, wNoP, wP, ex_ss, ex_some, ex_eq, ex_int, ex_two, startD, List.map_cons, List.map_nil, List.length_cons, List.length_nil, List.replicate, List.cons_append, List.nil_append, List.getElem?_cons_zero, List.getElem?_cons_succ, List.set_cons_zero, List.set_cons_succ, wipeD, asg_nm, asg_tp, asgs_nil, asgs_cons, Option.bind_some, tru_bl, tru_int, tru_tup, cmpF, cmpD, lt_int, eq_int, eq_str, eq_bl, Option.map_some, sub_int, add_int, add_tup, fdiv_int, mod_int, pow_int, shl_int, shr_int, band_int, mul_int, int_bl, dm_int, max_int, min_int, len_tup, len_fl, Nat.reduceAdd, Nat.reduceSub, if_true, Bool.not_true, Bool.not_false, Bool.false_eq_true, if_false, tupF, allF, anyF, lenQF, Nat.zero_add, Nat.sub_self, wApp, wExt, iZip, ix_w0, ix_w1, ix_s0, ix_s1, ix_p0, ix_p1, ix_p2, ix_b0, ix_b1, ix_b2, ix_wr0, ix_wr1, ix_wr2, ix_lk0, ix_lk1, ix_lk2, ix_lk3, asg_w, asg_s, asg_p, asg_b, asg_wr, asg_lk, len_h, len_b, len_map, src_h, src_b, src_t, srcD_t, sl_h, sl_b, ix20, ix21, sl_tup, in_ints, decide_true, decide_false, List.length_map, neg_int, isi_ib, isi_ii, isi_it, isi_bb, isi_bi, isi_tt, isi_tb, isi_ti, isi_ss, isi_nb, isi_ni, isi_nt, isi_ob, isi_wt, isi_sdt])
theorem told_lt {w : Wy} {s : Sd} {b : Int} : (told w s b).Pairwise (· < ·) := by
  unfold told
  split
  · split
    · rw [List.pairwise_map]
      exact List.pairwise_lt_range.imp fun z => by omega
    · unfold two
      split
      · simp
      · split
        · simp; omega
        · simp; omega
  · simp
theorem hst_one {w : Wy} {s : Sd} {h : Int} : (hst w s h).Pairwise (fun a b => a.1 ≠ b.1) ∧ ∀ q ∈ hst w s h, q.1.h = h := by
  unfold hst
  split
  · split
    · simp
    · split
      · simp
      · refine ⟨?_, fun q hq => by obtain ⟨c, _, rfl⟩ := List.mem_map.mp hq; rfl⟩
        rw [List.pairwise_map]
        exact told_lt.imp fun {a b} z e => by simp at e; omega
      · simp
  · simp
theorem steps_one {w : Wy} {s : Sd} : (steps w s).Pairwise (fun a b => a.1 ≠ b.1) := by
  unfold steps
  rw [List.pairwise_flatMap]
  refine ⟨fun h _ => hst_one.1, ?_⟩
  unfold hands
  rw [List.pairwise_map]
  refine List.pairwise_lt_range.imp fun {i j} z x hx y hy e => ?_
  have e1 := (hst_one (w := w) (s := s)).2 x hx
  have e2 := (hst_one (w := w) (s := s)).2 y hy
  rw [e] at e1
  omega
theorem find_one {α β : Type} [DecidableEq α] {q : α × β} : ∀ {l : List (α × β)}, l.Pairwise (fun a b => a.1 ≠ b.1) → q ∈ l → l.find? (fun x => decide (x.1 = q.1)) = some q
  | [], _, h => by cases h
  | x :: l, hp, h => by
    rcases List.mem_cons.mp h with rfl | h
    · simp
    · have : x.1 ≠ q.1 := (List.pairwise_cons.mp hp).1 q h
      rw [List.find?_cons_of_neg (by simpa using this)]
      exact find_one (List.pairwise_cons.mp hp).2 h
/-- behind a step -/
def bhd (w : Wy) (s : Sd) (q : Stp) : Option Sd := ((steps w s).find? fun x => decide (x.1 = q)).map (·.2)
theorem bhd_of {w : Wy} {s : Sd} {q : Stp × Sd} (h : q ∈ steps w s) : bhd w s q.1 = some q.2 := by
  unfold bhd; rw [find_one steps_one h]; rfl
def runTo (w : Wy) : Sd → List Stp → Option Sd
  | s, [] => some s
  | s, q :: r => (bhd w s q).bind fun t => runTo w t r
theorem Path.run {w : Wy} : ∀ {s : Sd} {r : List (Stp × Sd)}, Path w s r → runTo w s (r.map (·.1)) = some (endOf s r)
  | _, [], _ => rfl
  | s, q :: r, h => by
    simp only [List.map_cons, runTo, bhd_of h.1, Option.bind_some]
    exact Path.run h.2
theorem Path.take {w : Wy} : ∀ {s : Sd} {r : List (Stp × Sd)} (n : Nat), Path w s r → Path w s (r.take n)
  | _, _, 0, _ => trivial
  | _, [], _ + 1, _ => trivial
  | _, _ :: _, n + 1, h => ⟨h.1, Path.take n h.2⟩
theorem Path.drop {w : Wy} : ∀ {s : Sd} {r : List (Stp × Sd)} (n : Nat), Path w s r → Path w (endOf s (r.take n)) (r.drop n)
  | _, _, 0, h => h
  | _, [], _ + 1, h => h
  | _, _ :: _, n + 1, h => Path.drop n h.2
def isStp : D → Option Stp
  | .tup [.int h, .non] => some ⟨h, none⟩
  | .tup [.int h, .int c] => some ⟨h, some c⟩
  | _ => none
theorem isStp_d {q : Stp} : isStp q.d = some q := by
  obtain ⟨h, c⟩ := q
  cases c <;> rfl
instance : Enc (List Stp) := ⟨fun l => .tup (l.map Stp.d), fun _ _ h => map_inj (fun a b e => by
  have := congrArg isStp e
  rw [isStp_d, isStp_d] at this
  exact Option.some.inj this) (D.tup.inj h)⟩
end Ow

namespace Ow
open PySem PySem.Spec PyProof.Rows L2
local macro_rules | `(tactic| dsimp! [$ts,*]) => `(tactic| try simp only [$ts,*, sSeq, sRet, sRetN, sIf, sAsg, sExpr, sNx, sBk, sCt, sNever, sRaise, sRaiseF, sFor, sSub, wAndV, wOrV, wNotV, wAndT, wOrT, wNotT, wTru, wCmpT, wChT, wChV, wBin, wUn, wVar, wC, wCons, wNil, wTup, wIfE, wIsi, wFn, wQf, qLst, qOf, wCall, wCall0, wLc, wYes, iOf, iR1, iR2, iEn, iHid, wNew, wLst, wSl, wNoP, wP, ex_ss, ex_some, ex_eq, ex_int, ex_two, startD, List.map_cons, List.map_nil, List.length_cons, List.length_nil, List.replicate, List.cons_append, List.nil_append, List.getElem?_cons_zero, List.getElem?_cons_succ, List.set_cons_zero, List.set_cons_succ, wipeD, asg_nm, asg_tp, asgs_nil, asgs_cons, Option.bind_some, tru_bl, tru_int, tru_tup, cmpF, cmpD, lt_int, eq_int, eq_str, eq_bl, Option.map_some, sub_int, add_int, add_tup, fdiv_int, mod_int, pow_int, shl_int, shr_int, band_int, mul_int, int_bl, dm_int, max_int, min_int, len_tup, len_fl, Nat.reduceAdd, Nat.reduceSub, if_true, Bool.not_true, Bool.not_false, Bool.false_eq_true, if_false, tupF, allF, anyF, lenQF, Nat.zero_add, Nat.sub_self, wApp, wExt, iZip, ix_w0, ix_w1, ix_s0, ix_s1, ix_p0, ix_p1, ix_p2, ix_b0, ix_b1, ix_b2, ix_wr0, ix_wr1, ix_wr2, ix_lk0, ix_lk1, ix_lk2, ix_lk3, asg_w, asg_s, asg_p, asg_b, asg_wr, asg_lk, len_h, len_b, len_map, src_h, src_b, src_t, srcD_t, sl_h, sl_b, ix20, ix21, sl_tup, in_ints, decide_true, decide_false, List.length_map, neg_int, isi_ib, isi_ii, isi_it, isi_bb, isi_bi, isi_tt, isi_tb, isi_ti, isi_ss, isi_nb, isi_ni, isi_nt, isi_ob, isi_wt, isi_sdt])
local macro_rules | `(tactic| dsimp! []) => `(tactic| try simp only [sSeq, sRet, sRetN, sIf, sAsg, sExpr, sNx, sBk, sCt, sNever, sRaise, sRaiseF, sFor, sSub, wAndV, wOrV, wNotV, wAndT, wOrT, wNotT, wTru, wCmpT, wChT, wChV, wBin, wUn, wVar, wC, wCons, wNil, wTup, wIfE, wIsi, wFn, wQf, qLst, qOf, wCall, wCall0, wLc, wYes, iOf, iR1, iR2, iEn, iHid, wNew, wLst, wSl, wNoP, wP, ex_ss, ex_some, ex_eq, ex_int, ex_two, startD, List.map_cons, List.map_nil, List.length_cons, List.length_nil, List.replicate, List.cons_append, List.nil_append, List.getElem?_cons_zero, List.getElem?_cons_succ, List.set_cons_zero, List.set_cons_succ, wipeD, asg_nm, asg_tp, asgs_nil, asgs_cons, Option.bind_some, tru_bl, tru_int, tru_tup, cmpF, cmpD, lt_int, eq_int, eq_str, eq_bl, Option.map_some, sub_int, add_int, add_tup, fdiv_int, mod_int, pow_int, shl_int, shr_int, band_int, mul_int, int_bl, dm_int, max_int, min_int, len_tup, len_fl, Nat.reduceAdd, Nat.reduceSub, if_true, Bool.not_true, Bool.not_false, Bool.false_eq_true, if_false, tupF, allF, anyF, lenQF, Nat.zero_add, Nat.sub_self, wApp, wExt, iZip, ix_w0, ix_w1, ix_s0, ix_s1, ix_p0, ix_p1, ix_p2, ix_b0, ix_b1, ix_b2, ix_wr0, ix_wr1, ix_wr2, ix_lk0, ix_lk1, ix_lk2, ix_lk3, asg_w, asg_s, asg_p, asg_b, asg_wr, asg_lk, len_h, len_b, len_map, src_h, src_b, src_t, srcD_t, sl_h, sl_b, ix20, ix21, sl_tup, in_ints, decide_true, decide_false, List.length_map, neg_int, isi_ib, isi_ii, isi_it, isi_bb, isi_bi, isi_tt, isi_tb, isi_ti, isi_ss, isi_nb, isi_ni, isi_nt, isi_ob, isi_wt, isi_sdt])
inductive TRw where
  | wr (b v : Int)
  | lk (who : Str) (b : Int) (ns : List Int) (t : Int)
def TRw.d : TRw → D
  | .wr b v => .tup [.str "write", .int b, .int v]
  | .lk who b ns t => .tup [.str "look", .str who, .int b, .tup (ns.map .int), .int t]
structure Tp where
  kinds : List Bx
  door : Int
  within : Int
  rows : List TRw
def Tp.pd (t : Tp) : D := .tup [.int t.door, .int t.within, .tup (t.rows.map TRw.d)]
def Tp.d (t : Tp) : D := .tup [bxs t.kinds, t.pd]
def isWho (x : Str) : Bool := x == "others" || (x == "lower" || x == "higher")
def TRw.ok (bs : List Bx) (within at_ : Int) : TRw → Prop
  | .wr b v => 0 ≤ b ∧ b < bs.length ∧ 0 ≤ v ∧ v < szAt bs b
  | .lk who b ns t => isWho who = true ∧ 0 ≤ b ∧ b < bs.length ∧ numsB (szAt bs b) (.tup (ns.map .int)) = true ∧ at_ < within ∧ 1 ≤ t ∧ t ≤ within
def trowsOk (bs : List Bx) (within : Int) : Int → List TRw → Prop
  | _, [] => True
  | k, r :: rs => r.ok bs within k ∧ trowsOk bs within (k + 1) rs
def tog1 : TRw → Int
  | .wr _ _ => 1
  | .lk _ _ _ _ => 3
def tog (rs : List TRw) : Int := (rs.map tog1).sum
structure Tp.ok (t : Tp) : Prop where
  bok : ∀ b ∈ t.kinds, b.ok
  b1 : 1 ≤ t.kinds.length
  b2 : t.kinds.length ≤ 2
  n1 : 1 ≤ t.rows.length
  n8 : t.rows.length ≤ 8
  w1 : 1 ≤ t.within
  wn : t.within ≤ t.rows.length
  d0 : 0 ≤ t.door
  dw : t.door < t.within
  rows : trowsOk t.kinds t.within 1 t.rows
  tog : tog t.rows ≤ 16
theorem TRw.injD : ∀ {r s : TRw}, r.d = s.d → r = s := by
  intro r s h
  cases r <;> cases s <;> simp only [TRw.d, D.tup.injEq, List.cons.injEq, D.int.injEq, D.str.injEq, and_true, true_and] at h
  · obtain ⟨rfl, rfl⟩ := h; rfl
  · simp at h
  · simp at h
  · obtain ⟨rfl, rfl, h, rfl⟩ := h
    rw [map_int_inj h]
theorem Tp.injD {a b : Tp} (h : a.d = b.d) : a = b := by
  obtain ⟨a1, a2, a3, a4⟩ := a
  obtain ⟨b1, b2, b3, b4⟩ := b
  simp only [Tp.d, Tp.pd, bxs, D.tup.injEq, List.cons.injEq, D.int.injEq, and_true] at h
  obtain ⟨h1, rfl, rfl, h2⟩ := h
  rw [Bx.inj h1, map_inj (fun _ _ => TRw.injD) h2]
instance : Enc Tp := ⟨Tp.d, fun _ _ h => Tp.injD h⟩
instance : Enc TRw := ⟨TRw.d, fun _ _ h => TRw.injD h⟩
instance : Enc (List TRw) := ⟨fun l => .tup (l.map TRw.d), fun _ _ h => map_inj (fun _ _ => TRw.injD) (D.tup.inj h)⟩
def whoB : D → Bool
  | .str x => isWho x
  | _ => false
def tlookL (bs : List Bx) (at_ within : Int) : List D → Bool
  | [w, o, b, ns, t] => whoB o && (lookL bs [w, b, ns, t] && (decide (at_ < within) && btw t 1 within))
  | _ => false
def tlookB (bs : List Bx) (at_ within : Int) : D → Bool
  | .tup l => tlookL bs at_ within l
  | _ => false
theorem tlookL_no {bs : List Bx} {a w : Int} {l : List D} (h : ¬ l.length = 5) : tlookL bs a w l = false := by
  match l with
  | [_, _, _, _, _] => simp at h
  | [] => rfl
  | [_] => rfl
  | [_, _] => rfl
  | [_, _, _] => rfl
  | [_, _, _, _] => rfl
  | _ :: _ :: _ :: _ :: _ :: _ :: _ => rfl
theorem len_five {l : List D} (h : l.length = 5) : ∃ a b c d e, l = [a, b, c, d, e] := by
  match l, h with
  | [a, b, c, d, e], _ => exact ⟨a, b, c, d, e, rfl⟩
theorem tlookB_of {bs : List Bx} {a w : Int} {d : D} (h : tlookB bs a w d = true) : ∃ who b ns t, d = (TRw.lk who b ns t).d ∧ (TRw.lk who b ns t).ok bs w a := by
  cases d with
  | tup l =>
    by_cases h5 : l.length = 5
    · obtain ⟨x, o, b, ns, t, rfl⟩ := len_five h5
      simp only [tlookB, tlookL, Bool.and_eq_true] at h
      obtain ⟨h1, h2, h3, h4⟩ := h
      obtain ⟨b', ns', t', e, k1, k2, k3⟩ := lookB_of (show lookB bs (.tup [x, b, ns, t]) = true from h2)
      simp only [D.tup.injEq, List.cons.injEq, and_true] at e
      obtain ⟨rfl, rfl, rfl, rfl⟩ := e
      obtain ⟨i, rfl, g1, g2⟩ := btw_of h4
      cases o with
      | str o => exact ⟨o, b', ns', i, rfl, h1, k1, k2, k3, of_decide_eq_true h3, g1, g2⟩
      | _ => cases h1
    · simp [tlookB, tlookL_no h5] at h
  | _ => cases h
theorem look_ok {bs : List Bx} {b : Int} {ns : List Int} {t : D} (h0 : 0 ≤ b) (h1 : b < bs.length) (h2 : numsB (szAt bs b) (.tup (ns.map .int)) = true) : lookL bs [.str "look", .int b, .tup (ns.map .int), t] = true := by
  have e : strB (.str "look") "look" = true := rfl
  simp only [lookL, e, intB, btw_int, h2, Bool.and_eq_true, decide_eq_true_eq, true_and, and_true]
  omega
theorem tlook_yes {bs : List Bx} {a w : Int} {who : Str} {b : Int} {ns : List Int} {t : Int} (h : (TRw.lk who b ns t).ok bs w a) : tlookB bs a w (TRw.lk who b ns t).d = true := by
  obtain ⟨h1, h2, h3, h4, h5, h6, h7⟩ := h
  simp only [TRw.d, tlookB, tlookL, whoB, h1, look_ok h2 h3 h4, decide_eq_true h5, btw_yes h6 h7]
  rfl
def sp_is_template_look : Spec := sp4 (fun (bs : List Bx) (d : D) (_ _ : Int) S => knd S d = true) fun bs d a w _ => .bl (tlookB bs a w d)
def t_is_template_look : WS :=
  sSeq
  (sIf (wOrT (wNotT (wTru (wIsi (wVar 1) .tuple))) (wOrT (wCmpT .NotEq (wFn lenF (wCons (wVar 1) wNil)) (wC (.int 5))) (wOrT (wNotT (wTru (wIsi (wBin ixF (wVar 1) (wC (.int 1))) .str))) (wCmpT .NotIn (wBin ixF (wVar 1) (wC (.int 1))) (wC (.tup [(.str "others"), (.str "lower"), (.str "higher")])))))) (sSeq (sRet (wC (.bl false))) sNx) (sNx)) <|
  sSeq (sRet (wAndV (wCall sp_is_look (wCons (wVar 0) (wCons (wBin addF (wSl (wVar 1) (wNoP) (wP (wC (.int 1)))) (wSl (wVar 1) (wP (wC (.int 2))) (wNoP))) (wNil)))) (wAndV (wBin (cmpF .Lt) (wVar 2) (wVar 3)) (wCall sp_is_between (wCons (wBin ixF (wVar 1) (wC (.int 4))) (wCons (wC (.int 1)) (wCons (wVar 3) (wNil)))))))) sNx
theorem call_tlook {S : Sto} {Q : D → Sto → Prop} {E : QX} {bs : List Bx} {d : D} {a w : Int} (h : knd S d = true) : callS sp_is_template_look [bxs bs, d, .int a, .int w] S Q E ↔ Q (.bl (tlookB bs a w d)) S := call4 (α := List Bx) (β := D) (γ := Int) (δ := Int) bs d a w h
theorem ix51 {S : Sto} {Q : D → Sto → Prop} {a b c d e : D} : ixF (.tup [a, b, c, d, e]) (.int 1) S Q ↔ Q b S := ix_tup rfl
theorem ix54 {S : Sto} {Q : D → Sto → Prop} {a b c d e : D} : ixF (.tup [a, b, c, d, e]) (.int 4) S Q ↔ Q e S := ix_tup rfl
theorem in_who {S : Sto} {x : Str} : inD S (.str x) (.tup [.str "others", .str "lower", .str "higher"]) = some (isWho x) := by
  have : isWho x = ([D.str "others", .str "lower", .str "higher"].any fun z => pyEq z (.str x)) := by
    simp only [isWho, List.any_cons, List.any_nil, pyEq, Bool.or_false]
    rw [Bool.beq_comm (a := x), Bool.beq_comm (a := x), Bool.beq_comm (a := x)]
  rw [this]
  rfl
theorem ok_is_template_look : BodyOk ["kinds", "thing", "at", "within"] 4 sp_is_template_look t_is_template_look := by
  refine ok4 ?_
  rintro bs x at_ w S hk Nx hr _
  replace hr : Nx.rt (.bl (tlookB bs at_ w x)) S := hr S Sub.refl
  have hk' := knd_kn hk
  dsimp! [t_is_template_look, Enc.e, isi_kn hk', isB_tup hk']
  cases x with
  | tup l =>
    simp only [knd] at hk
    dsimp! []
    intro _
    by_cases h5 : l.length = 5
    · obtain ⟨a, b, c, d, e, rfl⟩ := len_five h5
      have e5 : decide (((0 + 1 + 1 + 1 + 1 + 1 : Nat) : Int) = 5) = true := rfl
      have kb := knd_kn (knds_mem hk b (by simp))
      have ke := knd_kn (knds_mem hk e (by simp))
      dsimp! [e5, ix51, isi_kn kb, isB_str kb]
      simp only [tlookB, tlookL] at hr
      cases b with
      | str y =>
        dsimp! [in_who]
        simp only [whoB] at hr
        cases hw : isWho y with
        | false => rw [hw] at hr; dsimp! []; exact hr
        | true =>
          rw [hw] at hr
          dsimp! []
          refine ⟨by show 1 + 3 ≤ sizeLine; decide, ?_⟩
          have kk : knd S (.tup [a, c, d, e]) = true := by
            simp only [knds, Bool.and_eq_true] at hk
            simp only [knd, knds, hk.1, hk.2.2.1, hk.2.2.2.1, hk.2.2.2.2.1]; rfl
          have ec : D.tup ((cutD [a, .str y, c, d, e] none (some 1)) ++ cutD [a, .str y, c, d, e] (some 2) none) = .tup [a, c, d, e] := rfl
          rw [ec, call_look kk]
          simp only [lookB]
          cases hl : lookL bs [a, c, d, e] with
          | false => rw [hl] at hr; dsimp! []; exact hr
          | true =>
            rw [hl] at hr
            dsimp! []
            cases ha : decide (at_ < w) with
            | false => rw [ha] at hr; dsimp! []; exact hr
            | true =>
              rw [ha] at hr
              dsimp! [ix54, call_between ke]
              exact hr
      | _ => dsimp! []; exact hr
    · simp only [tlookB, tlookL_no h5] at hr
      rw [show decide ((l.length : Int) = 5) = false from len_no (n := 5) h5]
      dsimp! []
      exact hr
  | _ => dsimp! []; exact hr
def sp_together : Spec := sp1 (fun (rs : List TRw) _ => rs.length ≤ 8) fun rs _ => .int (tog rs)
def t_together : WS :=
  sSeq (sRet (wQf sumF (qLst (wLc (iOf (wVar 0)) (.nm 1) [1] (wYes) (wBin ixF (wLst (wCons (wC (.int 3)) (wCons (wC (.int 1)) (wNil)))) (wFn intF (wCons (wBin (cmpF .Eq) (wBin ixF (wVar 1) (wC (.int 0))) (wC (.str "write"))) wNil))))))) sNx
theorem call_together {S : Sto} {Q : D → Sto → Prop} {E : QX} {rs : List TRw} (h : rs.length ≤ 8) : callS sp_together [.tup (rs.map TRw.d)] S Q E ↔ Q (.int (tog rs)) S := call1 (α := List TRw) rs h
/-- a comprehension that may lay things -/
theorem lc_any {α : Type} {chk : Sto → Prop} {tg : Tg} {te : WE} {ρ : En} {P : List D → Sto → Prop} (enc : α → D) (f : α → D) (I : Sto → Prop) (hc : ∀ S, I S → chk S) : ∀ {l : List α} {S : Sto} {acc : List D},
    (∀ x ∈ l, ∀ S, I S → ∃ ρ1, asg tg (enc x) ρ = some ρ1 ∧ ∀ Q : D → Sto → Prop, (∀ S', I S' → Q (f x) S') → te ρ1 S Q (fun _ _ => False)) → I S → (∀ S', I S' → P (acc ++ l.map f) S') → wLcGo chk tg wYes te ρ P (l.map enc) acc S
  | [], S, acc, _, hI, h => ⟨hc S hI, by simpa using h S hI⟩
  | x :: l, S, acc, hs, hI, h => by
    obtain ⟨ρ1, e, q⟩ := hs x (by simp) S hI
    refine ⟨hc S hI, ρ1, e, ?_⟩
    simp only [wYes, if_true]
    refine q _ fun S' hI' => lc_any enc f I hc (fun x hx => hs x (by simp [hx])) hI' fun S'' hI'' => ?_
    have := h S'' hI''
    simpa using this
theorem all_in {α : Type} {l : List α} {f : α → Int} : (l.map fun x => D.int (f x)).all isIn = true := by
  induction l with
  | nil => rfl
  | cons x xs ih => simp only [List.map_cons, List.all_cons, isIn, ih]; rfl
theorem sum_in {α : Type} {l : List α} {f : α → Int} : ((l.map fun x => D.int (f x)).map intOf).sum = (l.map f).sum := by
  rw [List.map_map]; rfl
theorem ok_together : BodyOk ["rows", "row"] 1 sp_together t_together := by
  refine ok1 ?_
  rintro rs S h8 Nx hr _
  dsimp! [t_together, Enc.e, sumF]
  refine lc_any TRw.d (fun r => .int (tog1 r)) (Sub S) (fun _ _ => chk_nil) (l := rs) (fun r _ S1 hS => ⟨_, rfl, fun Q q => ?_⟩) Sub.refl fun S1 hS => ?_
  · dsimp! []
    intro p hp
    have hS2 : Sub S (put S1 p (.lst [.int 3, .int 1])) := Sub.put2 hS (hS.none hp)
    cases r with
    | wr b v =>
      have e : (("write" : Str) == "write") = true := rfl
      dsimp! [TRw.d, ix30, e, ix_ref (S := put S1 p (.lst [.int 3, .int 1])) put_same (show atI [D.int 3, .int 1] 1 = some (.int 1) from rfl)]
      exact q _ hS2
    | lk w b ns t =>
      have e : (("look" : Str) == "write") = false := rfl
      have i0 : ixF (.tup [.str "look", .str w, .int b, .tup (ns.map .int), .int t]) (.int 0) (put S1 p (.lst [.int 3, .int 1])) = fun Q => Q (.str "look") (put S1 p (.lst [.int 3, .int 1])) := by
        funext Q; exact propext (ix_tup rfl)
      dsimp! [TRw.d, i0, e, ix_ref (S := put S1 p (.lst [.int 3, .int 1])) put_same (show atI [D.int 3, .int 1] 0 = some (.int 3) from rfl)]
      exact q _ hS2
  · refine ⟨trivial, all_in, ?_⟩
    rw [List.nil_append, sum_in]
    exact hr _ hS
end Ow

namespace Ow
open PySem PySem.Spec PyProof.Rows L2
local macro_rules | `(tactic| dsimp! [$ts,*]) => `(tactic| try simp only [$ts,*, sSeq, sRet, sRetN, sIf, sAsg, sExpr, sNx, sBk, sCt, sNever, sRaise, sRaiseF, sFor, sSub, wAndV, wOrV, wNotV, wAndT, wOrT, wNotT, wTru, wCmpT, wChT, wChV, wBin, wUn, wVar, wC, wCons, wNil, wTup, wIfE, wIsi, wFn, wQf, qLst, qOf, wCall, wCall0, wLc, wYes, iOf, iR1, iR2, iEn, iHid, wNew, wLst, wSl, wNoP, wP, ex_ss, ex_some, ex_eq, ex_int, ex_two, startD, List.map_cons, List.map_nil, List.length_cons, List.length_nil, List.replicate, List.cons_append, List.nil_append, List.getElem?_cons_zero, List.getElem?_cons_succ, List.set_cons_zero, List.set_cons_succ, wipeD, asg_nm, asg_tp, asgs_nil, asgs_cons, Option.bind_some, tru_bl, tru_int, tru_tup, cmpF, cmpD, lt_int, eq_int, eq_str, eq_bl, Option.map_some, sub_int, add_int, add_tup, fdiv_int, mod_int, pow_int, shl_int, shr_int, band_int, mul_int, int_bl, dm_int, max_int, min_int, len_tup, len_fl, Nat.reduceAdd, Nat.reduceSub, if_true, Bool.not_true, Bool.not_false, Bool.false_eq_true, if_false, tupF, allF, anyF, lenQF, Nat.zero_add, Nat.sub_self, wApp, wExt, iZip, ix_w0, ix_w1, ix_s0, ix_s1, ix_p0, ix_p1, ix_p2, ix_b0, ix_b1, ix_b2, ix_wr0, ix_wr1, ix_wr2, ix_lk0, ix_lk1, ix_lk2, ix_lk3, asg_w, asg_s, asg_p, asg_b, asg_wr, asg_lk, len_h, len_b, len_map, src_h, src_b, src_t, srcD_t, sl_h, sl_b, ix20, ix21, sl_tup, in_ints, decide_true, decide_false, List.length_map, neg_int, isi_ib, isi_ii, isi_it, isi_bb, isi_bi, isi_tt, isi_tb, isi_ti, isi_ss, isi_nb, isi_ni, isi_nt, isi_ob, isi_wt, isi_sdt])
local macro_rules | `(tactic| dsimp! []) => `(tactic| try simp only [sSeq, sRet, sRetN, sIf, sAsg, sExpr, sNx, sBk, sCt, sNever, sRaise, sRaiseF, sFor, sSub, wAndV, wOrV, wNotV, wAndT, wOrT, wNotT, wTru, wCmpT, wChT, wChV, wBin, wUn, wVar, wC, wCons, wNil, wTup, wIfE, wIsi, wFn, wQf, qLst, qOf, wCall, wCall0, wLc, wYes, iOf, iR1, iR2, iEn, iHid, wNew, wLst, wSl, wNoP, wP, ex_ss, ex_some, ex_eq, ex_int, ex_two, startD, List.map_cons, List.map_nil, List.length_cons, List.length_nil, List.replicate, List.cons_append, List.nil_append, List.getElem?_cons_zero, List.getElem?_cons_succ, List.set_cons_zero, List.set_cons_succ, wipeD, asg_nm, asg_tp, asgs_nil, asgs_cons, Option.bind_some, tru_bl, tru_int, tru_tup, cmpF, cmpD, lt_int, eq_int, eq_str, eq_bl, Option.map_some, sub_int, add_int, add_tup, fdiv_int, mod_int, pow_int, shl_int, shr_int, band_int, mul_int, int_bl, dm_int, max_int, min_int, len_tup, len_fl, Nat.reduceAdd, Nat.reduceSub, if_true, Bool.not_true, Bool.not_false, Bool.false_eq_true, if_false, tupF, allF, anyF, lenQF, Nat.zero_add, Nat.sub_self, wApp, wExt, iZip, ix_w0, ix_w1, ix_s0, ix_s1, ix_p0, ix_p1, ix_p2, ix_b0, ix_b1, ix_b2, ix_wr0, ix_wr1, ix_wr2, ix_lk0, ix_lk1, ix_lk2, ix_lk3, asg_w, asg_s, asg_p, asg_b, asg_wr, asg_lk, len_h, len_b, len_map, src_h, src_b, src_t, srcD_t, sl_h, sl_b, ix20, ix21, sl_tup, in_ints, decide_true, decide_false, List.length_map, neg_int, isi_ib, isi_ii, isi_it, isi_bb, isi_bi, isi_tt, isi_tb, isi_ti, isi_ss, isi_nb, isi_ni, isi_nt, isi_ob, isi_wt, isi_sdt])
def trowB (bs : List Bx) (within at_ : Int) (d : D) : Bool := writeB bs d || tlookB bs at_ within d
def trowsB (bs : List Bx) (within : Int) : Int → List D → Bool
  | _, [] => true
  | k, r :: rs => trowB bs within k r && trowsB bs within (k + 1) rs
theorem write_yes {bs : List Bx} {b v : Int} (h : 0 ≤ b ∧ b < bs.length ∧ 0 ≤ v ∧ v < szAt bs b) : writeB bs (.tup [.str "write", .int b, .int v]) = true := by
  have e : strB (.str "write") "write" = true := rfl
  obtain ⟨h1, h2, h3, h4⟩ := h
  simp only [writeB, writeL, e, intB, btw_int, Bool.and_eq_true, decide_eq_true_eq, true_and]
  omega
theorem trowB_of {bs : List Bx} {w a : Int} {d : D} (h : trowB bs w a d = true) : ∃ r : TRw, d = r.d ∧ r.ok bs w a := by
  unfold trowB at h
  rw [Bool.or_eq_true] at h
  rcases h with h | h
  · obtain ⟨b, v, rfl, o⟩ := writeB_of h
    exact ⟨.wr b v, rfl, o 0 0 0⟩
  · obtain ⟨who, b, ns, t, rfl, o⟩ := tlookB_of h
    exact ⟨_, rfl, o⟩
theorem trow_yes {bs : List Bx} {w a : Int} {r : TRw} (h : r.ok bs w a) : trowB bs w a r.d = true := by
  unfold trowB
  rw [Bool.or_eq_true]
  cases r with
  | wr b v => exact .inl (write_yes h)
  | lk who b ns t => exact .inr (tlook_yes h)
theorem trowsB_of {bs : List Bx} {w : Int} : ∀ {k : Int} {l : List D}, trowsB bs w k l = true → ∃ rs : List TRw, l = rs.map TRw.d ∧ trowsOk bs w k rs
  | _, [], _ => ⟨[], rfl, trivial⟩
  | k, x :: xs, h => by
    simp only [trowsB, Bool.and_eq_true] at h
    obtain ⟨r, rfl, o⟩ := trowB_of h.1
    obtain ⟨rs, rfl, os⟩ := trowsB_of h.2
    exact ⟨r :: rs, rfl, o, os⟩
theorem trows_yes {bs : List Bx} {w : Int} : ∀ {k : Int} {rs : List TRw}, trowsOk bs w k rs → trowsB bs w k (rs.map TRw.d) = true
  | _, [], _ => rfl
  | k, r :: rs, h => by simp only [List.map_cons, trowsB, trow_yes h.1, trows_yes h.2]; rfl
def isTpl (d : D) : Prop := ∃ t : Tp, d = t.d ∧ t.ok
def sp_is_template : Spec := { pre := fun ds S => ∃ d, ds = [d] ∧ knd S d = true, post := fun ds S r S' => S' = S ∧ ∃ d b, ds = [d] ∧ r = .bl b ∧ (b = true ↔ isTpl d) }
def t_is_template : WS :=
  sSeq
  (sIf (wOrT (wNotT (wTru (wIsi (wVar 0) .tuple))) (wOrT (wCmpT .NotEq (wFn lenF (wCons (wVar 0) wNil)) (wC (.int 2))) (wNotT (wTru (wCall sp_are_boxes (wCons (wBin ixF (wVar 0) (wC (.int 0))) (wCons (wC (.int 2)) (wNil)))))))) (sSeq (sRet (wC (.bl false))) sNx) (sNx)) <|
  sSeq
  (sAsg (wVar 0) (.tp [.nm 1, .nm 2])) <|
  sSeq
  (sIf (wNotT (wTru (wCall sp_has_ends (wCons (wVar 2) (wCons (wC (.int 8)) (wNil)))))) (sSeq (sRet (wC (.bl false))) sNx) (sNx)) <|
  sSeq
  (sAsg (wVar 2) (.tp [.nm 3, .nm 4, .nm 5])) <|
  sSeq
  (sFor (iEn 1 (wVar 5)) (.tp [.nm 6, .nm 7]) (sSeq (sIf (wAndT (wNotT (wTru (wCall sp_is_write (wCons (wVar 1) (wCons (wVar 7) (wNil)))))) (wNotT (wTru (wCall sp_is_template_look (wCons (wVar 1) (wCons (wVar 7) (wCons (wVar 6) (wCons (wVar 4) (wNil))))))))) (sSeq (sRet (wC (.bl false))) sNx) (sNx)) sNx)) <|
  sSeq (sRet (wBin (cmpF .LtE) (wCall sp_together (wCons (wVar 5) (wNil))) (wC (.int 16)))) sNx
theorem call_template {S : Sto} {Q : D → Sto → Prop} {E : QX} {d : D} (h : knd S d = true) (q : ∀ b, (b = true ↔ isTpl d) → Q (.bl b) S) : callS sp_is_template [d] S Q E :=
  ⟨⟨d, rfl, h⟩, fun r S' ⟨e, d', b, e1, e2, hb⟩ => by cases e1; rw [e, e2]; exact q b hb, fun _ _ z => z.elim⟩
theorem ok_is_template : BodyOk ["thing", "kinds", "program", "door", "within", "rows", "at", "row"] 1 sp_is_template t_is_template := by
  rintro _ S _ ⟨x, rfl, hk⟩
  have hr : ∀ b, (b = true ↔ isTpl x) → (ndOf sp_is_template [x] S).rt (.bl b) S := fun b hb => ⟨S, Sub.refl, rfl, x, b, rfl, rfl, hb⟩
  generalize ndOf sp_is_template [x] S = Nx at hr
  have no : ¬ isTpl x → Nx.rt (.bl false) S := fun h => hr false ⟨(fun z => by cases z), fun z => (h z).elim⟩
  have hk' := knd_kn hk
  dsimp! [t_is_template, isi_kn hk', isB_tup hk']
  cases x with
  | tup l =>
    simp only [knd] at hk
    dsimp! []
    intro _
    by_cases h2 : l.length = 2
    · obtain ⟨a, b, rfl⟩ := len_two h2
      have e2 : decide (((0 + 1 + 1 : Nat) : Int) = 2) = true := rfl
      have ka := knds_mem hk a (by simp)
      have kb := knds_mem hk b (by simp)
      dsimp! [e2, call_boxes ka]
      cases hB : boxesB 2 a with
      | false =>
        dsimp! []
        refine no ?_
        rintro ⟨t, e, o⟩
        simp only [Tp.d, D.tup.injEq, List.cons.injEq, and_true] at e
        rw [e.1, boxes_ok o.bok (by have := o.b1; omega) (by have := o.b2; omega)] at hB
        cases hB
      | true =>
        dsimp! [call_ends kb]
        obtain ⟨bs, rfl, bok, b1, b2⟩ := boxesB_of hB
        cases hE : endsB 8 b with
        | false =>
          dsimp! []
          refine no ?_
          rintro ⟨t, e, o⟩
          simp only [Tp.d, D.tup.injEq, List.cons.injEq, and_true] at e
          have : endsB 8 t.pd = true := by
            have := o.n1; have := o.n8; have := o.w1; have := o.wn; have := o.d0; have := o.dw
            simp only [Tp.pd, endsB, endsL, List.length_map, intB, btw_int, Bool.and_eq_true, decide_eq_true_eq]
            omega
          rw [e.2, this] at hE
          cases hE
        | true =>
          obtain ⟨dr, w, rows, rfl, h1, h8, h3, h4, h5, h6⟩ := endsB_of hE
          simp only [knd, knds, Bool.and_eq_true] at kb
          dsimp! [iEn]
          refine ⟨.inr ⟨_, rfl⟩, ?_⟩
          have notp : trowsB bs w 1 rows = false → ¬ isTpl (.tup [bxs bs, .tup [.int dr, .int w, .tup rows]]) := fun hf => by
            rintro ⟨t, e, o⟩
            simp only [Tp.d, Tp.pd, bxs, D.tup.injEq, List.cons.injEq, D.int.injEq, and_true] at e
            obtain ⟨e1, rfl, rfl, rfl⟩ := e
            have := Bx.inj e1
            subst this
            rw [trows_yes o.rows] at hf
            cases hf
          refine for_inv (fun ds ρ S' => S' = S ∧ ∃ k rs u v, ds = numD k rs ∧ ρ = [some (.tup [bxs bs, .tup [.int dr, .int w, .tup rows]]), some (bxs bs), some (.tup [.int dr, .int w, .tup rows]), some (.int dr), some (.int w), some (.tup rows), u, v] ∧ trowsB bs w 1 rows = trowsB bs w k rs ∧ knds S rs = true) ?_ ?_ ⟨rfl, 1, rows, none, none, rfl, rfl, rfl, kb.2.2.1⟩
          · rintro d ds ρ S' ⟨rfl, k, rs, u, v, e1, rfl, e2, e3⟩
            cases rs with
            | nil => cases e1
            | cons r rs =>
              rw [numD_cons] at e1
              cases e1
              simp only [knds, Bool.and_eq_true] at e3
              refine ⟨chk_nil, _, rfl, fun R hR => ?_⟩
              dsimp! [call_write e3.1, call_tlook e3.1]
              simp only [trowsB, trowB] at e2
              have hgo : trowsB bs w 1 rows = trowsB bs w (k + 1) rs → R [some (.tup [bxs bs, .tup [.int dr, .int w, .tup rows]]), some (bxs bs), some (.tup [.int dr, .int w, .tup rows]), some (.int dr), some (.int w), some (.tup rows), some (.int k), some r] S' := fun e => hR _ _ ⟨rfl, k + 1, rs, _, _, rfl, rfl, e, e3.2⟩
              cases hw : writeB bs r with
              | true => rw [hw] at e2; dsimp! []; exact hgo e2
              | false =>
                rw [hw] at e2
                dsimp! []
                cases hl : tlookB bs k w r with
                | true => rw [hl] at e2; dsimp! []; exact hgo e2
                | false => rw [hl] at e2; dsimp! []; exact no (notp e2)
          · rintro ρ S' ⟨rfl, k, rs, u, v, e1, rfl, e2, e3⟩
            have : trowsB bs w k rs = true := by
              cases rs with
              | nil => rfl
              | cons r rs => rw [numD_cons] at e1; cases e1
            rw [this] at e2
            obtain ⟨ts, rfl, tok⟩ := trowsB_of e2
            rw [List.length_map] at h1 h8 h4
            refine ⟨chk_nil, ?_⟩
            dsimp! [call_together (show ts.length ≤ 8 by omega)]
            refine hr _ ?_
            rw [decide_eq_true_eq]
            constructor
            · exact fun ht => ⟨⟨bs, dr, w, ts⟩, rfl, bok, by show 1 ≤ bs.length; omega, by show bs.length ≤ 2; omega, by show 1 ≤ ts.length; omega, by show ts.length ≤ 8; omega, h3, h4, h5, h6, tok, ht⟩
            · rintro ⟨t, e, o⟩
              simp only [Tp.d, Tp.pd, bxs, D.tup.injEq, List.cons.injEq, D.int.injEq, and_true] at e
              obtain ⟨_, _, _, e⟩ := e
              rw [map_inj (fun _ _ => TRw.injD) e]
              exact o.tog
    · rw [show decide ((l.length : Int) = 2) = false from len_no (n := 2) h2]
      dsimp! []
      refine no ?_
      rintro ⟨t, e, o⟩
      simp only [Tp.d, D.tup.injEq] at e
      rw [e] at h2
      exact h2 rfl
  | _ => dsimp! []; refine no ?_; rintro ⟨t, e, o⟩; cases e
theorem knd_trw {S : Sto} (r : TRw) : knd S r.d = true := by
  cases r with
  | wr b v => rfl
  | lk w b ns t => simp only [TRw.d, knd, knds, knds_map (f := D.int) (fun _ => rfl)]; rfl
theorem knd_tp {S : Sto} (t : Tp) : knd S t.d = true := by simp only [Tp.d, Tp.pd, bxs, knd, knds, knds_map knd_bx, knds_map knd_trw]; rfl
def flT (d : D) (o : Option Str) : Prop := (isTpl d → o = none) ∧ (¬ isTpl d → o = some "NoTemplate")
theorem flT_ok {t : Tp} (ot : t.ok) (o : Option Str) : flT t.d o ↔ o = none := ⟨fun h => h.1 ⟨t, rfl, ot⟩, fun h => ⟨fun _ => h, fun n => (n ⟨t, rfl, ot⟩).elim⟩⟩
theorem flT_no {d : D} (h : ¬ isTpl d) (o : Option Str) : flT d o ↔ o = some "NoTemplate" := ⟨fun z => z.2 h, fun e => ⟨fun y => (h y).elim, fun _ => e⟩⟩
def sp_check_template : Spec := xR (fun ds S => ∃ d, ds = [d] ∧ knd S d = true) (fun ds _ o => flT (arg ds 0) o) fun _ _ d => d = .non
def t_check_template : WS :=
  sSeq (sIf (wNotT (wTru (wCall sp_is_template (wCons (wVar 0) (wNil))))) (sSeq (sRaise "NoTemplate") sNx) (sNx)) sNx
theorem call_check_template {S : Sto} {Q : D → Sto → Prop} {E : QX} {t : Tp} (h : t.ok) : callS sp_check_template [t.d] S Q E ↔ Q .non S := callS_xR ⟨t.d, rfl, knd_tp t⟩ (flT_ok h) rfl fun _ z => z
theorem callx_check_template {S : Sto} {Q : D → Sto → Prop} {E : QX} {d : D} (hk : knd S d = true) (h : ¬ isTpl d) : callS sp_check_template [d] S Q E ↔ E ⟨"NoTemplate", none⟩ S := callS_xRx ⟨d, rfl, hk⟩ (flT_no h)
theorem ok_check_template : BodyOk ["template"] 1 sp_check_template t_check_template := by
  refine ok_xR ?_
  rintro _ S ⟨d, rfl, hk⟩ Nx _ hx hc
  dsimp! [t_check_template]
  refine call_template hk fun b hb => ?_
  cases b with
  | true => dsimp! []; exact hx ⟨fun _ => rfl, fun n => (n (hb.mp rfl)).elim⟩ rfl _ _ Sub.refl
  | false => dsimp! []; exact hc _ ((flT_no (fun z => by cases hb.mpr z) _).mpr rfl) _ _ Sub.refl
def looked (who : Str) (h m : Int) : List Int := if who = "lower" then (List.range h.toNat).map fun i => ((i : Nat) : Int) else if who = "higher" then (List.range (m - (h + 1)).toNat).map fun i => h + 1 + ((i : Nat) : Int) else ((List.range m.toNat).map fun i => ((i : Nat) : Int)).filter fun o => decide (o ≠ h)
instance : Enc Str := ⟨.str, fun _ _ h => by cases h; rfl⟩
end Ow

namespace Ow
open PySem PySem.Spec PyProof.Rows L2
local macro_rules | `(tactic| dsimp! [$ts,*]) => `(tactic| try simp only [$ts,*, sSeq, sRet, sRetN, sIf, sAsg, sExpr, sNx, sBk, sCt, sNever, sRaise, sRaiseF, sFor, sSub, wAndV, wOrV, wNotV, wAndT, wOrT, wNotT, wTru, wCmpT, wChT, wChV, wBin, wUn, wVar, wC, wCons, wNil, wTup, wIfE, wIsi, wFn, wQf, qLst, qOf, wCall, wCall0, wLc, wYes, iOf, iR1, iR2, iEn, iHid, wNew, wLst, wSl, wNoP, wP, ex_ss, ex_some, ex_eq, ex_int, ex_two, startD, List.map_cons, List.map_nil, List.length_cons, List.length_nil, List.replicate, List.cons_append, List.nil_append, List.getElem?_cons_zero, List.getElem?_cons_succ, List.set_cons_zero, List.set_cons_succ, wipeD, asg_nm, asg_tp, asgs_nil, asgs_cons, Option.bind_some, tru_bl, tru_int, tru_tup, cmpF, cmpD, lt_int, eq_int, eq_str, eq_bl, Option.map_some, sub_int, add_int, add_tup, fdiv_int, mod_int, pow_int, shl_int, shr_int, band_int, mul_int, int_bl, dm_int, max_int, min_int, len_tup, len_fl, Nat.reduceAdd, Nat.reduceSub, if_true, Bool.not_true, Bool.not_false, Bool.false_eq_true, if_false, tupF, allF, anyF, lenQF, Nat.zero_add, Nat.sub_self, wApp, wExt, iZip, ix_w0, ix_w1, ix_s0, ix_s1, ix_p0, ix_p1, ix_p2, ix_b0, ix_b1, ix_b2, ix_wr0, ix_wr1, ix_wr2, ix_lk0, ix_lk1, ix_lk2, ix_lk3, asg_w, asg_s, asg_p, asg_b, asg_wr, asg_lk, len_h, len_b, len_map, src_h, src_b, src_t, srcD_t, sl_h, sl_b, ix20, ix21, sl_tup, in_ints, decide_true, decide_false, List.length_map, neg_int, isi_ib, isi_ii, isi_it, isi_bb, isi_bi, isi_tt, isi_tb, isi_ti, isi_ss, isi_nb, isi_ni, isi_nt, isi_ob, isi_wt, isi_sdt])
local macro_rules | `(tactic| dsimp! []) => `(tactic| try simp only [sSeq, sRet, sRetN, sIf, sAsg, sExpr, sNx, sBk, sCt, sNever, sRaise, sRaiseF, sFor, sSub, wAndV, wOrV, wNotV, wAndT, wOrT, wNotT, wTru, wCmpT, wChT, wChV, wBin, wUn, wVar, wC, wCons, wNil, wTup, wIfE, wIsi, wFn, wQf, qLst, qOf, wCall, wCall0, wLc, wYes, iOf, iR1, iR2, iEn, iHid, wNew, wLst, wSl, wNoP, wP, ex_ss, ex_some, ex_eq, ex_int, ex_two, startD, List.map_cons, List.map_nil, List.length_cons, List.length_nil, List.replicate, List.cons_append, List.nil_append, List.getElem?_cons_zero, List.getElem?_cons_succ, List.set_cons_zero, List.set_cons_succ, wipeD, asg_nm, asg_tp, asgs_nil, asgs_cons, Option.bind_some, tru_bl, tru_int, tru_tup, cmpF, cmpD, lt_int, eq_int, eq_str, eq_bl, Option.map_some, sub_int, add_int, add_tup, fdiv_int, mod_int, pow_int, shl_int, shr_int, band_int, mul_int, int_bl, dm_int, max_int, min_int, len_tup, len_fl, Nat.reduceAdd, Nat.reduceSub, if_true, Bool.not_true, Bool.not_false, Bool.false_eq_true, if_false, tupF, allF, anyF, lenQF, Nat.zero_add, Nat.sub_self, wApp, wExt, iZip, ix_w0, ix_w1, ix_s0, ix_s1, ix_p0, ix_p1, ix_p2, ix_b0, ix_b1, ix_b2, ix_wr0, ix_wr1, ix_wr2, ix_lk0, ix_lk1, ix_lk2, ix_lk3, asg_w, asg_s, asg_p, asg_b, asg_wr, asg_lk, len_h, len_b, len_map, src_h, src_b, src_t, srcD_t, sl_h, sl_b, ix20, ix21, sl_tup, in_ints, decide_true, decide_false, List.length_map, neg_int, isi_ib, isi_ii, isi_it, isi_bb, isi_bi, isi_tt, isi_tb, isi_ti, isi_ss, isi_nb, isi_ni, isi_nt, isi_ob, isi_wt, isi_sdt])
theorem trowsOk_get {bs : List Bx} {w : Int} : ∀ {k : Int} {rs : List TRw} {i : Nat} {r : TRw}, trowsOk bs w k rs → rs[i]? = some r → r.ok bs w (k + i)
  | _, [], _, _, _, e => by simp at e
  | k, r :: rs, 0, r', h, e => by simp at e; subst e; simpa using h.1
  | k, r :: rs, i + 1, r', h, e => by
    have := trowsOk_get (i := i) h.2 (by simpa using e)
    rw [show k + ((i + 1 : Nat) : Int) = k + 1 + i by omega]
    exact this
theorem mul_small {i j : Int} (h0 : 0 ≤ i) (h1 : i ≤ 1000) : mulOk i j := .inl ⟨by omega, by omega⟩
end Ow

namespace Ow
open PySem PySem.Spec PyProof.Rows L2
local macro_rules | `(tactic| dsimp! [$ts,*]) => `(tactic| try simp only [$ts,*, sSeq, sRet, sRetN, sIf, sAsg, sExpr, sNx, sBk, sCt, sNever, sRaise, sRaiseF, sFor, sSub, wAndV, wOrV, wNotV, wAndT, wOrT, wNotT, wTru, wCmpT, wChT, wChV, wBin, wUn, wVar, wC, wCons, wNil, wTup, wIfE, wIsi, wFn, wQf, qLst, qOf, wCall, wCall0, wLc, wYes, iOf, iR1, iR2, iEn, iHid, wNew, wLst, wSl, wNoP, wP, ex_ss, ex_some, ex_eq, ex_int, ex_two, startD, List.map_cons, List.map_nil, List.length_cons, List.length_nil, List.replicate, List.cons_append, List.nil_append, List.getElem?_cons_zero, List.getElem?_cons_succ, List.set_cons_zero, List.set_cons_succ, wipeD, asg_nm, asg_tp, asgs_nil, asgs_cons, Option.bind_some, tru_bl, tru_int, tru_tup, cmpF, cmpD, lt_int, eq_int, eq_str, eq_bl, Option.map_some, sub_int, add_int, add_tup, fdiv_int, mod_int, pow_int, shl_int, shr_int, band_int, mul_int, int_bl, dm_int, max_int, min_int, len_tup, len_fl, Nat.reduceAdd, Nat.reduceSub, if_true, Bool.not_true, Bool.not_false, Bool.false_eq_true, if_false, tupF, allF, anyF, lenQF, Nat.zero_add, Nat.sub_self, wApp, wExt, iZip, ix_w0, ix_w1, ix_s0, ix_s1, ix_p0, ix_p1, ix_p2, ix_b0, ix_b1, ix_b2, ix_wr0, ix_wr1, ix_wr2, ix_lk0, ix_lk1, ix_lk2, ix_lk3, asg_w, asg_s, asg_p, asg_b, asg_wr, asg_lk, len_h, len_b, len_map, src_h, src_b, src_t, srcD_t, sl_h, sl_b, ix20, ix21, sl_tup, in_ints, decide_true, decide_false, List.length_map, neg_int, isi_ib, isi_ii, isi_it, isi_bb, isi_bi, isi_tt, isi_tb, isi_ti, isi_ss, isi_nb, isi_ni, isi_nt, isi_ob, isi_wt, isi_sdt])
local macro_rules | `(tactic| dsimp! []) => `(tactic| try simp only [sSeq, sRet, sRetN, sIf, sAsg, sExpr, sNx, sBk, sCt, sNever, sRaise, sRaiseF, sFor, sSub, wAndV, wOrV, wNotV, wAndT, wOrT, wNotT, wTru, wCmpT, wChT, wChV, wBin, wUn, wVar, wC, wCons, wNil, wTup, wIfE, wIsi, wFn, wQf, qLst, qOf, wCall, wCall0, wLc, wYes, iOf, iR1, iR2, iEn, iHid, wNew, wLst, wSl, wNoP, wP, ex_ss, ex_some, ex_eq, ex_int, ex_two, startD, List.map_cons, List.map_nil, List.length_cons, List.length_nil, List.replicate, List.cons_append, List.nil_append, List.getElem?_cons_zero, List.getElem?_cons_succ, List.set_cons_zero, List.set_cons_succ, wipeD, asg_nm, asg_tp, asgs_nil, asgs_cons, Option.bind_some, tru_bl, tru_int, tru_tup, cmpF, cmpD, lt_int, eq_int, eq_str, eq_bl, Option.map_some, sub_int, add_int, add_tup, fdiv_int, mod_int, pow_int, shl_int, shr_int, band_int, mul_int, int_bl, dm_int, max_int, min_int, len_tup, len_fl, Nat.reduceAdd, Nat.reduceSub, if_true, Bool.not_true, Bool.not_false, Bool.false_eq_true, if_false, tupF, allF, anyF, lenQF, Nat.zero_add, Nat.sub_self, wApp, wExt, iZip, ix_w0, ix_w1, ix_s0, ix_s1, ix_p0, ix_p1, ix_p2, ix_b0, ix_b1, ix_b2, ix_wr0, ix_wr1, ix_wr2, ix_lk0, ix_lk1, ix_lk2, ix_lk3, asg_w, asg_s, asg_p, asg_b, asg_wr, asg_lk, len_h, len_b, len_map, src_h, src_b, src_t, srcD_t, sl_h, sl_b, ix20, ix21, sl_tup, in_ints, decide_true, decide_false, List.length_map, neg_int, isi_ib, isi_ii, isi_it, isi_bb, isi_bi, isi_tt, isi_tb, isi_ti, isi_ss, isi_nb, isi_ni, isi_nt, isi_ob, isi_wt, isi_sdt])
end Ow

namespace Ow
open PySem PySem.Spec PyProof.Rows L2
local macro_rules | `(tactic| dsimp! [$ts,*]) => `(tactic| try simp only [$ts,*, sSeq, sRet, sRetN, sIf, sAsg, sExpr, sNx, sBk, sCt, sNever, sRaise, sRaiseF, sFor, sSub, wAndV, wOrV, wNotV, wAndT, wOrT, wNotT, wTru, wCmpT, wChT, wChV, wBin, wUn, wVar, wC, wCons, wNil, wTup, wIfE, wIsi, wFn, wQf, qLst, qOf, wCall, wCall0, wLc, wYes, iOf, iR1, iR2, iEn, iHid, wNew, wLst, wSl, wNoP, wP, ex_ss, ex_some, ex_eq, ex_int, ex_two, startD, List.map_cons, List.map_nil, List.length_cons, List.length_nil, List.replicate, List.cons_append, List.nil_append, List.getElem?_cons_zero, List.getElem?_cons_succ, List.set_cons_zero, List.set_cons_succ, wipeD, asg_nm, asg_tp, asgs_nil, asgs_cons, Option.bind_some, tru_bl, tru_int, tru_tup, cmpF, cmpD, lt_int, eq_int, eq_str, eq_bl, Option.map_some, sub_int, add_int, add_tup, fdiv_int, mod_int, pow_int, shl_int, shr_int, band_int, mul_int, int_bl, dm_int, max_int, min_int, len_tup, len_fl, Nat.reduceAdd, Nat.reduceSub, if_true, Bool.not_true, Bool.not_false, Bool.false_eq_true, if_false, tupF, allF, anyF, lenQF, Nat.zero_add, Nat.sub_self, wApp, wExt, iZip, ix_w0, ix_w1, ix_s0, ix_s1, ix_p0, ix_p1, ix_p2, ix_b0, ix_b1, ix_b2, ix_wr0, ix_wr1, ix_wr2, ix_lk0, ix_lk1, ix_lk2, ix_lk3, asg_w, asg_s, asg_p, asg_b, asg_wr, asg_lk, len_h, len_b, len_map, src_h, src_b, src_t, srcD_t, sl_h, sl_b, ix20, ix21, sl_tup, in_ints, decide_true, decide_false, List.length_map, neg_int, isi_ib, isi_ii, isi_it, isi_bb, isi_bi, isi_tt, isi_tb, isi_ti, isi_ss, isi_nb, isi_ni, isi_nt, isi_ob, isi_wt, isi_sdt])
local macro_rules | `(tactic| dsimp! []) => `(tactic| try simp only [sSeq, sRet, sRetN, sIf, sAsg, sExpr, sNx, sBk, sCt, sNever, sRaise, sRaiseF, sFor, sSub, wAndV, wOrV, wNotV, wAndT, wOrT, wNotT, wTru, wCmpT, wChT, wChV, wBin, wUn, wVar, wC, wCons, wNil, wTup, wIfE, wIsi, wFn, wQf, qLst, qOf, wCall, wCall0, wLc, wYes, iOf, iR1, iR2, iEn, iHid, wNew, wLst, wSl, wNoP, wP, ex_ss, ex_some, ex_eq, ex_int, ex_two, startD, List.map_cons, List.map_nil, List.length_cons, List.length_nil, List.replicate, List.cons_append, List.nil_append, List.getElem?_cons_zero, List.getElem?_cons_succ, List.set_cons_zero, List.set_cons_succ, wipeD, asg_nm, asg_tp, asgs_nil, asgs_cons, Option.bind_some, tru_bl, tru_int, tru_tup, cmpF, cmpD, lt_int, eq_int, eq_str, eq_bl, Option.map_some, sub_int, add_int, add_tup, fdiv_int, mod_int, pow_int, shl_int, shr_int, band_int, mul_int, int_bl, dm_int, max_int, min_int, len_tup, len_fl, Nat.reduceAdd, Nat.reduceSub, if_true, Bool.not_true, Bool.not_false, Bool.false_eq_true, if_false, tupF, allF, anyF, lenQF, Nat.zero_add, Nat.sub_self, wApp, wExt, iZip, ix_w0, ix_w1, ix_s0, ix_s1, ix_p0, ix_p1, ix_p2, ix_b0, ix_b1, ix_b2, ix_wr0, ix_wr1, ix_wr2, ix_lk0, ix_lk1, ix_lk2, ix_lk3, asg_w, asg_s, asg_p, asg_b, asg_wr, asg_lk, len_h, len_b, len_map, src_h, src_b, src_t, srcD_t, sl_h, sl_b, ix20, ix21, sl_tup, in_ints, decide_true, decide_false, List.length_map, neg_int, isi_ib, isi_ii, isi_it, isi_bb, isi_bi, isi_tt, isi_tb, isi_ti, isi_ss, isi_nb, isi_ni, isi_nt, isi_ob, isi_wt, isi_sdt])
def TRw.okB (bs : List Bx) (within at_ : Int) : TRw → Bool
  | .wr b v => decide (0 ≤ b ∧ b < bs.length ∧ 0 ≤ v ∧ v < szAt bs b)
  | .lk who b ns t => isWho who && (decide (0 ≤ b ∧ b < bs.length) && (numsB (szAt bs b) (.tup (ns.map .int)) && decide (at_ < within ∧ 1 ≤ t ∧ t ≤ within)))
def trowsOkB (bs : List Bx) (within : Int) : Int → List TRw → Bool
  | _, [] => true
  | k, r :: rs => r.okB bs within k && trowsOkB bs within (k + 1) rs
def Tp.okB (t : Tp) : Bool := t.kinds.all Bx.okB && (decide (1 ≤ t.kinds.length ∧ t.kinds.length ≤ 2 ∧ 1 ≤ t.rows.length ∧ t.rows.length ≤ 8 ∧ 1 ≤ t.within ∧ t.within ≤ t.rows.length ∧ 0 ≤ t.door ∧ t.door < t.within ∧ Ow.tog t.rows ≤ 16) && trowsOkB t.kinds t.within 1 t.rows)
theorem TRw.okB_ok {bs : List Bx} {w a : Int} {r : TRw} (h : r.okB bs w a = true) : r.ok bs w a := by
  cases r with
  | wr b v => simp only [TRw.okB, decide_eq_true_eq] at h; exact h
  | lk who b ns t =>
    simp only [TRw.okB, Bool.and_eq_true, decide_eq_true_eq] at h
    exact ⟨h.1, h.2.1.1, h.2.1.2, h.2.2.1, h.2.2.2.1, h.2.2.2.2.1, h.2.2.2.2.2⟩
theorem trowsOkB_ok {bs : List Bx} {w : Int} : ∀ {k : Int} {rs : List TRw}, trowsOkB bs w k rs = true → trowsOk bs w k rs
  | _, [], _ => trivial
  | k, r :: rs, h => by
    simp only [trowsOkB, Bool.and_eq_true] at h
    exact ⟨TRw.okB_ok h.1, trowsOkB_ok h.2⟩
theorem Bx.okB_ok {b : Bx} (h : b.okB = true) : b.ok := by
  simp only [Bx.okB, Bool.and_eq_true, decide_eq_true_eq] at h
  exact ⟨h.1, h.2.1, h.2.2.1, h.2.2.2.1, h.2.2.2.2⟩
theorem Tp.okB_ok {t : Tp} (h : t.okB = true) : t.ok := by
  simp only [Tp.okB, Bool.and_eq_true, decide_eq_true_eq, List.all_eq_true] at h
  obtain ⟨h1, ⟨h2, h3, h4, h5, h6, h7, h8, h9, h10⟩, h11⟩ := h
  exact ⟨fun b hb => Bx.okB_ok (h1 b hb), h2, h3, h4, h5, h6, h7, h8, h9, trowsOkB_ok h11, h10⟩
def flagsT : Tp := ⟨[bit], 1, 3, [.wr 0 1, .lk "others" 0 [0] 2, .wr 0 0]⟩
def onebitT : Tp := ⟨[bit], 0, 6, [.wr 0 0, .lk "lower" 0 [0] 2, .wr 0 1, .lk "lower" 0 [0] 1, .lk "higher" 0 [0] 5, .wr 0 0]⟩
theorem flagsT_ok : flagsT.ok := Tp.okB_ok (by decide +kernel)
theorem onebitT_ok : onebitT.ok := Tp.okB_ok (by decide +kernel)
def sp_law_template : Spec := pkF (fun _ as _ => as = []) fun _ _ d => isTpl d
def t_law_template : WS :=
  sSeq
  (sAsg (wLst (wNil)) (.nm 1)) <|
  sSeq
  (sFor (iR1 (wBin addF (wC (.int 1)) (wCall sp_law_take (wCons (wVar 0) (wCons (wC (.int 2)) (wNil)))))) (.nm 2) (sSeq
   (sAsg (wBin ixF (wLst (wCons (wC (.int 2)) (wCons (wC (.int 2)) (wCons (wC (.int 3)) (wCons (wC (.int 5)) (wNil)))))) (wCall sp_law_take (wCons (wVar 0) (wCons (wC (.int 4)) (wNil))))) (.nm 3)) <|
   sSeq (sExpr (wApp (wVar 1) (wTup (wCons (wBin ixF (wLst (wCons (wC (.str "whole")) (wCons (wC (.str "either")) (wCons (wC (.str "torn")) (wNil))))) (wCall sp_law_take (wCons (wVar 0) (wCons (wC (.int 3)) (wNil))))) (wCons (wVar 3) (wCons (wCall sp_law_take (wCons (wVar 0) (wCons (wVar 3) (wNil)))) (wNil))))))) sNx)) <|
  sSeq
  (sAsg (wBin addF (wC (.int 1)) (wCall sp_law_take (wCons (wVar 0) (wCons (wC (.int 8)) (wNil))))) (.nm 4)) <|
  sSeq
  (sAsg (wBin addF (wC (.int 1)) (wCall sp_law_take (wCons (wVar 0) (wCons (wVar 4) (wNil))))) (.nm 5)) <|
  sSeq
  (sAsg (wCall sp_law_take (wCons (wVar 0) (wCons (wVar 5) (wNil)))) (.nm 6)) <|
  sSeq
  (sAsg (wLst (wNil)) (.nm 7)) <|
  sSeq
  (sAsg (wBin subF (wC (.int 16)) (wVar 4)) (.nm 8)) <|
  sSeq
  (sFor (iR2 (wC (.int 1)) (wBin addF (wVar 4) (wC (.int 1)))) (.nm 9) (sSeq
   (sAsg (wBin (cmpF .Gt) (wCall sp_law_take (wCons (wVar 0) (wCons (wC (.int 3)) (wNil)))) (wC (.int 0))) (.nm 10)) <|
   sSeq
   (sAsg (wCall sp_law_take (wCons (wVar 0) (wCons (wFn lenF (wCons (wVar 1) wNil)) (wNil)))) (.nm 11)) <|
   sSeq
   (sAsg (wBin ixF (wBin ixF (wVar 1) (wVar 11)) (wC (.int 1))) (.nm 3)) <|
   sSeq (sIf (wAndT (wTru (wVar 10)) (wAndT (wCmpT .Lt (wVar 9) (wVar 5)) (wCmpT .Gt (wVar 8) (wC (.int 1))))) (sSeq
    (sAsg (wBin subF (wVar 8) (wC (.int 2))) (.nm 8)) <|
    sSeq
    (sAsg (wBin ixF (wLst (wCons (wC (.str "others")) (wCons (wC (.str "lower")) (wCons (wC (.str "higher")) (wNil))))) (wCall sp_law_take (wCons (wVar 0) (wCons (wC (.int 3)) (wNil))))) (.nm 12)) <|
    sSeq (sExpr (wApp (wVar 7) (wTup (wCons (wC (.str "look")) (wCons (wVar 12) (wCons (wVar 11) (wCons (wCall sp_law_numbers (wCons (wVar 0) (wCons (wVar 3) (wNil)))) (wCons (wBin addF (wC (.int 1)) (wCall sp_law_take (wCons (wVar 0) (wCons (wVar 5) (wNil))))) (wNil))))))))) sNx) (sSeq (sExpr (wApp (wVar 7) (wTup (wCons (wC (.str "write")) (wCons (wVar 11) (wCons (wCall sp_law_take (wCons (wVar 0) (wCons (wVar 3) (wNil)))) (wNil))))))) sNx)) sNx)) <|
  sSeq (sRet (wTup (wCons (wQf tupF (qOf (wVar 1))) (wCons (wTup (wCons (wVar 6) (wCons (wVar 5) (wCons (wQf tupF (qOf (wVar 7))) (wNil))))) (wNil))))) sNx
theorem call_law_template {S0 S : Sto} {a : Addr} {Q : D → Sto → Prop} {E : QX} (hS : At S0 a S) (q : ∀ t S', Tp.ok t → At S0 a S' → Q (Tp.d t) S') : callS sp_law_template [.ref a] S Q E :=
  callS_pk hS rfl fun d S' ⟨t, e, o⟩ hA _ => by rw [e]; exact q t S' o hA
theorem size4 {x : D} (h : x ∈ ([.int 2, .int 2, .int 3, .int 5] : List D)) : ∃ s : Int, x = .int s ∧ 2 ≤ s ∧ s ≤ 5 := by
  simp only [List.mem_cons, List.not_mem_nil, or_false] at h
  rcases h with rfl | rfl | rfl | rfl
  · exact ⟨2, rfl, by decide, by decide⟩
  · exact ⟨2, rfl, by decide, by decide⟩
  · exact ⟨3, rfl, by decide, by decide⟩
  · exact ⟨5, rfl, by decide, by decide⟩
theorem whos {x : D} (h : x ∈ ([.str "others", .str "lower", .str "higher"] : List D)) : ∃ z : Str, x = .str z ∧ isWho z = true := by
  simp only [List.mem_cons, List.not_mem_nil, or_false] at h
  rcases h with rfl | rfl | rfl
  · exact ⟨_, rfl, by decide⟩
  · exact ⟨_, rfl, by decide⟩
  · exact ⟨_, rfl, by decide⟩
theorem trows_app {bs : List Bx} {w : Int} : ∀ {k : Int} {rs : List TRw} {r : TRw}, trowsOk bs w k rs → r.ok bs w (k + rs.length) → trowsOk bs w k (rs ++ [r])
  | k, [], r, _, h => ⟨by simpa using h, trivial⟩
  | k, x :: xs, r, h, h' => ⟨h.1, trows_app h.2 (by rw [show k + 1 + (xs.length : Int) = k + ((x :: xs).length : Nat) by simp; omega]; exact h')⟩
theorem tog_app {rs : List TRw} {r : TRw} : tog (rs ++ [r]) = tog rs + tog1 r := by simp [tog]
theorem ok_law_template : BodyOk ["_law_pack_here", "_law_kinds", "_law_turn", "_law_size", "_law_many", "_law_within", "_law_door", "_law_rows", "_law_left", "_law_place", "_law_looks", "_law_kind", "_law_whom_here"] 1 sp_law_template t_law_template := by
  refine ok_pk ?_
  rintro a _ S rfl hA Nx hr
  rw [t_law_template]
  refine seq_gen (fun ρ S' => ∃ p, At S a S' ∧ S p = none ∧ p ≠ a ∧ S' p = some (.lst []) ∧ ρ = [some (.ref a), some (.ref p), none, none, none, none, none, none, none, none, none, none, none]) ?_ fun T hT => ?_
  rotate_left
  · dsimp! []
    intro p hp
    obtain ⟨h1, h2, h3⟩ := hA.new (o := .lst []) hp
    exact hT _ _ ⟨p, h1, h2, h3, put_same, rfl⟩
  rintro ρ S1 ⟨p, hA1, hp, pa, hl, rfl⟩
  refine seq_gen (fun ρ S' => ∃ bs : List Bx, At S a S' ∧ S' p = some (.lst (bs.map Bx.d)) ∧ (∀ b ∈ bs, b.ok) ∧ 1 ≤ bs.length ∧ bs.length ≤ 2 ∧ ∃ u v, ρ = [some (.ref a), some (.ref p), u, v, none, none, none, none, none, none, none, none, none]) ?_ fun T hT => ?_
  rotate_left
  · dsimp! []
    refine call_take hA1 (by omega) (by omega) fun n S2 n0 n1 hA2 hb => ?_
    dsimp! []
    refine ⟨by unfold rgOk sizeLine; omega, ?_⟩
    refine for_rng (fun j ρ S' => 0 ≤ j ∧ ∃ bs : List Bx, At S a S' ∧ S' p = some (.lst (bs.map Bx.d)) ∧ (∀ b ∈ bs, b.ok) ∧ (bs.length : Int) = j ∧ ∃ u v, ρ = [some (.ref a), some (.ref p), u, v, none, none, none, none, none, none, none, none, none]) ?_ ?_ (by omega) ⟨by omega, [], hA2, by rw [hb p pa]; exact hl, (fun b hb => by cases hb), rfl, _, _, rfl⟩
    · rintro j ρ S3 hj ⟨j0, bs, hA3, hq, bok, bl, u, v, rfl⟩
      refine ⟨chk_nil, _, rfl, fun R hR => ?_⟩
      dsimp! []
      intro z hz
      obtain ⟨g1, g2, g3⟩ := hA3.new (o := .lst [.int 2, .int 2, .int 3, .int 5]) hz
      have zp : p ≠ z := fun e => by rw [e, hz] at hq; cases hq
      refine call_take g1 (by omega) (by omega) fun i S4 i0 i1 hA4 hb4 => ?_
      obtain ⟨x, _, mx, ax⟩ := atI_lt (l := [D.int 2, .int 2, .int 3, .int 5]) i0 (by simpa using i1)
      obtain ⟨s, rfl, s2, s5⟩ := size4 mx
      dsimp! [ix_ref (show S4 z = some (.lst [.int 2, .int 2, .int 3, .int 5]) by rw [hb4 z g3, put_same]) ax]
      have hq4 : S4 p = some (.lst (bs.map Bx.d)) := by rw [hb4 p pa, put_ne zp]; exact hq
      refine ⟨p, _, rfl, hq4, ?_⟩
      intro y hy
      obtain ⟨k1, k2, k3⟩ := hA4.new (o := .lst [.str "whole", .str "either", .str "torn"]) hy
      have yp : p ≠ y := fun e => by rw [e, hy] at hq4; cases hq4
      refine call_take k1 (by omega) (by omega) fun c S5 c0 c1 hA5 hb5 => ?_
      obtain ⟨kx, _, mk, ak⟩ := atI_lt (l := [D.str "whole", .str "either", .str "torn"]) c0 (by simpa using c1)
      obtain ⟨kd, rfl, hkd⟩ := kinds3 mk
      dsimp! [ix_ref (show S5 y = some (.lst [.str "whole", .str "either", .str "torn"]) by rw [hb5 y k3, put_same]) ak]
      refine call_take hA5 (by omega) (by omega) fun st S6 st0 st1 hA6 hb6 => ?_
      have hq6 : S6 p = some (.lst (bs.map Bx.d)) := by rw [hb6 p pa, hb5 p pa, put_ne yp]; exact hq4
      refine ⟨_, hq6, by rw [List.length_map]; unfold sizeLine; omega, ?_⟩
      refine hR _ _ ⟨by omega, bs ++ [⟨kd, s, st⟩], hA6.own hp pa, by rw [put_same, List.map_append]; rfl, fun b hb => ?_, by simp; omega, _, _, rfl⟩
      rcases List.mem_append.mp hb with h | h
      · exact bok b h
      · rw [List.mem_singleton.mp h]; exact ⟨hkd, s2, s5, st0, st1⟩
    · rintro ρ S3 ⟨j0, bs, hA3, hq, bok, bl, u, v, rfl⟩
      exact ⟨chk_nil, hT _ _ ⟨bs, hA3, hq, bok, by omega, by omega, _, _, rfl⟩⟩
  rintro ρ S2 ⟨bs, hA2, hq, bok, b1, b2, u, v, rfl⟩
  dsimp! []
  refine call_take hA2 (by omega) (by omega) fun n S3 n0 n1 hA3 hb3 => ?_
  dsimp! []
  refine call_take hA3 (by omega) (by omega) fun w S4 w0 w1 hA4 hb4 => ?_
  dsimp! []
  refine call_take hA4 (by omega) (by omega) fun dr S5 d0 d1 hA5 hb5 => ?_
  dsimp! []
  intro f hf
  obtain ⟨g1, g2, g3⟩ := hA5.new (o := .lst []) hf
  have hq5 : S5 p = some (.lst (bs.map Bx.d)) := by rw [hb5 p pa, hb4 p pa, hb3 p pa]; exact hq
  have fp : p ≠ f := fun e => by rw [e, hf] at hq5; cases hq5
  refine ⟨by unfold rgOk sizeLine; omega, ?_⟩
  refine for_rng (fun j ρ S' => 1 ≤ j ∧ ∃ rs : List TRw, At S a S' ∧ S' p = some (.lst (bs.map Bx.d)) ∧ S' f = some (.lst (rs.map TRw.d)) ∧ trowsOk bs (1 + w) 1 rs ∧ (rs.length : Int) = j - 1 ∧ 0 ≤ 16 - (1 + n) - (tog rs - rs.length) ∧ ∃ u0 u1 u2 u3 u4 u5, ρ = [some (.ref a), some (.ref p), u0, u1, some (.int (1 + n)), some (.int (1 + w)), some (.int dr), some (.ref f), some (.int (16 - (1 + n) - (tog rs - rs.length))), u2, u3, u4, u5]) ?_ ?_ (by omega) ⟨by omega, [], g1, by rw [put_ne fp]; exact hq5, put_same, trivial, rfl, by simp [tog]; omega, u, v, none, none, none, none, by simp [tog]⟩
  · rintro j ρ S6 hj ⟨j1, rs, hA6, hk6, hr6, rok, rl, lf, u0, u1, u2, u3, u4, u5, rfl⟩
    refine ⟨chk_nil, _, rfl, fun R hR => ?_⟩
    dsimp! []
    refine call_take hA6 (by omega) (by omega) fun x S7 x0 x1 hA7 hb7 => ?_
    have hk7 : S7 p = some (.lst (bs.map Bx.d)) := by rw [hb7 p pa]; exact hk6
    dsimp! [len_ref hk7]
    intro _
    refine call_take hA7 (by omega) (by omega) fun b S8 b0 b1' hA8 hb8 => ?_
    have hk8 : S8 p = some (.lst (bs.map Bx.d)) := by rw [hb8 p pa]; exact hk7
    have hr8 : S8 f = some (.lst (rs.map TRw.d)) := by rw [hb8 f g3, hb7 f g3]; exact hr6
    obtain ⟨bx, eb, mb⟩ := getE (l := bs) (i := b.toNat) (by omega)
    have ob := bok bx mb
    have s2 := ob.s2
    have s5 := ob.s5
    have ab : atI (bs.map Bx.d) b = some bx.d := by
      have := atI_nat (l := bs.map Bx.d) (i := b.toNat) (x := bx.d) (by rw [List.getElem?_map, eb]; rfl)
      rwa [show ((b.toNat : Nat) : Int) = b by omega] at this
    have esz : szAt bs b = bx.size := szAt_of eb
    dsimp! [ix_ref hk8 ab]
    have wfin : ∀ (y : Int) (S9 : Sto) (uu : Option D), 0 ≤ y → y < bx.size → At S a S9 → (∀ b, b ≠ a → S9 b = S8 b) → ∃ l, S9 f = some (.lst l) ∧ l.length < sizeLine ∧ R [some (.ref a), some (.ref p), u0, some (.int bx.size), some (.int (1 + n)), some (.int (1 + w)), some (.int dr), some (.ref f), some (.int (16 - (1 + n) - (tog rs - rs.length))), some (.int j), some (.bl (decide (0 < x))), some (.int b), uu] (put S9 f (.lst (l ++ [D.tup [.str "write", .int b, .int y]]))) := fun y S9 uu y0 y1 hA9 hb9 => by
      refine ⟨_, by rw [hb9 f g3]; exact hr8, by rw [List.length_map]; unfold sizeLine; omega, hR _ _ ⟨by omega, rs ++ [.wr b y], hA9.own g2 g3, by rw [put_ne fp, hb9 p pa]; exact hk8, by rw [put_same, List.map_append]; rfl, trows_app (r := .wr b y) rok ⟨b0, by omega, y0, by rw [esz]; exact y1⟩, by simp; omega, ?_, u0, some (.int bx.size), some (.int j), some (.bl (decide (0 < x))), some (.int b), uu, ?_⟩⟩
      · rw [tog_app]; simp only [tog1, List.length_append, List.length_singleton]; push_cast; omega
      · rw [tog_app]; simp only [tog1, List.length_append, List.length_singleton]
        rw [show tog rs + 1 - ((rs.length + 1 : Nat) : Int) = tog rs - rs.length by push_cast; omega]
    by_cases c1 : 0 < x
    · dsimp! [c1]
      simp only [c1, decide_true] at wfin
      by_cases c2 : j < 1 + w
      · dsimp! [c2]
        by_cases c3 : 1 < 16 - (1 + n) - (tog rs - rs.length)
        · dsimp! [c3]
          intro z hz
          obtain ⟨k1, k2, k3⟩ := hA8.new (o := .lst [.str "others", .str "lower", .str "higher"]) hz
          have zf : f ≠ z := fun e => by rw [e, hz] at hr8; cases hr8
          have zp : p ≠ z := fun e => by rw [e, hz] at hk8; cases hk8
          refine call_take k1 (by omega) (by omega) fun c S9 q0 q1 hA9 hb9 => ?_
          obtain ⟨wx, _, mw, aw⟩ := atI_lt (l := [D.str "others", .str "lower", .str "higher"]) q0 (by simpa using q1)
          obtain ⟨who, rfl, hwho⟩ := whos mw
          have hr9 : S9 f = some (.lst (rs.map TRw.d)) := by rw [hb9 f g3, put_ne zf]; exact hr8
          have hk9 : S9 p = some (.lst (bs.map Bx.d)) := by rw [hb9 p pa, put_ne zp]; exact hk8
          dsimp! [ix_ref (show S9 z = some (.lst [.str "others", .str "lower", .str "higher"]) by rw [hb9 z k3, put_same]) aw]
          refine ⟨f, _, rfl, hr9, ?_⟩
          refine call_numbers hA9 (by omega) (by omega) fun ns S10 hns hA10 hb10 => ?_
          dsimp! []
          refine call_take hA10 (by omega) (by omega) fun tt S11 t0 t1 hA11 hb11 => ?_
          dsimp! []
          refine ⟨_, by rw [hb11 f g3, hb10 f g3]; exact hr9, by rw [List.length_map]; unfold sizeLine; omega, hR _ _ ⟨by omega, rs ++ [.lk who b ns (1 + tt)], hA11.own g2 g3, by rw [put_ne fp, hb11 p pa, hb10 p pa]; exact hk9, by rw [put_same, List.map_append]; rfl, trows_app (r := .lk who b ns (1 + tt)) rok ⟨hwho, b0, by omega, by rw [esz]; exact hns, by omega, by omega, by omega⟩, by simp; omega, ?_, u0, some (.int bx.size), some (.int j), some (.bl true), some (.int b), some (.str who), ?_⟩⟩
          · rw [tog_app]; simp only [tog1, List.length_append, List.length_singleton]; push_cast; omega
          · rw [tog_app]; simp only [tog1, List.length_append, List.length_singleton]
            rw [show 16 - (1 + n) - (tog rs + 3 - ((rs.length + 1 : Nat) : Int)) = 16 - (1 + n) - (tog rs - rs.length) - 2 by push_cast; omega]
        · dsimp! [c3]
          refine ⟨f, _, rfl, hr8, ?_⟩
          exact call_take hA8 (by omega) (by omega) fun y S9 y0 y1 hA9 hb9 => wfin y S9 _ y0 y1 hA9 hb9
      · dsimp! [c2]
        refine ⟨f, _, rfl, hr8, ?_⟩
        exact call_take hA8 (by omega) (by omega) fun y S9 y0 y1 hA9 hb9 => wfin y S9 _ y0 y1 hA9 hb9
    · dsimp! [c1]
      simp only [c1, decide_false] at wfin
      refine ⟨f, _, rfl, hr8, ?_⟩
      exact call_take hA8 (by omega) (by omega) fun y S9 y0 y1 hA9 hb9 => wfin y S9 _ y0 y1 hA9 hb9
  · rintro ρ S6 ⟨j1, rs, hA6, hk6, hr6, rok, rl, lf, u0, u1, u2, u3, u4, u5, rfl⟩
    refine ⟨chk_nil, ?_⟩
    dsimp! []
    refine ⟨_, by simp only [itemsQ, itemsL, hk6]; rfl, ?_⟩
    dsimp! []
    refine ⟨_, by simp only [itemsQ, itemsL, hr6]; rfl, ?_⟩
    refine hr _ _ ⟨⟨bs, dr, 1 + w, rs⟩, rfl, bok, b1, b2, by show 1 ≤ rs.length; omega, by show rs.length ≤ 8; omega, by show 1 ≤ 1 + w; omega, by show 1 + w ≤ rs.length; omega, d0, d1, rok, by show tog rs ≤ 16; omega⟩ hA6
end Ow

namespace Ow
open PySem PySem.Spec PyProof.Rows L2
local macro_rules | `(tactic| dsimp! [$ts,*]) => `(tactic| try simp only [$ts,*, sSeq, sRet, sRetN, sIf, sAsg, sExpr, sNx, sBk, sCt, sNever, sRaise, sRaiseF, sFor, sSub, wAndV, wOrV, wNotV, wAndT, wOrT, wNotT, wTru, wCmpT, wChT, wChV, wBin, wUn, wVar, wC, wCons, wNil, wTup, wIfE, wIsi, wFn, wQf, qLst, qOf, wCall, wCall0, wLc, wYes, iOf, iR1, iR2, iEn, iHid, wNew, wLst, wSl, wNoP, wP, ex_ss, ex_some, ex_eq, ex_int, ex_two, startD, List.map_cons, List.map_nil, List.length_cons, List.length_nil, List.replicate, List.cons_append, List.nil_append, List.getElem?_cons_zero, List.getElem?_cons_succ, List.set_cons_zero, List.set_cons_succ, wipeD, asg_nm, asg_tp, asgs_nil, asgs_cons, Option.bind_some, tru_bl, tru_int, tru_tup, cmpF, cmpD, lt_int, eq_int, eq_str, eq_bl, Option.map_some, sub_int, add_int, add_tup, fdiv_int, mod_int, pow_int, shl_int, shr_int, band_int, mul_int, int_bl, dm_int, max_int, min_int, len_tup, len_fl, Nat.reduceAdd, Nat.reduceSub, if_true, Bool.not_true, Bool.not_false, Bool.false_eq_true, if_false, tupF, allF, anyF, lenQF, Nat.zero_add, Nat.sub_self, wApp, wExt, iZip, ix_w0, ix_w1, ix_s0, ix_s1, ix_p0, ix_p1, ix_p2, ix_b0, ix_b1, ix_b2, ix_wr0, ix_wr1, ix_wr2, ix_lk0, ix_lk1, ix_lk2, ix_lk3, asg_w, asg_s, asg_p, asg_b, asg_wr, asg_lk, len_h, len_b, len_map, src_h, src_b, src_t, srcD_t, sl_h, sl_b, ix20, ix21, sl_tup, in_ints, decide_true, decide_false, List.length_map, neg_int, isi_ib, isi_ii, isi_it, isi_bb, isi_bi, isi_tt, isi_tb, isi_ti, isi_ss, isi_nb, isi_ni, isi_nt, isi_ob, isi_wt, isi_sdt])
local macro_rules | `(tactic| dsimp! []) => `(tactic| try simp only [sSeq, sRet, sRetN, sIf, sAsg, sExpr, sNx, sBk, sCt, sNever, sRaise, sRaiseF, sFor, sSub, wAndV, wOrV, wNotV, wAndT, wOrT, wNotT, wTru, wCmpT, wChT, wChV, wBin, wUn, wVar, wC, wCons, wNil, wTup, wIfE, wIsi, wFn, wQf, qLst, qOf, wCall, wCall0, wLc, wYes, iOf, iR1, iR2, iEn, iHid, wNew, wLst, wSl, wNoP, wP, ex_ss, ex_some, ex_eq, ex_int, ex_two, startD, List.map_cons, List.map_nil, List.length_cons, List.length_nil, List.replicate, List.cons_append, List.nil_append, List.getElem?_cons_zero, List.getElem?_cons_succ, List.set_cons_zero, List.set_cons_succ, wipeD, asg_nm, asg_tp, asgs_nil, asgs_cons, Option.bind_some, tru_bl, tru_int, tru_tup, cmpF, cmpD, lt_int, eq_int, eq_str, eq_bl, Option.map_some, sub_int, add_int, add_tup, fdiv_int, mod_int, pow_int, shl_int, shr_int, band_int, mul_int, int_bl, dm_int, max_int, min_int, len_tup, len_fl, Nat.reduceAdd, Nat.reduceSub, if_true, Bool.not_true, Bool.not_false, Bool.false_eq_true, if_false, tupF, allF, anyF, lenQF, Nat.zero_add, Nat.sub_self, wApp, wExt, iZip, ix_w0, ix_w1, ix_s0, ix_s1, ix_p0, ix_p1, ix_p2, ix_b0, ix_b1, ix_b2, ix_wr0, ix_wr1, ix_wr2, ix_lk0, ix_lk1, ix_lk2, ix_lk3, asg_w, asg_s, asg_p, asg_b, asg_wr, asg_lk, len_h, len_b, len_map, src_h, src_b, src_t, srcD_t, sl_h, sl_b, ix20, ix21, sl_tup, in_ints, decide_true, decide_false, List.length_map, neg_int, isi_ib, isi_ii, isi_it, isi_bb, isi_bi, isi_tt, isi_tb, isi_ti, isi_ss, isi_nb, isi_ni, isi_nt, isi_ob, isi_wt, isi_sdt])
def partS (p : Pg) (pl : Int) : Str := if pl = 0 then "outside" else if pl ≤ p.door then "doorway" else if pl < p.within then "waiting" else if pl = p.within then "within" else "leaving"
def parts (p : Pg) : List D := (List.range (p.rows.length + 1)).map fun i => .str (partS p (i : Nat))
end Ow

namespace Ow
open PySem PySem.Spec PyProof.Rows L2
local macro_rules | `(tactic| dsimp! [$ts,*]) => `(tactic| try simp only [$ts,*, sSeq, sRet, sRetN, sIf, sAsg, sExpr, sNx, sBk, sCt, sNever, sRaise, sRaiseF, sFor, sSub, wAndV, wOrV, wNotV, wAndT, wOrT, wNotT, wTru, wCmpT, wChT, wChV, wBin, wUn, wVar, wC, wCons, wNil, wTup, wIfE, wIsi, wFn, wQf, qLst, qOf, wCall, wCall0, wLc, wYes, iOf, iR1, iR2, iEn, iHid, wNew, wLst, wSl, wNoP, wP, ex_ss, ex_some, ex_eq, ex_int, ex_two, startD, List.map_cons, List.map_nil, List.length_cons, List.length_nil, List.replicate, List.cons_append, List.nil_append, List.getElem?_cons_zero, List.getElem?_cons_succ, List.set_cons_zero, List.set_cons_succ, wipeD, asg_nm, asg_tp, asgs_nil, asgs_cons, Option.bind_some, tru_bl, tru_int, tru_tup, cmpF, cmpD, lt_int, eq_int, eq_str, eq_bl, Option.map_some, sub_int, add_int, add_tup, fdiv_int, mod_int, pow_int, shl_int, shr_int, band_int, mul_int, int_bl, dm_int, max_int, min_int, len_tup, len_fl, Nat.reduceAdd, Nat.reduceSub, if_true, Bool.not_true, Bool.not_false, Bool.false_eq_true, if_false, tupF, allF, anyF, lenQF, Nat.zero_add, Nat.sub_self, wApp, wExt, iZip, ix_w0, ix_w1, ix_s0, ix_s1, ix_p0, ix_p1, ix_p2, ix_b0, ix_b1, ix_b2, ix_wr0, ix_wr1, ix_wr2, ix_lk0, ix_lk1, ix_lk2, ix_lk3, asg_w, asg_s, asg_p, asg_b, asg_wr, asg_lk, len_h, len_b, len_map, src_h, src_b, src_t, srcD_t, sl_h, sl_b, ix20, ix21, sl_tup, in_ints, decide_true, decide_false, List.length_map, neg_int, isi_ib, isi_ii, isi_it, isi_bb, isi_bi, isi_tt, isi_tb, isi_ti, isi_ss, isi_nb, isi_ni, isi_nt, isi_ob, isi_wt, isi_sdt])
local macro_rules | `(tactic| dsimp! []) => `(tactic| try simp only [sSeq, sRet, sRetN, sIf, sAsg, sExpr, sNx, sBk, sCt, sNever, sRaise, sRaiseF, sFor, sSub, wAndV, wOrV, wNotV, wAndT, wOrT, wNotT, wTru, wCmpT, wChT, wChV, wBin, wUn, wVar, wC, wCons, wNil, wTup, wIfE, wIsi, wFn, wQf, qLst, qOf, wCall, wCall0, wLc, wYes, iOf, iR1, iR2, iEn, iHid, wNew, wLst, wSl, wNoP, wP, ex_ss, ex_some, ex_eq, ex_int, ex_two, startD, List.map_cons, List.map_nil, List.length_cons, List.length_nil, List.replicate, List.cons_append, List.nil_append, List.getElem?_cons_zero, List.getElem?_cons_succ, List.set_cons_zero, List.set_cons_succ, wipeD, asg_nm, asg_tp, asgs_nil, asgs_cons, Option.bind_some, tru_bl, tru_int, tru_tup, cmpF, cmpD, lt_int, eq_int, eq_str, eq_bl, Option.map_some, sub_int, add_int, add_tup, fdiv_int, mod_int, pow_int, shl_int, shr_int, band_int, mul_int, int_bl, dm_int, max_int, min_int, len_tup, len_fl, Nat.reduceAdd, Nat.reduceSub, if_true, Bool.not_true, Bool.not_false, Bool.false_eq_true, if_false, tupF, allF, anyF, lenQF, Nat.zero_add, Nat.sub_self, wApp, wExt, iZip, ix_w0, ix_w1, ix_s0, ix_s1, ix_p0, ix_p1, ix_p2, ix_b0, ix_b1, ix_b2, ix_wr0, ix_wr1, ix_wr2, ix_lk0, ix_lk1, ix_lk2, ix_lk3, asg_w, asg_s, asg_p, asg_b, asg_wr, asg_lk, len_h, len_b, len_map, src_h, src_b, src_t, srcD_t, sl_h, sl_b, ix20, ix21, sl_tup, in_ints, decide_true, decide_false, List.length_map, neg_int, isi_ib, isi_ii, isi_it, isi_bb, isi_bi, isi_tt, isi_tb, isi_ti, isi_ss, isi_nb, isi_ni, isi_nt, isi_ob, isi_wt, isi_sdt])
instance : Enc TRw := ⟨TRw.d, fun _ _ h => TRw.injD h⟩
section
variable {α β γ δ : Type} [Enc α] [Enc β] [Enc γ] [Enc δ] {S : Sto} {Q : D → Sto → Prop} {E : QX} {N : List Str} {n : Nat} {t : WS}
def nw4 (pre : α → β → γ → δ → Prop) (g : α → β → γ → δ → List D) : Spec := nwF (α × β × γ × δ) en4 (fun x => pre x.1 x.2.1 x.2.2.1 x.2.2.2) fun x => g x.1 x.2.1 x.2.2.1 x.2.2.2
theorem callN4 {pre : α → β → γ → δ → Prop} {g : α → β → γ → δ → List D} (a : α) (b : β) (c : γ) (d : δ) (h : pre a b c d) (q : newL (g a b c d) S Q) : callS (nw4 pre g) [Enc.e a, Enc.e b, Enc.e c, Enc.e d] S Q E := callS_nw (x := (a, b, c, d)) rfl h q
theorem okN4 {pre : α → β → γ → δ → Prop} {g : α → β → γ → δ → List D} (h : ∀ a b c d S, pre a b c d → ∀ Nx : Nd, (∀ p S', S p = none → Sub (put S p (.lst (g a b c d))) S' → Nx.rt (.ref p) S') → t Nx (startD N [Enc.e a, Enc.e b, Enc.e c, Enc.e d]) S) : BodyOk N n (nw4 pre g) t := ok_nw en4_inj fun x => h x.1 x.2.1 x.2.2.1 x.2.2.2
end
inductive Lb where
  | non
  | num (i : Int)
  | on
  | back
def Lb.d : Lb → D
  | .non => .non
  | .num i => .int i
  | .on => .str "on"
  | .back => .str "back"
structure PStp where
  h : Int
  c : Lb
def PStp.d (q : PStp) : D := .tup [.int q.h, q.c.d]
def psd (q : PStp × Sd) : D := .tup [q.1.d, q.2.d]
def hasW (h : Int) (who : Str) : Bool := who == "others" || who == (if h = 0 then ("higher" : Str) else ("lower" : Str))
def hasO (h : Int) : TRw → Bool
  | .lk w _ _ _ => hasW h w
  | .wr _ _ => false
def kindP (t : Tp) (b : Int) : Str := (t.kinds[b.toNat]?.map Bx.kind).getD "whole"
def oddP (t : Tp) (h : Int) : TRw → Bool
  | .wr b _ => !(kindP t b == "whole")
  | .lk w _ _ _ => hasW h w
def rowP (t : Tp) (x : Int) : Option TRw := t.rows[(x / 2 - 1).toNat]?
def PSpot (t : Tp) (h x : Int) : Prop := 0 ≤ x ∧ x ≤ 2 * t.rows.length + 1 ∧ x ≠ 1 ∧ (x % 2 = 1 → ∃ r, rowP t x = some r ∧ oddP t h r = true)
def spO (s : Sd) (h : Int) : Int := s.spots.getD h.toNat 0
def vaO (s : Sd) (i : Int) : Int := s.vals.getD i.toNat 0
structure PrOk (t : Tp) (s : Sd) : Prop where
  n : s.spots.length = 2
  m : s.vals.length = 2 * t.kinds.length
  sp : ∀ h : Int, h = 0 ∨ h = 1 → PSpot t h (spO s h)
  va : ∀ (i : Nat) (b : Bx) (x : Int), (t.kinds ++ t.kinds)[i]? = some b → s.vals[i]? = some x → 0 ≤ x ∧ x < b.size
def two01 (h : Int) : Prop := h = 0 ∨ h = 1
theorem getD_at {l : List Int} {i : Int} (h0 : 0 ≤ i) (h1 : i < l.length) : l[i.toNat]? = some (l.getD i.toNat 0) := by
  have hl : i.toNat < l.length := by omega
  simp [List.getD_eq_getElem?_getD, List.getElem?_eq_getElem hl]
section
variable {t : Tp} {s : Sd} {h : Int} {S : Sto} {Q : D → Sto → Prop}
theorem two01.r (k : two01 h) : 0 ≤ h ∧ h ≤ 1 := by rcases k with rfl | rfl <;> omega
theorem two01.o (k : two01 h) : two01 (1 - h) := by rcases k with rfl | rfl <;> simp [two01]
theorem PrOk.ix (o : PrOk t s) (k : two01 h) : ixF (.tup (s.spots.map .int)) (.int h) S Q ↔ Q (.int (spO s h)) S := ix_map k.r.1 (getD_at k.r.1 (by rw [o.n]; have := k.r; omega))
theorem PrOk.iv (o : PrOk t s) {i : Int} (h0 : 0 ≤ i) (h1 : i < 2 * t.kinds.length) : ixF (.tup (s.vals.map .int)) (.int i) S Q ↔ Q (.int (vaO s i)) S := ix_map h0 (getD_at h0 (by rw [o.m]; omega))
theorem box_lt (k : two01 h) {b : Int} (b0 : 0 ≤ b) (b1 : b < t.kinds.length) : 0 ≤ h * t.kinds.length + b ∧ h * t.kinds.length + b < 2 * t.kinds.length := by
  rcases k with rfl | rfl <;> omega
theorem ix_t0 : ixF t.d (.int 0) S Q ↔ Q (bxs t.kinds) S := ix_tup rfl
theorem ix_t1 : ixF t.d (.int 1) S Q ↔ Q t.pd S := ix_tup rfl
theorem ix_tp2 : ixF t.pd (.int 2) S Q ↔ Q (.tup (t.rows.map TRw.d)) S := ix_tup rfl
theorem asg_t {t1 t2 : Tg} {ρ : En} : asg (.tp [t1, t2]) t.d ρ = asgs [t1, t2] [bxs t.kinds, t.pd] ρ := asg_tp
theorem asg_tp3 {t1 t2 t3 : Tg} {ρ : En} : asg (.tp [t1, t2, t3]) t.pd ρ = asgs [t1, t2, t3] [.int t.door, .int t.within, .tup (t.rows.map TRw.d)] ρ := asg_tp
end
def sp_has_other : Spec := sp2 (fun (h : Int) (_ : TRw) _ => two01 h) fun h r _ => .bl (hasO h r)
def t_has_other : WS :=
  sSeq (sRet (wAndV (wBin (cmpF .Eq) (wBin ixF (wVar 1) (wC (.int 0))) (wC (.str "look"))) (wBin (cmpF .In) (wBin ixF (wVar 1) (wC (.int 1))) (wBin ixF (wC (.tup [(.tup [(.str "others"), (.str "higher")]), (.tup [(.str "others"), (.str "lower")])])) (wVar 0))))) sNx
theorem call_has_other {S : Sto} {Q : D → Sto → Prop} {E : QX} {h : Int} {r : TRw} (k : two01 h) : callS sp_has_other [.int h, r.d] S Q E ↔ Q (.bl (hasO h r)) S := call2 (α := Int) (β := TRw) h r k
theorem in_two {S : Sto} {w a b : Str} : inD S (.str w) (.tup [.str a, .str b]) = some (w == a || w == b) := by
  have e : (([D.str a, .str b]).any fun z => pyEq z (.str w)) = (w == a || w == b) := by
    simp only [List.any_cons, List.any_nil, pyEq, Bool.or_false]
    rw [Bool.beq_comm (a := a), Bool.beq_comm (a := b)]
  have e0 : flatD (.str w) = true := rfl
  have e1 : ([D.str a, .str b].all flatD) = true := rfl
  simp only [inD, dinD, itemsQ, e0, e1, e, Bool.and_self, if_true]
theorem ok_has_other : BodyOk ["hand", "row"] 2 sp_has_other t_has_other := by
  refine ok2 ?_
  rintro h r S k Nx hr _
  have hr := hr S Sub.refl
  cases r with
  | wr b v =>
    have ew : (("write" : Str) == "look") = false := rfl
    dsimp! [t_has_other, Enc.e, TRw.d, ix30, ew]
    exact hr
  | lk w b ns tt =>
    have el : (("look" : Str) == "look") = true := rfl
    have i0 : ∀ S Q, ixF (.tup [.str "look", .str w, .int b, .tup (ns.map .int), .int tt]) (.int 0) S Q ↔ Q (.str "look") S := fun S Q => ix_tup rfl
    have i1 : ∀ S Q, ixF (.tup [.str "look", .str w, .int b, .tup (ns.map .int), .int tt]) (.int 1) S Q ↔ Q (.str w) S := fun S Q => ix_tup rfl
    rcases k with rfl | rfl
    · dsimp! [t_has_other, Enc.e, TRw.d, i0, i1, el, ix20, in_two]
      exact hr
    · dsimp! [t_has_other, Enc.e, TRw.d, i0, i1, el, ix21, in_two]
      exact hr
def sp_law_has : Spec := sp2 (fun (h : Int) (_ : TRw) _ => two01 h) fun h r _ => .bl (hasO h r)
def t_law_has : WS :=
  sSeq (sRet (wAndV (wBin (cmpF .Eq) (wBin ixF (wVar 1) (wC (.int 0))) (wC (.str "look"))) (wBin (cmpF .In) (wBin ixF (wVar 1) (wC (.int 1))) (wLst (wCons (wC (.str "others")) (wCons (wBin ixF (wLst (wCons (wC (.str "higher")) (wCons (wC (.str "lower")) (wNil)))) (wVar 0)) (wNil))))))) sNx
theorem call_law_has {S : Sto} {Q : D → Sto → Prop} {E : QX} {h : Int} {r : TRw} (k : two01 h) : callS sp_law_has [.int h, r.d] S Q E ↔ Q (.bl (hasO h r)) S := call2 (α := Int) (β := TRw) h r k
theorem in_twoL {S : Sto} {p : Addr} {w a b : Str} (h : S p = some (.lst [.str a, .str b])) : inD S (.str w) (.ref p) = some (w == a || w == b) := by
  have e : (([D.str a, .str b]).any fun z => pyEq z (.str w)) = (w == a || w == b) := by
    simp only [List.any_cons, List.any_nil, pyEq, Bool.or_false]
    rw [Bool.beq_comm (a := a), Bool.beq_comm (a := b)]
  have e0 : flatD (.str w) = true := rfl
  have e1 : ([D.str a, .str b].all flatD) = true := rfl
  have e2 : itemsQ S (.ref p) = some (false, [.str a, .str b]) := by simp only [itemsQ, itemsL, h]; rfl
  have e3 : dinD S (.str w) (.ref p) = none := by unfold dinD; simp only [h]
  unfold inD
  rw [e3]
  simp only [e2, e0, e1, e, Bool.and_self, if_true]
theorem ok_law_has : BodyOk ["_law_hand", "_law_row"] 2 sp_law_has t_law_has := by
  refine ok2 ?_
  rintro h r S k Nx hr _
  cases r with
  | wr b v =>
    have ew : (("write" : Str) == "look") = false := rfl
    dsimp! [t_law_has, Enc.e, TRw.d, ix30, ew]
    exact hr S Sub.refl
  | lk w b ns tt =>
    have el : (("look" : Str) == "look") = true := rfl
    have i0 : ∀ S Q, ixF (.tup [.str "look", .str w, .int b, .tup (ns.map .int), .int tt]) (.int 0) S Q ↔ Q (.str "look") S := fun S Q => ix_tup rfl
    have i1 : ∀ S Q, ixF (.tup [.str "look", .str w, .int b, .tup (ns.map .int), .int tt]) (.int 1) S Q ↔ Q (.str w) S := fun S Q => ix_tup rfl
    dsimp! [t_law_has, Enc.e, TRw.d, i0, i1, el]
    intro p hp
    have hi : ixF (.ref p) (.int h) (put S p (.lst [.str "higher", .str "lower"])) = fun Q => Q (.str (if h = 0 then ("higher" : Str) else ("lower" : Str))) (put S p (.lst [.str "higher", .str "lower"])) := by
      funext Q
      rcases k with rfl | rfl
      · exact propext (ix_ref put_same rfl)
      · exact propext (ix_ref put_same rfl)
    dsimp! [hi]
    intro q hq
    dsimp! [in_twoL put_same]
    show Nx.rt (.bl (hasO h (.lk w b ns tt))) _
    exact hr _ (Sub.put2 (Sub.put hp) (new_ne hq).2)
def sp_moved : Spec := spPut
def t_moved : WS :=
  sSeq (sRet (wBin addF (wBin addF (wSl (wVar 0) (wNoP) (wP (wVar 1))) (wTup (wCons (wVar 2) (wNil)))) (wSl (wVar 0) (wP (wBin addF (wVar 1) (wC (.int 1)))) (wNoP)))) sNx
theorem ok_moved : BodyOk ["spots", "hand", "spot"] 3 sp_moved t_moved := ok_put_any
theorem put_ints3 {S : Sto} {Q : D → Sto → Prop} {E : QX} {l : List Int} {i x : Int} (h0 : 0 ≤ i) (h1 : i < l.length) (hl : l.length ≤ 900) : callS sp_moved [.tup (l.map .int), .int i, .int x] S Q E ↔ Q (.tup ((l.set i.toNat x).map .int)) S := put_ints h0 h1 hl
def sbh (t : Tp) (pl : Int) : Int := if pl = t.rows.length then 0 else 2 * (pl + 1)
def sp_spot_behind : Spec := sp2 (fun (rs : List TRw) (_ : Int) _ => rs.length ≤ 900) fun rs pl _ => .int (if pl = rs.length then 0 else 2 * (pl + 1))
def t_spot_behind : WS :=
  sSeq
  (sIf (wCmpT .Eq (wVar 1) (wFn lenF (wCons (wVar 0) wNil))) (sSeq (sRet (wC (.int 0))) sNx) (sNx)) <|
  sSeq (sRet (wBin mulF (wC (.int 2)) (wBin addF (wVar 1) (wC (.int 1))))) sNx
theorem call_spot_behind {S : Sto} {Q : D → Sto → Prop} {E : QX} {t : Tp} {pl : Int} (o : t.ok) : callS sp_spot_behind [.tup (t.rows.map TRw.d), .int pl] S Q E ↔ Q (.int (sbh t pl)) S := call2 (α := List TRw) (β := Int) t.rows pl (by have := o.n8; omega)
theorem ok_spot_behind : BodyOk ["rows", "place"] 2 sp_spot_behind t_spot_behind := by
  refine ok2 ?_
  rintro rs pl S hl Nx hr _
  have hr := hr S Sub.refl
  dsimp! [t_spot_behind, Enc.e]
  intro _
  by_cases c : pl = rs.length
  · rw [if_pos c] at hr
    dsimp! [c]
    exact hr
  · rw [if_neg c] at hr
    dsimp! [c]
    exact ⟨mul_two, hr⟩
def tellP (t : Tp) (s : Sd) (h k : Int) : List Int :=
  if spO s (1 - h) % 2 = 1 then (match rowP t (spO s (1 - h)) with
    | some (.wr b c) => if b = k then (if kindP t k = "torn" then (List.range (szAt t.kinds k).toNat).map fun i => ((i : Nat) : Int) else two (vaO s ((1 - h) * t.kinds.length + k)) c) else [vaO s ((1 - h) * t.kinds.length + k)]
    | _ => [vaO s ((1 - h) * t.kinds.length + k)]) else [vaO s ((1 - h) * t.kinds.length + k)]
structure TellOk (t : Tp) (s : Sd) (h k : Int) : Prop where
  ot : t.ok
  o : PrOk t s
  h : two01 h
  k0 : 0 ≤ k
  k1 : k < t.kinds.length
def sp_tellable : Spec := nw4 (fun (t : Tp) (s : Sd) (h k : Int) => TellOk t s h k) fun t s h k => (tellP t s h k).map .int
def t_tellable : WS :=
  sSeq
  (sAsg (wVar 0) (.tp [.nm 4, .tp [.nm 5, .nm 6, .nm 7]])) <|
  sSeq
  (sAsg (wVar 1) (.tp [.nm 8, .nm 9])) <|
  sSeq
  (sAsg (wBin subF (wC (.int 1)) (wVar 2)) (.nm 10)) <|
  sSeq
  (sAsg (wBin ixF (wVar 9) (wBin addF (wBin mulF (wVar 10) (wFn lenF (wCons (wVar 4) wNil))) (wVar 3))) (.nm 11)) <|
  sSeq
  (sAsg (wBin ixF (wVar 7) (wBin subF (wFn maxF (wCons (wBin fdivF (wBin ixF (wVar 8) (wVar 10)) (wC (.int 2))) (wCons (wC (.int 1)) (wNil)))) (wC (.int 1)))) (.nm 12)) <|
  sSeq
  (sIf (wOrT (wCmpT .Eq (wBin modF (wBin ixF (wVar 8) (wVar 10)) (wC (.int 2))) (wC (.int 0))) (wOrT (wCmpT .NotEq (wBin ixF (wVar 12) (wC (.int 0))) (wC (.str "write"))) (wCmpT .NotEq (wBin ixF (wVar 12) (wC (.int 1))) (wVar 3)))) (sSeq (sRet (wLst (wCons (wVar 11) (wNil)))) sNx) (sNx)) <|
  sSeq
  (sIf (wCmpT .Eq (wBin ixF (wBin ixF (wVar 4) (wVar 3)) (wC (.int 0))) (wC (.str "torn"))) (sSeq (sRet (wLstRg (rg1 (wBin ixF (wBin ixF (wVar 4) (wVar 3)) (wC (.int 1)))))) sNx) (sNx)) <|
  sSeq (sRet (wQf ssetF (qLst (wCons (wVar 11) (wCons (wBin ixF (wVar 12) (wC (.int 2))) (wNil)))))) sNx
theorem call_tellable {S : Sto} {Q : D → Sto → Prop} {E : QX} {t : Tp} {s : Sd} {h k : Int} (H : TellOk t s h k) (q : newL ((tellP t s h k).map .int) S Q) : callS sp_tellable [t.d, s.d, .int h, .int k] S Q E := callN4 (α := Tp) (β := Sd) (γ := Int) (δ := Int) t s h k H q
theorem rowP_in {t : Tp} {h x : Int} (ps : PSpot t h x) (hx : x ≠ 0) : ∃ r, rowP t x = some r ∧ r ∈ t.rows := by
  obtain ⟨h1, h2, h3, _⟩ := ps
  exact getE (l := t.rows) (i := (x / 2 - 1).toNat) (by omega)
theorem ok_tellable : BodyOk ["template", "pair", "hand", "kind", "kinds", "door", "within", "rows", "spots", "values", "other", "holds_now", "row"] 4 sp_tellable t_tellable := by
  refine okN4 ?_
  rintro t s h k S H Nx hr
  obtain ⟨ot, o, kh, k0, k1⟩ := H
  have n1 := ot.n1
  have b2 := ot.b2
  have ko := kh.o
  have hr2 := ko.r
  obtain ⟨bx, eb, mb⟩ := getE (l := t.kinds) (i := k.toNat) (by omega)
  have ob := ot.bok bx mb
  have ib : ∀ S Q, ixF (bxs t.kinds) (.int k) S Q ↔ Q bx.d S := fun S Q => ix_map k0 eb
  have bl := box_lt (t := t) ko k0 k1
  have ps := o.sp _ ko
  dsimp! [t_tellable, Enc.e, asg_t, asg_tp3, asg_s]
  refine fun _ => ⟨mul_small (by omega) (by omega), ?_⟩
  unfold tellP at hr
  have k3 : kindP t k = bx.kind := by unfold kindP; rw [eb]; rfl
  have k4 : szAt t.kinds k = bx.size := by unfold szAt; rw [eb]; rfl
  rw [k3, k4] at hr
  simp only [o.iv bl.1 bl.2, o.ix ko]
  unfold rowP at hr
  have ps2 : PSpot t (1 - h) (spO s (1 - h)) := ps
  generalize spO s (1 - h) = x at hr ps
  generalize vaO s ((1 - h) * t.kinds.length + k) = v at hr
  obtain ⟨x0, x1, x2, x3⟩ := ps
  obtain ⟨r, er, mr⟩ := getE (l := t.rows) (i := (max (x / 2) 1 - 1).toNat) (by omega)
  have ir : ∀ S Q, ixF (.tup (t.rows.map TRw.d)) (.int (max (x / 2) 1 - 1)) S Q ↔ Q r.d S := fun S Q => ix_map (by omega) er
  dsimp! [ir]
  refine ⟨⟨by decide, by decide +kernel⟩, ?_⟩
  dsimp! [ir]
  refine ⟨by decide, ?_⟩
  by_cases c : x % 2 = 1
  · rw [if_pos c] at hr
    have c2 : ¬ x % 2 = 0 := by omega
    rw [show (max (x / 2) 1 - 1).toNat = (x / 2 - 1).toNat by omega] at er
    rw [er] at hr
    dsimp! [c2]
    cases r with
    | lk w b ns tt =>
      have el : (("look" : Str) == "write") = false := rfl
      have i0 : ∀ S Q, ixF (.tup [.str "look", .str w, .int b, .tup (ns.map .int), .int tt]) (.int 0) S Q ↔ Q (.str "look") S := fun S Q => ix_tup rfl
      dsimp! [TRw.d, i0, el]
      intro p hp
      exact hr p _ hp Sub.refl
    | wr b cc =>
      have ew : (("write" : Str) == "write") = true := rfl
      simp only at hr
      dsimp! [TRw.d, ix30, ix31, ix32, ew]
      by_cases cb : b = k
      · rw [if_pos cb] at hr
        dsimp! [cb, ib, Bx.d, ix30]
        by_cases ct : bx.kind = "torn"
        · rw [if_pos ct] at hr
          have e1 : (bx.kind == ("torn" : Str)) = true := by rw [ct]; rfl
          dsimp! [e1, wLstRg, rg1, ib, Bx.d, ix31]
          have s5 := ob.s5
          have s2 := ob.s2
          refine ⟨⟨by omega, by omega, by omega, by omega, by omega⟩, fun p hp => hr p _ hp ?_⟩
          rw [torn_rng]
          exact Sub.refl
        · rw [if_neg ct] at hr
          have e1 : (bx.kind == ("torn" : Str)) = false := by simpa using ct
          dsimp! [e1]
          refine ⟨rfl, (by simp), fun ns h1 h2 p hp => ?_⟩
          have := two_one h1 (a := v) (b := cc) (fun k => by rw [h2 k]; simp [intOf])
          rw [this]
          exact hr p _ hp Sub.refl
      · rw [if_neg cb] at hr
        dsimp! [cb]
        intro p hp
        exact hr p _ hp Sub.refl
  · rw [if_neg c] at hr
    have c2 : x % 2 = 0 := by omega
    dsimp! [c2]
    intro p hp
    exact hr p _ hp Sub.refl
def sp_law_heard : Spec := nw4 (fun (t : Tp) (s : Sd) (h k : Int) => TellOk t s h k) fun t s h k => (tellP t s h k).map .int
def t_law_heard : WS :=
  sSeq
  (sAsg (wVar 0) (.tp [.nm 4, .nm 5])) <|
  sSeq
  (sAsg (wVar 1) (.tp [.nm 6, .nm 7])) <|
  sSeq
  (sAsg (wBin ixF (wVar 7) (wBin addF (wBin mulF (wBin subF (wC (.int 1)) (wVar 2)) (wFn lenF (wCons (wVar 4) wNil))) (wVar 3))) (.nm 8)) <|
  sSeq
  (sAsg (wBin ixF (wVar 6) (wBin subF (wC (.int 1)) (wVar 2))) (.nm 9)) <|
  sSeq
  (sIf (wCmpT .Eq (wBin modF (wVar 9) (wC (.int 2))) (wC (.int 1))) (sSeq
   (sAsg (wBin ixF (wBin ixF (wVar 5) (wC (.int 2))) (wBin subF (wBin fdivF (wVar 9) (wC (.int 2))) (wC (.int 1)))) (.nm 10)) <|
   sSeq (sIf (wAndT (wCmpT .Eq (wBin ixF (wVar 10) (wC (.int 0))) (wC (.str "write"))) (wCmpT .Eq (wBin ixF (wVar 10) (wC (.int 1))) (wVar 3))) (sSeq
    (sIf (wCmpT .Eq (wBin ixF (wBin ixF (wVar 4) (wVar 3)) (wC (.int 0))) (wC (.str "torn"))) (sSeq (sRet (wLstRg (rg1 (wBin ixF (wBin ixF (wVar 4) (wVar 3)) (wC (.int 1)))))) sNx) (sNx)) <|
    sSeq (sRet (wQf ssetF (qLst (wCons (wVar 8) (wCons (wBin ixF (wVar 10) (wC (.int 2))) (wNil)))))) sNx) (sNx)) sNx) (sNx)) <|
  sSeq (sRet (wLst (wCons (wVar 8) (wNil)))) sNx
theorem call_heard {S : Sto} {Q : D → Sto → Prop} {E : QX} {t : Tp} {s : Sd} {h k : Int} (H : TellOk t s h k) (q : newL ((tellP t s h k).map .int) S Q) : callS sp_law_heard [t.d, s.d, .int h, .int k] S Q E := callN4 (α := Tp) (β := Sd) (γ := Int) (δ := Int) t s h k H q
theorem ok_law_heard : BodyOk ["_law_template_here", "_law_pair", "_law_hand", "_law_kind", "_law_kinds", "_law_program", "_law_spots", "_law_values", "_law_there", "_law_spot_here", "_law_row"] 4 sp_law_heard t_law_heard := by
  refine okN4 ?_
  rintro t s h k S H Nx hr
  obtain ⟨ot, o, kh, k0, k1⟩ := H
  have n1 := ot.n1
  have b2 := ot.b2
  have ko := kh.o
  have hr2 := ko.r
  obtain ⟨bx, eb, mb⟩ := getE (l := t.kinds) (i := k.toNat) (by omega)
  have ob := ot.bok bx mb
  have ib : ∀ S Q, ixF (bxs t.kinds) (.int k) S Q ↔ Q bx.d S := fun S Q => ix_map k0 eb
  have bl := box_lt (t := t) ko k0 k1
  have ps := o.sp _ ko
  dsimp! [t_law_heard, Enc.e, asg_t, asg_s]
  refine fun _ => ⟨mul_small (by omega) (by omega), ?_⟩
  unfold tellP at hr
  have k3 : kindP t k = bx.kind := by unfold kindP; rw [eb]; rfl
  have k4 : szAt t.kinds k = bx.size := by unfold szAt; rw [eb]; rfl
  rw [k3, k4] at hr
  simp only [o.iv bl.1 bl.2, o.ix ko]
  unfold rowP at hr
  have ps2 : PSpot t (1 - h) (spO s (1 - h)) := ps
  generalize spO s (1 - h) = x at hr ps
  generalize vaO s ((1 - h) * t.kinds.length + k) = v at hr
  obtain ⟨x0, x1, x2, x3⟩ := ps
  dsimp! []
  refine ⟨by decide, ?_⟩
  by_cases c : x % 2 = 1
  · rw [if_pos c] at hr
    obtain ⟨r, er, mr⟩ := getE (l := t.rows) (i := (x / 2 - 1).toNat) (by omega)
    have ir : ∀ S Q, ixF (.tup (t.rows.map TRw.d)) (.int (x / 2 - 1)) S Q ↔ Q r.d S := fun S Q => ix_map (by omega) er
    rw [er] at hr
    dsimp! [c, ix_tp2, ir]
    refine ⟨⟨by decide, by decide +kernel⟩, ?_⟩
    dsimp! [ir]
    cases r with
    | lk w b ns tt =>
      have el : (("look" : Str) == "write") = false := rfl
      have i0 : ∀ S Q, ixF (.tup [.str "look", .str w, .int b, .tup (ns.map .int), .int tt]) (.int 0) S Q ↔ Q (.str "look") S := fun S Q => ix_tup rfl
      dsimp! [TRw.d, i0, el]
      intro p hp
      exact hr p _ hp Sub.refl
    | wr b cc =>
      have ew : (("write" : Str) == "write") = true := rfl
      simp only at hr
      dsimp! [TRw.d, ix30, ix31, ix32, ew]
      by_cases cb : b = k
      · rw [if_pos cb] at hr
        dsimp! [cb, ib, Bx.d, ix30]
        by_cases ct : bx.kind = "torn"
        · rw [if_pos ct] at hr
          have e1 : (bx.kind == ("torn" : Str)) = true := by rw [ct]; rfl
          dsimp! [e1, wLstRg, rg1, ib, Bx.d, ix31]
          have s5 := ob.s5
          have s2 := ob.s2
          refine ⟨⟨by omega, by omega, by omega, by omega, by omega⟩, fun p hp => hr p _ hp ?_⟩
          rw [torn_rng]
          exact Sub.refl
        · rw [if_neg ct] at hr
          have e1 : (bx.kind == ("torn" : Str)) = false := by simpa using ct
          dsimp! [e1]
          refine ⟨rfl, (by simp), fun ns h1 h2 p hp => ?_⟩
          have := two_one h1 (a := v) (b := cc) (fun k => by rw [h2 k]; simp [intOf])
          rw [this]
          exact hr p _ hp Sub.refl
      · rw [if_neg cb] at hr
        dsimp! [cb]
        intro p hp
        exact hr p _ hp Sub.refl
  · rw [if_neg c] at hr
    dsimp! [c]
    intro p hp
    exact hr p _ hp Sub.refl
end Ow

namespace Ow
open PySem PySem.Spec PyProof.Rows L2
local macro_rules | `(tactic| dsimp! [$ts,*]) => `(tactic| try simp only [$ts,*, sSeq, sRet, sRetN, sIf, sAsg, sExpr, sNx, sBk, sCt, sNever, sRaise, sRaiseF, sFor, sSub, wAndV, wOrV, wNotV, wAndT, wOrT, wNotT, wTru, wCmpT, wChT, wChV, wBin, wUn, wVar, wC, wCons, wNil, wTup, wIfE, wIsi, wFn, wQf, qLst, qOf, wCall, wCall0, wLc, wYes, iOf, iR1, iR2, iEn, iHid, wNew, wLst, wSl, wNoP, wP, ex_ss, ex_some, ex_eq, ex_int, ex_two, startD, List.map_cons, List.map_nil, List.length_cons, List.length_nil, List.replicate, List.cons_append, List.nil_append, List.getElem?_cons_zero, List.getElem?_cons_succ, List.set_cons_zero, List.set_cons_succ, wipeD, asg_nm, asg_tp, asgs_nil, asgs_cons, Option.bind_some, tru_bl, tru_int, tru_tup, cmpF, cmpD, lt_int, eq_int, eq_str, eq_bl, Option.map_some, sub_int, add_int, add_tup, fdiv_int, mod_int, pow_int, shl_int, shr_int, band_int, mul_int, int_bl, dm_int, max_int, min_int, len_tup, len_fl, Nat.reduceAdd, Nat.reduceSub, if_true, Bool.not_true, Bool.not_false, Bool.false_eq_true, if_false, tupF, allF, anyF, lenQF, Nat.zero_add, Nat.sub_self, wApp, wExt, iZip, ix_w0, ix_w1, ix_s0, ix_s1, ix_p0, ix_p1, ix_p2, ix_b0, ix_b1, ix_b2, ix_wr0, ix_wr1, ix_wr2, ix_lk0, ix_lk1, ix_lk2, ix_lk3, asg_w, asg_s, asg_p, asg_b, asg_wr, asg_lk, len_h, len_b, len_map, src_h, src_b, src_t, srcD_t, sl_h, sl_b, ix20, ix21, sl_tup, in_ints, decide_true, decide_false, List.length_map, neg_int, isi_ib, isi_ii, isi_it, isi_bb, isi_bi, isi_tt, isi_tb, isi_ti, isi_ss, isi_nb, isi_ni, isi_nt, isi_ob, isi_wt, isi_sdt])
local macro_rules | `(tactic| dsimp! []) => `(tactic| try simp only [sSeq, sRet, sRetN, sIf, sAsg, sExpr, sNx, sBk, sCt, sNever, sRaise, sRaiseF, sFor, sSub, wAndV, wOrV, wNotV, wAndT, wOrT, wNotT, wTru, wCmpT, wChT, wChV, wBin, wUn, wVar, wC, wCons, wNil, wTup, wIfE, wIsi, wFn, wQf, qLst, qOf, wCall, wCall0, wLc, wYes, iOf, iR1, iR2, iEn, iHid, wNew, wLst, wSl, wNoP, wP, ex_ss, ex_some, ex_eq, ex_int, ex_two, startD, List.map_cons, List.map_nil, List.length_cons, List.length_nil, List.replicate, List.cons_append, List.nil_append, List.getElem?_cons_zero, List.getElem?_cons_succ, List.set_cons_zero, List.set_cons_succ, wipeD, asg_nm, asg_tp, asgs_nil, asgs_cons, Option.bind_some, tru_bl, tru_int, tru_tup, cmpF, cmpD, lt_int, eq_int, eq_str, eq_bl, Option.map_some, sub_int, add_int, add_tup, fdiv_int, mod_int, pow_int, shl_int, shr_int, band_int, mul_int, int_bl, dm_int, max_int, min_int, len_tup, len_fl, Nat.reduceAdd, Nat.reduceSub, if_true, Bool.not_true, Bool.not_false, Bool.false_eq_true, if_false, tupF, allF, anyF, lenQF, Nat.zero_add, Nat.sub_self, wApp, wExt, iZip, ix_w0, ix_w1, ix_s0, ix_s1, ix_p0, ix_p1, ix_p2, ix_b0, ix_b1, ix_b2, ix_wr0, ix_wr1, ix_wr2, ix_lk0, ix_lk1, ix_lk2, ix_lk3, asg_w, asg_s, asg_p, asg_b, asg_wr, asg_lk, len_h, len_b, len_map, src_h, src_b, src_t, srcD_t, sl_h, sl_b, ix20, ix21, sl_tup, in_ints, decide_true, decide_false, List.length_map, neg_int, isi_ib, isi_ii, isi_it, isi_bb, isi_bi, isi_tt, isi_tb, isi_ti, isi_ss, isi_nb, isi_ni, isi_nt, isi_ob, isi_wt, isi_sdt])
section
variable {S : Sto} {Q : D → Sto → Prop} {xs : List Str} {c y : Str}
/-- l + [..] -/
theorem add_new {p : Addr} {l m : List D} (h : S p = some (.lst l)) (hz : l.length + m.length ≤ sizeLine) (q : ∀ p3 S3, S3 p3 = some (.lst (l ++ m)) → Sub S S3 → S p3 = none → Q (.ref p3) S3) : newL m S (fun e S2 => addF (.ref p) e S2 Q) := by
  intro p2 hp2
  have ne : p ≠ p2 := fun z => by rw [← z, h] at hp2; cases hp2
  refine ⟨l, m, by simp only [itemsL, put_ne ne, h], by simp only [itemsL, put_same], hz, fun p3 hp3 => q p3 _ put_same ?_ ?_⟩
  · exact (Sub.put hp2).trans (Sub.put hp3)
  · have n3 : p3 ≠ p2 := fun z => by rw [z, put_same] at hp3; cases hp3
    rw [put_ne n3] at hp3
    exact hp3
end
mutual
theorem knd_mo {S S' : Sto} (h : Sub S S') : ∀ {d : D}, knd S d = true → knd S' d = true
  | .tup l, k => by simp only [knd] at k ⊢; exact knds_mo h k
  | .ref a, k => by
    simp only [knd] at k ⊢
    cases e : S a with
    | none => rw [e] at k; cases k
    | some o => rw [h a o e]; rw [e] at k; exact k
  | .non, _ => rfl
  | .bl _, _ => rfl
  | .int _, _ => rfl
  | .str _, _ => rfl
  | .fl _, k => by simpa only [knd] using k
  | .ty _, k => by simp [knd] at k
  | .glo _, k => by simp [knd] at k
  | .ex0 _, k => by simp [knd] at k
  | .ex1 _ _ _, k => by simp [knd] at k
theorem knds_mo {S S' : Sto} (h : Sub S S') : ∀ {l : List D}, knds S l = true → knds S' l = true
  | [], _ => rfl
  | x :: xs, k => by
    simp only [knds, Bool.and_eq_true] at k ⊢
    exact ⟨knd_mo h k.1, knds_mo h k.2⟩
end
end Ow

namespace Ow
open PySem PySem.Spec PyProof.Rows L2
local macro_rules | `(tactic| dsimp! [$ts,*]) => `(tactic| try simp only [$ts,*, sSeq, sRet, sRetN, sIf, sAsg, sExpr, sNx, sBk, sCt, sNever, sRaise, sRaiseF, sFor, sSub, wAndV, wOrV, wNotV, wAndT, wOrT, wNotT, wTru, wCmpT, wChT, wChV, wBin, wUn, wVar, wC, wCons, wNil, wTup, wIfE, wIsi, wFn, wQf, qLst, qOf, wCall, wCall0, wLc, wYes, iOf, iR1, iR2, iEn, iHid, wNew, wLst, wSl, wNoP, wP, ex_ss, ex_some, ex_eq, ex_int, ex_two, startD, List.map_cons, List.map_nil, List.length_cons, List.length_nil, List.replicate, List.cons_append, List.nil_append, List.getElem?_cons_zero, List.getElem?_cons_succ, List.set_cons_zero, List.set_cons_succ, wipeD, asg_nm, asg_tp, asgs_nil, asgs_cons, Option.bind_some, tru_bl, tru_int, tru_tup, cmpF, cmpD, lt_int, eq_int, eq_str, eq_bl, Option.map_some, sub_int, add_int, add_tup, fdiv_int, mod_int, pow_int, shl_int, shr_int, band_int, mul_int, int_bl, dm_int, max_int, min_int, len_tup, len_fl, Nat.reduceAdd, Nat.reduceSub, if_true, Bool.not_true, Bool.not_false, Bool.false_eq_true, if_false, tupF, allF, anyF, lenQF, Nat.zero_add, Nat.sub_self, wApp, wExt, iZip, ix_w0, ix_w1, ix_s0, ix_s1, ix_p0, ix_p1, ix_p2, ix_b0, ix_b1, ix_b2, ix_wr0, ix_wr1, ix_wr2, ix_lk0, ix_lk1, ix_lk2, ix_lk3, asg_w, asg_s, asg_p, asg_b, asg_wr, asg_lk, len_h, len_b, len_map, src_h, src_b, src_t, srcD_t, sl_h, sl_b, ix20, ix21, sl_tup, in_ints, decide_true, decide_false, List.length_map, neg_int, isi_ib, isi_ii, isi_it, isi_bb, isi_bi, isi_tt, isi_tb, isi_ti, isi_ss, isi_nb, isi_ni, isi_nt, isi_ob, isi_wt, isi_sdt])
local macro_rules | `(tactic| dsimp! []) => `(tactic| try simp only [sSeq, sRet, sRetN, sIf, sAsg, sExpr, sNx, sBk, sCt, sNever, sRaise, sRaiseF, sFor, sSub, wAndV, wOrV, wNotV, wAndT, wOrT, wNotT, wTru, wCmpT, wChT, wChV, wBin, wUn, wVar, wC, wCons, wNil, wTup, wIfE, wIsi, wFn, wQf, qLst, qOf, wCall, wCall0, wLc, wYes, iOf, iR1, iR2, iEn, iHid, wNew, wLst, wSl, wNoP, wP, ex_ss, ex_some, ex_eq, ex_int, ex_two, startD, List.map_cons, List.map_nil, List.length_cons, List.length_nil, List.replicate, List.cons_append, List.nil_append, List.getElem?_cons_zero, List.getElem?_cons_succ, List.set_cons_zero, List.set_cons_succ, wipeD, asg_nm, asg_tp, asgs_nil, asgs_cons, Option.bind_some, tru_bl, tru_int, tru_tup, cmpF, cmpD, lt_int, eq_int, eq_str, eq_bl, Option.map_some, sub_int, add_int, add_tup, fdiv_int, mod_int, pow_int, shl_int, shr_int, band_int, mul_int, int_bl, dm_int, max_int, min_int, len_tup, len_fl, Nat.reduceAdd, Nat.reduceSub, if_true, Bool.not_true, Bool.not_false, Bool.false_eq_true, if_false, tupF, allF, anyF, lenQF, Nat.zero_add, Nat.sub_self, wApp, wExt, iZip, ix_w0, ix_w1, ix_s0, ix_s1, ix_p0, ix_p1, ix_p2, ix_b0, ix_b1, ix_b2, ix_wr0, ix_wr1, ix_wr2, ix_lk0, ix_lk1, ix_lk2, ix_lk3, asg_w, asg_s, asg_p, asg_b, asg_wr, asg_lk, len_h, len_b, len_map, src_h, src_b, src_t, srcD_t, sl_h, sl_b, ix20, ix21, sl_tup, in_ints, decide_true, decide_false, List.length_map, neg_int, isi_ib, isi_ii, isi_it, isi_bb, isi_bi, isi_tt, isi_tb, isi_ti, isi_ss, isi_nb, isi_ni, isi_nt, isi_ob, isi_wt, isi_sdt])
theorem sub_at {S S' : Sto} {p : Addr} {o : MO} (h : Sub S S') (k : S' p = some o) : Sub (put S p o) S' := fun a z e => by
  by_cases ha : a = p
  · subst ha; rw [put_same] at e; rw [k]; exact e
  · rw [put_ne ha] at e; exact h a z e
def pset (s : Sd) (h x : Int) : Sd := ⟨s.spots.set h.toNat x, s.vals⟩
def lkm (t : Tp) (s : Sd) (h : Int) (w : Str) (b : Int) (ns : List Int) (tt : Int) : List (PStp × Sd) :=
  if spO s h % 2 = 0 ∧ hasW h w = true then (tellP t s h b).map fun c => (⟨h, .num c⟩, if c ∈ ns then pset s h (spO s h + 1) else pset s h (2 * tt)) else [(⟨h, .on⟩, pset s h (sbh t (spO s h / 2)))]
def hmv (t : Tp) (s : Sd) (h : Int) : List (PStp × Sd) :=
  if spO s h = 0 then [(⟨h, .non⟩, pset s h 2)] else match rowP t (spO s h) with
  | some (.wr b v) => if kindP t b ≠ "whole" ∧ spO s h % 2 = 0 then [(⟨h, .non⟩, pset s h (spO s h + 1))] else [(⟨h, .non⟩, ⟨s.spots.set h.toNat (sbh t (spO s h / 2)), s.vals.set (h * t.kinds.length + b).toNat v⟩)]
  | some (.lk w b ns tt) => lkm t s h w b ns tt ++ [(⟨h, .back⟩, pset s h (2 * tt))]
  | none => []
structure PrHd (t : Tp) (s : Sd) (h : Int) : Prop where
  ot : t.ok
  o : PrOk t s
  k : two01 h
theorem PrHd.tell {t : Tp} {s : Sd} {h : Int} (H : PrHd t s h) {w : Str} {b : Int} {ns : List Int} {tt : Int} (er : rowP t (spO s h) = some (.lk w b ns tt)) : TellOk t s h b := by
  have := trowsOk_get H.ot.rows er
  exact ⟨H.ot, H.o, H.k, this.2.1, this.2.2.1⟩
theorem tell_len {t : Tp} {s : Sd} {h k : Int} (H : TellOk t s h k) : (tellP t s h k).length ≤ 5 := by
  obtain ⟨bx, eb, mb⟩ := getE (l := t.kinds) (i := k.toNat) (by have := H.k0; have := H.k1; omega)
  have ob := H.ot.bok bx mb
  have s5 := ob.s5
  have k4 : szAt t.kinds k = bx.size := by unfold szAt; rw [eb]; rfl
  unfold tellP
  rw [k4]
  split
  · split
    · split
      · split
        · simp; omega
        · exact Nat.le_trans two_len (by decide)
      · simp
    · simp
  · simp
def IsPW (t : Tp) (s : Sd) (h : Int) (r : TRw) : Prop := spO s h ≠ 0 ∧ rowP t (spO s h) = some r ∧ ∃ b v, r = .wr b v
def IsPL (t : Tp) (s : Sd) (h : Int) (r : TRw) : Prop := spO s h ≠ 0 ∧ rowP t (spO s h) = some r ∧ ∃ w b ns tt, r = .lk w b ns tt
def sp_write_moves : Spec := nw4 (fun (t : Tp) (s : Sd) (h : Int) (r : TRw) => PrHd t s h ∧ IsPW t s h r) fun t s h _ => (hmv t s h).map psd
def t_write_moves : WS :=
  sSeq
  (sAsg (wVar 0) (.tp [.nm 4, .tp [.nm 5, .nm 6, .nm 7]])) <|
  sSeq
  (sAsg (wVar 1) (.tp [.nm 8, .nm 9])) <|
  sSeq
  (sAsg (wVar 3) (.tp [.nm 10, .nm 11, .nm 12])) <|
  sSeq
  (sIf (wAndT (wCmpT .NotEq (wBin ixF (wBin ixF (wVar 4) (wVar 11)) (wC (.int 0))) (wC (.str "whole"))) (wCmpT .Eq (wBin modF (wBin ixF (wVar 8) (wVar 2)) (wC (.int 2))) (wC (.int 0)))) (sSeq (sRet (wLst (wCons (wTup (wCons (wTup (wCons (wVar 2) (wCons (wC .non) (wNil)))) (wCons (wTup (wCons (wCall sp_moved (wCons (wVar 8) (wCons (wVar 2) (wCons (wBin addF (wBin ixF (wVar 8) (wVar 2)) (wC (.int 1))) (wNil))))) (wCons (wVar 9) (wNil)))) (wNil)))) (wNil)))) sNx) (sNx)) <|
  sSeq
  (sAsg (wBin addF (wBin mulF (wVar 2) (wFn lenF (wCons (wVar 4) wNil))) (wVar 11)) (.nm 13)) <|
  sSeq
  (sAsg (wCall sp_spot_behind (wCons (wVar 7) (wCons (wBin fdivF (wBin ixF (wVar 8) (wVar 2)) (wC (.int 2))) (wNil)))) (.nm 14)) <|
  sSeq (sRet (wLst (wCons (wTup (wCons (wTup (wCons (wVar 2) (wCons (wC .non) (wNil)))) (wCons (wTup (wCons (wCall sp_moved (wCons (wVar 8) (wCons (wVar 2) (wCons (wVar 14) (wNil))))) (wCons (wBin addF (wBin addF (wSl (wVar 9) (wNoP) (wP (wVar 13))) (wTup (wCons (wVar 12) (wNil)))) (wSl (wVar 9) (wP (wBin addF (wVar 13) (wC (.int 1)))) (wNoP))) (wNil)))) (wNil)))) (wNil)))) sNx
theorem call_write_moves {S : Sto} {Q : D → Sto → Prop} {E : QX} {t : Tp} {s : Sd} {h : Int} {r : TRw} (H : PrHd t s h) (k : IsPW t s h r) (q : newL ((hmv t s h).map psd) S Q) : callS sp_write_moves [t.d, s.d, .int h, r.d] S Q E := callN4 (α := Tp) (β := Sd) (γ := Int) (δ := TRw) t s h r ⟨H, k⟩ q
theorem set_vals {t : Tp} {s : Sd} {h b v : Int} (H : PrHd t s h) (b0 : 0 ≤ b) (b1 : b < t.kinds.length) : cutD (s.vals.map D.int) none (some (h * t.kinds.length + b)) ++ [D.int v] ++ cutD (s.vals.map D.int) (some (h * t.kinds.length + b + 1)) none = (s.vals.set (h * t.kinds.length + b).toNat v).map D.int := by
  have bl := box_lt (t := t) H.k b0 b1
  have m := H.o.m
  rw [cutD_to bl.1 (by rw [List.length_map]; omega), cutD_from (by omega) (by rw [List.length_map]; omega), show (h * t.kinds.length + b + 1).toNat = (h * t.kinds.length + b).toNat + 1 by omega, set_cut (by rw [List.length_map]; omega), map_set']
theorem ok_write_moves : BodyOk ["template", "pair", "hand", "row", "kinds", "door", "within", "rows", "spots", "values", "word", "kind", "number", "at", "spot"] 4 sp_write_moves t_write_moves := by
  refine okN4 ?_
  rintro t s h r S ⟨H, x0, er, b, v, rfl⟩ Nx hr
  obtain ⟨ot, o, k⟩ := H
  have ro := trowsOk_get ot.rows er
  obtain ⟨b0, b1, _, _⟩ := ro
  obtain ⟨bx, eb, mb⟩ := getE (l := t.kinds) (i := b.toNat) (by omega)
  have ib : ∀ S Q, ixF (bxs t.kinds) (.int b) S Q ↔ Q bx.d S := fun S Q => ix_map b0 eb
  have k3 : kindP t b = bx.kind := by unfold kindP; rw [eb]; rfl
  have es := set_vals (v := v) ⟨ot, o, k⟩ b0 b1
  have el := congrArg List.length es
  rw [List.length_append, List.length_append, List.length_map, List.length_set, o.m] at el
  have b2 := ot.b2
  have n := o.n
  have kr := k.r
  have e : hmv t s h = if kindP t b ≠ "whole" ∧ spO s h % 2 = 0 then [(⟨h, .non⟩, pset s h (spO s h + 1))] else [(⟨h, .non⟩, ⟨s.spots.set h.toNat (sbh t (spO s h / 2)), s.vals.set (h * t.kinds.length + b).toNat v⟩)] := by
    unfold hmv; rw [if_neg x0, er]
  rw [e, k3] at hr
  dsimp! [t_write_moves, Enc.e, asg_t, asg_tp3, asg_s, TRw.d, ib, Bx.d, ix30]
  by_cases c1 : bx.kind = "whole"
  · have e1 : (bx.kind == ("whole" : Str)) = true := by rw [c1]; rfl
    rw [if_neg (fun z => z.1 c1)] at hr
    dsimp! [e1]
    refine fun _ => ⟨mul_small kr.1 (by omega), ?_⟩
    dsimp! [o.ix k]
    refine ⟨⟨by decide, by decide +kernel⟩, ?_⟩
    dsimp! [call_spot_behind ot, put_ints3 kr.1 (show h < (s.spots.length : Int) by omega) (show s.spots.length ≤ 900 by omega)]
    refine ⟨small (by omega), small (by rw [List.length_append]; omega), fun p hp => ?_⟩
    rw [es]
    exact hr p _ hp Sub.refl
  · have e1 : (bx.kind == ("whole" : Str)) = false := by simpa using c1
    dsimp! [e1, o.ix k]
    refine ⟨by decide, ?_⟩
    by_cases c2 : spO s h % 2 = 0
    · rw [if_pos ⟨c1, c2⟩] at hr
      dsimp! [c2, put_ints3 kr.1 (show h < (s.spots.length : Int) by omega) (by omega)]
      intro p hp
      exact hr p _ hp Sub.refl
    · rw [if_neg (fun z => c2 z.2)] at hr
      dsimp! [c2]
      refine fun _ => ⟨mul_small kr.1 (by omega), ⟨by decide, by decide +kernel⟩, ?_⟩
      dsimp! [call_spot_behind ot, put_ints3 kr.1 (show h < (s.spots.length : Int) by omega) (show s.spots.length ≤ 900 by omega)]
      refine ⟨small (by omega), small (by rw [List.length_append]; omega), fun p hp => ?_⟩
      rw [es]
      exact hr p _ hp Sub.refl
section
variable {S : Sto} {Q : D → Sto → Prop} {t1 t2 t3 t4 t5 : Tg} {ρ : En} {w : Str} {b tt : Int} {ns : List Int}
theorem asg_lk5 : asg (.tp [t1, t2, t3, t4, t5]) (TRw.lk w b ns tt).d ρ = asgs [t1, t2, t3, t4, t5] [.str "look", .str w, .int b, .tup (ns.map .int), .int tt] ρ := asg_tp
theorem ix_l0 : ixF (TRw.lk w b ns tt).d (.int 0) S Q ↔ Q (.str "look") S := ix_tup rfl
theorem ix_l2 : ixF (TRw.lk w b ns tt).d (.int 2) S Q ↔ Q (.int b) S := ix_tup rfl
theorem ix_l3 : ixF (TRw.lk w b ns tt).d (.int 3) S Q ↔ Q (.tup (ns.map .int)) S := ix_tup rfl
theorem ix_l4 : ixF (TRw.lk w b ns tt).d (.int 4) S Q ↔ Q (.int tt) S := ix_tup rfl
theorem ix_r0 {v : Int} : ixF (TRw.wr b v).d (.int 0) S Q ↔ Q (.str "write") S := ix_tup rfl
theorem ix_r1 {v : Int} : ixF (TRw.wr b v).d (.int 1) S Q ↔ Q (.int b) S := ix_tup rfl
theorem ix_r2 {v : Int} : ixF (TRw.wr b v).d (.int 2) S Q ↔ Q (.int v) S := ix_tup rfl
end
def sp_look_moves : Spec := nw4 (fun (t : Tp) (s : Sd) (h : Int) (r : TRw) => PrHd t s h ∧ IsPL t s h r) fun t s h _ => (hmv t s h).map psd
def t_look_moves : WS :=
  sSeq
  (sAsg (wBin ixF (wBin ixF (wVar 0) (wC (.int 1))) (wC (.int 2))) (.nm 4)) <|
  sSeq
  (sAsg (wVar 1) (.tp [.nm 5, .nm 6])) <|
  sSeq
  (sAsg (wVar 3) (.tp [.nm 7, .nm 8, .nm 9, .nm 10, .nm 11])) <|
  sSeq
  (sAsg (wTup (wCons (wCall sp_moved (wCons (wVar 5) (wCons (wVar 2) (wCons (wBin mulF (wC (.int 2)) (wVar 11)) (wNil))))) (wCons (wVar 6) (wNil)))) (.nm 12)) <|
  sSeq
  (sAsg (wLst (wNil)) (.nm 13)) <|
  sSeq
  (sIf (wAndT (wCmpT .Eq (wBin modF (wBin ixF (wVar 5) (wVar 2)) (wC (.int 2))) (wC (.int 0))) (wTru (wCall sp_has_other (wCons (wVar 2) (wCons (wVar 3) (wNil)))))) (sSeq (sFor (iOf (wCall sp_tellable (wCons (wVar 0) (wCons (wVar 1) (wCons (wVar 2) (wCons (wVar 9) (wNil))))))) (.nm 14) (sSeq
    (sAsg (wVar 12) (.nm 15)) <|
    sSeq
    (sIf (wCmpT .In (wVar 14) (wVar 10)) (sSeq (sAsg (wTup (wCons (wCall sp_moved (wCons (wVar 5) (wCons (wVar 2) (wCons (wBin addF (wBin ixF (wVar 5) (wVar 2)) (wC (.int 1))) (wNil))))) (wCons (wVar 6) (wNil)))) (.nm 15)) sNx) (sNx)) <|
    sSeq (sExpr (wApp (wVar 13) (wTup (wCons (wTup (wCons (wVar 2) (wCons (wVar 14) (wNil)))) (wCons (wVar 15) (wNil)))))) sNx)) sNx) (sSeq (sExpr (wApp (wVar 13) (wTup (wCons (wTup (wCons (wVar 2) (wCons (wC (.str "on")) (wNil)))) (wCons (wTup (wCons (wCall sp_moved (wCons (wVar 5) (wCons (wVar 2) (wCons (wCall sp_spot_behind (wCons (wVar 4) (wCons (wBin fdivF (wBin ixF (wVar 5) (wVar 2)) (wC (.int 2))) (wNil)))) (wNil))))) (wCons (wVar 6) (wNil)))) (wNil)))))) sNx)) <|
  sSeq (sRet (wBin addF (wVar 13) (wLst (wCons (wTup (wCons (wTup (wCons (wVar 2) (wCons (wC (.str "back")) (wNil)))) (wCons (wVar 12) (wNil)))) (wNil))))) sNx
theorem call_look_moves {S : Sto} {Q : D → Sto → Prop} {E : QX} {t : Tp} {s : Sd} {h : Int} {r : TRw} (H : PrHd t s h) (k : IsPL t s h r) (q : newL ((hmv t s h).map psd) S Q) : callS sp_look_moves [t.d, s.d, .int h, r.d] S Q E := callN4 (α := Tp) (β := Sd) (γ := Int) (δ := TRw) t s h r ⟨H, k⟩ q
theorem ok_look_moves : BodyOk ["template", "pair", "hand", "row", "rows", "spots", "values", "word", "whom", "kind", "numbers", "place", "back", "found", "told", "there"] 4 sp_look_moves t_look_moves := by
  refine okN4 ?_
  rintro t s h r S ⟨H, x0, er, w, b, ns, tt, rfl⟩ Nx hr
  have ht := H.tell er
  obtain ⟨ot, o, k⟩ := H
  have n := o.n
  have kr := k.r
  have e : hmv t s h = lkm t s h w b ns tt ++ [(⟨h, .back⟩, pset s h (2 * tt))] := by unfold hmv; rw [if_neg x0, er]
  rw [e] at hr
  have mv : ∀ S Q E x, callS sp_moved [.tup (s.spots.map .int), .int h, .int x] S Q E ↔ Q (.tup ((s.spots.set h.toNat x).map .int)) S := fun S Q E x => put_ints3 kr.1 (by omega) (by omega)
  have tl := tell_len ht
  dsimp! [t_look_moves, Enc.e, ix_t1, ix_tp2, asg_s, asg_lk5]
  refine ⟨mul_two, ?_⟩
  dsimp! [mv]
  intro fp hfp
  dsimp! [o.ix k]
  refine ⟨by decide, ?_⟩
  by_cases c : spO s h % 2 = 0 ∧ hasW h w = true
  · unfold lkm at hr
    rw [if_pos c] at hr
    dsimp! [c.1, call_has_other k, hasO, c.2]
    refine call_tellable ht fun q hq => ?_
    obtain ⟨qp, hq'⟩ := new_ne hq
    dsimp! [src_ref put_same]
    refine for_map D.int (fun cs ρ S' => ∃ done u1 u2, tellP t s h b = done ++ cs ∧ Sub S S' ∧ S' q = some (.lst ((tellP t s h b).map .int)) ∧ S' fp = some (.lst ((done.map fun c => ((⟨h, .num c⟩ : PStp), if c ∈ ns then pset s h (spO s h + 1) else pset s h (2 * tt))).map psd)) ∧ ρ = [some t.d, some s.d, some (.int h), some (TRw.lk w b ns tt).d, some (.tup (t.rows.map TRw.d)), some (.tup (s.spots.map .int)), some (.tup (s.vals.map .int)), some (.str "look"), some (.str w), some (.int b), some (.tup (ns.map .int)), some (.int tt), some (pset s h (2 * tt)).d, some (.ref fp), u1, u2]) ?_ ?_ ⟨[], none, none, rfl, Sub.put2 (Sub.put hfp) hq', put_same, by rw [put_ne (fun z => qp z.symm), put_same]; rfl, rfl⟩
    · rintro i cs ρ S' ⟨dn, u1, u2, ed, hS, hl, hf, rfl⟩
      have dl : dn.length ≤ 5 := by rw [ed] at tl; simp at tl; omega
      refine ⟨chk_one.mpr hl, _, rfl, fun R hR => ?_⟩
      have fin : ∀ X, X = (if i ∈ ns then pset s h (spO s h + 1) else pset s h (2 * tt)) → ∀ u, R [some t.d, some s.d, some (.int h), some (TRw.lk w b ns tt).d, some (.tup (t.rows.map TRw.d)), some (.tup (s.spots.map .int)), some (.tup (s.vals.map .int)), some (.str "look"), some (.str w), some (.int b), some (.tup (ns.map .int)), some (.int tt), some (pset s h (2 * tt)).d, some (.ref fp), some (.int i), u] (put S' fp (.lst (((dn.map fun c => ((⟨h, .num c⟩ : PStp), if c ∈ ns then pset s h (spO s h + 1) else pset s h (2 * tt))).map psd) ++ [.tup [.tup [.int h, .int i], X.d]]))) := fun X hX u => hR _ _ ⟨dn ++ [i], _, _, by rw [ed]; simp, Sub.put2 hS hfp, by rw [put_ne qp]; exact hl, by rw [put_same, hX]; simp only [List.map_append]; rfl, rfl⟩
      dsimp! [in_ints]
      by_cases ci : i ∈ ns
      · rw [if_pos ci] at fin
        dsimp! [ci, o.ix k, mv]
        exact ⟨fp, _, rfl, hf, _, hf, by rw [List.length_map, List.length_map]; unfold sizeLine; omega, fin _ rfl _⟩
      · rw [if_neg ci] at fin
        dsimp! [ci]
        exact ⟨fp, _, rfl, hf, _, hf, by rw [List.length_map, List.length_map]; unfold sizeLine; omega, fin _ rfl _⟩
    · rintro ρ S' ⟨dn, u1, u2, ed, hS, hl, hf, rfl⟩
      refine ⟨chk_one.mpr hl, ?_⟩
      rw [List.append_nil] at ed
      dsimp! []
      refine add_new hf (by rw [List.length_map, List.length_map, ← ed]; simp only [List.length_cons, List.length_nil]; unfold sizeLine; omega) fun p3 S3 h3 hS3 hp3 => ?_
      refine hr p3 S3 (hS.none hp3) (sub_at (hS.trans hS3) ?_)
      rw [h3, List.map_append, ed]
      rfl
  · unfold lkm at hr
    rw [if_neg c] at hr
    have onb : ∀ (S2 : Sto) (p3 : Addr), Sub S S2 → S p3 = none → S2 p3 = some (.lst ([] ++ [.tup [.tup [.int h, .str "on"], (pset s h (sbh t (spO s h / 2))).d]] ++ [.tup [.tup [.int h, .str "back"], (pset s h (2 * tt)).d]])) → Nx.rt (.ref p3) S2 := fun S2 p3 hS hp h3 => hr p3 S2 hp (sub_at hS (by rw [h3]; rfl))
    by_cases c2 : spO s h % 2 = 0
    · have c3 : hasW h w = false := by
        cases z : hasW h w with
        | true => exact (c ⟨c2, z⟩).elim
        | false => rfl
      dsimp! [c2, call_has_other k, hasO, c3]
      refine ⟨fp, _, rfl, put_same, ?_⟩
      dsimp! [o.ix k]
      refine ⟨⟨by decide, by decide +kernel⟩, ?_⟩
      dsimp! [call_spot_behind ot, mv]
      refine ⟨_, put_same, by decide, ?_⟩
      refine add_new put_same (by show 1 + 1 ≤ sizeLine; decide) fun p3 S3 h3 hS3 hp3 => ?_
      exact onb S3 p3 ((Sub.put2 (Sub.put hfp) hfp).trans hS3) ((Sub.put2 (Sub.put hfp) hfp).none hp3) h3
    · dsimp! [c2]
      refine ⟨fp, _, rfl, put_same, ?_⟩
      dsimp! [o.ix k]
      refine ⟨⟨by decide, by decide +kernel⟩, ?_⟩
      dsimp! [call_spot_behind ot, mv]
      refine ⟨_, put_same, by decide, ?_⟩
      refine add_new put_same (by show 1 + 1 ≤ sizeLine; decide) fun p3 S3 h3 hS3 hp3 => ?_
      exact onb S3 p3 ((Sub.put2 (Sub.put hfp) hfp).trans hS3) ((Sub.put2 (Sub.put hfp) hfp).none hp3) h3
def pmoves (t : Tp) (s : Sd) : List (PStp × Sd) := hmv t s 0 ++ hmv t s 1
theorem hmv_len {t : Tp} {s : Sd} {h : Int} (H : PrHd t s h) : (hmv t s h).length ≤ 6 := by
  unfold hmv
  split
  · simp
  · split
    · split <;> simp
    · rename_i w b ns tt er
      have := tell_len (H.tell er)
      rw [List.length_append]
      unfold lkm
      split
      · simp; omega
      · simp
    · simp
def sp_moves_of : Spec := sp2 (fun (t : Tp) (s : Sd) _ => t.ok ∧ PrOk t s) fun t s _ => .tup ((pmoves t s).map psd)
def t_moves_of : WS :=
  sSeq
  (sAsg (wBin ixF (wBin ixF (wVar 0) (wC (.int 1))) (wC (.int 2))) (.nm 2)) <|
  sSeq
  (sAsg (wLst (wNil)) (.nm 3)) <|
  sSeq
  (sFor (iR1 (wC (.int 2))) (.nm 4) (sSeq
   (sAsg (wBin ixF (wBin ixF (wVar 1) (wC (.int 0))) (wVar 4)) (.nm 5)) <|
   sSeq (sIf (wCmpT .Eq (wVar 5) (wC (.int 0))) (sSeq (sExpr (wApp (wVar 3) (wTup (wCons (wTup (wCons (wVar 4) (wCons (wC .non) (wNil)))) (wCons (wTup (wCons (wCall sp_moved (wCons (wBin ixF (wVar 1) (wC (.int 0))) (wCons (wVar 4) (wCons (wC (.int 2)) (wNil))))) (wCons (wBin ixF (wVar 1) (wC (.int 1))) (wNil)))) (wNil)))))) sNx) (sSeq (sIf (wCmpT .Eq (wBin ixF (wBin ixF (wVar 2) (wBin subF (wBin fdivF (wVar 5) (wC (.int 2))) (wC (.int 1)))) (wC (.int 0))) (wC (.str "write"))) (sSeq (sExpr (wExt (wVar 3) (wCall sp_write_moves (wCons (wVar 0) (wCons (wVar 1) (wCons (wVar 4) (wCons (wBin ixF (wVar 2) (wBin subF (wBin fdivF (wVar 5) (wC (.int 2))) (wC (.int 1)))) (wNil)))))))) sNx) (sSeq (sExpr (wExt (wVar 3) (wCall sp_look_moves (wCons (wVar 0) (wCons (wVar 1) (wCons (wVar 4) (wCons (wBin ixF (wVar 2) (wBin subF (wBin fdivF (wVar 5) (wC (.int 2))) (wC (.int 1)))) (wNil)))))))) sNx)) sNx)) sNx)) <|
  sSeq (sRet (wQf tupF (qOf (wVar 3)))) sNx
theorem call_moves_of {S : Sto} {Q : D → Sto → Prop} {E : QX} {t : Tp} {s : Sd} (ot : t.ok) (o : PrOk t s) : callS sp_moves_of [t.d, s.d] S Q E ↔ Q (.tup ((pmoves t s).map psd)) S := call2 (α := Tp) (β := Sd) t s ⟨ot, o⟩
def mvTo (t : Tp) (s : Sd) (k : Int) : List (PStp × Sd) := if k = 0 then [] else if k = 1 then hmv t s 0 else pmoves t s
theorem ok_moves_of : BodyOk ["template", "pair", "rows", "found", "hand", "spot"] 2 sp_moves_of t_moves_of := by
  refine ok2 ?_
  rintro t s S ⟨ot, o⟩ Nx hr _
  have n := o.n
  dsimp! [t_moves_of, Enc.e, ix_t1, ix_tp2]
  intro fp hfp
  dsimp! []
  refine ⟨rg_ok (by unfold sizeLine; omega) (by omega), ?_⟩
  refine for_rng (fun k ρ S' => 0 ≤ k ∧ Sub S S' ∧ S' fp = some (.lst ((mvTo t s k).map psd)) ∧ ∃ u1 u2, ρ = [some t.d, some s.d, some (.tup (t.rows.map TRw.d)), some (.ref fp), u1, u2]) ?_ ?_ (by omega) ⟨by omega, Sub.put hfp, put_same, none, none, rfl⟩
  · rintro k ρ S' hk ⟨k0, hS, hf, u1, u2, rfl⟩
    refine ⟨chk_nil, _, rfl, fun R hR => ?_⟩
    have kk : two01 k := by unfold two01; omega
    have H : PrHd t s k := ⟨ot, o, kk⟩
    have ml := hmv_len H
    have m0 := hmv_len (t := t) (s := s) (h := 0) ⟨ot, o, .inl rfl⟩
    have nx : mvTo t s (k + 1) = mvTo t s k ++ hmv t s k := by rcases kk with rfl | rfl <;> rfl
    have tl : (mvTo t s k).length ≤ 6 := by
      rcases kk with rfl | rfl
      · simp [mvTo]
      · exact m0
    have fin : ∀ S2 u, Sub S S2 → S2 fp = some (.lst ((mvTo t s k).map psd ++ (hmv t s k).map psd)) → R [some t.d, some s.d, some (.tup (t.rows.map TRw.d)), some (.ref fp), some (.int k), u] S2 := fun S2 u h1 h2 => hR _ _ ⟨by omega, h1, by rw [nx, List.map_append]; exact h2, _, _, rfl⟩
    have mv : ∀ S Q E x, callS sp_moved [.tup (s.spots.map .int), .int k, .int x] S Q E ↔ Q (.tup ((s.spots.set k.toNat x).map .int)) S := fun S Q E x => put_ints3 kk.r.1 (by omega) (by omega)
    dsimp! [ix_s0, o.ix kk]
    by_cases c : spO s k = 0
    · have e : hmv t s k = [(⟨k, .non⟩, pset s k 2)] := by unfold hmv; rw [if_pos c]
      dsimp! [c]
      refine ⟨fp, _, rfl, hf, ?_⟩
      dsimp! [ix_s0, ix_s1, mv]
      refine ⟨_, hf, by rw [List.length_map]; unfold sizeLine; omega, ?_⟩
      exact fin _ _ (Sub.put2 hS hfp) (by rw [put_same, e]; rfl)
    · obtain ⟨r, er, _⟩ := rowP_in (o.sp k kk) c
      have ps := o.sp k kk
      obtain ⟨p1, p2, p3, _⟩ := ps
      have ir : ∀ S Q, ixF (.tup (t.rows.map TRw.d)) (.int (spO s k / 2 - 1)) S Q ↔ Q r.d S := fun S Q => ix_map (by omega) er
      dsimp! [c]
      refine ⟨⟨by decide, by decide +kernel⟩, ?_⟩
      dsimp! [ir]
      cases r with
      | wr b v =>
        have e1 : (("write" : Str) == "write") = true := rfl
        dsimp! [ix_r0, e1]
        refine ⟨fp, _, rfl, hf, ⟨by decide, by decide +kernel⟩, ?_⟩
        dsimp! [ir]
        refine call_write_moves H ⟨c, er, b, v, rfl⟩ fun q hq => ?_
        have nq : fp ≠ q := fun z => by rw [z, hq] at hf; cases hf
        refine ⟨q, _, _, rfl, by rw [put_ne nq]; exact hf, put_same, by rw [List.length_map, List.length_map]; unfold sizeLine; omega, ?_⟩
        exact fin _ _ (Sub.put2 (Sub.put2 hS (hS.none hq)) hfp) put_same
      | lk w b ns tt =>
        have e1 : (("look" : Str) == "write") = false := rfl
        dsimp! [ix_l0, e1]
        refine ⟨fp, _, rfl, hf, ⟨by decide, by decide +kernel⟩, ?_⟩
        dsimp! [ir]
        refine call_look_moves H ⟨c, er, w, b, ns, tt, rfl⟩ fun q hq => ?_
        have nq : fp ≠ q := fun z => by rw [z, hq] at hf; cases hf
        refine ⟨q, _, _, rfl, by rw [put_ne nq]; exact hf, put_same, by rw [List.length_map, List.length_map]; unfold sizeLine; omega, ?_⟩
        exact fin _ _ (Sub.put2 (Sub.put2 hS (hS.none hq)) hfp) put_same
  · rintro ρ S' ⟨k0, hS, hf, u1, u2, rfl⟩
    refine ⟨chk_nil, ?_⟩
    have iq : itemsQ S' (.ref fp) = some (false, (pmoves t s).map psd) := by
      have hf : S' fp = some (.lst ((pmoves t s).map psd)) := hf
      simp only [itemsQ, itemsL, hf]; rfl
    dsimp! [iq]
    exact hr _ hS
end Ow

namespace Ow
open PySem PySem.Spec PyProof.Rows L2
local macro_rules | `(tactic| dsimp! [$ts,*]) => `(tactic| try simp only [$ts,*, sSeq, sRet, sRetN, sIf, sAsg, sExpr, sNx, sBk, sCt, sNever, sRaise, sRaiseF, sFor, sSub, wAndV, wOrV, wNotV, wAndT, wOrT, wNotT, wTru, wCmpT, wChT, wChV, wBin, wUn, wVar, wC, wCons, wNil, wTup, wIfE, wIsi, wFn, wQf, qLst, qOf, wCall, wCall0, wLc, wYes, iOf, iR1, iR2, iEn, iHid, wNew, wLst, wSl, wNoP, wP, ex_ss, ex_some, ex_eq, ex_int, ex_two, startD, List.map_cons, List.map_nil, List.length_cons, List.length_nil, List.replicate, List.cons_append, List.nil_append, List.getElem?_cons_zero, List.getElem?_cons_succ, List.set_cons_zero, List.set_cons_succ, wipeD, asg_nm, asg_tp, asgs_nil, asgs_cons, Option.bind_some, tru_bl, tru_int, tru_tup, cmpF, cmpD, lt_int, eq_int, eq_str, eq_bl, Option.map_some, sub_int, add_int, add_tup, fdiv_int, mod_int, pow_int, shl_int, shr_int, band_int, mul_int, int_bl, dm_int, max_int, min_int, len_tup, len_fl, Nat.reduceAdd, Nat.reduceSub, if_true, Bool.not_true, Bool.not_false, Bool.false_eq_true, if_false, tupF, allF, anyF, lenQF, Nat.zero_add, Nat.sub_self, wApp, wExt, iZip, ix_w0, ix_w1, ix_s0, ix_s1, ix_p0, ix_p1, ix_p2, ix_b0, ix_b1, ix_b2, ix_wr0, ix_wr1, ix_wr2, ix_lk0, ix_lk1, ix_lk2, ix_lk3, asg_w, asg_s, asg_p, asg_b, asg_wr, asg_lk, len_h, len_b, len_map, src_h, src_b, src_t, srcD_t, sl_h, sl_b, ix20, ix21, sl_tup, in_ints, decide_true, decide_false, List.length_map, neg_int, isi_ib, isi_ii, isi_it, isi_bb, isi_bi, isi_tt, isi_tb, isi_ti, isi_ss, isi_nb, isi_ni, isi_nt, isi_ob, isi_wt, isi_sdt])
local macro_rules | `(tactic| dsimp! []) => `(tactic| try simp only [sSeq, sRet, sRetN, sIf, sAsg, sExpr, sNx, sBk, sCt, sNever, sRaise, sRaiseF, sFor, sSub, wAndV, wOrV, wNotV, wAndT, wOrT, wNotT, wTru, wCmpT, wChT, wChV, wBin, wUn, wVar, wC, wCons, wNil, wTup, wIfE, wIsi, wFn, wQf, qLst, qOf, wCall, wCall0, wLc, wYes, iOf, iR1, iR2, iEn, iHid, wNew, wLst, wSl, wNoP, wP, ex_ss, ex_some, ex_eq, ex_int, ex_two, startD, List.map_cons, List.map_nil, List.length_cons, List.length_nil, List.replicate, List.cons_append, List.nil_append, List.getElem?_cons_zero, List.getElem?_cons_succ, List.set_cons_zero, List.set_cons_succ, wipeD, asg_nm, asg_tp, asgs_nil, asgs_cons, Option.bind_some, tru_bl, tru_int, tru_tup, cmpF, cmpD, lt_int, eq_int, eq_str, eq_bl, Option.map_some, sub_int, add_int, add_tup, fdiv_int, mod_int, pow_int, shl_int, shr_int, band_int, mul_int, int_bl, dm_int, max_int, min_int, len_tup, len_fl, Nat.reduceAdd, Nat.reduceSub, if_true, Bool.not_true, Bool.not_false, Bool.false_eq_true, if_false, tupF, allF, anyF, lenQF, Nat.zero_add, Nat.sub_self, wApp, wExt, iZip, ix_w0, ix_w1, ix_s0, ix_s1, ix_p0, ix_p1, ix_p2, ix_b0, ix_b1, ix_b2, ix_wr0, ix_wr1, ix_wr2, ix_lk0, ix_lk1, ix_lk2, ix_lk3, asg_w, asg_s, asg_p, asg_b, asg_wr, asg_lk, len_h, len_b, len_map, src_h, src_b, src_t, srcD_t, sl_h, sl_b, ix20, ix21, sl_tup, in_ints, decide_true, decide_false, List.length_map, neg_int, isi_ib, isi_ii, isi_it, isi_bb, isi_bi, isi_tt, isi_tb, isi_ti, isi_ss, isi_nb, isi_ni, isi_nt, isi_ob, isi_wt, isi_sdt])
def firstP (t : Tp) : Sd := ⟨[0, 0], (t.kinds ++ t.kinds).map Bx.start⟩
theorem rep2 {l : List D} : repD 2 l = l ++ l := by
  show (List.replicate 2 l).flatten = _
  simp [List.replicate_succ]
theorem mul_kinds {S : Sto} {Q : D → Sto → Prop} {t : Tp} (ot : t.ok) : mulF (bxs t.kinds) (.int 2) S Q ↔ Q (.tup ((t.kinds ++ t.kinds).map Bx.d)) S := by
  have b1 := ot.b1
  have b2 := ot.b2
  unfold bxs
  rw [mul_tup, rep2, ← List.map_append]
  refine ⟨fun z => z.2.2.2.2, fun q => ⟨fun z => ?_, by decide, by decide, by rw [List.length_map]; omega, q⟩⟩
  have := congrArg List.length z
  simp at this
  rw [this] at b1
  simp at b1
theorem firstP_ok {t : Tp} (ot : t.ok) : PrOk t (firstP t) := by
  refine ⟨rfl, by simp [firstP]; omega, fun h k => ?_, fun i b x h1 h2 => ?_⟩
  · have : spO (firstP t) h = 0 := by rcases k with rfl | rfl <;> rfl
    rw [this]
    exact ⟨by omega, by omega, by decide, fun z => absurd z (by decide)⟩
  · have h2 : ((t.kinds ++ t.kinds).map Bx.start)[i]? = some x := h2
    rw [List.getElem?_map, h1] at h2
    cases h2
    have : b ∈ t.kinds := by
      rcases List.mem_append.mp (List.mem_of_getElem? h1) with z | z <;> exact z
    have := ot.bok b this
    exact ⟨this.t0, this.t1⟩
def sp_first_pair : Spec := xR (fun ds S => ∃ d, ds = [d] ∧ knd S d = true) (fun ds _ o => flT (arg ds 0) o) fun ds _ r => ∀ t : Tp, ds = [t.d] → r = (firstP t).d
def t_first_pair : WS :=
  sSeq
  (sExpr (wCall sp_check_template (wCons (wVar 0) (wNil)))) <|
  sSeq (sRet (wTup (wCons (wTup (wCons (wC (.int 0)) (wCons (wC (.int 0)) (wNil)))) (wCons (wQf tupF (qLst (wLc (iOf (wBin mulF (wBin ixF (wVar 0) (wC (.int 0))) (wC (.int 2)))) (.nm 1) [1] (wYes) (wBin ixF (wVar 1) (wC (.int 2)))))) (wNil))))) sNx
theorem call_first_pair {S : Sto} {Q : D → Sto → Prop} {E : QX} {t : Tp} (ot : t.ok) : callS sp_first_pair [t.d] S Q E ↔ Q (firstP t).d S := callS_xR ⟨t.d, rfl, knd_tp t⟩ (flT_ok ot) (fun w' e => by
  simp only [List.cons.injEq, and_true] at e
  rw [Tp.injD e]) fun _ z => z t rfl
theorem ok_first_pair : BodyOk ["template", "box"] 1 sp_first_pair t_first_pair := by
  refine ok_xR ?_
  rintro _ S ⟨d, rfl, hk⟩ Nx hr0 _ hc
  by_cases hw : isTpl d
  case neg =>
    dsimp! [t_first_pair, callx_check_template hk hw]
    exact hc _ ((flT_no hw _).mpr rfl) _ _ Sub.refl
  obtain ⟨t, rfl, ot⟩ := hw
  have hr : Nx.rt (firstP t).d S := hr0 ((flT_ok ot _).mpr rfl) _ (fun w' e => by
    simp only [List.cons.injEq, and_true] at e
    rw [Tp.injD e]) S Sub.refl
  dsimp! [t_first_pair, call_check_template ot, ix_t0, mul_kinds ot]
  refine lc_map chk_nil Bx.d (fun _ => true) (fun b => .int b.start) (fun b _ => ⟨_, rfl, fun Q E q => q, fun _ Q E q => ?_⟩) ?_
  · dsimp! [ix_b2]; exact q
  · rw [filtM]
    simp only [List.nil_append]
    unfold firstP Sd.d at hr
    rw [List.map_map] at hr
    exact hr
def sp_is_pair_spot : Spec := sp3 (fun (t : Tp) (h x : Int) _ => t.ok ∧ two01 h ∧ PSpot t h x) fun _ _ _ _ => .bl true
def t_is_pair_spot : WS :=
  sSeq
  (sAsg (wVar 0) (.tp [.nm 3, .tp [.nm 4, .nm 5, .nm 6]])) <|
  sSeq
  (sIf (wOrT (wNotT (wTru (wCall sp_is_whole (wCons (wVar 2) (wNil))))) (wOrT (wNotT (wChT .LtE .LtE (wC (.int 0)) (wVar 2) (wBin addF (wBin mulF (wC (.int 2)) (wFn lenF (wCons (wVar 6) wNil))) (wC (.int 1))))) (wCmpT .Eq (wVar 2) (wC (.int 1))))) (sSeq (sRet (wC (.bl false))) sNx) (sNx)) <|
  sSeq
  (sIf (wCmpT .Eq (wBin modF (wVar 2) (wC (.int 2))) (wC (.int 0))) (sSeq (sRet (wC (.bl true))) sNx) (sNx)) <|
  sSeq
  (sAsg (wBin ixF (wVar 6) (wBin subF (wBin fdivF (wVar 2) (wC (.int 2))) (wC (.int 1)))) (.nm 7)) <|
  sSeq
  (sIf (wCmpT .Eq (wBin ixF (wVar 7) (wC (.int 0))) (wC (.str "write"))) (sSeq (sRet (wBin (cmpF .NotEq) (wBin ixF (wBin ixF (wVar 3) (wBin ixF (wVar 7) (wC (.int 1)))) (wC (.int 0))) (wC (.str "whole")))) sNx) (sNx)) <|
  sSeq (sRet (wCall sp_has_other (wCons (wVar 1) (wCons (wVar 7) (wNil))))) sNx
theorem call_pair_spot {S : Sto} {Q : D → Sto → Prop} {E : QX} {t : Tp} {h x : Int} (ot : t.ok) (k : two01 h) (p : PSpot t h x) : callS sp_is_pair_spot [t.d, .int h, .int x] S Q E ↔ Q (.bl true) S := call3 (α := Tp) (β := Int) (γ := Int) t h x ⟨ot, k, p⟩
theorem ok_is_pair_spot : BodyOk ["template", "hand", "thing", "kinds", "door", "within", "rows", "row"] 3 sp_is_pair_spot t_is_pair_spot := by
  refine ok3 ?_
  rintro t h x S ⟨ot, k, x0, x1, x2, x3⟩ Nx hr _
  have hr := hr S Sub.refl
  have n8 := ot.n8
  have hk : kn S (.int x) = true := rfl
  dsimp! [t_is_pair_spot, Enc.e, asg_t, asg_tp3, call_whole hk, isWh]
  have e0 : decide (0 ≤ x) = true := decide_eq_true x0
  have e1 : decide (x ≤ 2 * (t.rows.length : Int) + 1) = true := decide_eq_true x1
  have e2 : decide (x = 1) = false := decide_eq_false x2
  dsimp! [e0]
  refine fun _ => ⟨mul_two, ?_⟩
  dsimp! [e1, e2]
  refine ⟨by decide, ?_⟩
  by_cases c : x % 2 = 0
  · dsimp! [c]
    exact hr
  · dsimp! [c]
    refine ⟨⟨by decide, by decide +kernel⟩, ?_⟩
    obtain ⟨r, er, hod⟩ := x3 (by omega)
    have ir : ∀ S Q, ixF (.tup (t.rows.map TRw.d)) (.int (x / 2 - 1)) S Q ↔ Q r.d S := fun S Q => ix_map (by omega) er
    have ro := trowsOk_get ot.rows er
    dsimp! [ir]
    cases r with
    | wr b v =>
      obtain ⟨b0, b1, _, _⟩ := ro
      obtain ⟨bx, eb, mb⟩ := getE (l := t.kinds) (i := b.toNat) (by omega)
      have ib : ∀ S Q, ixF (bxs t.kinds) (.int b) S Q ↔ Q bx.d S := fun S Q => ix_map b0 eb
      have k3 : kindP t b = bx.kind := by unfold kindP; rw [eb]; rfl
      have hod : (!(kindP t b == ("whole" : Str))) = true := hod
      rw [k3] at hod
      have e3 : (("write" : Str) == "write") = true := rfl
      dsimp! [ix_r0, ix_r1, e3, ib, ix_b0]
      rw [hod]
      exact hr
    | lk w b ns tt =>
      have e3 : (("look" : Str) == "write") = false := rfl
      have hod : hasO h (.lk w b ns tt) = true := hod
      dsimp! [ix_l0, e3, call_has_other k]
      rw [hod]
      exact hr
theorem allP_yes {bs : List Bx} : ∀ {ys : List Int}, ys.length = bs.length → (∀ (i : Nat) (b : Bx) (x : Int), bs[i]? = some b → ys[i]? = some x → 0 ≤ x ∧ x < b.size) → allP vB bs (ys.map .int) = true := by
  induction bs with
  | nil => intro ys hl _; cases ys with
    | nil => rfl
    | cons _ _ => cases hl
  | cons b bs ih => intro ys hl h; cases ys with
    | nil => cases hl
    | cons y ys =>
      have h0 := h 0 b y rfl rfl
      have := ih (ys := ys) (by simpa using hl) fun i c x h1 h2 => h (i + 1) c x h1 h2
      simp only [List.map_cons, allP, this, vB, Bool.and_true]
      simpa using h0
def sp_is_pair : Spec := sp2 (fun (t : Tp) (s : Sd) _ => t.ok ∧ PrOk t s) fun _ _ _ => .bl true
def t_is_pair : WS :=
  sSeq
  (sAsg (wBin ixF (wVar 0) (wC (.int 0))) (.nm 2)) <|
  sSeq
  (sIf (wOrT (wNotT (wTru (wIsi (wVar 1) .tuple))) (wOrT (wCmpT .NotEq (wFn lenF (wCons (wVar 1) wNil)) (wC (.int 2))) (wNotT (wTru (wQf allF (qLst (wLc (iOf (wVar 1)) (.nm 5) [5] (wYes) (wIsi (wVar 5) .tuple)))))))) (sSeq (sRet (wC (.bl false))) sNx) (sNx)) <|
  sSeq
  (sAsg (wVar 1) (.tp [.nm 3, .nm 4])) <|
  sSeq
  (sIf (wOrT (wCmpT .NotEq (wFn lenF (wCons (wVar 3) wNil)) (wC (.int 2))) (wCmpT .NotEq (wFn lenF (wCons (wVar 4) wNil)) (wBin mulF (wC (.int 2)) (wFn lenF (wCons (wVar 2) wNil))))) (sSeq (sRet (wC (.bl false))) sNx) (sNx)) <|
  sSeq
  (sIf (wNotT (wTru (wQf allF (qLst (wLc (iR1 (wC (.int 2))) (.nm 6) [6] (wYes) (wCall sp_is_pair_spot (wCons (wVar 0) (wCons (wVar 6) (wCons (wBin ixF (wVar 3) (wVar 6)) (wNil)))))))))) (sSeq (sRet (wC (.bl false))) sNx) (sNx)) <|
  sSeq (sRet (wQf allF (qLst (wLc (iZip (wBin mulF (wVar 2) (wC (.int 2))) (wVar 4)) (.tp [.nm 7, .nm 8]) [7, 8] (wYes) (wAndV (wCall sp_is_whole (wCons (wVar 8) (wNil))) (wChV .LtE .Lt (wC (.int 0)) (wVar 8) (wBin ixF (wVar 7) (wC (.int 1))))))))) sNx
theorem call_is_pair {S : Sto} {Q : D → Sto → Prop} {E : QX} {t : Tp} {s : Sd} (ot : t.ok) (o : PrOk t s) : callS sp_is_pair [t.d, s.d] S Q E ↔ Q (.bl true) S := call2 (α := Tp) (β := Sd) t s ⟨ot, o⟩
theorem ok_is_pair : BodyOk ["template", "thing", "kinds", "spots", "values", "part", "hand", "box", "value"] 2 sp_is_pair t_is_pair := by
  refine ok2 ?_
  rintro t s S ⟨ot, o⟩ Nx hr _
  have hr := hr S Sub.refl
  have n := o.n
  have m := o.m
  have b2 := ot.b2
  dsimp! [t_is_pair, Enc.e, ix_t0, Sd.d]
  have d0 : decide (((2 : Nat) : Int) = 2) = true := rfl
  have d1 : decide ((s.spots.length : Int) = 2) = true := decide_eq_true (by omega)
  have d2 : decide ((s.vals.length : Int) = 2 * (t.kinds.length : Int)) = true := decide_eq_true (by omega)
  intro _
  dsimp! [d0]
  refine lc_pure chk_nil (fun _ => true) (fun _ => .bl true) (fun d hd => ?_) ?_
  · have : ∃ l, d = .tup l := by
      simp only [List.mem_cons, List.not_mem_nil, or_false] at hd
      rcases hd with rfl | rfl <;> exact ⟨_, rfl⟩
    obtain ⟨l, rfl⟩ := this
    refine ⟨_, rfl, fun Q E q => q, fun _ Q E q => ?_⟩
    dsimp! []
    exact q
  refine ⟨trivial, rfl, ?_⟩
  have y1 : (([] ++ (([D.tup (s.spots.map .int), .tup (s.vals.map .int)].filter fun _ => true).map fun _ => D.bl true)).all isYes) = true := rfl
  dsimp! [y1, d1]
  intro _ _ _
  refine ⟨mul_two, ?_⟩
  dsimp! [d2]
  refine ⟨rg_ok (by unfold sizeLine; omega) (by omega), ?_⟩
  refine lc_pure chk_nil (fun _ => true) (fun _ => .bl true) (fun d hd => ?_) ?_
  · obtain ⟨j, rfl, hj⟩ := rng_mem hd
    have kj : two01 (0 + (j : Int)) := by unfold two01; omega
    refine ⟨_, rfl, fun Q E q => q, fun _ Q E q => ?_⟩
    dsimp! [o.ix kj, call_pair_spot ot kj (o.sp _ kj)]
    exact q
  refine ⟨trivial, rfl, ?_⟩
  have y2 : (([] ++ (((rngD 0 2).filter fun _ => true).map fun _ => D.bl true)).all isYes) = true := rfl
  dsimp! [y2, mul_kinds ot]
  refine ⟨_, _, .inl ⟨rfl, rfl, ?_⟩⟩
  refine lc_zip chk_nil Bx.d vB (by simp; omega) (fun bx d hb hd Q E q => ?_) fun l h1 h2 => ?_
  · obtain ⟨i, _, rfl⟩ := List.mem_map.mp hd
    have kd : kn S (.int i) = true := rfl
    simp only [vB] at q
    dsimp! [call_whole kd, isWh]
    cases c0 : decide (0 ≤ i) with
    | true => rw [c0] at q; dsimp! []; exact q
    | false => rw [c0] at q; dsimp! []; exact q
  · refine ⟨trivial, h1, ?_⟩
    rw [h2, allP_yes (by rw [List.length_append]; omega) o.va]
    exact hr
def sp_pair_steps : Spec := sp2 (fun (t : Tp) (s : Sd) _ => t.ok ∧ PrOk t s) fun t s _ => .tup ((pmoves t s).map psd)
def t_pair_steps : WS :=
  sSeq
  (sExpr (wCall sp_check_template (wCons (wVar 0) (wNil)))) <|
  sSeq
  (sIf (wNotT (wTru (wCall sp_is_pair (wCons (wVar 0) (wCons (wVar 1) (wNil)))))) (sSeq (sRaise "NoPair") sNx) (sNx)) <|
  sSeq (sRet (wCall sp_moves_of (wCons (wVar 0) (wCons (wVar 1) (wNil))))) sNx
theorem call_pair_steps {S : Sto} {Q : D → Sto → Prop} {E : QX} {t : Tp} {s : Sd} (ot : t.ok) (o : PrOk t s) : callS sp_pair_steps [t.d, s.d] S Q E ↔ Q (.tup ((pmoves t s).map psd)) S := call2 (α := Tp) (β := Sd) t s ⟨ot, o⟩
theorem ok_pair_steps : BodyOk ["template", "pair"] 2 sp_pair_steps t_pair_steps := by
  refine ok2 ?_
  rintro t s S ⟨ot, o⟩ Nx hr _
  dsimp! [t_pair_steps, Enc.e, call_check_template ot, call_is_pair ot o, call_moves_of ot o]
  exact hr S Sub.refl
end Ow

namespace Ow
open PySem PySem.Spec PyProof.Rows L2
local macro_rules | `(tactic| dsimp! [$ts,*]) => `(tactic| try simp only [$ts,*, sSeq, sRet, sRetN, sIf, sAsg, sExpr, sNx, sBk, sCt, sNever, sRaise, sRaiseF, sFor, sSub, wAndV, wOrV, wNotV, wAndT, wOrT, wNotT, wTru, wCmpT, wChT, wChV, wBin, wUn, wVar, wC, wCons, wNil, wTup, wIfE, wIsi, wFn, wQf, qLst, qOf, wCall, wCall0, wLc, wYes, iOf, iR1, iR2, iEn, iHid, wNew, wLst, wSl, wNoP, wP, ex_ss, ex_some, ex_eq, ex_int, ex_two, startD, List.map_cons, List.map_nil, List.length_cons, List.length_nil, List.replicate, List.cons_append, List.nil_append, List.getElem?_cons_zero, List.getElem?_cons_succ, List.set_cons_zero, List.set_cons_succ, wipeD, asg_nm, asg_tp, asgs_nil, asgs_cons, Option.bind_some, tru_bl, tru_int, tru_tup, cmpF, cmpD, lt_int, eq_int, eq_str, eq_bl, Option.map_some, sub_int, add_int, add_tup, fdiv_int, mod_int, pow_int, shl_int, shr_int, band_int, mul_int, int_bl, dm_int, max_int, min_int, len_tup, len_fl, Nat.reduceAdd, Nat.reduceSub, if_true, Bool.not_true, Bool.not_false, Bool.false_eq_true, if_false, tupF, allF, anyF, lenQF, Nat.zero_add, Nat.sub_self, wApp, wExt, iZip, ix_w0, ix_w1, ix_s0, ix_s1, ix_p0, ix_p1, ix_p2, ix_b0, ix_b1, ix_b2, ix_wr0, ix_wr1, ix_wr2, ix_lk0, ix_lk1, ix_lk2, ix_lk3, asg_w, asg_s, asg_p, asg_b, asg_wr, asg_lk, len_h, len_b, len_map, src_h, src_b, src_t, srcD_t, sl_h, sl_b, ix20, ix21, sl_tup, in_ints, decide_true, decide_false, List.length_map, neg_int, isi_ib, isi_ii, isi_it, isi_bb, isi_bi, isi_tt, isi_tb, isi_ti, isi_ss, isi_nb, isi_ni, isi_nt, isi_ob, isi_wt, isi_sdt])
local macro_rules | `(tactic| dsimp! []) => `(tactic| try simp only [sSeq, sRet, sRetN, sIf, sAsg, sExpr, sNx, sBk, sCt, sNever, sRaise, sRaiseF, sFor, sSub, wAndV, wOrV, wNotV, wAndT, wOrT, wNotT, wTru, wCmpT, wChT, wChV, wBin, wUn, wVar, wC, wCons, wNil, wTup, wIfE, wIsi, wFn, wQf, qLst, qOf, wCall, wCall0, wLc, wYes, iOf, iR1, iR2, iEn, iHid, wNew, wLst, wSl, wNoP, wP, ex_ss, ex_some, ex_eq, ex_int, ex_two, startD, List.map_cons, List.map_nil, List.length_cons, List.length_nil, List.replicate, List.cons_append, List.nil_append, List.getElem?_cons_zero, List.getElem?_cons_succ, List.set_cons_zero, List.set_cons_succ, wipeD, asg_nm, asg_tp, asgs_nil, asgs_cons, Option.bind_some, tru_bl, tru_int, tru_tup, cmpF, cmpD, lt_int, eq_int, eq_str, eq_bl, Option.map_some, sub_int, add_int, add_tup, fdiv_int, mod_int, pow_int, shl_int, shr_int, band_int, mul_int, int_bl, dm_int, max_int, min_int, len_tup, len_fl, Nat.reduceAdd, Nat.reduceSub, if_true, Bool.not_true, Bool.not_false, Bool.false_eq_true, if_false, tupF, allF, anyF, lenQF, Nat.zero_add, Nat.sub_self, wApp, wExt, iZip, ix_w0, ix_w1, ix_s0, ix_s1, ix_p0, ix_p1, ix_p2, ix_b0, ix_b1, ix_b2, ix_wr0, ix_wr1, ix_wr2, ix_lk0, ix_lk1, ix_lk2, ix_lk3, asg_w, asg_s, asg_p, asg_b, asg_wr, asg_lk, len_h, len_b, len_map, src_h, src_b, src_t, srcD_t, sl_h, sl_b, ix20, ix21, sl_tup, in_ints, decide_true, decide_false, List.length_map, neg_int, isi_ib, isi_ii, isi_it, isi_bb, isi_bi, isi_tt, isi_tb, isi_ti, isi_ss, isi_nb, isi_ni, isi_nt, isi_ob, isi_wt, isi_sdt])
def sp_law_pair_hand : Spec := nw3 (fun (t : Tp) (s : Sd) (h : Int) => PrHd t s h) fun t s h => (hmv t s h).map psd
def t_law_pair_hand : WS :=
  sSeq
  (sAsg (wVar 0) (.tp [.nm 3, .nm 4])) <|
  sSeq
  (sAsg (wBin ixF (wVar 4) (wC (.int 2))) (.nm 5)) <|
  sSeq
  (sAsg (wVar 1) (.tp [.nm 6, .nm 7])) <|
  sSeq
  (sAsg (wBin ixF (wVar 6) (wVar 2)) (.nm 8)) <|
  sSeq
  (sIf (wCmpT .Eq (wVar 8) (wC (.int 0))) (sSeq (sRet (wLst (wCons (wTup (wCons (wTup (wCons (wVar 2) (wCons (wC .non) (wNil)))) (wCons (wTup (wCons (wCall sp_law_put (wCons (wVar 6) (wCons (wVar 2) (wCons (wC (.int 2)) (wNil))))) (wCons (wVar 7) (wNil)))) (wNil)))) (wNil)))) sNx) (sNx)) <|
  sSeq
  (sAsg (wBin ixF (wVar 5) (wBin subF (wBin fdivF (wVar 8) (wC (.int 2))) (wC (.int 1)))) (.nm 9)) <|
  sSeq
  (sAsg (wCall sp_law_put (wCons (wVar 6) (wCons (wVar 2) (wCons (wBin mulF (wC (.int 2)) (wBin modF (wBin addF (wBin fdivF (wVar 8) (wC (.int 2))) (wC (.int 1))) (wBin addF (wFn lenF (wCons (wVar 5) wNil)) (wC (.int 1))))) (wNil))))) (.nm 10)) <|
  sSeq
  (sIf (wCmpT .Eq (wBin ixF (wVar 9) (wC (.int 0))) (wC (.str "write"))) (sSeq
   (sIf (wAndT (wCmpT .NotEq (wBin ixF (wBin ixF (wVar 3) (wBin ixF (wVar 9) (wC (.int 1)))) (wC (.int 0))) (wC (.str "whole"))) (wCmpT .Eq (wBin modF (wVar 8) (wC (.int 2))) (wC (.int 0)))) (sSeq (sRet (wLst (wCons (wTup (wCons (wTup (wCons (wVar 2) (wCons (wC .non) (wNil)))) (wCons (wTup (wCons (wCall sp_law_put (wCons (wVar 6) (wCons (wVar 2) (wCons (wBin addF (wVar 8) (wC (.int 1))) (wNil))))) (wCons (wVar 7) (wNil)))) (wNil)))) (wNil)))) sNx) (sNx)) <|
   sSeq (sRet (wLst (wCons (wTup (wCons (wTup (wCons (wVar 2) (wCons (wC .non) (wNil)))) (wCons (wTup (wCons (wVar 10) (wCons (wCall sp_law_put (wCons (wVar 7) (wCons (wBin addF (wBin mulF (wVar 2) (wFn lenF (wCons (wVar 3) wNil))) (wBin ixF (wVar 9) (wC (.int 1)))) (wCons (wBin ixF (wVar 9) (wC (.int 2))) (wNil))))) (wNil)))) (wNil)))) (wNil)))) sNx) (sNx)) <|
  sSeq
  (sAsg (wTup (wCons (wCall sp_law_put (wCons (wVar 6) (wCons (wVar 2) (wCons (wBin mulF (wC (.int 2)) (wBin ixF (wVar 9) (wC (.int 4)))) (wNil))))) (wCons (wVar 7) (wNil)))) (.nm 11)) <|
  sSeq
  (sIf (wOrT (wCmpT .Eq (wBin modF (wVar 8) (wC (.int 2))) (wC (.int 1))) (wNotT (wTru (wCall sp_law_has (wCons (wVar 2) (wCons (wVar 9) (wNil))))))) (sSeq (sRet (wLst (wCons (wTup (wCons (wTup (wCons (wVar 2) (wCons (wC (.str "on")) (wNil)))) (wCons (wTup (wCons (wVar 10) (wCons (wVar 7) (wNil)))) (wNil)))) (wCons (wTup (wCons (wTup (wCons (wVar 2) (wCons (wC (.str "back")) (wNil)))) (wCons (wVar 11) (wNil)))) (wNil))))) sNx) (sNx)) <|
  sSeq
  (sAsg (wLst (wNil)) (.nm 12)) <|
  sSeq
  (sFor (iOf (wCall sp_law_heard (wCons (wVar 0) (wCons (wVar 1) (wCons (wVar 2) (wCons (wBin ixF (wVar 9) (wC (.int 2))) (wNil))))))) (.nm 13) (sSeq (sExpr (wApp (wVar 12) (wTup (wCons (wTup (wCons (wVar 2) (wCons (wVar 13) (wNil)))) (wCons (wBin ixF (wLst (wCons (wVar 11) (wCons (wTup (wCons (wCall sp_law_put (wCons (wVar 6) (wCons (wVar 2) (wCons (wBin addF (wVar 8) (wC (.int 1))) (wNil))))) (wCons (wVar 7) (wNil)))) (wNil)))) (wFn intF (wCons (wBin (cmpF .In) (wVar 13) (wBin ixF (wVar 9) (wC (.int 3)))) wNil))) (wNil)))))) sNx)) <|
  sSeq (sRet (wBin addF (wVar 12) (wLst (wCons (wTup (wCons (wTup (wCons (wVar 2) (wCons (wC (.str "back")) (wNil)))) (wCons (wVar 11) (wNil)))) (wNil))))) sNx
theorem call_pair_hand {S : Sto} {Q : D → Sto → Prop} {E : QX} {t : Tp} {s : Sd} {h : Int} (H : PrHd t s h) (q : newL ((hmv t s h).map psd) S Q) : callS sp_law_pair_hand [t.d, s.d, .int h] S Q E := callN3 (α := Tp) (β := Sd) (γ := Int) t s h H q
theorem sbh_mod {t : Tp} {pl : Int} (h0 : 0 ≤ pl) (h1 : pl ≤ t.rows.length) : 2 * ((pl + 1) % ((t.rows.length : Int) + 1)) = sbh t pl := by
  unfold sbh
  by_cases c : pl = t.rows.length
  · rw [if_pos c, c, Int.emod_self]
    rfl
  · rw [if_neg c, Int.emod_eq_of_lt (by omega) (by omega)]
theorem ok_law_pair_hand : BodyOk ["_law_template_here", "_law_pair", "_law_hand", "_law_kinds", "_law_program", "_law_rows", "_law_spots", "_law_values", "_law_spot_here", "_law_row", "_law_onward", "_law_back", "_law_found", "_law_told"] 3 sp_law_pair_hand t_law_pair_hand := by
  refine okN3 ?_
  rintro t s h S H Nx hr
  have H' := H
  obtain ⟨ot, o, k⟩ := H
  have n := o.n
  have m := o.m
  have b2 := ot.b2
  have n8 := ot.n8
  have kr := k.r
  have mv : ∀ S Q E x, callS sp_law_put [.tup (s.spots.map .int), .int h, .int x] S Q E ↔ Q (.tup ((s.spots.set h.toNat x).map .int)) S := fun S Q E x => put_ints2 kr.1 (by omega) (by omega)
  dsimp! [t_law_pair_hand, Enc.e, asg_t, ix_tp2, asg_s, o.ix k]
  by_cases c : spO s h = 0
  · have e : hmv t s h = [(⟨h, .non⟩, pset s h 2)] := by unfold hmv; rw [if_pos c]
    rw [e] at hr
    dsimp! [c, mv]
    intro p hp
    exact hr p _ hp Sub.refl
  · obtain ⟨r, er, _⟩ := rowP_in (o.sp h k) c
    obtain ⟨p1, p2, p3, _⟩ := o.sp h k
    have ir : ∀ S Q, ixF (.tup (t.rows.map TRw.d)) (.int (spO s h / 2 - 1)) S Q ↔ Q r.d S := fun S Q => ix_map (by omega) er
    have sm := sbh_mod (t := t) (pl := spO s h / 2) (by omega) (by omega)
    have ro := trowsOk_get ot.rows er
    dsimp! [c]
    refine ⟨⟨by decide, by decide +kernel⟩, ?_⟩
    dsimp! [ir]
    refine ⟨⟨by decide, by decide +kernel⟩, fun _ => ?_⟩
    dsimp! []
    refine ⟨by omega, mul_two, ?_⟩
    rw [sm]
    dsimp! [mv]
    cases r with
    | wr b v =>
      obtain ⟨b0, b1, _, _⟩ := ro
      obtain ⟨bx, eb, mb⟩ := getE (l := t.kinds) (i := b.toNat) (by omega)
      have ib : ∀ S Q, ixF (bxs t.kinds) (.int b) S Q ↔ Q bx.d S := fun S Q => ix_map b0 eb
      have k3 : kindP t b = bx.kind := by unfold kindP; rw [eb]; rfl
      have bl := box_lt (t := t) k b0 b1
      have e : hmv t s h = if kindP t b ≠ "whole" ∧ spO s h % 2 = 0 then [(⟨h, .non⟩, pset s h (spO s h + 1))] else [(⟨h, .non⟩, ⟨s.spots.set h.toNat (sbh t (spO s h / 2)), s.vals.set (h * t.kinds.length + b).toNat v⟩)] := by
        unfold hmv; rw [if_neg c, er]
      rw [e, k3] at hr
      have e1 : (("write" : Str) == "write") = true := rfl
      have mw : ∀ S Q E, callS sp_law_put [.tup (s.vals.map .int), .int (h * t.kinds.length + b), .int v] S Q E ↔ Q (.tup ((s.vals.set (h * t.kinds.length + b).toNat v).map .int)) S := fun S Q E => put_ints2 bl.1 (by omega) (by omega)
      dsimp! [ix_r0, ix_r1, ix_r2, e1, ib, ix_b0]
      by_cases c1 : bx.kind = "whole"
      · have e2 : (bx.kind == ("whole" : Str)) = true := by rw [c1]; rfl
        rw [if_neg (fun z => z.1 c1)] at hr
        dsimp! [e2]
        refine fun _ => ⟨mul_small kr.1 (by omega), ?_⟩
        dsimp! [mw]
        intro p hp
        exact hr p _ hp Sub.refl
      · have e2 : (bx.kind == ("whole" : Str)) = false := by simpa using c1
        dsimp! [e2]
        refine ⟨by decide, ?_⟩
        by_cases c2 : spO s h % 2 = 0
        · rw [if_pos ⟨c1, c2⟩] at hr
          dsimp! [c2, mv]
          intro p hp
          exact hr p _ hp Sub.refl
        · rw [if_neg (fun z => c2 z.2)] at hr
          dsimp! [c2]
          refine fun _ => ⟨mul_small kr.1 (by omega), ?_⟩
          dsimp! [mw]
          intro p hp
          exact hr p _ hp Sub.refl
    | lk w b ns tt =>
      have ht := H'.tell er
      have tl := tell_len ht
      have e : hmv t s h = lkm t s h w b ns tt ++ [(⟨h, .back⟩, pset s h (2 * tt))] := by unfold hmv; rw [if_neg c, er]
      rw [e] at hr
      unfold lkm at hr
      have e1 : (("look" : Str) == "write") = false := rfl
      dsimp! [ix_l0, ix_l4, e1]
      refine ⟨mul_two, ?_⟩
      dsimp! [mv]
      refine ⟨by decide, ?_⟩
      by_cases c2 : spO s h % 2 = 1
      · rw [if_neg (by rintro ⟨z, _⟩; omega)] at hr
        dsimp! [c2]
        intro p hp
        exact hr p _ hp Sub.refl
      · have c3 : spO s h % 2 = 0 := by omega
        dsimp! [c2, call_law_has k, hasO]
        cases hw : hasW h w with
        | false =>
          rw [if_neg (by rintro ⟨_, z⟩; rw [hw] at z; cases z)] at hr
          dsimp! []
          intro p hp
          exact hr p _ hp Sub.refl
        | true =>
          rw [if_pos ⟨c3, hw⟩] at hr
          dsimp! []
          intro fp hfp
          dsimp! [ix_l2]
          refine call_heard ht fun q hq => ?_
          obtain ⟨qp, hq'⟩ := new_ne hq
          dsimp! [src_ref put_same]
          refine for_map D.int (fun cs ρ S' => ∃ done u1, tellP t s h b = done ++ cs ∧ Sub S S' ∧ S' q = some (.lst ((tellP t s h b).map .int)) ∧ S' fp = some (.lst ((done.map fun c => ((⟨h, .num c⟩ : PStp), if c ∈ ns then pset s h (spO s h + 1) else pset s h (2 * tt))).map psd)) ∧ ρ = [some t.d, some s.d, some (.int h), some (bxs t.kinds), some t.pd, some (.tup (t.rows.map TRw.d)), some (.tup (s.spots.map .int)), some (.tup (s.vals.map .int)), some (.int (spO s h)), some (TRw.lk w b ns tt).d, some (.tup ((s.spots.set h.toNat (sbh t (spO s h / 2))).map .int)), some (pset s h (2 * tt)).d, some (.ref fp), u1]) ?_ ?_ ⟨[], none, rfl, Sub.put2 (Sub.put hfp) hq', put_same, by rw [put_ne (fun z => qp z.symm), put_same]; rfl, rfl⟩
          · rintro i cs ρ S' ⟨dn, u1, ed, hS, hl, hf, rfl⟩
            have dl : dn.length ≤ 5 := by rw [ed] at tl; simp at tl; omega
            refine ⟨chk_one.mpr hl, _, rfl, fun R hR => ?_⟩
            have fin : ∀ X S2, Sub S S2 → S2 q = some (.lst ((tellP t s h b).map .int)) → X = (if i ∈ ns then pset s h (spO s h + 1) else pset s h (2 * tt)) → R [some t.d, some s.d, some (.int h), some (bxs t.kinds), some t.pd, some (.tup (t.rows.map TRw.d)), some (.tup (s.spots.map .int)), some (.tup (s.vals.map .int)), some (.int (spO s h)), some (TRw.lk w b ns tt).d, some (.tup ((s.spots.set h.toNat (sbh t (spO s h / 2))).map .int)), some (pset s h (2 * tt)).d, some (.ref fp), some (.int i)] (put S2 fp (.lst (((dn.map fun c => ((⟨h, .num c⟩ : PStp), if c ∈ ns then pset s h (spO s h + 1) else pset s h (2 * tt))).map psd) ++ [.tup [.tup [.int h, .int i], X.d]]))) := fun X S2 h1 h2 hX => hR _ _ ⟨dn ++ [i], _, by rw [ed]; simp, Sub.put2 h1 hfp, by rw [put_ne qp]; exact h2, by rw [put_same, hX]; simp only [List.map_append]; rfl, rfl⟩
            dsimp! [wApp]
            refine ⟨fp, _, rfl, hf, ?_⟩
            dsimp! [mv]
            intro z hz
            have nz : fp ≠ z := fun e => by rw [e, hz] at hf; cases hf
            have qz : q ≠ z := fun e => by rw [e, hz] at hl; cases hl
            dsimp! [ix_l3, in_ints]
            by_cases ci : i ∈ ns
            · rw [if_pos ci] at fin
              dsimp! [ci]
              refine (ix_ref put_same rfl).mpr ?_
              refine ⟨_, by rw [put_ne nz]; exact hf, by rw [List.length_map, List.length_map]; unfold sizeLine; omega, ?_⟩
              exact fin _ _ (Sub.put2 hS (hS.none hz)) (by rw [put_ne qz]; exact hl) rfl
            · rw [if_neg ci] at fin
              dsimp! [ci]
              refine (ix_ref put_same rfl).mpr ?_
              refine ⟨_, by rw [put_ne nz]; exact hf, by rw [List.length_map, List.length_map]; unfold sizeLine; omega, ?_⟩
              exact fin _ _ (Sub.put2 hS (hS.none hz)) (by rw [put_ne qz]; exact hl) rfl
          · rintro ρ S' ⟨dn, u1, ed, hS, hl, hf, rfl⟩
            refine ⟨chk_one.mpr hl, ?_⟩
            rw [List.append_nil] at ed
            dsimp! []
            refine add_new hf (by rw [List.length_map, List.length_map, ← ed]; simp only [List.length_cons, List.length_nil]; unfold sizeLine; omega) fun p3 S3 h3 hS3 hp3 => ?_
            refine hr p3 S3 (hS.none hp3) (sub_at (hS.trans hS3) ?_)
            rw [h3, List.map_append, ed]
            rfl
def sp_law_pair_next : Spec := nw2 (fun (t : Tp) (s : Sd) => t.ok ∧ PrOk t s) fun t s => (pmoves t s).map psd
def t_law_pair_next : WS :=
  sSeq (sRet (wBin addF (wCall sp_law_pair_hand (wCons (wVar 0) (wCons (wVar 1) (wCons (wC (.int 0)) (wNil))))) (wCall sp_law_pair_hand (wCons (wVar 0) (wCons (wVar 1) (wCons (wC (.int 1)) (wNil))))))) sNx
theorem call_pair_next {S : Sto} {Q : D → Sto → Prop} {E : QX} {t : Tp} {s : Sd} (ot : t.ok) (o : PrOk t s) (q : newL ((pmoves t s).map psd) S Q) : callS sp_law_pair_next [t.d, s.d] S Q E := callN2 (α := Tp) (β := Sd) t s ⟨ot, o⟩ q
theorem ok_law_pair_next : BodyOk ["_law_template_here", "_law_pair"] 2 sp_law_pair_next t_law_pair_next := by
  refine okN2 ?_
  rintro t s S ⟨ot, o⟩ Nx hr
  have H0 : PrHd t s 0 := ⟨ot, o, .inl rfl⟩
  have H1 : PrHd t s 1 := ⟨ot, o, .inr rfl⟩
  have l0 := hmv_len H0
  have l1 := hmv_len H1
  dsimp! [t_law_pair_next, Enc.e]
  refine call_pair_hand H0 fun p hp => ?_
  refine call_pair_hand H1 fun q hq => ?_
  obtain ⟨qp, hq'⟩ := new_ne hq
  refine add_rr (by rw [put_ne (fun z => qp z.symm), put_same]) put_same (by rw [List.length_map, List.length_map]; unfold sizeLine; omega) fun r hrr => ?_
  have hS := Sub.put2 (Sub.put (o := .lst ((hmv t s 0).map psd)) hp) hq' (o := .lst ((hmv t s 1).map psd))
  refine hr r _ (hS.none hrr) (sub_at (Sub.put2 hS (hS.none hrr)) ?_)
  rw [put_same]
  unfold pmoves
  rw [List.map_append]
end Ow

namespace Ow
open PySem PySem.Spec PyProof.Rows L2
theorem At.two {S0 S S' : Sto} {a : Addr} (h : At S0 a S) (h' : At S a S') : At S0 a S' := by
  obtain ⟨m, hm⟩ := h'
  obtain ⟨k, hk⟩ := h
  refine ⟨m, fun b o e => hm b o ?_⟩
  unfold put at e ⊢
  split at e
  · next z => rw [if_pos z]; exact e
  · next z => rw [if_neg z]; exact hk b o (by rw [put_ne z]; exact e)
theorem At.mo {S0 S S' : Sto} {a : Addr} (h : At S0 a S) (hs : Sub S S') : At S0 a S' := ⟨h.choose, h.choose_spec.trans hs⟩
/-- things that are known -/
def Kl (S : Sto) (p : Addr) (n : Nat) : Prop := ∃ l, S p = some (.lst l) ∧ l.length = n ∧ knds S l = true
theorem Kl.new {S : Sto} {p : Addr} {l : List D} (h : S p = none) (hk : knds S l = true) : Kl (put S p (.lst l)) p l.length := ⟨l, put_same, rfl, knds_mo (Sub.put h) hk⟩
theorem Kl.sub {S S' : Sto} {p : Addr} {n : Nat} (h : Kl S p n) (hs : Sub S S') : Kl S' p n := by
  obtain ⟨l, h1, h2, h3⟩ := h
  exact ⟨l, hs p _ h1, h2, knds_mo hs h3⟩
end Ow

namespace Ow
open PySem PySem.Spec PyProof.Rows L2
/-- a known thing that isn't P -/
def Bd (P : D → Prop) (S : Sto) (d : D) : Prop := knd S d = true ∧ ¬ P d
theorem Bd.sub {P : D → Prop} {S S' : Sto} {d : D} (h : Bd P S d) (hs : Sub S S') : Bd P S' d := ⟨knd_mo hs h.1, h.2⟩
def Bds (P : D → Prop) (S : Sto) (p : Addr) (n : Nat) : Prop := ∃ l, S p = some (.lst l) ∧ l.length ≤ n ∧ ∀ d ∈ l, Bd P S d
section
variable {P : D → Prop} {S S' : Sto} {Q : D → Sto → Prop} {p : Addr} {n : Nat}
theorem Bds.new {l : List D} (h : S p = none) (hl : l.length ≤ n) (hb : ∀ d ∈ l, Bd P S d) : Bds P (put S p (.lst l)) p n := ⟨l, put_same, hl, fun d hd => (hb d hd).sub (Sub.put h)⟩
theorem Bds.sub (h : Bds P S p n) (hs : Sub S S') : Bds P S' p n := by
  obtain ⟨l, h1, h2, h3⟩ := h
  exact ⟨l, hs p _ h1, h2, fun d hd => (h3 d hd).sub hs⟩
end
theorem At.fresh {S0 S : Sto} {a p : Addr} (h : At S0 a S) (hp : S p = none) : S0 p = none ∧ p ≠ a := by
  have z := h.choose_spec.none hp
  unfold put at z
  split at z
  · cases z
  · next ne => exact ⟨z, ne⟩
end Ow

namespace Ow
open PySem PySem.Spec PyProof.Rows L2
structure Rch (h : Int) (p : Pg) (s0 s : Sd) : Prop where
  sl : s.spots.length = s0.spots.length
  so : ∀ i, i ≠ h.toNat → s.spots[i]? = s0.spots[i]?
  vl : s.vals.length = s0.vals.length
  vo : ∀ i, s.vals[i]? = s0.vals[i]? ∨ ∃ b v, b.toNat = i ∧ Rw.wr b v ∈ p.rows ∧ s.vals[i]? = some v
theorem Rch.refl {h : Int} {p : Pg} {s : Sd} : Rch h p s s := ⟨rfl, fun _ _ => rfl, rfl, fun _ => .inl rfl⟩
theorem Rch.spot {h : Int} {p : Pg} {s0 s : Sd} (r : Rch h p s0 s) (x : Int) : Rch h p s0 ⟨s.spots.set h.toNat x, s.vals⟩ :=
  ⟨by rw [List.length_set]; exact r.sl, fun i hi => by rw [List.getElem?_set_ne (Ne.symm hi)]; exact r.so i hi, r.vl, r.vo⟩
theorem Rch.val {h : Int} {p : Pg} {s0 s : Sd} (r : Rch h p s0 s) {b v : Int} (hr : Rw.wr b v ∈ p.rows) : Rch h p s0 ⟨s.spots, s.vals.set b.toNat v⟩ :=
  ⟨r.sl, r.so, by rw [List.length_set]; exact r.vl, fun i => by
    by_cases hi : b.toNat = i
    · by_cases hl : b.toNat < s.vals.length
      · exact .inr ⟨b, v, hi, hr, by rw [← hi, List.getElem?_set_self hl]⟩
      · rw [List.set_eq_of_length_le (by omega)]; exact r.vo i
    · rw [List.getElem?_set_ne hi]; exact r.vo i⟩
theorem Rch.step {w : Wy} {h : Int} {p : Pg} {s0 s : Sd} (hp : w.hands[h.toNat]? = some p) (r : Rch h p s0 s) {q : Stp × Sd} (hq : q ∈ hst w s h) : Rch h p s0 q.2 := by
  unfold hst at hq
  rw [hp] at hq
  cases hx : s.spots[h.toNat]? with
  | none => rw [hx] at hq; cases hq
  | some x =>
    rw [hx] at hq
    simp only at hq
    split at hq
    · simp at hq; rw [hq]; exact r.spot 2
    · split at hq
      · next b v er =>
        simp at hq
        rw [hq]
        unfold wst
        split
        · exact r.spot _
        · exact (r.spot _).val (List.mem_of_getElem? er)
      · obtain ⟨c, _, rfl⟩ := List.mem_map.mp hq
        exact r.spot _
      · cases hq
end Ow

namespace Ow
open PySem PySem.Spec PyProof.Rows L2
local macro_rules | `(tactic| dsimp! [$ts,*]) => `(tactic| try simp only [$ts,*, sSeq, sRet, sRetN, sIf, sAsg, sExpr, sNx, sBk, sCt, sNever, sRaise, sRaiseF, sFor, sSub, wAndV, wOrV, wNotV, wAndT, wOrT, wNotT, wTru, wCmpT, wChT, wChV, wBin, wUn, wVar, wC, wCons, wNil, wTup, wIfE, wIsi, wFn, wQf, qLst, qOf, wCall, wCall0, wLc, wYes, iOf, iR1, iR2, iEn, iHid, wNew, wLst, wSl, wNoP, wP, ex_ss, ex_some, ex_eq, ex_int, ex_two, startD, List.map_cons, List.map_nil, List.length_cons, List.length_nil, List.replicate, List.cons_append, List.nil_append, List.getElem?_cons_zero, List.getElem?_cons_succ, List.set_cons_zero, List.set_cons_succ, wipeD, asg_nm, asg_tp, asgs_nil, asgs_cons, Option.bind_some, tru_bl, tru_int, tru_tup, cmpF, cmpD, lt_int, eq_int, eq_str, eq_bl, Option.map_some, sub_int, add_int, add_tup, fdiv_int, mod_int, pow_int, shl_int, shr_int, band_int, mul_int, int_bl, dm_int, max_int, min_int, len_tup, len_fl, Nat.reduceAdd, Nat.reduceSub, if_true, Bool.not_true, Bool.not_false, Bool.false_eq_true, if_false, tupF, allF, anyF, lenQF, Nat.zero_add, Nat.sub_self, wApp, wExt, iZip, ix_w0, ix_w1, ix_s0, ix_s1, ix_p0, ix_p1, ix_p2, ix_b0, ix_b1, ix_b2, ix_wr0, ix_wr1, ix_wr2, ix_lk0, ix_lk1, ix_lk2, ix_lk3, asg_w, asg_s, asg_p, asg_b, asg_wr, asg_lk, len_h, len_b, len_map, src_h, src_b, src_t, srcD_t, sl_h, sl_b, ix20, ix21, sl_tup, in_ints, decide_true, decide_false, List.length_map, neg_int, isi_ib, isi_ii, isi_it, isi_bb, isi_bi, isi_tt, isi_tb, isi_ti, isi_ss, isi_nb, isi_ni, isi_nt, isi_ob, isi_wt, isi_sdt])
local macro_rules | `(tactic| dsimp! []) => `(tactic| try simp only [sSeq, sRet, sRetN, sIf, sAsg, sExpr, sNx, sBk, sCt, sNever, sRaise, sRaiseF, sFor, sSub, wAndV, wOrV, wNotV, wAndT, wOrT, wNotT, wTru, wCmpT, wChT, wChV, wBin, wUn, wVar, wC, wCons, wNil, wTup, wIfE, wIsi, wFn, wQf, qLst, qOf, wCall, wCall0, wLc, wYes, iOf, iR1, iR2, iEn, iHid, wNew, wLst, wSl, wNoP, wP, ex_ss, ex_some, ex_eq, ex_int, ex_two, startD, List.map_cons, List.map_nil, List.length_cons, List.length_nil, List.replicate, List.cons_append, List.nil_append, List.getElem?_cons_zero, List.getElem?_cons_succ, List.set_cons_zero, List.set_cons_succ, wipeD, asg_nm, asg_tp, asgs_nil, asgs_cons, Option.bind_some, tru_bl, tru_int, tru_tup, cmpF, cmpD, lt_int, eq_int, eq_str, eq_bl, Option.map_some, sub_int, add_int, add_tup, fdiv_int, mod_int, pow_int, shl_int, shr_int, band_int, mul_int, int_bl, dm_int, max_int, min_int, len_tup, len_fl, Nat.reduceAdd, Nat.reduceSub, if_true, Bool.not_true, Bool.not_false, Bool.false_eq_true, if_false, tupF, allF, anyF, lenQF, Nat.zero_add, Nat.sub_self, wApp, wExt, iZip, ix_w0, ix_w1, ix_s0, ix_s1, ix_p0, ix_p1, ix_p2, ix_b0, ix_b1, ix_b2, ix_wr0, ix_wr1, ix_wr2, ix_lk0, ix_lk1, ix_lk2, ix_lk3, asg_w, asg_s, asg_p, asg_b, asg_wr, asg_lk, len_h, len_b, len_map, src_h, src_b, src_t, srcD_t, sl_h, sl_b, ix20, ix21, sl_tup, in_ints, decide_true, decide_false, List.length_map, neg_int, isi_ib, isi_ii, isi_it, isi_bb, isi_bi, isi_tt, isi_tb, isi_ti, isi_ss, isi_nb, isi_ni, isi_nt, isi_ob, isi_wt, isi_sdt])
end Ow

namespace Ow
open PySem PySem.Spec PyProof.Rows L2
local macro_rules | `(tactic| dsimp! [$ts,*]) => `(tactic| try simp only [$ts,*, sSeq, sRet, sRetN, sIf, sAsg, sExpr, sNx, sBk, sCt, sNever, sRaise, sRaiseF, sFor, sSub, wAndV, wOrV, wNotV, wAndT, wOrT, wNotT, wTru, wCmpT, wChT, wChV, wBin, wUn, wVar, wC, wCons, wNil, wTup, wIfE, wIsi, wFn, wQf, qLst, qOf, wCall, wCall0, wLc, wYes, iOf, iR1, iR2, iEn, iHid, wNew, wLst, wSl, wNoP, wP, ex_ss, ex_some, ex_eq, ex_int, ex_two, startD, List.map_cons, List.map_nil, List.length_cons, List.length_nil, List.replicate, List.cons_append, List.nil_append, List.getElem?_cons_zero, List.getElem?_cons_succ, List.set_cons_zero, List.set_cons_succ, wipeD, asg_nm, asg_tp, asgs_nil, asgs_cons, Option.bind_some, tru_bl, tru_int, tru_tup, cmpF, cmpD, lt_int, eq_int, eq_str, eq_bl, Option.map_some, sub_int, add_int, add_tup, fdiv_int, mod_int, pow_int, shl_int, shr_int, band_int, mul_int, int_bl, dm_int, max_int, min_int, len_tup, len_fl, Nat.reduceAdd, Nat.reduceSub, if_true, Bool.not_true, Bool.not_false, Bool.false_eq_true, if_false, tupF, allF, anyF, lenQF, Nat.zero_add, Nat.sub_self, wApp, wExt, iZip, ix_w0, ix_w1, ix_s0, ix_s1, ix_p0, ix_p1, ix_p2, ix_b0, ix_b1, ix_b2, ix_wr0, ix_wr1, ix_wr2, ix_lk0, ix_lk1, ix_lk2, ix_lk3, asg_w, asg_s, asg_p, asg_b, asg_wr, asg_lk, len_h, len_b, len_map, src_h, src_b, src_t, srcD_t, sl_h, sl_b, ix20, ix21, sl_tup, in_ints, decide_true, decide_false, List.length_map, neg_int, isi_ib, isi_ii, isi_it, isi_bb, isi_bi, isi_tt, isi_tb, isi_ti, isi_ss, isi_nb, isi_ni, isi_nt, isi_ob, isi_wt, isi_sdt])
local macro_rules | `(tactic| dsimp! []) => `(tactic| try simp only [sSeq, sRet, sRetN, sIf, sAsg, sExpr, sNx, sBk, sCt, sNever, sRaise, sRaiseF, sFor, sSub, wAndV, wOrV, wNotV, wAndT, wOrT, wNotT, wTru, wCmpT, wChT, wChV, wBin, wUn, wVar, wC, wCons, wNil, wTup, wIfE, wIsi, wFn, wQf, qLst, qOf, wCall, wCall0, wLc, wYes, iOf, iR1, iR2, iEn, iHid, wNew, wLst, wSl, wNoP, wP, ex_ss, ex_some, ex_eq, ex_int, ex_two, startD, List.map_cons, List.map_nil, List.length_cons, List.length_nil, List.replicate, List.cons_append, List.nil_append, List.getElem?_cons_zero, List.getElem?_cons_succ, List.set_cons_zero, List.set_cons_succ, wipeD, asg_nm, asg_tp, asgs_nil, asgs_cons, Option.bind_some, tru_bl, tru_int, tru_tup, cmpF, cmpD, lt_int, eq_int, eq_str, eq_bl, Option.map_some, sub_int, add_int, add_tup, fdiv_int, mod_int, pow_int, shl_int, shr_int, band_int, mul_int, int_bl, dm_int, max_int, min_int, len_tup, len_fl, Nat.reduceAdd, Nat.reduceSub, if_true, Bool.not_true, Bool.not_false, Bool.false_eq_true, if_false, tupF, allF, anyF, lenQF, Nat.zero_add, Nat.sub_self, wApp, wExt, iZip, ix_w0, ix_w1, ix_s0, ix_s1, ix_p0, ix_p1, ix_p2, ix_b0, ix_b1, ix_b2, ix_wr0, ix_wr1, ix_wr2, ix_lk0, ix_lk1, ix_lk2, ix_lk3, asg_w, asg_s, asg_p, asg_b, asg_wr, asg_lk, len_h, len_b, len_map, src_h, src_b, src_t, srcD_t, sl_h, sl_b, ix20, ix21, sl_tup, in_ints, decide_true, decide_false, List.length_map, neg_int, isi_ib, isi_ii, isi_it, isi_bb, isi_bi, isi_tt, isi_tb, isi_ti, isi_ss, isi_nb, isi_ni, isi_nt, isi_ob, isi_wt, isi_sdt])
instance : DecidableEq Sd := fun a b => decidable_of_iff (a.spots = b.spots ∧ a.vals = b.vals) ⟨fun ⟨h1, h2⟩ => by cases a; cases b; simp only at h1 h2; rw [h1, h2], fun h => by rw [h]; exact ⟨rfl, rfl⟩⟩
end Ow

namespace Ow
open PySem PySem.Spec PyProof.Rows L2
local macro_rules | `(tactic| dsimp! [$ts,*]) => `(tactic| try simp only [$ts,*, sSeq, sRet, sRetN, sIf, sAsg, sExpr, sNx, sBk, sCt, sNever, sRaise, sRaiseF, sFor, sSub, wAndV, wOrV, wNotV, wAndT, wOrT, wNotT, wTru, wCmpT, wChT, wChV, wBin, wUn, wVar, wC, wCons, wNil, wTup, wIfE, wIsi, wFn, wQf, qLst, qOf, wCall, wCall0, wLc, wYes, iOf, iR1, iR2, iEn, iHid, wNew, wLst, wSl, wNoP, wP, ex_ss, ex_some, ex_eq, ex_int, ex_two, startD, List.map_cons, List.map_nil, List.length_cons, List.length_nil, List.replicate, List.cons_append, List.nil_append, List.getElem?_cons_zero, List.getElem?_cons_succ, List.set_cons_zero, List.set_cons_succ, wipeD, asg_nm, asg_tp, asgs_nil, asgs_cons, Option.bind_some, tru_bl, tru_int, tru_tup, cmpF, cmpD, lt_int, eq_int, eq_str, eq_bl, Option.map_some, sub_int, add_int, add_tup, fdiv_int, mod_int, pow_int, shl_int, shr_int, band_int, mul_int, int_bl, dm_int, max_int, min_int, len_tup, len_fl, Nat.reduceAdd, Nat.reduceSub, if_true, Bool.not_true, Bool.not_false, Bool.false_eq_true, if_false, tupF, allF, anyF, lenQF, Nat.zero_add, Nat.sub_self, wApp, wExt, iZip, ix_w0, ix_w1, ix_s0, ix_s1, ix_p0, ix_p1, ix_p2, ix_b0, ix_b1, ix_b2, ix_wr0, ix_wr1, ix_wr2, ix_lk0, ix_lk1, ix_lk2, ix_lk3, asg_w, asg_s, asg_p, asg_b, asg_wr, asg_lk, len_h, len_b, len_map, src_h, src_b, src_t, srcD_t, sl_h, sl_b, ix20, ix21, sl_tup, in_ints, decide_true, decide_false, List.length_map, neg_int, isi_ib, isi_ii, isi_it, isi_bb, isi_bi, isi_tt, isi_tb, isi_ti, isi_ss, isi_nb, isi_ni, isi_nt, isi_ob, isi_wt, isi_sdt])
local macro_rules | `(tactic| dsimp! []) => `(tactic| try simp only [sSeq, sRet, sRetN, sIf, sAsg, sExpr, sNx, sBk, sCt, sNever, sRaise, sRaiseF, sFor, sSub, wAndV, wOrV, wNotV, wAndT, wOrT, wNotT, wTru, wCmpT, wChT, wChV, wBin, wUn, wVar, wC, wCons, wNil, wTup, wIfE, wIsi, wFn, wQf, qLst, qOf, wCall, wCall0, wLc, wYes, iOf, iR1, iR2, iEn, iHid, wNew, wLst, wSl, wNoP, wP, ex_ss, ex_some, ex_eq, ex_int, ex_two, startD, List.map_cons, List.map_nil, List.length_cons, List.length_nil, List.replicate, List.cons_append, List.nil_append, List.getElem?_cons_zero, List.getElem?_cons_succ, List.set_cons_zero, List.set_cons_succ, wipeD, asg_nm, asg_tp, asgs_nil, asgs_cons, Option.bind_some, tru_bl, tru_int, tru_tup, cmpF, cmpD, lt_int, eq_int, eq_str, eq_bl, Option.map_some, sub_int, add_int, add_tup, fdiv_int, mod_int, pow_int, shl_int, shr_int, band_int, mul_int, int_bl, dm_int, max_int, min_int, len_tup, len_fl, Nat.reduceAdd, Nat.reduceSub, if_true, Bool.not_true, Bool.not_false, Bool.false_eq_true, if_false, tupF, allF, anyF, lenQF, Nat.zero_add, Nat.sub_self, wApp, wExt, iZip, ix_w0, ix_w1, ix_s0, ix_s1, ix_p0, ix_p1, ix_p2, ix_b0, ix_b1, ix_b2, ix_wr0, ix_wr1, ix_wr2, ix_lk0, ix_lk1, ix_lk2, ix_lk3, asg_w, asg_s, asg_p, asg_b, asg_wr, asg_lk, len_h, len_b, len_map, src_h, src_b, src_t, srcD_t, sl_h, sl_b, ix20, ix21, sl_tup, in_ints, decide_true, decide_false, List.length_map, neg_int, isi_ib, isi_ii, isi_it, isi_bb, isi_bi, isi_tt, isi_tb, isi_ti, isi_ss, isi_nb, isi_ni, isi_nt, isi_ob, isi_wt, isi_sdt])
end Ow

namespace Ow
open PySem PySem.Spec PyProof.Rows L2
local macro_rules | `(tactic| dsimp! [$ts,*]) => `(tactic| try simp only [$ts,*, sSeq, sRet, sRetN, sIf, sAsg, sExpr, sNx, sBk, sCt, sNever, sRaise, sRaiseF, sFor, sSub, wAndV, wOrV, wNotV, wAndT, wOrT, wNotT, wTru, wCmpT, wChT, wChV, wBin, wUn, wVar, wC, wCons, wNil, wTup, wIfE, wIsi, wFn, wQf, qLst, qOf, wCall, wCall0, wLc, wYes, iOf, iR1, iR2, iEn, iHid, wNew, wLst, wSl, wNoP, wP, ex_ss, ex_some, ex_eq, ex_int, ex_two, startD, List.map_cons, List.map_nil, List.length_cons, List.length_nil, List.replicate, List.cons_append, List.nil_append, List.getElem?_cons_zero, List.getElem?_cons_succ, List.set_cons_zero, List.set_cons_succ, wipeD, asg_nm, asg_tp, asgs_nil, asgs_cons, Option.bind_some, tru_bl, tru_int, tru_tup, cmpF, cmpD, lt_int, eq_int, eq_str, eq_bl, Option.map_some, sub_int, add_int, add_tup, fdiv_int, mod_int, pow_int, shl_int, shr_int, band_int, mul_int, int_bl, dm_int, max_int, min_int, len_tup, len_fl, Nat.reduceAdd, Nat.reduceSub, if_true, Bool.not_true, Bool.not_false, Bool.false_eq_true, if_false, tupF, allF, anyF, lenQF, Nat.zero_add, Nat.sub_self, wApp, wExt, iZip, ix_w0, ix_w1, ix_s0, ix_s1, ix_p0, ix_p1, ix_p2, ix_b0, ix_b1, ix_b2, ix_wr0, ix_wr1, ix_wr2, ix_lk0, ix_lk1, ix_lk2, ix_lk3, asg_w, asg_s, asg_p, asg_b, asg_wr, asg_lk, len_h, len_b, len_map, src_h, src_b, src_t, srcD_t, sl_h, sl_b, ix20, ix21, sl_tup, in_ints, decide_true, decide_false, List.length_map, neg_int, isi_ib, isi_ii, isi_it, isi_bb, isi_bi, isi_tt, isi_tb, isi_ti, isi_ss, isi_nb, isi_ni, isi_nt, isi_ob, isi_wt, isi_sdt])
local macro_rules | `(tactic| dsimp! []) => `(tactic| try simp only [sSeq, sRet, sRetN, sIf, sAsg, sExpr, sNx, sBk, sCt, sNever, sRaise, sRaiseF, sFor, sSub, wAndV, wOrV, wNotV, wAndT, wOrT, wNotT, wTru, wCmpT, wChT, wChV, wBin, wUn, wVar, wC, wCons, wNil, wTup, wIfE, wIsi, wFn, wQf, qLst, qOf, wCall, wCall0, wLc, wYes, iOf, iR1, iR2, iEn, iHid, wNew, wLst, wSl, wNoP, wP, ex_ss, ex_some, ex_eq, ex_int, ex_two, startD, List.map_cons, List.map_nil, List.length_cons, List.length_nil, List.replicate, List.cons_append, List.nil_append, List.getElem?_cons_zero, List.getElem?_cons_succ, List.set_cons_zero, List.set_cons_succ, wipeD, asg_nm, asg_tp, asgs_nil, asgs_cons, Option.bind_some, tru_bl, tru_int, tru_tup, cmpF, cmpD, lt_int, eq_int, eq_str, eq_bl, Option.map_some, sub_int, add_int, add_tup, fdiv_int, mod_int, pow_int, shl_int, shr_int, band_int, mul_int, int_bl, dm_int, max_int, min_int, len_tup, len_fl, Nat.reduceAdd, Nat.reduceSub, if_true, Bool.not_true, Bool.not_false, Bool.false_eq_true, if_false, tupF, allF, anyF, lenQF, Nat.zero_add, Nat.sub_self, wApp, wExt, iZip, ix_w0, ix_w1, ix_s0, ix_s1, ix_p0, ix_p1, ix_p2, ix_b0, ix_b1, ix_b2, ix_wr0, ix_wr1, ix_wr2, ix_lk0, ix_lk1, ix_lk2, ix_lk3, asg_w, asg_s, asg_p, asg_b, asg_wr, asg_lk, len_h, len_b, len_map, src_h, src_b, src_t, srcD_t, sl_h, sl_b, ix20, ix21, sl_tup, in_ints, decide_true, decide_false, List.length_map, neg_int, isi_ib, isi_ii, isi_it, isi_bb, isi_bi, isi_tt, isi_tb, isi_ti, isi_ss, isi_nb, isi_ni, isi_nt, isi_ob, isi_wt, isi_sdt])
theorem eqs_ints : ∀ {l m : List Int}, pyEqs (l.map .int) (m.map .int) = decide (l = m)
  | [], [] => by simp [pyEqs]
  | [], _ :: _ => by simp [pyEqs]
  | _ :: _, [] => by simp [pyEqs]
  | x :: l, y :: m => by
    simp only [List.map_cons, pyEqs, pyEq, eqs_ints (l := l) (m := m), List.cons.injEq, Bool.decide_and, Bool.beq_eq_decide_eq]
theorem pyEq_sd {s t : Sd} : pyEq s.d t.d = decide (s = t) := by
  obtain ⟨a, b⟩ := s
  obtain ⟨c, d⟩ := t
  simp only [Sd.d, pyEq, pyEqs, eqs_ints, Bool.and_true, Sd.mk.injEq, Bool.decide_and]
theorem okDs_sds : ∀ l : List Sd, okDs 60 (l.map Sd.d) = true
  | [] => rfl
  | s :: l => by simp only [List.map_cons, okDs, okD_sd (n := 58), okDs_sds l]; rfl
theorem any_sd {s : Sd} : ∀ l : List Sd, ((l.map Sd.d).any fun z => pyEq z s.d) = decide (s ∈ l)
  | [] => by simp
  | t :: l => by
    rw [List.map_cons, List.any_cons, pyEq_sd, any_sd l]
    by_cases h : t = s
    · subst h; simp
    · have h2 : ¬ s = t := fun z => h z.symm
      simp [h, h2]
theorem in_sds {S : Sto} {a : Addr} {l : List Sd} {s : Sd} (h : S a = some (.lst (l.map Sd.d))) : inD S s.d (.ref a) = some (decide (s ∈ l)) := by
  have e1 : dinD S s.d (.ref a) = none := by unfold dinD; simp only [h]
  have e2 : itemsQ S (.ref a) = some (false, l.map Sd.d) := by simp only [itemsQ, itemsL, h]; rfl
  unfold inD
  rw [e1]
  simp only [e2]
  rw [show flatD s.d = false from rfl, Bool.false_and, if_neg Bool.false_ne_true, okD_sd (n := 58), okDs_sds]
  simp only [Bool.not_false, Bool.and_self, if_true, any_sd]
end Ow

namespace Ow
open PySem PySem.Spec PyProof.Rows L2
local macro_rules | `(tactic| dsimp! [$ts,*]) => `(tactic| try simp only [$ts,*, sSeq, sRet, sRetN, sIf, sAsg, sExpr, sNx, sBk, sCt, sNever, sRaise, sRaiseF, sFor, sSub, wAndV, wOrV, wNotV, wAndT, wOrT, wNotT, wTru, wCmpT, wChT, wChV, wBin, wUn, wVar, wC, wCons, wNil, wTup, wIfE, wIsi, wFn, wQf, qLst, qOf, wCall, wCall0, wLc, wYes, iOf, iR1, iR2, iEn, iHid, wNew, wLst, wSl, wNoP, wP, ex_ss, ex_some, ex_eq, ex_int, ex_two, startD, List.map_cons, List.map_nil, List.length_cons, List.length_nil, List.replicate, List.cons_append, List.nil_append, List.getElem?_cons_zero, List.getElem?_cons_succ, List.set_cons_zero, List.set_cons_succ, wipeD, asg_nm, asg_tp, asgs_nil, asgs_cons, Option.bind_some, tru_bl, tru_int, tru_tup, cmpF, cmpD, lt_int, eq_int, eq_str, eq_bl, Option.map_some, sub_int, add_int, add_tup, fdiv_int, mod_int, pow_int, shl_int, shr_int, band_int, mul_int, int_bl, dm_int, max_int, min_int, len_tup, len_fl, Nat.reduceAdd, Nat.reduceSub, if_true, Bool.not_true, Bool.not_false, Bool.false_eq_true, if_false, tupF, allF, anyF, lenQF, Nat.zero_add, Nat.sub_self, wApp, wExt, iZip, ix_w0, ix_w1, ix_s0, ix_s1, ix_p0, ix_p1, ix_p2, ix_b0, ix_b1, ix_b2, ix_wr0, ix_wr1, ix_wr2, ix_lk0, ix_lk1, ix_lk2, ix_lk3, asg_w, asg_s, asg_p, asg_b, asg_wr, asg_lk, len_h, len_b, len_map, src_h, src_b, src_t, srcD_t, sl_h, sl_b, ix20, ix21, sl_tup, in_ints, decide_true, decide_false, List.length_map, neg_int, isi_ib, isi_ii, isi_it, isi_bb, isi_bi, isi_tt, isi_tb, isi_ti, isi_ss, isi_nb, isi_ni, isi_nt, isi_ob, isi_wt, isi_sdt])
local macro_rules | `(tactic| dsimp! []) => `(tactic| try simp only [sSeq, sRet, sRetN, sIf, sAsg, sExpr, sNx, sBk, sCt, sNever, sRaise, sRaiseF, sFor, sSub, wAndV, wOrV, wNotV, wAndT, wOrT, wNotT, wTru, wCmpT, wChT, wChV, wBin, wUn, wVar, wC, wCons, wNil, wTup, wIfE, wIsi, wFn, wQf, qLst, qOf, wCall, wCall0, wLc, wYes, iOf, iR1, iR2, iEn, iHid, wNew, wLst, wSl, wNoP, wP, ex_ss, ex_some, ex_eq, ex_int, ex_two, startD, List.map_cons, List.map_nil, List.length_cons, List.length_nil, List.replicate, List.cons_append, List.nil_append, List.getElem?_cons_zero, List.getElem?_cons_succ, List.set_cons_zero, List.set_cons_succ, wipeD, asg_nm, asg_tp, asgs_nil, asgs_cons, Option.bind_some, tru_bl, tru_int, tru_tup, cmpF, cmpD, lt_int, eq_int, eq_str, eq_bl, Option.map_some, sub_int, add_int, add_tup, fdiv_int, mod_int, pow_int, shl_int, shr_int, band_int, mul_int, int_bl, dm_int, max_int, min_int, len_tup, len_fl, Nat.reduceAdd, Nat.reduceSub, if_true, Bool.not_true, Bool.not_false, Bool.false_eq_true, if_false, tupF, allF, anyF, lenQF, Nat.zero_add, Nat.sub_self, wApp, wExt, iZip, ix_w0, ix_w1, ix_s0, ix_s1, ix_p0, ix_p1, ix_p2, ix_b0, ix_b1, ix_b2, ix_wr0, ix_wr1, ix_wr2, ix_lk0, ix_lk1, ix_lk2, ix_lk3, asg_w, asg_s, asg_p, asg_b, asg_wr, asg_lk, len_h, len_b, len_map, src_h, src_b, src_t, srcD_t, sl_h, sl_b, ix20, ix21, sl_tup, in_ints, decide_true, decide_false, List.length_map, neg_int, isi_ib, isi_ii, isi_it, isi_bb, isi_bi, isi_tt, isi_tb, isi_ti, isi_ss, isi_nb, isi_ni, isi_nt, isi_ob, isi_wt, isi_sdt])
theorem len2 {l : List Int} (h : l.length = 2) : ∃ a b, l = [a, b] := by
  match l, h with
  | [a, b], _ => exact ⟨a, b, rfl⟩
theorem PrOk.set {t : Tp} {s : Sd} (o : PrOk t s) {h x : Int} (k : two01 h) (p : PSpot t h x) {vs : List Int} (hl : vs.length = s.vals.length) (hv : ∀ (i : Nat) (b : Bx) (x : Int), (t.kinds ++ t.kinds)[i]? = some b → vs[i]? = some x → 0 ≤ x ∧ x < b.size) : PrOk t ⟨s.spots.set h.toNat x, vs⟩ := by
  refine ⟨by rw [List.length_set]; exact o.n, by rw [hl]; exact o.m, fun g kg => ?_, hv⟩
  have og := o.sp g kg
  obtain ⟨spots, vals⟩ := s
  obtain ⟨a, b, rfl⟩ := len2 o.n
  rcases k with rfl | rfl <;> rcases kg with rfl | rfl
  · exact p
  · exact og
  · exact og
  · exact p
theorem PrOk.pset {t : Tp} {s : Sd} (o : PrOk t s) {h x : Int} (k : two01 h) (p : PSpot t h x) : PrOk t (pset s h x) := o.set k p rfl o.va
theorem pspot_even {t : Tp} {h pl : Int} (h0 : 0 ≤ pl) (h1 : pl ≤ t.rows.length) : PSpot t h (2 * pl) := ⟨by omega, by omega, by omega, fun z => by omega⟩
theorem pspot_sbh {t : Tp} {h pl : Int} (h0 : 0 ≤ pl) (h1 : pl ≤ t.rows.length) : PSpot t h (sbh t pl) := by
  unfold sbh
  split
  · exact pspot_even (pl := 0) (by omega) (by omega)
  · exact pspot_even (by omega) (by omega)
theorem pspot_odd {t : Tp} {h x : Int} (p : PSpot t h x) (hx : x ≠ 0) (he : x % 2 = 0) {r : TRw} (er : rowP t x = some r) (ho : oddP t h r = true) : PSpot t h (x + 1) := by
  obtain ⟨p0, p1, p2, _⟩ := p
  refine ⟨by omega, by omega, by omega, fun _ => ⟨r, ?_, ho⟩⟩
  unfold rowP at er ⊢
  rw [show (x + 1) / 2 = x / 2 by omega]
  exact er
theorem kk_get {t : Tp} {h b : Int} (k : two01 h) (b0 : 0 ≤ b) (b1 : b < t.kinds.length) : (t.kinds ++ t.kinds)[(h * t.kinds.length + b).toNat]? = t.kinds[b.toNat]? := by
  rcases k with rfl | rfl
  · rw [show ((0 : Int) * t.kinds.length + b).toNat = b.toNat by omega, List.getElem?_append_left (by omega)]
  · rw [List.getElem?_append_right (by omega)]
    congr 1
    omega
theorem hmv_ok {t : Tp} {s : Sd} {h : Int} (H : PrHd t s h) {q : PStp × Sd} (hq : q ∈ hmv t s h) : PrOk t q.2 := by
  obtain ⟨ot, o, k⟩ := H
  have ps := o.sp h k
  obtain ⟨p0, p1, p2, p3⟩ := ps
  have n1 := ot.n1
  have wn := ot.wn
  unfold hmv at hq
  split at hq
  · rw [List.mem_singleton.mp hq]
    exact o.pset k (pspot_even (pl := 1) (by omega) (by omega))
  · next x0 =>
    split at hq
    · next b v er =>
      have ro := trowsOk_get ot.rows er
      obtain ⟨b0, b1, v0, v1⟩ := ro
      split at hq
      · next c =>
        rw [List.mem_singleton.mp hq]
        exact o.pset k (pspot_odd (o.sp h k) x0 c.2 er (by simpa [oddP] using c.1))
      · rw [List.mem_singleton.mp hq]
        refine o.set k (pspot_sbh (by omega) (by omega)) (List.length_set ..) fun i bx x h1 h2 => ?_
        rw [List.getElem?_set] at h2
        split at h2
        · next e =>
          subst e
          rw [kk_get k b0 b1] at h1
          split at h2
          · cases h2
            have : szAt t.kinds b = bx.size := by unfold szAt; rw [h1]; rfl
            rw [this] at v1
            exact ⟨v0, v1⟩
          · cases h2
        · exact o.va i bx x h1 h2
    · next w b ns tt er =>
      have ro := trowsOk_get ot.rows er
      obtain ⟨_, _, _, _, tw, t1, t2⟩ := ro
      have bk : PrOk t (pset s h (2 * tt)) := o.pset k (pspot_even (by omega) (by omega))
      rcases List.mem_append.mp hq with hq | hq
      · unfold lkm at hq
        split at hq
        · next c =>
          obtain ⟨i, _, rfl⟩ := List.mem_map.mp hq
          simp only
          split
          · exact o.pset k (pspot_odd (o.sp h k) x0 c.1 er c.2)
          · exact bk
        · rw [List.mem_singleton.mp hq]
          exact o.pset k (pspot_sbh (by omega) (by omega))
      · rw [List.mem_singleton.mp hq]
        exact bk
    · cases hq
theorem pmoves_ok {t : Tp} {s : Sd} (ot : t.ok) (o : PrOk t s) {q : PStp × Sd} (hq : q ∈ pmoves t s) : PrOk t q.2 := by
  rcases List.mem_append.mp hq with h | h
  · exact hmv_ok ⟨ot, o, .inl rfl⟩ h
  · exact hmv_ok ⟨ot, o, .inr rfl⟩ h
theorem pmoves_len {t : Tp} {s : Sd} (ot : t.ok) (o : PrOk t s) : (pmoves t s).length ≤ 12 := by
  have l0 := hmv_len (t := t) (s := s) (h := 0) ⟨ot, o, .inl rfl⟩
  have l1 := hmv_len (t := t) (s := s) (h := 1) ⟨ot, o, .inr rfl⟩
  unfold pmoves
  rw [List.length_append]
  omega
def sp_law_first_pairs : Spec where
  pre := fun ds _ => ∃ (t : Tp) (m : Nat), ds = [t.d, .int m] ∧ t.ok ∧ 1 ≤ m ∧ m ≤ 900
  post := fun ds S d S' => ∃ (t : Tp) (m : Nat) (p : Addr) (l : List Sd), ds = [t.d, .int m] ∧ S p = none ∧ d = .ref p ∧ S' = put S p (.lst (l.map Sd.d)) ∧ (∀ s ∈ l, PrOk t s) ∧ l.length ≤ m
def t_law_first_pairs : WS :=
  sSeq
  (sAsg (wLst (wCons (wTup (wCons (wTup (wCons (wC (.int 0)) (wCons (wC (.int 0)) (wNil)))) (wCons (wQf tupF (qLst (wLc (iOf (wBin mulF (wBin ixF (wVar 0) (wC (.int 0))) (wC (.int 2)))) (.tp [.nm 6, .nm 7, .nm 8]) [6, 7, 8] (wYes) (wVar 8)))) (wNil)))) (wNil))) (.nm 2)) <|
  sSeq
  (sAsg (wC (.int 0)) (.nm 3)) <|
  sSeq
  (sWhile (wAndT (wCmpT .Lt (wVar 3) (wFn lenF (wCons (wVar 2) wNil))) (wCmpT .Lt (wFn lenF (wCons (wVar 2) wNil)) (wVar 1))) (sSeq
   (sFor (iOf (wCall sp_law_pair_next (wCons (wVar 0) (wCons (wBin ixF (wVar 2) (wVar 3)) (wNil))))) (.tp [.nm 4, .nm 5]) (sSeq (sIf (wCmpT .NotIn (wVar 5) (wVar 2)) (sSeq (sExpr (wApp (wVar 2) (wVar 5))) sNx) (sNx)) sNx)) <|
   sSeq (sAsg (wBin addF (wVar 3) (wC (.int 1))) (.nm 3)) sNx)) <|
  sSeq (sRet (wSl (wVar 2) (wNoP) (wP (wVar 1)))) sNx
theorem call_first_pairs {S : Sto} {Q : D → Sto → Prop} {E : QX} {t : Tp} {m : Nat} (ot : t.ok) (m1 : 1 ≤ m) (m9 : m ≤ 900) (k : ∀ (p : Addr) (l : List Sd), S p = none → (∀ s ∈ l, PrOk t s) → l.length ≤ m → Q (.ref p) (put S p (.lst (l.map Sd.d)))) : callS sp_law_first_pairs [t.d, .int m] S Q E := by
  refine ⟨⟨t, m, rfl, ot, m1, m9⟩, ?_, fun _ _ z => z.elim⟩
  rintro d S' ⟨t', m', p, l, e, hp, rfl, rfl, hl, hn⟩
  simp only [List.cons.injEq, D.int.injEq, and_true] at e
  have := Tp.injD e.1
  subst this
  exact k p l hp hl (by omega)
theorem ok_law_first_pairs : BodyOk ["_law_template_here", "_law_most", "_law_rows", "_law_at", "_law_step", "_law_there", "_law_word", "_law_size", "_law_start"] 2 sp_law_first_pairs t_law_first_pairs := by
  rintro _ S _ ⟨t, m, rfl, ot, m1, m9⟩
  have hr : ∀ p (l : List Sd) S', S p = none → (∀ s ∈ l, PrOk t s) → l.length ≤ m → Sub S S' → S' p = some (.lst (l.map Sd.d)) → (ndOf sp_law_first_pairs [t.d, .int (m : Int)] S).rt (.ref p) S' := fun p l S' hp h1 h2 h3 h4 => ⟨_, sub_at h3 h4, t, m, p, l, rfl, hp, rfl, rfl, h1, h2⟩
  generalize ndOf sp_law_first_pairs [t.d, .int (m : Int)] S = Nx at hr
  dsimp! [t_law_first_pairs, ix_t0, mul_kinds ot]
  refine lc_map chk_nil Bx.d (fun _ => true) (fun b => .int b.start) (fun b _ => ⟨_, rfl, fun Q E q => q, fun _ Q E q => ?_⟩) ?_
  · dsimp! []; exact q
  rw [filtM, List.nil_append]
  intro fp hfp
  have e0 : D.tup [.tup [.int 0, .int 0], .tup ((t.kinds ++ t.kinds).map fun b => D.int b.start)] = (firstP t).d := by
    unfold firstP Sd.d
    simp only [List.map_map]
    rfl
  rw [e0]
  have hf0 : put S fp (.lst [(firstP t).d]) fp = some (.lst ([firstP t].map Sd.d)) := put_same
  have hS0 : Sub S (put S fp (.lst [(firstP t).d])) := Sub.put hfp
  generalize put S fp (.lst [(firstP t).d]) = S1 at hf0 hS0
  dsimp! [sWhile]
  refine ⟨fun v ρ S' => ∃ (n : Nat) (l : List Sd), v + n = m ∧ Sub S S' ∧ S' fp = some (.lst (l.map Sd.d)) ∧ (∀ s ∈ l, PrOk t s) ∧ l.length ≤ m + 12 ∧ ∃ u4 u5, ρ = [some t.d, some (.int m), some (.ref fp), some (.int n), u4, u5, none, none, none], ⟨m, 0, [firstP t], by omega, hS0, hf0, fun s hs => by rw [List.mem_singleton.mp hs]; exact firstP_ok ot, by simp, _, _, rfl⟩, ?_⟩
  rintro v ρ S' ⟨n, l, hv, hS, hf, hl, ln, u4, u5, rfl⟩
  have last : slD (.ref fp) none (some (m : Int)) S' Nx.rt := by
    refine ⟨l.map Sd.d, by simp only [itemsL, hf], fun p hp => ?_⟩
    have ec : cutD (l.map Sd.d) none (some (m : Int)) = (l.take m).map Sd.d := by
      by_cases c : m ≤ l.length
      · rw [cutD_to (by omega) (by rw [List.length_map]; omega), Int.toNat_natCast, List.map_take]
      · unfold cutD HT.sIx
        rw [List.take_of_length_le (by omega : l.length ≤ m)]
        show ((l.map Sd.d).drop 0).take (HT.sIx (l.map Sd.d).length (l.map Sd.d).length (some (m : Int)) - 0) = _
        rw [HT.sIx_nat, List.length_map, List.drop_zero, List.take_of_length_le (by rw [List.length_map]; omega)]
    rw [ec]
    exact hr p (l.take m) _ (hS.none hp) (fun s hs => hl s (List.mem_of_mem_take hs)) (by rw [List.length_take]; omega) (Sub.put2 hS (hS.none hp)) put_same
  dsimp! [len_ref hf]
  intro _
  by_cases c1 : (n : Int) < (l.length : Int)
  case neg =>
    dsimp! [c1]
    exact last
  dsimp! [c1]
  intro _
  by_cases c2 : (l.length : Int) < (m : Int)
  case neg =>
    dsimp! [c2]
    exact last
  obtain ⟨s, es, ms⟩ := getE (l := l) (i := n) (by omega)
  have os := hl s ms
  have is : ∀ Q, ixF (.ref fp) (.int n) S' Q ↔ Q s.d S' := fun Q => ix_ref hf (atI_nat (by rw [List.getElem?_map, es]; rfl))
  dsimp! [c2, is]
  refine call_pair_next ot os fun q hq => ?_
  have nq : fp ≠ q := fun z => by rw [z, hq] at hf; cases hf
  have pl := pmoves_len ot os
  dsimp! [src_ref put_same]
  refine for_map psd (fun cs ρ S2 => ∃ (k : List Sd) (u4 u5 : Option D), Sub S S2 ∧ S2 q = some (.lst ((pmoves t s).map psd)) ∧ S2 fp = some (.lst (k.map Sd.d)) ∧ (∀ s ∈ k, PrOk t s) ∧ (∀ x ∈ cs, PrOk t x.2) ∧ k.length + cs.length ≤ m + 12 ∧ ρ = [some t.d, some (.int m), some (.ref fp), some (.int n), u4, u5, none, none, none]) ?_ ?_ ⟨l, _, _, Sub.put2 hS (hS.none hq), put_same, by rw [put_ne nq]; exact hf, hl, fun x hx => pmoves_ok ot os hx, by omega, rfl⟩
  · rintro x cs ρ S2 ⟨k, v4, v5, hS2, hq2, hf2, hk, hc, kl, rfl⟩
    refine ⟨chk_one.mpr hq2, _, rfl, fun R hR => ?_⟩
    have kl2 : k.length + cs.length + 1 ≤ m + 12 := by simp at kl; omega
    dsimp! [in_sds hf2]
    by_cases ci : x.2 ∈ k
    · dsimp! [ci]
      exact hR _ _ ⟨k, _, _, hS2, hq2, hf2, hk, fun y hy => hc y (by simp [hy]), by omega, rfl⟩
    · dsimp! [ci]
      refine ⟨fp, _, rfl, hf2, _, hf2, by rw [List.length_map]; unfold sizeLine; omega, ?_⟩
      refine hR _ _ ⟨k ++ [x.2], _, _, Sub.put2 hS2 hfp, by rw [put_ne nq.symm]; exact hq2, by rw [put_same, List.map_append]; rfl, fun y hy => ?_, fun y hy => hc y (by simp [hy]), by simp; omega, rfl⟩
      rcases List.mem_append.mp hy with h | h
      · exact hk y h
      · rw [List.mem_singleton.mp h]; exact hc x (by simp)
  · rintro ρ S2 ⟨k, v4, v5, hS2, hq2, hf2, hk, hc, kl, rfl⟩
    refine ⟨chk_one.mpr hq2, ?_⟩
    dsimp! []
    exact ⟨v - 1, by omega, n + 1, k, by omega, hS2, hf2, hk, by simpa using kl, _, _, by push_cast; rfl⟩
end Ow

namespace Ow
open PySem PySem.Spec PyProof.Rows L2
local macro_rules | `(tactic| dsimp! [$ts,*]) => `(tactic| try simp only [$ts,*, sSeq, sRet, sRetN, sIf, sAsg, sExpr, sNx, sBk, sCt, sNever, sRaise, sRaiseF, sFor, sSub, wAndV, wOrV, wNotV, wAndT, wOrT, wNotT, wTru, wCmpT, wChT, wChV, wBin, wUn, wVar, wC, wCons, wNil, wTup, wIfE, wIsi, wFn, wQf, qLst, qOf, wCall, wCall0, wLc, wYes, iOf, iR1, iR2, iEn, iHid, wNew, wLst, wSl, wNoP, wP, ex_ss, ex_some, ex_eq, ex_int, ex_two, startD, List.map_cons, List.map_nil, List.length_cons, List.length_nil, List.replicate, List.cons_append, List.nil_append, List.getElem?_cons_zero, List.getElem?_cons_succ, List.set_cons_zero, List.set_cons_succ, wipeD, asg_nm, asg_tp, asgs_nil, asgs_cons, Option.bind_some, tru_bl, tru_int, tru_tup, cmpF, cmpD, lt_int, eq_int, eq_str, eq_bl, Option.map_some, sub_int, add_int, add_tup, fdiv_int, mod_int, pow_int, shl_int, shr_int, band_int, mul_int, int_bl, dm_int, max_int, min_int, len_tup, len_fl, Nat.reduceAdd, Nat.reduceSub, if_true, Bool.not_true, Bool.not_false, Bool.false_eq_true, if_false, tupF, allF, anyF, lenQF, Nat.zero_add, Nat.sub_self, wApp, wExt, iZip, ix_w0, ix_w1, ix_s0, ix_s1, ix_p0, ix_p1, ix_p2, ix_b0, ix_b1, ix_b2, ix_wr0, ix_wr1, ix_wr2, ix_lk0, ix_lk1, ix_lk2, ix_lk3, asg_w, asg_s, asg_p, asg_b, asg_wr, asg_lk, len_h, len_b, len_map, src_h, src_b, src_t, srcD_t, sl_h, sl_b, ix20, ix21, sl_tup, in_ints, decide_true, decide_false, List.length_map, neg_int, isi_ib, isi_ii, isi_it, isi_bb, isi_bi, isi_tt, isi_tb, isi_ti, isi_ss, isi_nb, isi_ni, isi_nt, isi_ob, isi_wt, isi_sdt])
local macro_rules | `(tactic| dsimp! []) => `(tactic| try simp only [sSeq, sRet, sRetN, sIf, sAsg, sExpr, sNx, sBk, sCt, sNever, sRaise, sRaiseF, sFor, sSub, wAndV, wOrV, wNotV, wAndT, wOrT, wNotT, wTru, wCmpT, wChT, wChV, wBin, wUn, wVar, wC, wCons, wNil, wTup, wIfE, wIsi, wFn, wQf, qLst, qOf, wCall, wCall0, wLc, wYes, iOf, iR1, iR2, iEn, iHid, wNew, wLst, wSl, wNoP, wP, ex_ss, ex_some, ex_eq, ex_int, ex_two, startD, List.map_cons, List.map_nil, List.length_cons, List.length_nil, List.replicate, List.cons_append, List.nil_append, List.getElem?_cons_zero, List.getElem?_cons_succ, List.set_cons_zero, List.set_cons_succ, wipeD, asg_nm, asg_tp, asgs_nil, asgs_cons, Option.bind_some, tru_bl, tru_int, tru_tup, cmpF, cmpD, lt_int, eq_int, eq_str, eq_bl, Option.map_some, sub_int, add_int, add_tup, fdiv_int, mod_int, pow_int, shl_int, shr_int, band_int, mul_int, int_bl, dm_int, max_int, min_int, len_tup, len_fl, Nat.reduceAdd, Nat.reduceSub, if_true, Bool.not_true, Bool.not_false, Bool.false_eq_true, if_false, tupF, allF, anyF, lenQF, Nat.zero_add, Nat.sub_self, wApp, wExt, iZip, ix_w0, ix_w1, ix_s0, ix_s1, ix_p0, ix_p1, ix_p2, ix_b0, ix_b1, ix_b2, ix_wr0, ix_wr1, ix_wr2, ix_lk0, ix_lk1, ix_lk2, ix_lk3, asg_w, asg_s, asg_p, asg_b, asg_wr, asg_lk, len_h, len_b, len_map, src_h, src_b, src_t, srcD_t, sl_h, sl_b, ix20, ix21, sl_tup, in_ints, decide_true, decide_false, List.length_map, neg_int, isi_ib, isi_ii, isi_it, isi_bb, isi_bi, isi_tt, isi_tb, isi_ti, isi_ss, isi_nb, isi_ni, isi_nt, isi_ob, isi_wt, isi_sdt])
def sp_law_spot : Spec := pkF (fun _ as _ => ∃ (t : Tp) (h : Int), as = [t.d, .int h] ∧ t.ok ∧ two01 h) fun as _ d => ∃ (t : Tp) (h x : Int), as = [t.d, .int h] ∧ d = .int x ∧ PSpot t h x
def t_law_spot : WS :=
  sSeq
  (sAsg (wVar 1) (.tp [.nm 3, .nm 4])) <|
  sSeq
  (sAsg (wBin ixF (wVar 4) (wC (.int 2))) (.nm 5)) <|
  sSeq
  (sAsg (wCall sp_law_take (wCons (wVar 0) (wCons (wC (.int 2)) (wNil)))) (.nm 6)) <|
  sSeq
  (sAsg (wCall sp_law_take (wCons (wVar 0) (wCons (wBin addF (wFn lenF (wCons (wVar 5) wNil)) (wC (.int 1))) (wNil)))) (.nm 7)) <|
  sSeq
  (sIf (wCmpT .Eq (wVar 7) (wC (.int 0))) (sSeq (sRet (wC (.int 0))) sNx) (sNx)) <|
  sSeq
  (sAsg (wBin ixF (wVar 5) (wBin subF (wVar 7) (wC (.int 1)))) (.nm 8)) <|
  sSeq
  (sAsg (wOrV (wCall sp_law_has (wCons (wVar 2) (wCons (wVar 8) (wNil)))) (wAndV (wBin (cmpF .Eq) (wBin ixF (wVar 8) (wC (.int 0))) (wC (.str "write"))) (wBin (cmpF .NotEq) (wBin ixF (wBin ixF (wVar 3) (wBin ixF (wVar 8) (wC (.int 1)))) (wC (.int 0))) (wC (.str "whole"))))) (.nm 9)) <|
  sSeq (sRet (wBin addF (wBin mulF (wC (.int 2)) (wVar 7)) (wBin mulF (wVar 6) (wFn intF (wCons (wVar 9) wNil))))) sNx
theorem call_spot {S0 S : Sto} {a : Addr} {t : Tp} {h : Int} {Q : D → Sto → Prop} {E : QX} (hS : At S0 a S) (ot : t.ok) (k : two01 h) (q : ∀ x S', PSpot t h x → At S0 a S' → Q (.int x) S') : callS sp_law_spot [.ref a, t.d, .int h] S Q E :=
  callS_pk hS ⟨t, h, rfl, ot, k⟩ fun d S' hp hA _ => by
    obtain ⟨t', h', x, e, rfl, p⟩ := hp
    simp only [List.cons.injEq, D.int.injEq, and_true] at e
    have := Tp.injD e.1
    subst this
    rw [← e.2] at p
    exact q x S' p hA
theorem ok_law_spot : BodyOk ["_law_pack_here", "_law_template_here", "_law_hand", "_law_kinds", "_law_program", "_law_rows", "_law_odd", "_law_place", "_law_row", "_law_can"] 3 sp_law_spot t_law_spot := by
  refine ok_pk ?_
  rintro a _ S ⟨t, h, rfl, ot, k⟩ hA Nx hr
  have hr : ∀ x S', PSpot t h x → At S a S' → Nx.rt (.int x) S' := fun x S' p hA => hr _ _ ⟨t, h, x, rfl, rfl, p⟩ hA
  have n8 := ot.n8
  dsimp! [t_law_spot, asg_t, ix_tp2]
  refine call_take hA (by omega) (by omega) fun od S1 od0 od1 hA1 _ => ?_
  dsimp! []
  intro _
  refine call_take hA1 (by omega) (by omega) fun pl S2 pl0 pl1 hA2 _ => ?_
  dsimp! []
  by_cases c : pl = 0
  · dsimp! [c]
    exact hr _ _ (pspot_even (pl := 0) (by omega) (by omega)) hA2
  · obtain ⟨r, er, _⟩ := getE (l := t.rows) (i := (pl - 1).toNat) (by omega)
    have ir : ∀ S Q, ixF (.tup (t.rows.map TRw.d)) (.int (pl - 1)) S Q ↔ Q r.d S := fun S Q => ix_map (by omega) er
    have ro := trowsOk_get ot.rows er
    have fin : ∀ b : Bool, b = oddP t h r → Nx.rt (.int (2 * pl + od * (if b = true then 1 else 0))) S2 := fun b hb => by
      refine hr _ _ ?_ hA2
      by_cases z : od * (if b = true then (1 : Int) else 0) = 0
      · rw [z, Int.add_zero]
        exact pspot_even (by omega) (by omega)
      · have hb1 : b = true := by
          cases b with
          | true => rfl
          | false => simp at z
        subst hb1
        simp only [if_true, Int.mul_one] at z ⊢
        have : od = 1 := by omega
        subst this
        refine ⟨by omega, by omega, by omega, fun _ => ⟨r, ?_, hb.symm⟩⟩
        unfold rowP
        rw [show (2 * pl + 1) / 2 = pl by omega]
        exact er
    dsimp! [c, ir, call_law_has k]
    cases r with
    | wr b v =>
      obtain ⟨b0, b1, _, _⟩ := ro
      obtain ⟨bx, eb, mb⟩ := getE (l := t.kinds) (i := b.toNat) (by omega)
      have ib : ∀ S Q, ixF (bxs t.kinds) (.int b) S Q ↔ Q bx.d S := fun S Q => ix_map b0 eb
      have k3 : kindP t b = bx.kind := by unfold kindP; rw [eb]; rfl
      have e1 : (("write" : Str) == "write") = true := rfl
      dsimp! [hasO, ix_r0, ix_r1, e1, ib, ix_b0]
      refine ⟨mul_two, mul_small (by omega) (by omega), ?_⟩
      exact fin _ (by simp only [oddP, k3])
    | lk w b ns tt =>
      have e1 : (("look" : Str) == "write") = false := rfl
      have hwd : hasW h w = true ∨ hasW h w = false := by cases hasW h w <;> simp
      rcases hwd with hw | hw
      · dsimp! [hasO, hw]
        refine ⟨mul_two, mul_small (by omega) (by omega), ?_⟩
        exact fin true (by simp only [oddP, hw])
      · dsimp! [hasO, hw, ix_l0, e1]
        refine ⟨mul_two, mul_small (by omega) (by omega), ?_⟩
        exact fin false (by simp only [oddP, hw])
def sp_law_drawn_pair : Spec := pkF (fun _ as _ => ∃ t : Tp, as = [t.d] ∧ t.ok) fun as _ d => ∃ (t : Tp) (s : Sd), as = [t.d] ∧ d = s.d ∧ PrOk t s
def t_law_drawn_pair : WS :=
  sSeq
  (sAsg (wTup (wCons (wCall sp_law_spot (wCons (wVar 0) (wCons (wVar 1) (wCons (wC (.int 0)) (wNil))))) (wCons (wCall sp_law_spot (wCons (wVar 0) (wCons (wVar 1) (wCons (wC (.int 1)) (wNil))))) (wNil)))) (.nm 2)) <|
  sSeq (sRet (wTup (wCons (wVar 2) (wCons (wQf tupF (qLst (wLc (iOf (wBin mulF (wBin ixF (wVar 1) (wC (.int 0))) (wC (.int 2)))) (.tp [.nm 3, .nm 4, .nm 5]) [3, 4, 5] (wYes) (wCall sp_law_take (wCons (wVar 0) (wCons (wVar 4) (wNil))))))) (wNil))))) sNx
theorem call_drawn_pair {S0 S : Sto} {a : Addr} {t : Tp} {Q : D → Sto → Prop} {E : QX} (hS : At S0 a S) (ot : t.ok) (q : ∀ s S', PrOk t s → At S0 a S' → Q s.d S') : callS sp_law_drawn_pair [.ref a, t.d] S Q E :=
  callS_pk hS ⟨t, rfl, ot⟩ fun d S' hp hA _ => by
    obtain ⟨t', s, e, rfl, p⟩ := hp
    simp only [List.cons.injEq, and_true] at e
    have := Tp.injD e
    subst this
    exact q s S' p hA
theorem all2_at {α β : Type} {G : α → β → Prop} : ∀ {l : List α} {m : List β}, All2 G l m → ∀ (i : Nat) (x : α) (y : β), l[i]? = some x → m[i]? = some y → G x y
  | [], [], _, i, x, y, h1, _ => by simp at h1
  | [], _ :: _, h, _, _, _, _, _ => h.elim
  | _ :: _, [], h, _, _, _, _, _ => h.elim
  | a :: _, b :: _, h, i, x, y, h1, h2 => by
    cases i with
    | zero => cases h1; cases h2; exact h.1
    | succ i => exact all2_at h.2 i x y h1 h2
theorem ok_law_drawn_pair : BodyOk ["_law_pack_here", "_law_template_here", "_law_spots", "_law_word", "_law_size", "_law_start"] 2 sp_law_drawn_pair t_law_drawn_pair := by
  refine ok_pk ?_
  rintro a _ S ⟨t, rfl, ot⟩ hA Nx hr
  have hr : ∀ s S', PrOk t s → At S a S' → Nx.rt s.d S' := fun s S' p hA => hr _ _ ⟨t, s, rfl, rfl, p⟩ hA
  dsimp! [t_law_drawn_pair]
  refine call_spot hA ot (.inl rfl) fun x0 S1 p0 hA1 => ?_
  dsimp! []
  refine call_spot hA1 ot (.inr rfl) fun x1 S2 p1 hA2 => ?_
  dsimp! [ix_t0, mul_kinds ot]
  refine lc_draw Bx.d D.int (fun (b : Bx) (x : Int) => 0 ≤ x ∧ x < b.size) (fun S' => At S a S') (fun _ _ => chk_nil) (fun b hb S' hA' => ⟨_, rfl, fun Q q => ?_⟩) hA2 fun ys S3 ha hA3 => ?_
  · have ob : b.ok := ot.bok b (by rcases List.mem_append.mp hb with z | z <;> exact z)
    have s2 := ob.s2
    have s5 := ob.s5
    dsimp! []
    exact call_take hA' (by omega) (by omega) fun y S4 y0 y1 hA4 _ => q y S4 ⟨y0, y1⟩ hA4
  · rw [List.nil_append]
    have o : PrOk t ⟨[x0, x1], ys⟩ := ⟨rfl, by show ys.length = _; rw [ha.len, List.length_append]; omega, fun h k => by rcases k with rfl | rfl; exact p0; exact p1, fun i b x h1 h2 => all2_at ha i b x h1 h2⟩
    exact hr _ S3 o hA3
end Ow

namespace Ow.T46
open PySem PySem.Spec PyProof.Rows L2
local macro_rules | `(tactic| dsimp! [$ts,*]) => `(tactic| try simp only [$ts,*, sSeq, sRet, sRetN, sIf, sAsg, sExpr, sNx, sBk, sCt, sNever, sRaise, sRaiseF, sFor, sSub, wAndV, wOrV, wNotV, wAndT, wOrT, wNotT, wTru, wCmpT, wChT, wChV, wBin, wUn, wVar, wC, wCons, wNil, wTup, wIfE, wIsi, wFn, wQf, qLst, qOf, wCall, wCall0, wLc, wYes, iOf, iR1, iR2, iEn, iHid, wNew, wLst, wSl, wNoP, wP, ex_ss, ex_some, ex_eq, ex_int, ex_two, startD, List.map_cons, List.map_nil, List.length_cons, List.length_nil, List.replicate, List.cons_append, List.nil_append, List.getElem?_cons_zero, List.getElem?_cons_succ, List.set_cons_zero, List.set_cons_succ, wipeD, asg_nm, asg_tp, asgs_nil, asgs_cons, Option.bind_some, tru_bl, tru_int, tru_tup, cmpF, cmpD, lt_int, eq_int, eq_str, eq_bl, Option.map_some, sub_int, add_int, add_tup, fdiv_int, mod_int, pow_int, shl_int, shr_int, band_int, mul_int, int_bl, dm_int, max_int, min_int, len_tup, len_fl, Nat.reduceAdd, Nat.reduceSub, if_true, Bool.not_true, Bool.not_false, Bool.false_eq_true, if_false, tupF, allF, anyF, lenQF, Nat.zero_add, Nat.sub_self, wApp, wExt, iZip, ix_w0, ix_w1, ix_s0, ix_s1, ix_p0, ix_p1, ix_p2, ix_b0, ix_b1, ix_b2, ix_wr0, ix_wr1, ix_wr2, ix_lk0, ix_lk1, ix_lk2, ix_lk3, asg_w, asg_s, asg_p, asg_b, asg_wr, asg_lk, len_h, len_b, len_map, src_h, src_b, src_t, srcD_t, sl_h, sl_b, ix20, ix21, sl_tup, in_ints, decide_true, decide_false, List.length_map, neg_int, isi_ib, isi_ii, isi_it, isi_bb, isi_bi, isi_tt, isi_tb, isi_ti, isi_ss, isi_nb, isi_ni, isi_nt, isi_ob, isi_wt, isi_sdt])
local macro_rules | `(tactic| dsimp! []) => `(tactic| try simp only [sSeq, sRet, sRetN, sIf, sAsg, sExpr, sNx, sBk, sCt, sNever, sRaise, sRaiseF, sFor, sSub, wAndV, wOrV, wNotV, wAndT, wOrT, wNotT, wTru, wCmpT, wChT, wChV, wBin, wUn, wVar, wC, wCons, wNil, wTup, wIfE, wIsi, wFn, wQf, qLst, qOf, wCall, wCall0, wLc, wYes, iOf, iR1, iR2, iEn, iHid, wNew, wLst, wSl, wNoP, wP, ex_ss, ex_some, ex_eq, ex_int, ex_two, startD, List.map_cons, List.map_nil, List.length_cons, List.length_nil, List.replicate, List.cons_append, List.nil_append, List.getElem?_cons_zero, List.getElem?_cons_succ, List.set_cons_zero, List.set_cons_succ, wipeD, asg_nm, asg_tp, asgs_nil, asgs_cons, Option.bind_some, tru_bl, tru_int, tru_tup, cmpF, cmpD, lt_int, eq_int, eq_str, eq_bl, Option.map_some, sub_int, add_int, add_tup, fdiv_int, mod_int, pow_int, shl_int, shr_int, band_int, mul_int, int_bl, dm_int, max_int, min_int, len_tup, len_fl, Nat.reduceAdd, Nat.reduceSub, if_true, Bool.not_true, Bool.not_false, Bool.false_eq_true, if_false, tupF, allF, anyF, lenQF, Nat.zero_add, Nat.sub_self, wApp, wExt, iZip, ix_w0, ix_w1, ix_s0, ix_s1, ix_p0, ix_p1, ix_p2, ix_b0, ix_b1, ix_b2, ix_wr0, ix_wr1, ix_wr2, ix_lk0, ix_lk1, ix_lk2, ix_lk3, asg_w, asg_s, asg_p, asg_b, asg_wr, asg_lk, len_h, len_b, len_map, src_h, src_b, src_t, srcD_t, sl_h, sl_b, ix20, ix21, sl_tup, in_ints, decide_true, decide_false, List.length_map, neg_int, isi_ib, isi_ii, isi_it, isi_bb, isi_bi, isi_tt, isi_tb, isi_ti, isi_ss, isi_nb, isi_ni, isi_nt, isi_ob, isi_wt, isi_sdt])
structure KsOk (S : Sto) (p : Addr) (bs : List Bx) : Prop where
  l : S p = some (.lst (bs.map Bx.d))
  ok : ∀ b ∈ bs, b.ok
  b1 : 1 ≤ bs.length
  b2 : bs.length ≤ 2
def RowR (bs : List Bx) (w room : Int) (r : TRw) : Prop := (∀ k, k < w → r.ok bs w k) ∧ (tog1 r = 1 ∨ (tog1 r = 3 ∧ 3 ≤ room))
def sp_law_template_row : Spec := pkF (fun a as S => ∃ (p : Addr) (bs : List Bx) (w room : Int), as = [.ref p, .int w, .int room] ∧ p ≠ a ∧ KsOk S p bs ∧ 1 ≤ w ∧ w ≤ 8) fun as S d => ∃ (p : Addr) (bs : List Bx) (w room : Int) (r : TRw), as = [.ref p, .int w, .int room] ∧ S p = some (.lst (bs.map Bx.d)) ∧ d = r.d ∧ RowR bs w room r
def t_law_template_row : WS :=
  sSeq
  (sAsg (wBin (cmpF .Gt) (wCall sp_law_take (wCons (wVar 0) (wCons (wC (.int 3)) (wNil)))) (wC (.int 0))) (.nm 4)) <|
  sSeq
  (sAsg (wCall sp_law_take (wCons (wVar 0) (wCons (wFn lenF (wCons (wVar 1) wNil)) (wNil)))) (.nm 5)) <|
  sSeq
  (sAsg (wBin ixF (wBin ixF (wVar 1) (wVar 5)) (wC (.int 1))) (.nm 6)) <|
  sSeq
  (sIf (wOrT (wNotT (wTru (wVar 4))) (wCmpT .Lt (wVar 3) (wC (.int 3)))) (sSeq (sRet (wTup (wCons (wC (.str "write")) (wCons (wVar 5) (wCons (wCall sp_law_take (wCons (wVar 0) (wCons (wVar 6) (wNil)))) (wNil)))))) sNx) (sNx)) <|
  sSeq
  (sAsg (wBin ixF (wLst (wCons (wC (.str "others")) (wCons (wC (.str "lower")) (wCons (wC (.str "higher")) (wCons (wC (.str "others")) (wNil)))))) (wCall sp_law_take (wCons (wVar 0) (wCons (wC (.int 4)) (wNil))))) (.nm 7)) <|
  sSeq
  (sAsg (wCall sp_law_numbers (wCons (wVar 0) (wCons (wVar 6) (wNil)))) (.nm 8)) <|
  sSeq (sRet (wTup (wCons (wC (.str "look")) (wCons (wVar 7) (wCons (wVar 5) (wCons (wVar 8) (wCons (wBin addF (wC (.int 1)) (wCall sp_law_take (wCons (wVar 0) (wCons (wVar 2) (wNil))))) (wNil)))))))) sNx
theorem bxs_inj {l m : List Bx} (h : l.map Bx.d = m.map Bx.d) : l = m := map_inj (fun _ _ h => by
  rename_i a b
  obtain ⟨_, _, _⟩ := a
  obtain ⟨_, _, _⟩ := b
  simp only [Bx.d, D.tup.injEq, List.cons.injEq, D.str.injEq, D.int.injEq, and_true] at h
  rw [h.1, h.2.1, h.2.2]) h
theorem call_row {S0 S : Sto} {a p : Addr} {bs : List Bx} {w room : Int} {Q : D → Sto → Prop} {E : QX} (hS : At S0 a S) (pa : p ≠ a) (k : KsOk S p bs) (w1 : 1 ≤ w) (w8 : w ≤ 8) (q : ∀ r S', RowR bs w room r → At S0 a S' → (∀ b, b ≠ a → S' b = S b) → Q r.d S') : callS sp_law_template_row [.ref a, .ref p, .int w, .int room] S Q E :=
  callS_pk hS ⟨p, bs, w, room, rfl, pa, k, w1, w8⟩ fun d S' hp hA hb => by
    obtain ⟨p', bs', w', room', r, e, e2, rfl, hr⟩ := hp
    simp only [List.cons.injEq, D.ref.injEq, D.int.injEq, and_true] at e
    obtain ⟨rfl, rfl, rfl⟩ := e
    rw [k.l] at e2
    have := bxs_inj (MO.lst.inj (Option.some.inj e2))
    subst this
    exact q r S' hr hA hb
theorem whos4 {x : D} (h : x ∈ ([.str "others", .str "lower", .str "higher", .str "others"] : List D)) : ∃ z : Str, x = .str z ∧ isWho z = true := by
  simp only [List.mem_cons, List.not_mem_nil, or_false] at h
  rcases h with rfl | rfl | rfl | rfl
  · exact ⟨_, rfl, by decide⟩
  · exact ⟨_, rfl, by decide⟩
  · exact ⟨_, rfl, by decide⟩
  · exact ⟨_, rfl, by decide⟩
theorem ok_law_template_row : BodyOk ["_law_pack_here", "_law_kinds", "_law_within", "_law_room", "_law_looks", "_law_kind", "_law_size", "_law_whom", "_law_numbers_here"] 4 sp_law_template_row t_law_template_row := by
  refine ok_pk ?_
  rintro a _ S ⟨p, bs, w, room, rfl, pa, k, w1, w8⟩ hA Nx hr
  have hr : ∀ r S', RowR bs w room r → At S a S' → Nx.rt r.d S' := fun r S' h1 h2 => hr _ _ ⟨p, bs, w, room, r, rfl, k.l, rfl, h1⟩ h2
  have b1 := k.b1
  have b2 := k.b2
  dsimp! [t_law_template_row]
  refine call_take hA (by omega) (by omega) fun x S1 x0 x1 hA1 hb1 => ?_
  have hk1 : S1 p = some (.lst (bs.map Bx.d)) := by rw [hb1 p pa]; exact k.l
  dsimp! [len_ref hk1]
  intro _
  refine call_take hA1 (by omega) (by omega) fun b S2 b0 b1' hA2 hb2 => ?_
  have hk2 : S2 p = some (.lst (bs.map Bx.d)) := by rw [hb2 p pa]; exact hk1
  obtain ⟨bx, eb, mb⟩ := getE (l := bs) (i := b.toNat) (by omega)
  have ob := k.ok bx mb
  have s2 := ob.s2
  have s5 := ob.s5
  have ab : atI (bs.map Bx.d) b = some bx.d := by
    have := atI_nat (l := bs.map Bx.d) (i := b.toNat) (x := bx.d) (by rw [List.getElem?_map, eb]; rfl)
    rwa [show ((b.toNat : Nat) : Int) = b by omega] at this
  have esz : szAt bs b = bx.size := szAt_of eb
  have wfin : ∀ (y : Int) (S9 : Sto), 0 ≤ y → y < bx.size → At S a S9 → Nx.rt (.tup [.str "write", .int b, .int y]) S9 := fun y S9 y0 y1 hA9 => hr (.wr b y) S9 ⟨fun _ _ => ⟨b0, by omega, y0, by rw [esz]; exact y1⟩, .inl rfl⟩ hA9
  dsimp! [ix_ref hk2 ab, ix_b1]
  by_cases c1 : 0 < x
  · dsimp! [c1]
    by_cases c2 : room < 3
    · dsimp! [c2]
      exact call_take hA2 (by omega) (by omega) fun y S9 y0 y1 hA9 _ => wfin y S9 y0 y1 hA9
    · dsimp! [c2]
      intro z hz
      obtain ⟨k1, k2, k3⟩ := hA2.new (o := .lst [.str "others", .str "lower", .str "higher", .str "others"]) hz
      refine call_take k1 (by omega) (by omega) fun c S3 q0 q1 hA3 hb3 => ?_
      obtain ⟨wx, _, mw, aw⟩ := atI_lt (l := [D.str "others", .str "lower", .str "higher", .str "others"]) q0 (by simpa using q1)
      obtain ⟨who, rfl, hwho⟩ := whos4 mw
      dsimp! [ix_ref (show S3 z = some (.lst [.str "others", .str "lower", .str "higher", .str "others"]) by rw [hb3 z k3, put_same]) aw]
      refine call_numbers hA3 (by omega) (by omega) fun ns S4 hns hA4 hb4 => ?_
      dsimp! []
      refine call_take hA4 (by omega) (by omega) fun tt S5 t0 t1 hA5 hb5 => ?_
      exact hr (.lk who b ns (1 + tt)) S5 ⟨fun k hk => ⟨hwho, b0, by omega, by rw [esz]; exact hns, hk, by omega, by omega⟩, .inr ⟨rfl, by omega⟩⟩ hA5
  · dsimp! [c1]
    exact call_take hA2 (by omega) (by omega) fun y S9 y0 y1 hA9 _ => wfin y S9 y0 y1 hA9
def sp_law_template : Spec := pkF (fun _ as _ => ∃ m : Int, as = [.int m] ∧ 1 ≤ m ∧ m ≤ 8) fun _ _ d => isTpl d
def t_law_template : WS :=
  sSeq
  (sAsg (wCall sp_law_take (wCons (wVar 0) (wCons (wC (.int 6)) (wNil)))) (.nm 2)) <|
  sSeq
  (sIf (wCmpT .Eq (wVar 2) (wC (.int 0))) (sSeq (sRet (wTup (wCons (wTup (wCons (wTup (wCons (wC (.str "whole")) (wCons (wC (.int 2)) (wCons (wC (.int 0)) (wNil))))) (wNil))) (wCons (wTup (wCons (wC (.int 1)) (wCons (wC (.int 3)) (wCons (wTup (wCons (wTup (wCons (wC (.str "write")) (wCons (wC (.int 0)) (wCons (wC (.int 1)) (wNil))))) (wCons (wTup (wCons (wC (.str "look")) (wCons (wC (.str "others")) (wCons (wC (.int 0)) (wCons (wTup (wCons (wC (.int 0)) (wNil))) (wCons (wC (.int 2)) (wNil))))))) (wCons (wTup (wCons (wC (.str "write")) (wCons (wC (.int 0)) (wCons (wC (.int 0)) (wNil))))) (wNil))))) (wNil))))) (wNil))))) sNx) (sNx)) <|
  sSeq
  (sIf (wCmpT .Eq (wVar 2) (wC (.int 1))) (sSeq
   (sAsg (wTup (wCons (wTup (wCons (wC (.str "write")) (wCons (wC (.int 0)) (wCons (wC (.int 0)) (wNil))))) (wCons (wTup (wCons (wC (.str "look")) (wCons (wC (.str "lower")) (wCons (wC (.int 0)) (wCons (wTup (wCons (wC (.int 0)) (wNil))) (wCons (wC (.int 2)) (wNil))))))) (wCons (wTup (wCons (wC (.str "write")) (wCons (wC (.int 0)) (wCons (wC (.int 1)) (wNil))))) (wCons (wTup (wCons (wC (.str "look")) (wCons (wC (.str "lower")) (wCons (wC (.int 0)) (wCons (wTup (wCons (wC (.int 0)) (wNil))) (wCons (wC (.int 1)) (wNil))))))) (wNil)))))) (.nm 3)) <|
   sSeq (sRet (wTup (wCons (wTup (wCons (wTup (wCons (wC (.str "whole")) (wCons (wC (.int 2)) (wCons (wC (.int 0)) (wNil))))) (wNil))) (wCons (wTup (wCons (wC (.int 0)) (wCons (wC (.int 6)) (wCons (wBin addF (wVar 3) (wTup (wCons (wTup (wCons (wC (.str "look")) (wCons (wC (.str "higher")) (wCons (wC (.int 0)) (wCons (wTup (wCons (wC (.int 0)) (wNil))) (wCons (wC (.int 5)) (wNil))))))) (wCons (wTup (wCons (wC (.str "write")) (wCons (wC (.int 0)) (wCons (wC (.int 0)) (wNil))))) (wNil))))) (wNil))))) (wNil))))) sNx) (sNx)) <|
  sSeq
  (sAsg (wLst (wNil)) (.nm 4)) <|
  sSeq
  (sFor (iR1 (wBin addF (wC (.int 1)) (wCall sp_law_take (wCons (wVar 0) (wCons (wC (.int 2)) (wNil)))))) (.nm 5) (sSeq
   (sAsg (wBin ixF (wLst (wCons (wC (.str "whole")) (wCons (wC (.str "either")) (wCons (wC (.str "torn")) (wCons (wC (.str "whole")) (wNil)))))) (wCall sp_law_take (wCons (wVar 0) (wCons (wC (.int 4)) (wNil))))) (.nm 6)) <|
   sSeq
   (sAsg (wBin addF (wC (.int 2)) (wCall sp_law_take (wCons (wVar 0) (wCons (wC (.int 2)) (wNil))))) (.nm 7)) <|
   sSeq (sExpr (wApp (wVar 4) (wTup (wCons (wVar 6) (wCons (wVar 7) (wCons (wCall sp_law_take (wCons (wVar 0) (wCons (wVar 7) (wNil)))) (wNil))))))) sNx)) <|
  sSeq
  (sAsg (wBin addF (wC (.int 1)) (wCall sp_law_take (wCons (wVar 0) (wCons (wVar 1) (wNil))))) (.nm 8)) <|
  sSeq
  (sAsg (wBin addF (wC (.int 1)) (wCall sp_law_take (wCons (wVar 0) (wCons (wVar 8) (wNil))))) (.nm 9)) <|
  sSeq
  (sAsg (wTup (wNil)) (.nm 3)) <|
  sSeq
  (sAsg (wBin subF (wC (.int 16)) (wVar 8)) (.nm 10)) <|
  sSeq
  (sFor (iR2 (wC (.int 1)) (wBin addF (wVar 8) (wC (.int 1)))) (.nm 11) (sSeq
   (sAsg (wTup (wCons (wC (.str "write")) (wCons (wC (.int 0)) (wCons (wC (.int 0)) (wNil))))) (.nm 12)) <|
   sSeq
   (sIf (wCmpT .Lt (wVar 11) (wVar 9)) (sSeq (sAsg (wCall sp_law_template_row (wCons (wVar 0) (wCons (wVar 4) (wCons (wVar 9) (wCons (wBin addF (wVar 10) (wC (.int 1))) (wNil)))))) (.nm 12)) sNx) (sSeq
    (sAsg (wCall sp_law_take (wCons (wVar 0) (wCons (wFn lenF (wCons (wVar 4) wNil)) (wNil)))) (.nm 13)) <|
    sSeq (sAsg (wTup (wCons (wC (.str "write")) (wCons (wVar 13) (wCons (wCall sp_law_take (wCons (wVar 0) (wCons (wBin ixF (wBin ixF (wVar 4) (wVar 13)) (wC (.int 1))) (wNil)))) (wNil))))) (.nm 12)) sNx)) <|
   sSeq
   (sAsg (wBin addF (wVar 3) (wTup (wCons (wVar 12) (wNil)))) (.nm 3)) <|
   sSeq (sAsg (wBin subF (wVar 10) (wBin mulF (wC (.int 2)) (wFn intF (wCons (wBin (cmpF .Eq) (wBin ixF (wVar 12) (wC (.int 0))) (wC (.str "look"))) wNil)))) (.nm 10)) sNx)) <|
  sSeq (sRet (wTup (wCons (wQf tupF (qOf (wVar 4))) (wCons (wTup (wCons (wCall sp_law_take (wCons (wVar 0) (wCons (wVar 9) (wNil)))) (wCons (wVar 9) (wCons (wVar 3) (wNil))))) (wNil))))) sNx
theorem call_law_template {S0 S : Sto} {a : Addr} {m : Int} {Q : D → Sto → Prop} {E : QX} (hS : At S0 a S) (m1 : 1 ≤ m) (m8 : m ≤ 8) (q : ∀ t S', Tp.ok t → At S0 a S' → Q (Tp.d t) S') : callS sp_law_template [.ref a, .int m] S Q E :=
  callS_pk hS ⟨m, rfl, m1, m8⟩ fun d S' ⟨t, e, o⟩ hA _ => by rw [e]; exact q t S' o hA
theorem kinds4 {x : D} (h : x ∈ ([.str "whole", .str "either", .str "torn", .str "whole"] : List D)) : ∃ z : Str, x = .str z ∧ isKd (.str z) = true := by
  simp only [List.mem_cons, List.not_mem_nil, or_false] at h
  rcases h with rfl | rfl | rfl | rfl
  · exact ⟨_, rfl, by decide⟩
  · exact ⟨_, rfl, by decide⟩
  · exact ⟨_, rfl, by decide⟩
  · exact ⟨_, rfl, by decide⟩
theorem ok_law_template : BodyOk ["_law_pack_here", "_law_most", "_law_pick", "_law_rows", "_law_kinds", "_law_turn", "_law_word", "_law_size", "_law_many", "_law_within", "_law_room", "_law_place", "_law_row", "_law_kind"] 2 sp_law_template t_law_template := by
  refine ok_pk ?_
  rintro a _ S ⟨m, rfl, m1, m8⟩ hA Nx hr
  rw [t_law_template]
  refine seq_gen (fun ρ S' => ∃ z : Int, At S a S' ∧ ρ = [some (.ref a), some (.int m), some (.int z), none, none, none, none, none, none, none, none, none, none, none]) ?_ fun T hT => ?_
  rotate_left
  · dsimp! []
    exact call_take hA (by omega) (by omega) fun z S1 z0 z1 hA1 _ => hT _ _ ⟨z, hA1, rfl⟩
  rintro ρ S1 ⟨z, hA1, rfl⟩
  refine seq_gen (fun ρ S' => At S a S' ∧ ρ = [some (.ref a), some (.int m), some (.int z), none, none, none, none, none, none, none, none, none, none, none]) ?_ fun T hT => ?_
  rotate_left
  · by_cases c : z = 0
    · dsimp! [c]
      exact hr _ _ ⟨flagsT, rfl, flagsT_ok⟩ hA1
    · dsimp! [c]
      exact hT _ _ ⟨hA1, rfl⟩
  rintro ρ S1 ⟨hA1, rfl⟩
  refine seq_gen (fun ρ S' => At S a S' ∧ ρ = [some (.ref a), some (.int m), some (.int z), none, none, none, none, none, none, none, none, none, none, none]) ?_ fun T hT => ?_
  rotate_left
  · by_cases c : z = 1
    · dsimp! [c]
      refine ⟨by decide, hr _ _ ⟨onebitT, rfl, onebitT_ok⟩ hA1⟩
    · dsimp! [c]
      exact hT _ _ ⟨hA1, rfl⟩
  rintro ρ S1 ⟨hA1, rfl⟩
  refine seq_gen (fun ρ S' => ∃ p, At S a S' ∧ S p = none ∧ p ≠ a ∧ S' p = some (.lst []) ∧ ρ = [some (.ref a), some (.int m), some (.int z), none, some (.ref p), none, none, none, none, none, none, none, none, none]) ?_ fun T hT => ?_
  rotate_left
  · dsimp! []
    intro p hp
    obtain ⟨h1, h2, h3⟩ := hA1.new (o := .lst []) hp
    exact hT _ _ ⟨p, h1, h2, h3, put_same, rfl⟩
  rintro ρ S1 ⟨p, hA1, hp, pa, hl, rfl⟩
  refine seq_gen (fun ρ S' => ∃ bs : List Bx, At S a S' ∧ KsOk S' p bs ∧ ∃ u5 u6 u7, ρ = [some (.ref a), some (.int m), some (.int z), none, some (.ref p), u5, u6, u7, none, none, none, none, none, none]) ?_ fun T hT => ?_
  rotate_left
  · dsimp! []
    refine call_take hA1 (by omega) (by omega) fun n S2 n0 n1 hA2 hb => ?_
    dsimp! []
    refine ⟨by unfold rgOk sizeLine; omega, ?_⟩
    refine for_rng (fun j ρ S' => 0 ≤ j ∧ ∃ bs : List Bx, At S a S' ∧ S' p = some (.lst (bs.map Bx.d)) ∧ (∀ b ∈ bs, b.ok) ∧ (bs.length : Int) = j ∧ ∃ u5 u6 u7, ρ = [some (.ref a), some (.int m), some (.int z), none, some (.ref p), u5, u6, u7, none, none, none, none, none, none]) ?_ ?_ (by omega) ⟨by omega, [], hA2, by rw [hb p pa]; exact hl, (fun b hb => by cases hb), rfl, _, _, _, rfl⟩
    · rintro j ρ S3 hj ⟨j0, bs, hA3, hq, bok, bl, u5, u6, u7, rfl⟩
      refine ⟨chk_nil, _, rfl, fun R hR => ?_⟩
      dsimp! []
      intro y hy
      obtain ⟨g1, g2, g3⟩ := hA3.new (o := .lst [.str "whole", .str "either", .str "torn", .str "whole"]) hy
      have yp : p ≠ y := fun e => by rw [e, hy] at hq; cases hq
      refine call_take g1 (by omega) (by omega) fun c S4 c0 c1 hA4 hb4 => ?_
      obtain ⟨kx, _, mk, ak⟩ := atI_lt (l := [D.str "whole", .str "either", .str "torn", .str "whole"]) c0 (by simpa using c1)
      obtain ⟨kd, rfl, hkd⟩ := kinds4 mk
      have hq4 : S4 p = some (.lst (bs.map Bx.d)) := by rw [hb4 p pa, put_ne yp]; exact hq
      dsimp! [ix_ref (show S4 y = some (.lst [.str "whole", .str "either", .str "torn", .str "whole"]) by rw [hb4 y g3, put_same]) ak]
      refine call_take hA4 (by omega) (by omega) fun s S5 s0 s1 hA5 hb5 => ?_
      have hq5 : S5 p = some (.lst (bs.map Bx.d)) := by rw [hb5 p pa]; exact hq4
      dsimp! []
      refine ⟨p, _, rfl, hq5, ?_⟩
      refine call_take hA5 (by omega) (by omega) fun st S6 st0 st1 hA6 hb6 => ?_
      have hq6 : S6 p = some (.lst (bs.map Bx.d)) := by rw [hb6 p pa]; exact hq5
      refine ⟨_, hq6, by rw [List.length_map]; unfold sizeLine; omega, ?_⟩
      refine hR _ _ ⟨by omega, bs ++ [⟨kd, 2 + s, st⟩], hA6.own hp pa, by rw [put_same, List.map_append]; rfl, fun b hb => ?_, by simp; omega, _, _, _, rfl⟩
      rcases List.mem_append.mp hb with h | h
      · exact bok b h
      · rw [List.mem_singleton.mp h]; exact ⟨hkd, by show 2 ≤ 2 + s; omega, by show 2 + s ≤ 5; omega, st0, st1⟩
    · rintro ρ S3 ⟨j0, bs, hA3, hq, bok, bl, u5, u6, u7, rfl⟩
      exact ⟨chk_nil, hT _ _ ⟨bs, hA3, ⟨hq, bok, by omega, by omega⟩, _, _, _, rfl⟩⟩
  rintro ρ S2 ⟨bs, hA2, ks, u5, u6, u7, rfl⟩
  have b1 := ks.b1
  have b2 := ks.b2
  dsimp! []
  refine call_take hA2 (by omega) (by omega) fun n S3 n0 n1 hA3 hb3 => ?_
  dsimp! []
  refine call_take hA3 (by omega) (by omega) fun w S4 w0 w1 hA4 hb4 => ?_
  have ks4 : KsOk S4 p bs := ⟨by rw [hb4 p pa, hb3 p pa]; exact ks.l, ks.ok, b1, b2⟩
  dsimp! []
  refine ⟨by unfold rgOk sizeLine; omega, ?_⟩
  refine for_rng (fun j ρ S' => 1 ≤ j ∧ ∃ rs : List TRw, At S a S' ∧ KsOk S' p bs ∧ trowsOk bs (1 + w) 1 rs ∧ (rs.length : Int) = j - 1 ∧ 0 ≤ 16 - (1 + n) - (tog rs - rs.length) ∧ ∃ u11 u12 u13, ρ = [some (.ref a), some (.int m), some (.int z), some (.tup (rs.map TRw.d)), some (.ref p), u5, u6, u7, some (.int (1 + n)), some (.int (1 + w)), some (.int (16 - (1 + n) - (tog rs - rs.length))), u11, u12, u13]) ?_ ?_ (by omega) ⟨by omega, [], hA4, ks4, trivial, rfl, by simp [tog]; omega, none, none, none, by simp [tog]⟩
  · rintro j ρ S6 hj ⟨j1, rs, hA6, ks6, rok, rl, lf, u11, u12, u13, rfl⟩
    refine ⟨chk_nil, _, rfl, fun R hR => ?_⟩
    have e1 : (("write" : Str) == "look") = false := rfl
    have e2 : (("look" : Str) == "look") = true := rfl
    have wfin : ∀ (r : TRw) (cc : Int) (S9 : Sto) (uu : Option D), r.ok bs (1 + w) j → tog1 r = 1 + 2 * cc → 0 ≤ 16 - (1 + n) - (tog rs - rs.length) - 2 * cc → At S a S9 → KsOk S9 p bs → R [some (.ref a), some (.int m), some (.int z), some (.tup (rs.map TRw.d ++ [r.d])), some (.ref p), u5, u6, u7, some (.int (1 + n)), some (.int (1 + w)), some (.int (16 - (1 + n) - (tog rs - rs.length) - 2 * cc)), some (.int j), some r.d, uu] S9 := fun r cc S9 uu ro tr lc hA9 ks9 => by
      have e3 : 16 - (1 + n) - (tog rs - rs.length) - 2 * cc = 16 - (1 + n) - (tog (rs ++ [r]) - ((rs ++ [r]).length : Nat)) := by
        rw [tog_app, List.length_append, List.length_singleton, tr]; push_cast; omega
      refine hR _ _ ⟨by omega, rs ++ [r], hA9, ks9, trows_app rok (by rw [rl]; rw [show 1 + (j - 1) = j by omega]; exact ro), by simp; omega, by rw [← e3]; exact lc, some (.int j), some r.d, uu, ?_⟩
      rw [← e3, List.map_append]
      rfl
    dsimp! []
    by_cases c : j < 1 + w
    · dsimp! [c]
      refine call_row hA6 pa ks6 (by omega) (by omega) fun r S7 rr hA7 hb7 => ?_
      have ks7 : KsOk S7 p bs := ⟨by rw [hb7 p pa]; exact ks6.l, ks6.ok, b1, b2⟩
      cases r with
      | wr b v =>
        dsimp! [ix_r0, e1]
        exact ⟨small (by omega), mul_two, wfin (.wr b v) 0 S7 u13 (rr.1 j c) rfl (by omega) hA7 ks7⟩
      | lk who b ns tt =>
        dsimp! [ix_l0, e2]
        have h3 : 3 ≤ 16 - (1 + n) - (tog rs - rs.length) + 1 := by
          rcases rr.2 with z | z
          · cases z
          · exact z.2
        exact ⟨small (by omega), mul_two, wfin (.lk who b ns tt) 1 S7 u13 (rr.1 j c) rfl (by omega) hA7 ks7⟩
    · dsimp! [c, len_ref ks6.l]
      intro _
      refine call_take hA6 (by omega) (by omega) fun b S7 b0 b1' hA7 hb7 => ?_
      have ks7 : KsOk S7 p bs := ⟨by rw [hb7 p pa]; exact ks6.l, ks6.ok, b1, b2⟩
      obtain ⟨bx, eb, mb⟩ := getE (l := bs) (i := b.toNat) (by omega)
      have ob := ks6.ok bx mb
      have s2 := ob.s2
      have s5 := ob.s5
      have ab : atI (bs.map Bx.d) b = some bx.d := by
        have := atI_nat (l := bs.map Bx.d) (i := b.toNat) (x := bx.d) (by rw [List.getElem?_map, eb]; rfl)
        rwa [show ((b.toNat : Nat) : Int) = b by omega] at this
      have esz : szAt bs b = bx.size := szAt_of eb
      dsimp! [ix_ref ks7.l ab, ix_b1]
      refine call_take hA7 (by omega) (by omega) fun y S8 y0 y1 hA8 hb8 => ?_
      have ks8 : KsOk S8 p bs := ⟨by rw [hb8 p pa]; exact ks7.l, ks6.ok, b1, b2⟩
      dsimp! [ix30, e1]
      exact ⟨small (by omega), mul_two, wfin (.wr b y) 0 S8 _ ⟨b0, by omega, y0, by rw [esz]; exact y1⟩ rfl (by omega) hA8 ks8⟩
  · rintro ρ S6 ⟨j1, rs, hA6, ks6, rok, rl, lf, u11, u12, u13, rfl⟩
    refine ⟨chk_nil, ?_⟩
    dsimp! []
    refine ⟨_, by simp only [itemsQ, itemsL, ks6.l]; rfl, ?_⟩
    refine call_take hA6 (by omega) (by omega) fun dr S7 d0 d1 hA7 hb7 => ?_
    refine hr _ _ ⟨⟨bs, dr, 1 + w, rs⟩, rfl, ks.ok, b1, b2, by show 1 ≤ rs.length; omega, by show rs.length ≤ 8; omega, by show 1 ≤ 1 + w; omega, by show 1 + w ≤ rs.length; omega, d0, d1, rok, by show tog rs ≤ 16; omega⟩ hA7
end Ow.T46

namespace Ow.K46
open PySem PySem.Spec PyProof.Rows L2
local macro_rules | `(tactic| dsimp! [$ts,*]) => `(tactic| try simp only [$ts,*, sSeq, sRet, sRetN, sIf, sAsg, sExpr, sNx, sBk, sCt, sNever, sRaise, sRaiseF, sFor, sSub, wAndV, wOrV, wNotV, wAndT, wOrT, wNotT, wTru, wCmpT, wChT, wChV, wBin, wUn, wVar, wC, wCons, wNil, wTup, wIfE, wIsi, wFn, wQf, qLst, qOf, wCall, wCall0, wLc, wYes, iOf, iR1, iR2, iEn, iHid, wNew, wLst, wSl, wNoP, wP, ex_ss, ex_some, ex_eq, ex_int, ex_two, startD, List.map_cons, List.map_nil, List.length_cons, List.length_nil, List.replicate, List.cons_append, List.nil_append, List.getElem?_cons_zero, List.getElem?_cons_succ, List.set_cons_zero, List.set_cons_succ, wipeD, asg_nm, asg_tp, asgs_nil, asgs_cons, Option.bind_some, tru_bl, tru_int, tru_tup, cmpF, cmpD, lt_int, eq_int, eq_str, eq_bl, Option.map_some, sub_int, add_int, add_tup, fdiv_int, mod_int, pow_int, shl_int, shr_int, band_int, mul_int, int_bl, dm_int, max_int, min_int, len_tup, len_fl, Nat.reduceAdd, Nat.reduceSub, if_true, Bool.not_true, Bool.not_false, Bool.false_eq_true, if_false, tupF, allF, anyF, lenQF, Nat.zero_add, Nat.sub_self, wApp, wExt, iZip, ix_w0, ix_w1, ix_s0, ix_s1, ix_p0, ix_p1, ix_p2, ix_b0, ix_b1, ix_b2, ix_wr0, ix_wr1, ix_wr2, ix_lk0, ix_lk1, ix_lk2, ix_lk3, asg_w, asg_s, asg_p, asg_b, asg_wr, asg_lk, len_h, len_b, len_map, src_h, src_b, src_t, srcD_t, sl_h, sl_b, ix20, ix21, sl_tup, in_ints, decide_true, decide_false, List.length_map, neg_int, isi_ib, isi_ii, isi_it, isi_bb, isi_bi, isi_tt, isi_tb, isi_ti, isi_ss, isi_nb, isi_ni, isi_nt, isi_ob, isi_wt, isi_sdt])
local macro_rules | `(tactic| dsimp! []) => `(tactic| try simp only [sSeq, sRet, sRetN, sIf, sAsg, sExpr, sNx, sBk, sCt, sNever, sRaise, sRaiseF, sFor, sSub, wAndV, wOrV, wNotV, wAndT, wOrT, wNotT, wTru, wCmpT, wChT, wChV, wBin, wUn, wVar, wC, wCons, wNil, wTup, wIfE, wIsi, wFn, wQf, qLst, qOf, wCall, wCall0, wLc, wYes, iOf, iR1, iR2, iEn, iHid, wNew, wLst, wSl, wNoP, wP, ex_ss, ex_some, ex_eq, ex_int, ex_two, startD, List.map_cons, List.map_nil, List.length_cons, List.length_nil, List.replicate, List.cons_append, List.nil_append, List.getElem?_cons_zero, List.getElem?_cons_succ, List.set_cons_zero, List.set_cons_succ, wipeD, asg_nm, asg_tp, asgs_nil, asgs_cons, Option.bind_some, tru_bl, tru_int, tru_tup, cmpF, cmpD, lt_int, eq_int, eq_str, eq_bl, Option.map_some, sub_int, add_int, add_tup, fdiv_int, mod_int, pow_int, shl_int, shr_int, band_int, mul_int, int_bl, dm_int, max_int, min_int, len_tup, len_fl, Nat.reduceAdd, Nat.reduceSub, if_true, Bool.not_true, Bool.not_false, Bool.false_eq_true, if_false, tupF, allF, anyF, lenQF, Nat.zero_add, Nat.sub_self, wApp, wExt, iZip, ix_w0, ix_w1, ix_s0, ix_s1, ix_p0, ix_p1, ix_p2, ix_b0, ix_b1, ix_b2, ix_wr0, ix_wr1, ix_wr2, ix_lk0, ix_lk1, ix_lk2, ix_lk3, asg_w, asg_s, asg_p, asg_b, asg_wr, asg_lk, len_h, len_b, len_map, src_h, src_b, src_t, srcD_t, sl_h, sl_b, ix20, ix21, sl_tup, in_ints, decide_true, decide_false, List.length_map, neg_int, isi_ib, isi_ii, isi_it, isi_bb, isi_bi, isi_tt, isi_tb, isi_ti, isi_ss, isi_nb, isi_ni, isi_nt, isi_ob, isi_wt, isi_sdt])
def sp_law_template_row : Spec := T46.sp_law_template_row
def t_law_template_row : WS := T46.t_law_template_row
theorem ok_law_template_row : BodyOk ["_law_pack_here", "_law_kinds", "_law_within", "_law_room", "_law_looks", "_law_kind", "_law_size", "_law_whom", "_law_numbers_here"] 4 sp_law_template_row t_law_template_row := T46.ok_law_template_row
def sp_law_template : Spec := T46.sp_law_template
def t_law_template : WS := T46.t_law_template
theorem ok_law_template : BodyOk ["_law_pack_here", "_law_most", "_law_pick", "_law_rows", "_law_kinds", "_law_turn", "_law_word", "_law_size", "_law_many", "_law_within", "_law_room", "_law_place", "_law_row", "_law_kind"] 2 sp_law_template t_law_template := T46.ok_law_template
theorem sd_eq {S : Sto} {s : Sd} : eqD S s.d s.d = some true := eqD_tup (by simp only [okDs, okD_ints]; rfl)
theorem via {S S1 S' : Sto} {a : Addr} (h : At S a S1) (k : At S1 a S') : At S a S' := by
  obtain ⟨n, hn⟩ := k
  obtain ⟨m, hm⟩ := h
  refine ⟨n, fun c o e => ?_⟩
  by_cases hc : c = a
  · subst hc
    rw [put_same] at e
    exact hn _ _ (by rw [put_same]; exact e)
  · rw [put_ne hc] at e
    exact hn c o (by rw [put_ne hc]; exact hm c o (by rw [put_ne hc]; exact e))
theorem okD_psd {n : Nat} {q : PStp × Sd} : okD (n + 3) (psd q) = true := by
  obtain ⟨⟨h, c⟩, s⟩ := q
  have : okD (n + 1) c.d = true := by
    cases c with
    | non => rfl
    | num i => rfl
    | on => show PyData.strOk _ = true; decide +kernel
    | back => show PyData.strOk _ = true; decide +kernel
  simp only [psd, PStp.d, okD, okDs, okD_sd, okD_int, this]
  rfl
def sp_law_right : Spec := pkF (fun _ as _ => ∃ t : Tp, as = [t.d] ∧ t.ok) fun _ _ d => d = .bl true
def t_law_right : WS :=
  sSeq
  (sAsg (wBin addF (wCall sp_law_first_pairs (wCons (wVar 1) (wCons (wC (.int 80)) (wNil)))) (wNew (wLc (iR1 (wC (.int 8))) (.nm 6) [6] (wYes) (wCall sp_law_drawn_pair (wCons (wVar 0) (wCons (wVar 1) (wNil))))))) (.nm 2)) <|
  sSeq
  (sAsg (wTup (wCons (wTup (wCons (wC (.int 0)) (wCons (wC (.int 0)) (wNil)))) (wCons (wQf tupF (qLst (wLc (iOf (wBin mulF (wBin ixF (wVar 1) (wC (.int 0))) (wC (.int 2)))) (.tp [.nm 7, .nm 8, .nm 9]) [7, 8, 9] (wYes) (wVar 9)))) (wNil)))) (.nm 3)) <|
  sSeq
  (sIf (wCmpT .NotEq (wCall sp_first_pair (wCons (wVar 1) (wNil))) (wVar 3)) (sSeq (sRet (wC (.bl false))) sNx) (sNx)) <|
  sSeq
  (sFor (iOf (wVar 2)) (.nm 4) (sSeq
   (sAsg (wCall sp_pair_steps (wCons (wVar 1) (wCons (wVar 4) (wNil)))) (.nm 5)) <|
   sSeq
   (sIf (wOrT (wNotT (wTru (wIsi (wVar 5) .tuple))) (wCmpT .NotEq (wVar 5) (wQf tupF (qOf (wCall sp_law_pair_next (wCons (wVar 1) (wCons (wVar 4) (wNil)))))))) (sSeq (sRet (wC (.bl false))) sNx) (sNx)) <|
   sSeq (sIf (wOrT (wTru (wQf anyF (qLst (wLc (iOf (wVar 5)) (.tp [.tp [.nm 10, .nm 11], .nm 12]) [10, 11, 12] (wYes) (wIsi (wVar 11) .bool))))) (wCmpT .NotEq (wCall sp_pair_steps (wCons (wVar 1) (wCons (wVar 4) (wNil)))) (wVar 5))) (sSeq (sRet (wC (.bl false))) sNx) (sNx)) sNx)) <|
  sSeq (sRet (wC (.bl true))) sNx
theorem call_right {S0 S : Sto} {a : Addr} {t : Tp} {Q : D → Sto → Prop} {E : QX} (hS : At S0 a S) (ot : t.ok) (q : ∀ S', At S0 a S' → Q (.bl true) S') : callS sp_law_right [.ref a, t.d] S Q E :=
  callS_pk hS ⟨t, rfl, ot⟩ fun d S' hp hA _ => by rw [hp]; exact q S' hA
theorem ok_law_right : BodyOk ["_law_pack_here", "_law_template_here", "_law_rows", "_law_first", "_law_pair", "_law_found", "_law_turn", "_law_word", "_law_size", "_law_start", "_law_hand", "_law_what", "_law_there"] 2 sp_law_right t_law_right := by
  refine ok_pk ?_
  rintro a _ S ⟨t, rfl, ot⟩ hA Nx hr
  dsimp! [t_law_right]
  refine call_first_pairs (m := 80) ot (by decide) (by decide) fun p l hp hl ln => ?_
  obtain ⟨hA1, hp0, pa⟩ := hA.new (o := .lst (l.map Sd.d)) hp
  have hl1 : put S p (.lst (l.map Sd.d)) p = some (.lst (l.map Sd.d)) := put_same
  generalize put S p (.lst (l.map Sd.d)) = S1 at hA1 hl1
  obtain ⟨n1, hn1⟩ := hA1.cell
  have hB := At.start hn1
  dsimp! []
  refine ⟨rg_ok (by unfold sizeLine; omega) (by omega), ?_⟩
  rw [torn_rng]
  refine lc_draw D.int Sd.d (fun _ s => PrOk t s) (fun S' => At S1 a S') (fun _ _ => chk_nil) (fun i _ S' hA' => ⟨_, rfl, fun Q q => ?_⟩) hB fun ys S2 ha hB2 => ?_
  · dsimp! []
    exact call_drawn_pair hA' ot fun s S3 o hA3 => q s S3 o hA3
  rw [List.nil_append]
  have yl := ha.len
  rw [List.length_map, List.length_range] at yl
  have yo : ∀ s ∈ ys, PrOk t s := fun s hs => by
    obtain ⟨_, _, o⟩ := ha.mem s hs
    exact o
  have hl2 : S2 p = some (.lst (l.map Sd.d)) := by
    obtain ⟨n2, h2⟩ := hB2
    exact h2 p _ (by rw [put_ne pa]; exact hl1)
  have hA2 := via hA1 hB2
  intro q hq
  obtain ⟨hA3, hq0, qa⟩ := hA2.new (o := .lst (ys.map Sd.d)) hq
  have pq : p ≠ q := fun e => by rw [e, hq] at hl2; cases hl2
  have hl3 : put S2 q (.lst (ys.map Sd.d)) p = some (.lst (l.map Sd.d)) := by rw [put_ne pq]; exact hl2
  have hy3 : put S2 q (.lst (ys.map Sd.d)) q = some (.lst (ys.map Sd.d)) := put_same
  generalize put S2 q (.lst (ys.map Sd.d)) = S3 at hA3 hl3 hy3
  have yl2 : ys.length = 8 := yl
  refine add_rr hl3 hy3 (by rw [List.length_map, List.length_map]; unfold sizeLine; omega) fun r hr3 => ?_
  rw [← List.map_append]
  obtain ⟨hA4, hr0, ra⟩ := hA3.new (o := .lst ((l ++ ys).map Sd.d)) hr3
  have hr4 : put S3 r (.lst ((l ++ ys).map Sd.d)) r = some (.lst ((l ++ ys).map Sd.d)) := put_same
  generalize put S3 r (.lst ((l ++ ys).map Sd.d)) = S4 at hA4 hr4
  have ok4 : ∀ s ∈ l ++ ys, PrOk t s := fun s hs => by
    rcases List.mem_append.mp hs with h | h
    · exact hl s h
    · exact yo s h
  generalize l ++ ys = rows at hr4 ok4
  dsimp! [ix_t0, mul_kinds ot]
  refine lc_map chk_nil Bx.d (fun _ => true) (fun b => .int b.start) (fun b _ => ⟨_, rfl, fun Q E q => q, fun _ Q E q => ?_⟩) ?_
  · dsimp! []; exact q
  rw [filtM, List.nil_append]
  have e0 : D.tup [.tup [.int 0, .int 0], .tup ((t.kinds ++ t.kinds).map fun b => D.int b.start)] = (firstP t).d := by
    unfold firstP Sd.d
    simp only [List.map_map]
    rfl
  dsimp! [e0, call_first_pair ot, sd_eq, src_ref hr4]
  refine for_map Sd.d (fun cs ρ S' => (∀ s ∈ cs, PrOk t s) ∧ At S a S' ∧ S' r = some (.lst (rows.map Sd.d)) ∧ ∃ u4 u5, ρ = [some (.ref a), some t.d, some (.ref r), some (firstP t).d, u4, u5, none, none, none, none, none, none, none]) ?_ ?_ ⟨ok4, hA4, hr4, _, _, rfl⟩
  · rintro s cs ρ S5 ⟨oc, hA5, hr5, u4, u5, rfl⟩
    have os := oc s (by simp)
    refine ⟨chk_one.mpr hr5, _, rfl, fun R hR => ?_⟩
    have okp : okDs 59 ((pmoves t s).map psd) = true := okDs_map (fun _ => okD_psd (n := 56)) _
    dsimp! [call_pair_steps ot os]
    refine call_pair_next ot os fun z hz => ?_
    obtain ⟨hA6, _, _⟩ := hA5.new (o := .lst ((pmoves t s).map psd)) hz
    have rz : r ≠ z := fun e => by rw [e, hz] at hr5; cases hr5
    have hr6 : put S5 z (.lst ((pmoves t s).map psd)) r = some (.lst (rows.map Sd.d)) := by rw [put_ne rz]; exact hr5
    have iq : itemsQ (put S5 z (.lst ((pmoves t s).map psd))) (.ref z) = some (false, (pmoves t s).map psd) := by simp only [itemsQ, itemsL, put_same]; rfl
    generalize put S5 z (.lst ((pmoves t s).map psd)) = S6 at hA6 hr6 iq
    dsimp! [iq, eqD_tup okp]
    refine lc_map chk_nil psd (fun _ => true) (fun _ => .bl false) (fun x hx => ⟨_, rfl, fun Q E q => q, fun _ Q E q => ?_⟩) ?_
    · obtain ⟨⟨xh, xc⟩, xs⟩ := x
      cases xc <;> (dsimp! [Lb.d]; first | exact q | exact ⟨false, rfl, q⟩)
    rw [filtM, List.nil_append]
    refine ⟨trivial, allM_bl (f := fun _ => false), ?_⟩
    rw [anyM_yes (f := fun _ => false)]
    dsimp! [show ((pmoves t s).any fun _ => false) = false by simp, call_pair_steps ot os, eqD_tup okp]
    exact hR _ _ ⟨fun x hx => oc x (by simp [hx]), hA6, hr6, _, _, rfl⟩
  · rintro ρ S5 ⟨oc, hA5, hr5, u4, u5, rfl⟩
    refine ⟨chk_one.mpr hr5, ?_⟩
    dsimp! []
    exact hr _ _ rfl hA5
def sp_law : Spec := spLaw
def t_law : WS :=
  sSeq
  (sFor (iR3 (wC (.int 0)) (wFn maxF (wCons (wC (.int 1)) (wCons (wFn minF (wCons (wFn lenF (wCons (wVar 0) wNil)) (wCons (wC (.int 6)) (wNil)))) (wNil)))) (wC (.int 2))) (.nm 1) (sSeq (sIf (wNotT (wTru (wCall sp_law_right (wCons (wCall sp_law_pack (wCons (wVar 0) (wCons (wBin addF (wVar 1) (wC (.int 1))) (wNil)))) (wCons (wCall sp_law_template (wCons (wCall sp_law_pack (wCons (wVar 0) (wCons (wVar 1) (wNil)))) (wCons (wC (.int 6)) (wNil)))) (wNil)))))) (sSeq (sRet (wC (.bl false))) sNx) (sNx)) sNx)) <|
  sSeq (sRet (wC (.bl true))) sNx
theorem ok_law : BodyOk ["_law_script", "_law_k"] 1 sp_law t_law := by
  refine ok_spLaw fun ns S Nx hn hr => ?_
  dsimp! [t_law, iR3, len_scr]
  intro _
  obtain ⟨n, hR, nl, hk⟩ := rgc (j := max 1 (min (ns.length : Int) 6)) (c := 2) (by omega) (by omega) (.inl rfl)
  refine ⟨0, _, 2, n, rfl, rfl, rfl, hR, nl, ?_⟩
  refine for_each _ (fun ρ S' => Sub S S' ∧ ∃ u1, ρ = [some (scr ns), u1]) ?_ ?_ hk ⟨Sub.refl, _, rfl⟩
  · rintro d ρ S' ⟨k, rfl, k0, k1⟩ ⟨hS, u1, rfl⟩
    refine ⟨chk_nil, _, rfl, fun R hR => ?_⟩
    dsimp! []
    refine call_pack hS (by omega) (by omega) (by omega) fun p S1 hp hA => ?_
    dsimp! []
    refine call_pack Sub.refl (by omega) (by omega) (by omega) fun p2 S2 hp2 hA2 => ?_
    refine T46.call_law_template hA2 (by decide) (by decide) fun t S3 ot hA3 => ?_
    obtain ⟨m, hm⟩ := hA
    have hA4 : At S p S3 := ⟨m, hm.trans (hA3.sub hp2)⟩
    refine call_right hA4 ot fun S4 hA5 => ?_
    dsimp! []
    exact hR _ _ ⟨hA5.sub hp, _, rfl⟩
  · rintro ρ S' ⟨hS, u1, rfl⟩
    refine ⟨chk_nil, ?_⟩
    dsimp! []
    exact hr S' hS
end Ow.K46
namespace Ow.K46
open PySem PySem.Spec PyProof.Rows L2
theorem sc_law_put : FnScope ["_law_some", "_law_at", "_law_one"] ["_law_some", "_law_at", "_law_one"] (defScope (top 44)) := ⟨rfl, rfl, rfl, by decide +kernel, rfl, by decide +kernel, by decide +kernel⟩
theorem c_law_put : (body ⟨["_law_some", "_law_at", "_law_one"], defScope (top 44), [], true, true⟩ (defBody (top 44))).map CSs.t = some t_law_put := by kernel_rfl
theorem sc_law_has : FnScope ["_law_hand", "_law_row"] ["_law_hand", "_law_row"] (defScope (top 47)) := ⟨rfl, rfl, rfl, by decide +kernel, rfl, by decide +kernel, by decide +kernel⟩
theorem c_law_has : (body ⟨["_law_hand", "_law_row"], defScope (top 47), [], true, true⟩ (defBody (top 47))).map CSs.t = some t_law_has := by kernel_rfl
theorem sc_law_heard : FnScope ["_law_template_here", "_law_pair", "_law_hand", "_law_kind", "_law_kinds", "_law_program", "_law_spots", "_law_values", "_law_there", "_law_spot_here", "_law_row"] ["_law_template_here", "_law_pair", "_law_hand", "_law_kind"] (defScope (top 48)) := ⟨rfl, rfl, rfl, by decide +kernel, rfl, by decide +kernel, by decide +kernel⟩
theorem c_law_heard : (body ⟨["_law_template_here", "_law_pair", "_law_hand", "_law_kind", "_law_kinds", "_law_program", "_law_spots", "_law_values", "_law_there", "_law_spot_here", "_law_row"], defScope (top 48), [("len", .blt), ("list", .blt), ("range", .blt), ("sorted", .blt), ("set", .blt)], true, true⟩ (defBody (top 48))).map CSs.t = some t_law_heard := by kernel_rfl
theorem sc_law_pair_hand : FnScope ["_law_template_here", "_law_pair", "_law_hand", "_law_kinds", "_law_program", "_law_rows", "_law_spots", "_law_values", "_law_spot_here", "_law_row", "_law_onward", "_law_back", "_law_found", "_law_told"] ["_law_template_here", "_law_pair", "_law_hand"] (defScope (top 49)) := ⟨rfl, rfl, rfl, by decide +kernel, rfl, by decide +kernel, by decide +kernel⟩
theorem c_law_pair_hand : (body ⟨["_law_template_here", "_law_pair", "_law_hand", "_law_kinds", "_law_program", "_law_rows", "_law_spots", "_law_values", "_law_spot_here", "_law_row", "_law_onward", "_law_back", "_law_found", "_law_told"], defScope (top 49), [("_law_put", .fn 3 sp_law_put), ("len", .blt), ("_law_has", .fn 2 sp_law_has), ("_law_heard", .fn 4 sp_law_heard), ("int", .blt)], true, true⟩ (defBody (top 49))).map CSs.t = some t_law_pair_hand := by kernel_rfl
theorem sc_law_pair_next : FnScope ["_law_template_here", "_law_pair"] ["_law_template_here", "_law_pair"] (defScope (top 50)) := ⟨rfl, rfl, rfl, by decide +kernel, rfl, by decide +kernel, by decide +kernel⟩
theorem c_law_pair_next : (body ⟨["_law_template_here", "_law_pair"], defScope (top 50), [("_law_pair_hand", .fn 3 sp_law_pair_hand)], true, true⟩ (defBody (top 50))).map CSs.t = some t_law_pair_next := by kernel_rfl
theorem sc_law_first_pairs : FnScope ["_law_template_here", "_law_most", "_law_rows", "_law_at", "_law_step", "_law_there", "_law_word", "_law_size", "_law_start"] ["_law_template_here", "_law_most"] (defScope (top 51)) := ⟨rfl, rfl, rfl, by decide +kernel, rfl, by decide +kernel, by decide +kernel⟩
theorem c_law_first_pairs : (body ⟨["_law_template_here", "_law_most", "_law_rows", "_law_at", "_law_step", "_law_there", "_law_word", "_law_size", "_law_start"], defScope (top 51), [("tuple", .blt), ("len", .blt), ("_law_pair_next", .fn 2 sp_law_pair_next)], true, true⟩ (defBody (top 51))).map CSs.t = some t_law_first_pairs := by kernel_rfl
theorem sc_law_take : FnScope ["_law_pack_here", "_law_size", "_law_digit"] ["_law_pack_here", "_law_size"] (defScope (top 42)) := ⟨rfl, rfl, rfl, by decide +kernel, rfl, by decide +kernel, by decide +kernel⟩
theorem c_law_take : (body ⟨["_law_pack_here", "_law_size", "_law_digit"], defScope (top 42), [("divmod", .blt)], true, true⟩ (defBody (top 42))).map CSs.t = some t_law_take := by kernel_rfl
theorem sc_law_spot : FnScope ["_law_pack_here", "_law_template_here", "_law_hand", "_law_kinds", "_law_program", "_law_rows", "_law_odd", "_law_place", "_law_row", "_law_can"] ["_law_pack_here", "_law_template_here", "_law_hand"] (defScope (top 52)) := ⟨rfl, rfl, rfl, by decide +kernel, rfl, by decide +kernel, by decide +kernel⟩
theorem c_law_spot : (body ⟨["_law_pack_here", "_law_template_here", "_law_hand", "_law_kinds", "_law_program", "_law_rows", "_law_odd", "_law_place", "_law_row", "_law_can"], defScope (top 52), [("_law_take", .fn 2 sp_law_take), ("len", .blt), ("_law_has", .fn 2 sp_law_has), ("int", .blt)], true, true⟩ (defBody (top 52))).map CSs.t = some t_law_spot := by kernel_rfl
theorem sc_law_drawn_pair : FnScope ["_law_pack_here", "_law_template_here", "_law_spots", "_law_word", "_law_size", "_law_start"] ["_law_pack_here", "_law_template_here"] (defScope (top 53)) := ⟨rfl, rfl, rfl, by decide +kernel, rfl, by decide +kernel, by decide +kernel⟩
theorem c_law_drawn_pair : (body ⟨["_law_pack_here", "_law_template_here", "_law_spots", "_law_word", "_law_size", "_law_start"], defScope (top 53), [("_law_spot", .fn 3 sp_law_spot), ("tuple", .blt), ("_law_take", .fn 2 sp_law_take)], true, true⟩ (defBody (top 53))).map CSs.t = some t_law_drawn_pair := by kernel_rfl
theorem sc_is_kind : FnScope ["thing"] ["thing"] (defScope (top 10)) := ⟨rfl, rfl, rfl, by decide +kernel, rfl, by decide +kernel, by decide +kernel⟩
theorem c_is_kind : (body ⟨["thing"], defScope (top 10), [("isinstance", .blt), ("str", .blt), ("KINDS", .val (.tup [(.str "whole"), (.str "either"), (.str "torn")]))], true, true⟩ (defBody (top 10))).map CSs.t = some t_is_kind := by kernel_rfl
theorem sc_is_whole : FnScope ["thing"] ["thing"] (defScope (top 8)) := ⟨rfl, rfl, rfl, by decide +kernel, rfl, by decide +kernel, by decide +kernel⟩
theorem c_is_whole : (body ⟨["thing"], defScope (top 8), [("isinstance", .blt), ("int", .blt), ("bool", .blt)], true, true⟩ (defBody (top 8))).map CSs.t = some t_is_whole := by kernel_rfl
theorem sc_is_between : FnScope ["thing", "least", "most"] ["thing", "least", "most"] (defScope (top 9)) := ⟨rfl, rfl, rfl, by decide +kernel, rfl, by decide +kernel, by decide +kernel⟩
theorem c_is_between : (body ⟨["thing", "least", "most"], defScope (top 9), [("is_whole", .fn 1 sp_is_whole)], true, true⟩ (defBody (top 9))).map CSs.t = some t_is_between := by kernel_rfl
theorem sc_is_box : FnScope ["thing"] ["thing"] (defScope (top 11)) := ⟨rfl, rfl, rfl, by decide +kernel, rfl, by decide +kernel, by decide +kernel⟩
theorem c_is_box : (body ⟨["thing"], defScope (top 11), [("isinstance", .blt), ("tuple", .blt), ("len", .blt), ("is_kind", .fn 1 sp_is_kind), ("is_between", .fn 3 sp_is_between), ("LEAST_SIZE", .val (.int 2)), ("MOST_SIZE", .val (.int 5))], true, true⟩ (defBody (top 11))).map CSs.t = some t_is_box := by kernel_rfl
theorem sc_are_boxes : FnScope ["thing", "most", "box"] ["thing", "most"] (defScope (top 12)) := ⟨rfl, rfl, rfl, by decide +kernel, rfl, by decide +kernel, by decide +kernel⟩
theorem c_are_boxes : (body ⟨["thing", "most", "box"], defScope (top 12), [("isinstance", .blt), ("tuple", .blt), ("len", .blt), ("all", .blt), ("is_box", .fn 1 sp_is_box)], true, true⟩ (defBody (top 12))).map CSs.t = some t_are_boxes := by kernel_rfl
theorem sc_has_ends : FnScope ["thing", "most"] ["thing", "most"] (defScope (top 16)) := ⟨rfl, rfl, rfl, by decide +kernel, rfl, by decide +kernel, by decide +kernel⟩
theorem c_has_ends : (body ⟨["thing", "most"], defScope (top 16), [("isinstance", .blt), ("tuple", .blt), ("len", .blt), ("is_between", .fn 3 sp_is_between)], true, true⟩ (defBody (top 16))).map CSs.t = some t_has_ends := by kernel_rfl
theorem sc_is_write : FnScope ["boxes", "thing"] ["boxes", "thing"] (defScope (top 14)) := ⟨rfl, rfl, rfl, by decide +kernel, rfl, by decide +kernel, by decide +kernel⟩
theorem c_is_write : (body ⟨["boxes", "thing"], defScope (top 14), [("isinstance", .blt), ("tuple", .blt), ("len", .blt), ("str", .blt), ("is_between", .fn 3 sp_is_between)], true, true⟩ (defBody (top 14))).map CSs.t = some t_is_write := by kernel_rfl
theorem sc_are_numbers : FnScope ["thing", "size", "one", "k"] ["thing", "size"] (defScope (top 13)) := ⟨rfl, rfl, rfl, by decide +kernel, rfl, by decide +kernel, by decide +kernel⟩
theorem c_are_numbers : (body ⟨["thing", "size", "one", "k"], defScope (top 13), [("isinstance", .blt), ("tuple", .blt), ("all", .blt), ("is_between", .fn 3 sp_is_between), ("range", .blt), ("len", .blt)], true, true⟩ (defBody (top 13))).map CSs.t = some t_are_numbers := by kernel_rfl
theorem sc_is_look : FnScope ["boxes", "thing"] ["boxes", "thing"] (defScope (top 15)) := ⟨rfl, rfl, rfl, by decide +kernel, rfl, by decide +kernel, by decide +kernel⟩
theorem c_is_look : (body ⟨["boxes", "thing"], defScope (top 15), [("isinstance", .blt), ("tuple", .blt), ("len", .blt), ("str", .blt), ("is_between", .fn 3 sp_is_between), ("are_numbers", .fn 2 sp_are_numbers)], true, true⟩ (defBody (top 15))).map CSs.t = some t_is_look := by kernel_rfl
theorem sc_is_template_look : FnScope ["kinds", "thing", "at", "within"] ["kinds", "thing", "at", "within"] (defScope (top 22)) := ⟨rfl, rfl, rfl, by decide +kernel, rfl, by decide +kernel, by decide +kernel⟩
theorem c_is_template_look : (body ⟨["kinds", "thing", "at", "within"], defScope (top 22), [("isinstance", .blt), ("tuple", .blt), ("len", .blt), ("str", .blt), ("WHOM", .val (.tup [(.str "others"), (.str "lower"), (.str "higher")])), ("is_look", .fn 2 sp_is_look), ("is_between", .fn 3 sp_is_between)], true, true⟩ (defBody (top 22))).map CSs.t = some t_is_template_look := by kernel_rfl
theorem sc_together : FnScope ["rows", "row"] ["rows"] (defScope (top 23)) := ⟨rfl, rfl, rfl, by decide +kernel, rfl, by decide +kernel, by decide +kernel⟩
theorem c_together : (body ⟨["rows", "row"], defScope (top 23), [("sum", .blt), ("int", .blt)], true, true⟩ (defBody (top 23))).map CSs.t = some t_together := by kernel_rfl
theorem sc_is_template : FnScope ["thing", "kinds", "program", "door", "within", "rows", "at", "row"] ["thing"] (defScope (top 24)) := ⟨rfl, rfl, rfl, by decide +kernel, rfl, by decide +kernel, by decide +kernel⟩
theorem c_is_template : (body ⟨["thing", "kinds", "program", "door", "within", "rows", "at", "row"], defScope (top 24), [("isinstance", .blt), ("tuple", .blt), ("len", .blt), ("are_boxes", .fn 2 sp_are_boxes), ("MOST_KINDS", .val (.int 2)), ("has_ends", .fn 2 sp_has_ends), ("MOST_TEMPLATE_ROWS", .val (.int 8)), ("enumerate", .blt), ("is_write", .fn 2 sp_is_write), ("is_template_look", .fn 4 sp_is_template_look), ("together", .fn 1 sp_together), ("MOST_TOGETHER", .val (.int 16))], true, true⟩ (defBody (top 24))).map CSs.t = some t_is_template := by kernel_rfl
theorem sc_check_template : FnScope ["template"] ["template"] (defScope (top 25)) := ⟨rfl, rfl, rfl, by decide +kernel, rfl, by decide +kernel, by decide +kernel⟩
theorem c_check_template : (body ⟨["template"], defScope (top 25), [("is_template", .fn 1 sp_is_template), ("NoTemplate", .exc xs)], true, true⟩ (defBody (top 25))).map CSs.t = some t_check_template := by kernel_rfl
theorem sc_first_pair : FnScope ["template", "box"] ["template"] (defScope (top 31)) := ⟨rfl, rfl, rfl, by decide +kernel, rfl, by decide +kernel, by decide +kernel⟩
theorem c_first_pair : (body ⟨["template", "box"], defScope (top 31), [("check_template", .fn 1 sp_check_template), ("tuple", .blt)], true, true⟩ (defBody (top 31))).map CSs.t = some t_first_pair := by kernel_rfl
theorem sc_has_other : FnScope ["hand", "row"] ["hand", "row"] (defScope (top 28)) := ⟨rfl, rfl, rfl, by decide +kernel, rfl, by decide +kernel, by decide +kernel⟩
theorem c_has_other : (body ⟨["hand", "row"], defScope (top 28), [("HAVE_OTHER", .val (.tup [(.tup [(.str "others"), (.str "higher")]), (.tup [(.str "others"), (.str "lower")])]))], true, true⟩ (defBody (top 28))).map CSs.t = some t_has_other := by kernel_rfl
theorem sc_is_pair_spot : FnScope ["template", "hand", "thing", "kinds", "door", "within", "rows", "row"] ["template", "hand", "thing"] (defScope (top 29)) := ⟨rfl, rfl, rfl, by decide +kernel, rfl, by decide +kernel, by decide +kernel⟩
theorem c_is_pair_spot : (body ⟨["template", "hand", "thing", "kinds", "door", "within", "rows", "row"], defScope (top 29), [("is_whole", .fn 1 sp_is_whole), ("len", .blt), ("has_other", .fn 2 sp_has_other)], true, true⟩ (defBody (top 29))).map CSs.t = some t_is_pair_spot := by kernel_rfl
theorem sc_is_pair : FnScope ["template", "thing", "kinds", "spots", "values", "part", "hand", "box", "value"] ["template", "thing"] (defScope (top 30)) := ⟨rfl, rfl, rfl, by decide +kernel, rfl, by decide +kernel, by decide +kernel⟩
theorem c_is_pair : (body ⟨["template", "thing", "kinds", "spots", "values", "part", "hand", "box", "value"], defScope (top 30), [("isinstance", .blt), ("tuple", .blt), ("len", .blt), ("all", .blt), ("is_pair_spot", .fn 3 sp_is_pair_spot), ("range", .blt), ("is_whole", .fn 1 sp_is_whole), ("zip", .blt)], true, true⟩ (defBody (top 30))).map CSs.t = some t_is_pair := by kernel_rfl
theorem sc_moved : FnScope ["spots", "hand", "spot"] ["spots", "hand", "spot"] (defScope (top 32)) := ⟨rfl, rfl, rfl, by decide +kernel, rfl, by decide +kernel, by decide +kernel⟩
theorem c_moved : (body ⟨["spots", "hand", "spot"], defScope (top 32), [], true, true⟩ (defBody (top 32))).map CSs.t = some t_moved := by kernel_rfl
theorem sc_spot_behind : FnScope ["rows", "place"] ["rows", "place"] (defScope (top 33)) := ⟨rfl, rfl, rfl, by decide +kernel, rfl, by decide +kernel, by decide +kernel⟩
theorem c_spot_behind : (body ⟨["rows", "place"], defScope (top 33), [("len", .blt)], true, true⟩ (defBody (top 33))).map CSs.t = some t_spot_behind := by kernel_rfl
theorem sc_write_moves : FnScope ["template", "pair", "hand", "row", "kinds", "door", "within", "rows", "spots", "values", "word", "kind", "number", "at", "spot"] ["template", "pair", "hand", "row"] (defScope (top 35)) := ⟨rfl, rfl, rfl, by decide +kernel, rfl, by decide +kernel, by decide +kernel⟩
theorem c_write_moves : (body ⟨["template", "pair", "hand", "row", "kinds", "door", "within", "rows", "spots", "values", "word", "kind", "number", "at", "spot"], defScope (top 35), [("moved", .fn 3 sp_moved), ("len", .blt), ("spot_behind", .fn 2 sp_spot_behind)], true, true⟩ (defBody (top 35))).map CSs.t = some t_write_moves := by kernel_rfl
theorem sc_tellable : FnScope ["template", "pair", "hand", "kind", "kinds", "door", "within", "rows", "spots", "values", "other", "holds_now", "row"] ["template", "pair", "hand", "kind"] (defScope (top 34)) := ⟨rfl, rfl, rfl, by decide +kernel, rfl, by decide +kernel, by decide +kernel⟩
theorem c_tellable : (body ⟨["template", "pair", "hand", "kind", "kinds", "door", "within", "rows", "spots", "values", "other", "holds_now", "row"], defScope (top 34), [("len", .blt), ("max", .blt), ("list", .blt), ("range", .blt), ("sorted", .blt), ("set", .blt)], true, true⟩ (defBody (top 34))).map CSs.t = some t_tellable := by kernel_rfl
theorem sc_look_moves : FnScope ["template", "pair", "hand", "row", "rows", "spots", "values", "word", "whom", "kind", "numbers", "place", "back", "found", "told", "there"] ["template", "pair", "hand", "row"] (defScope (top 36)) := ⟨rfl, rfl, rfl, by decide +kernel, rfl, by decide +kernel, by decide +kernel⟩
theorem c_look_moves : (body ⟨["template", "pair", "hand", "row", "rows", "spots", "values", "word", "whom", "kind", "numbers", "place", "back", "found", "told", "there"], defScope (top 36), [("moved", .fn 3 sp_moved), ("has_other", .fn 2 sp_has_other), ("tellable", .fn 4 sp_tellable), ("spot_behind", .fn 2 sp_spot_behind)], true, true⟩ (defBody (top 36))).map CSs.t = some t_look_moves := by kernel_rfl
theorem sc_moves_of : FnScope ["template", "pair", "rows", "found", "hand", "spot"] ["template", "pair"] (defScope (top 37)) := ⟨rfl, rfl, rfl, by decide +kernel, rfl, by decide +kernel, by decide +kernel⟩
theorem c_moves_of : (body ⟨["template", "pair", "rows", "found", "hand", "spot"], defScope (top 37), [("range", .blt), ("moved", .fn 3 sp_moved), ("write_moves", .fn 4 sp_write_moves), ("look_moves", .fn 4 sp_look_moves), ("tuple", .blt)], true, true⟩ (defBody (top 37))).map CSs.t = some t_moves_of := by kernel_rfl
theorem sc_pair_steps : FnScope ["template", "pair"] ["template", "pair"] (defScope (top 38)) := ⟨rfl, rfl, rfl, by decide +kernel, rfl, by decide +kernel, by decide +kernel⟩
theorem c_pair_steps : (body ⟨["template", "pair"], defScope (top 38), [("check_template", .fn 1 sp_check_template), ("is_pair", .fn 2 sp_is_pair), ("NoPair", .exc xs), ("moves_of", .fn 2 sp_moves_of)], true, true⟩ (defBody (top 38))).map CSs.t = some t_pair_steps := by kernel_rfl
theorem sc_law_right : FnScope ["_law_pack_here", "_law_template_here", "_law_rows", "_law_first", "_law_pair", "_law_found", "_law_turn", "_law_word", "_law_size", "_law_start", "_law_hand", "_law_what", "_law_there"] ["_law_pack_here", "_law_template_here"] (defScope (top 54)) := ⟨rfl, rfl, rfl, by decide +kernel, rfl, by decide +kernel, by decide +kernel⟩
theorem c_law_right : (body ⟨["_law_pack_here", "_law_template_here", "_law_rows", "_law_first", "_law_pair", "_law_found", "_law_turn", "_law_word", "_law_size", "_law_start", "_law_hand", "_law_what", "_law_there"], defScope (top 54), [("_law_first_pairs", .fn 2 sp_law_first_pairs), ("_law_drawn_pair", .fn 2 sp_law_drawn_pair), ("range", .blt), ("tuple", .blt), ("first_pair", .fn 1 sp_first_pair), ("pair_steps", .fn 2 sp_pair_steps), ("isinstance", .blt), ("_law_pair_next", .fn 2 sp_law_pair_next), ("any", .blt), ("bool", .blt)], true, true⟩ (defBody (top 54))).map CSs.t = some t_law_right := by kernel_rfl
theorem sc_law_mixed : FnScope ["_law_cell"] ["_law_cell"] (defScope (top 40)) := ⟨rfl, rfl, rfl, by decide +kernel, rfl, by decide +kernel, by decide +kernel⟩
theorem c_law_mixed : (body ⟨["_law_cell"], defScope (top 40), [], true, true⟩ (defBody (top 40))).map CSs.t = some t_law_mixed := by kernel_rfl
theorem sc_law_pack : FnScope ["_law_script", "_law_k", "_law_found", "_law_at", "_law_lack"] ["_law_script", "_law_k"] (defScope (top 41)) := ⟨rfl, rfl, rfl, by decide +kernel, rfl, by decide +kernel, by decide +kernel⟩
theorem c_law_pack : (body ⟨["_law_script", "_law_k", "_law_found", "_law_at", "_law_lack"], defScope (top 41), [("_law_mixed", .fn 1 sp_law_mixed)], true, true⟩ (defBody (top 41))).map CSs.t = some t_law_pack := by kernel_rfl
theorem sc_law_numbers : FnScope ["_law_pack_here", "_law_size", "_law_bits", "_law_number"] ["_law_pack_here", "_law_size"] (defScope (top 43)) := ⟨rfl, rfl, rfl, by decide +kernel, rfl, by decide +kernel, by decide +kernel⟩
theorem c_law_numbers : (body ⟨["_law_pack_here", "_law_size", "_law_bits", "_law_number"], defScope (top 43), [("_law_take", .fn 2 sp_law_take), ("tuple", .blt), ("range", .blt)], true, true⟩ (defBody (top 43))).map CSs.t = some t_law_numbers := by kernel_rfl
theorem sc_law_template_row : FnScope ["_law_pack_here", "_law_kinds", "_law_within", "_law_room", "_law_looks", "_law_kind", "_law_size", "_law_whom", "_law_numbers_here"] ["_law_pack_here", "_law_kinds", "_law_within", "_law_room"] (defScope (top 45)) := ⟨rfl, rfl, rfl, by decide +kernel, rfl, by decide +kernel, by decide +kernel⟩
theorem c_law_template_row : (body ⟨["_law_pack_here", "_law_kinds", "_law_within", "_law_room", "_law_looks", "_law_kind", "_law_size", "_law_whom", "_law_numbers_here"], defScope (top 45), [("_law_take", .fn 2 sp_law_take), ("len", .blt), ("_law_numbers", .fn 2 sp_law_numbers)], true, true⟩ (defBody (top 45))).map CSs.t = some t_law_template_row := by kernel_rfl
theorem sc_law_template : FnScope ["_law_pack_here", "_law_most", "_law_pick", "_law_rows", "_law_kinds", "_law_turn", "_law_word", "_law_size", "_law_many", "_law_within", "_law_room", "_law_place", "_law_row", "_law_kind"] ["_law_pack_here", "_law_most"] (defScope (top 46)) := ⟨rfl, rfl, rfl, by decide +kernel, rfl, by decide +kernel, by decide +kernel⟩
theorem c_law_template : (body ⟨["_law_pack_here", "_law_most", "_law_pick", "_law_rows", "_law_kinds", "_law_turn", "_law_word", "_law_size", "_law_many", "_law_within", "_law_room", "_law_place", "_law_row", "_law_kind"], defScope (top 46), [("_law_take", .fn 2 sp_law_take), ("range", .blt), ("_law_template_row", .fn 4 sp_law_template_row), ("len", .blt), ("int", .blt), ("tuple", .blt)], true, true⟩ (defBody (top 46))).map CSs.t = some t_law_template := by kernel_rfl
theorem sc_law : FnScope ["_law_script", "_law_k"] ["_law_script"] (defScope (top 55)) := ⟨rfl, rfl, rfl, by decide +kernel, rfl, by decide +kernel, by decide +kernel⟩
theorem c_law : (body ⟨["_law_script", "_law_k"], defScope (top 55), [("range", .blt), ("max", .blt), ("min", .blt), ("len", .blt), ("_law_right", .fn 2 sp_law_right), ("_law_pack", .fn 2 sp_law_pack), ("_law_template", .fn 2 sp_law_template)], true, true⟩ (defBody (top 55))).map CSs.t = some t_law := by kernel_rfl
section
variable {P : Program} {w : World} {K : PySem.W.Frag} {mg : Str → Option Value} {base : Heap}
theorem at_law_put (F : Fx fa fn cs xs K mg) : FnAt P w K mg base 1 "_law_put" 3 sp_law_put :=
  at_of (k := 0) F 0 rfl (by simp [fa]) sc_law_put GAll.nil (fun _ _ _ _ _ _ us hl => match us, hl with | [_, _, _], _ => rfl) c_law_put ok_law_put
theorem at_law_has (F : Fx fa fn cs xs K mg) : FnAt P w K mg base 2 "_law_has" 2 sp_law_has :=
  at_of (k := 1) F 1 rfl (by simp [fa]) sc_law_has GAll.nil (fun _ _ _ _ _ _ us hl => match us, hl with | [_, _], _ => rfl) c_law_has ok_law_has
theorem at_law_heard (F : Fx fa fn cs xs K mg) : FnAt P w K mg base 3 "_law_heard" 4 sp_law_heard :=
  at_of (k := 2) F 2 rfl (by simp [fa]) sc_law_heard (GAll.bltF F (by simp [fa]) (GAll.bltF F (by simp [fa]) (GAll.bltF F (by simp [fa]) (GAll.bltF F (by simp [fa]) (GAll.bltF F (by simp [fa]) GAll.nil))))) (fun _ _ _ _ _ _ us hl => match us, hl with | [_, _, _, _], _ => rfl) c_law_heard ok_law_heard
theorem at_law_pair_hand (F : Fx fa fn cs xs K mg) : FnAt P w K mg base 4 "_law_pair_hand" 3 sp_law_pair_hand :=
  at_of (k := 3) F 3 rfl (by simp [fa]) sc_law_pair_hand (GAll.fn (at_law_put F) (by decide) (GAll.bltF F (by simp [fa]) (GAll.fn (at_law_has F) (by decide) (GAll.fn (at_law_heard F) (by decide) (GAll.bltF F (by simp [fa]) GAll.nil))))) (fun _ _ _ _ _ _ us hl => match us, hl with | [_, _, _], _ => rfl) c_law_pair_hand ok_law_pair_hand
theorem at_law_pair_next (F : Fx fa fn cs xs K mg) : FnAt P w K mg base 5 "_law_pair_next" 2 sp_law_pair_next :=
  at_of (k := 4) F 4 rfl (by simp [fa]) sc_law_pair_next (GAll.fn (at_law_pair_hand F) (by decide) GAll.nil) (fun _ _ _ _ _ _ us hl => match us, hl with | [_, _], _ => rfl) c_law_pair_next ok_law_pair_next
theorem at_law_first_pairs (F : Fx fa fn cs xs K mg) : FnAt P w K mg base 6 "_law_first_pairs" 2 sp_law_first_pairs :=
  at_of (k := 5) F 5 rfl (by simp [fa]) sc_law_first_pairs (GAll.bltF F (by simp [fa]) (GAll.bltF F (by simp [fa]) (GAll.fn (at_law_pair_next F) (by decide) GAll.nil))) (fun _ _ _ _ _ _ us hl => match us, hl with | [_, _], _ => rfl) c_law_first_pairs ok_law_first_pairs
theorem at_law_take (F : Fx fa fn cs xs K mg) : FnAt P w K mg base 7 "_law_take" 2 sp_law_take :=
  at_of (k := 6) F 6 rfl (by simp [fa]) sc_law_take (GAll.bltF F (by simp [fa]) GAll.nil) (fun _ _ _ _ _ _ us hl => match us, hl with | [_, _], _ => rfl) c_law_take ok_law_take
theorem at_law_spot (F : Fx fa fn cs xs K mg) : FnAt P w K mg base 8 "_law_spot" 3 sp_law_spot :=
  at_of (k := 7) F 7 rfl (by simp [fa]) sc_law_spot (GAll.fn (at_law_take F) (by decide) (GAll.bltF F (by simp [fa]) (GAll.fn (at_law_has F) (by decide) (GAll.bltF F (by simp [fa]) GAll.nil)))) (fun _ _ _ _ _ _ us hl => match us, hl with | [_, _, _], _ => rfl) c_law_spot ok_law_spot
theorem at_law_drawn_pair (F : Fx fa fn cs xs K mg) : FnAt P w K mg base 9 "_law_drawn_pair" 2 sp_law_drawn_pair :=
  at_of (k := 8) F 8 rfl (by simp [fa]) sc_law_drawn_pair (GAll.fn (at_law_spot F) (by decide) (GAll.bltF F (by simp [fa]) (GAll.fn (at_law_take F) (by decide) GAll.nil))) (fun _ _ _ _ _ _ us hl => match us, hl with | [_, _], _ => rfl) c_law_drawn_pair ok_law_drawn_pair
theorem at_is_kind (F : Fx fa fn cs xs K mg) : FnAt P w K mg base 10 "is_kind" 1 sp_is_kind :=
  at_of (k := 9) F 9 rfl (by simp [fa]) sc_is_kind (GAll.bltF F (by simp [fa]) (GAll.bltF F (by simp [fa]) (GAll.valF F (by simp [cs]) GAll.nil))) (fun _ _ _ _ _ _ us hl => match us, hl with | [_], _ => rfl) c_is_kind ok_is_kind
theorem at_is_whole (F : Fx fa fn cs xs K mg) : FnAt P w K mg base 11 "is_whole" 1 sp_is_whole :=
  at_of (k := 10) F 10 rfl (by simp [fa]) sc_is_whole (GAll.bltF F (by simp [fa]) (GAll.bltF F (by simp [fa]) (GAll.bltF F (by simp [fa]) GAll.nil))) (fun _ _ _ _ _ _ us hl => match us, hl with | [_], _ => rfl) c_is_whole ok_is_whole
theorem at_is_between (F : Fx fa fn cs xs K mg) : FnAt P w K mg base 12 "is_between" 3 sp_is_between :=
  at_of (k := 11) F 11 rfl (by simp [fa]) sc_is_between (GAll.fn (at_is_whole F) (by decide) GAll.nil) (fun _ _ _ _ _ _ us hl => match us, hl with | [_, _, _], _ => rfl) c_is_between ok_is_between
theorem at_is_box (F : Fx fa fn cs xs K mg) : FnAt P w K mg base 13 "is_box" 1 sp_is_box :=
  at_of (k := 12) F 12 rfl (by simp [fa]) sc_is_box (GAll.bltF F (by simp [fa]) (GAll.bltF F (by simp [fa]) (GAll.bltF F (by simp [fa]) (GAll.fn (at_is_kind F) (by decide) (GAll.fn (at_is_between F) (by decide) (GAll.valF F (by simp [cs]) (GAll.valF F (by simp [cs]) GAll.nil))))))) (fun _ _ _ _ _ _ us hl => match us, hl with | [_], _ => rfl) c_is_box ok_is_box
theorem at_are_boxes (F : Fx fa fn cs xs K mg) : FnAt P w K mg base 14 "are_boxes" 2 sp_are_boxes :=
  at_of (k := 13) F 13 rfl (by simp [fa]) sc_are_boxes (GAll.bltF F (by simp [fa]) (GAll.bltF F (by simp [fa]) (GAll.bltF F (by simp [fa]) (GAll.bltF F (by simp [fa]) (GAll.fn (at_is_box F) (by decide) GAll.nil))))) (fun _ _ _ _ _ _ us hl => match us, hl with | [_, _], _ => rfl) c_are_boxes ok_are_boxes
theorem at_has_ends (F : Fx fa fn cs xs K mg) : FnAt P w K mg base 15 "has_ends" 2 sp_has_ends :=
  at_of (k := 14) F 14 rfl (by simp [fa]) sc_has_ends (GAll.bltF F (by simp [fa]) (GAll.bltF F (by simp [fa]) (GAll.bltF F (by simp [fa]) (GAll.fn (at_is_between F) (by decide) GAll.nil)))) (fun _ _ _ _ _ _ us hl => match us, hl with | [_, _], _ => rfl) c_has_ends ok_has_ends
theorem at_is_write (F : Fx fa fn cs xs K mg) : FnAt P w K mg base 16 "is_write" 2 sp_is_write :=
  at_of (k := 15) F 15 rfl (by simp [fa]) sc_is_write (GAll.bltF F (by simp [fa]) (GAll.bltF F (by simp [fa]) (GAll.bltF F (by simp [fa]) (GAll.bltF F (by simp [fa]) (GAll.fn (at_is_between F) (by decide) GAll.nil))))) (fun _ _ _ _ _ _ us hl => match us, hl with | [_, _], _ => rfl) c_is_write ok_is_write
theorem at_are_numbers (F : Fx fa fn cs xs K mg) : FnAt P w K mg base 17 "are_numbers" 2 sp_are_numbers :=
  at_of (k := 16) F 16 rfl (by simp [fa]) sc_are_numbers (GAll.bltF F (by simp [fa]) (GAll.bltF F (by simp [fa]) (GAll.bltF F (by simp [fa]) (GAll.fn (at_is_between F) (by decide) (GAll.bltF F (by simp [fa]) (GAll.bltF F (by simp [fa]) GAll.nil)))))) (fun _ _ _ _ _ _ us hl => match us, hl with | [_, _], _ => rfl) c_are_numbers ok_are_numbers
theorem at_is_look (F : Fx fa fn cs xs K mg) : FnAt P w K mg base 18 "is_look" 2 sp_is_look :=
  at_of (k := 17) F 17 rfl (by simp [fa]) sc_is_look (GAll.bltF F (by simp [fa]) (GAll.bltF F (by simp [fa]) (GAll.bltF F (by simp [fa]) (GAll.bltF F (by simp [fa]) (GAll.fn (at_is_between F) (by decide) (GAll.fn (at_are_numbers F) (by decide) GAll.nil)))))) (fun _ _ _ _ _ _ us hl => match us, hl with | [_, _], _ => rfl) c_is_look ok_is_look
theorem at_is_template_look (F : Fx fa fn cs xs K mg) : FnAt P w K mg base 19 "is_template_look" 4 sp_is_template_look :=
  at_of (k := 18) F 18 rfl (by simp [fa]) sc_is_template_look (GAll.bltF F (by simp [fa]) (GAll.bltF F (by simp [fa]) (GAll.bltF F (by simp [fa]) (GAll.bltF F (by simp [fa]) (GAll.valF F (by simp [cs]) (GAll.fn (at_is_look F) (by decide) (GAll.fn (at_is_between F) (by decide) GAll.nil))))))) (fun _ _ _ _ _ _ us hl => match us, hl with | [_, _, _, _], _ => rfl) c_is_template_look ok_is_template_look
theorem at_together (F : Fx fa fn cs xs K mg) : FnAt P w K mg base 20 "together" 1 sp_together :=
  at_of (k := 19) F 19 rfl (by simp [fa]) sc_together (GAll.bltF F (by simp [fa]) (GAll.bltF F (by simp [fa]) GAll.nil)) (fun _ _ _ _ _ _ us hl => match us, hl with | [_], _ => rfl) c_together ok_together
theorem at_is_template (F : Fx fa fn cs xs K mg) : FnAt P w K mg base 21 "is_template" 1 sp_is_template :=
  at_of (k := 20) F 20 rfl (by simp [fa]) sc_is_template (GAll.bltF F (by simp [fa]) (GAll.bltF F (by simp [fa]) (GAll.bltF F (by simp [fa]) (GAll.fn (at_are_boxes F) (by decide) (GAll.valF F (by simp [cs]) (GAll.fn (at_has_ends F) (by decide) (GAll.valF F (by simp [cs]) (GAll.bltF F (by simp [fa]) (GAll.fn (at_is_write F) (by decide) (GAll.fn (at_is_template_look F) (by decide) (GAll.fn (at_together F) (by decide) (GAll.valF F (by simp [cs]) GAll.nil)))))))))))) (fun _ _ _ _ _ _ us hl => match us, hl with | [_], _ => rfl) c_is_template ok_is_template
theorem at_check_template (F : Fx fa fn cs xs K mg) : FnAt P w K mg base 22 "check_template" 1 sp_check_template :=
  at_of (k := 21) F 21 rfl (by simp [fa]) sc_check_template (GAll.fn (at_is_template F) (by decide) (GAll.excF F GAll.nil)) (fun _ _ _ _ _ _ us hl => match us, hl with | [_], _ => rfl) c_check_template ok_check_template
theorem at_first_pair (F : Fx fa fn cs xs K mg) : FnAt P w K mg base 23 "first_pair" 1 sp_first_pair :=
  at_of (k := 22) F 22 rfl (by simp [fa]) sc_first_pair (GAll.fn (at_check_template F) (by decide) (GAll.bltF F (by simp [fa]) GAll.nil)) (fun _ _ _ _ _ _ us hl => match us, hl with | [_], _ => rfl) c_first_pair ok_first_pair
theorem at_has_other (F : Fx fa fn cs xs K mg) : FnAt P w K mg base 24 "has_other" 2 sp_has_other :=
  at_of (k := 23) F 23 rfl (by simp [fa]) sc_has_other (GAll.valF F (by simp [cs]) GAll.nil) (fun _ _ _ _ _ _ us hl => match us, hl with | [_, _], _ => rfl) c_has_other ok_has_other
theorem at_is_pair_spot (F : Fx fa fn cs xs K mg) : FnAt P w K mg base 25 "is_pair_spot" 3 sp_is_pair_spot :=
  at_of (k := 24) F 24 rfl (by simp [fa]) sc_is_pair_spot (GAll.fn (at_is_whole F) (by decide) (GAll.bltF F (by simp [fa]) (GAll.fn (at_has_other F) (by decide) GAll.nil))) (fun _ _ _ _ _ _ us hl => match us, hl with | [_, _, _], _ => rfl) c_is_pair_spot ok_is_pair_spot
theorem at_is_pair (F : Fx fa fn cs xs K mg) : FnAt P w K mg base 26 "is_pair" 2 sp_is_pair :=
  at_of (k := 25) F 25 rfl (by simp [fa]) sc_is_pair (GAll.bltF F (by simp [fa]) (GAll.bltF F (by simp [fa]) (GAll.bltF F (by simp [fa]) (GAll.bltF F (by simp [fa]) (GAll.fn (at_is_pair_spot F) (by decide) (GAll.bltF F (by simp [fa]) (GAll.fn (at_is_whole F) (by decide) (GAll.bltF F (by simp [fa]) GAll.nil)))))))) (fun _ _ _ _ _ _ us hl => match us, hl with | [_, _], _ => rfl) c_is_pair ok_is_pair
theorem at_moved (F : Fx fa fn cs xs K mg) : FnAt P w K mg base 27 "moved" 3 sp_moved :=
  at_of (k := 26) F 26 rfl (by simp [fa]) sc_moved GAll.nil (fun _ _ _ _ _ _ us hl => match us, hl with | [_, _, _], _ => rfl) c_moved ok_moved
theorem at_spot_behind (F : Fx fa fn cs xs K mg) : FnAt P w K mg base 28 "spot_behind" 2 sp_spot_behind :=
  at_of (k := 27) F 27 rfl (by simp [fa]) sc_spot_behind (GAll.bltF F (by simp [fa]) GAll.nil) (fun _ _ _ _ _ _ us hl => match us, hl with | [_, _], _ => rfl) c_spot_behind ok_spot_behind
theorem at_write_moves (F : Fx fa fn cs xs K mg) : FnAt P w K mg base 29 "write_moves" 4 sp_write_moves :=
  at_of (k := 28) F 28 rfl (by simp [fa]) sc_write_moves (GAll.fn (at_moved F) (by decide) (GAll.bltF F (by simp [fa]) (GAll.fn (at_spot_behind F) (by decide) GAll.nil))) (fun _ _ _ _ _ _ us hl => match us, hl with | [_, _, _, _], _ => rfl) c_write_moves ok_write_moves
theorem at_tellable (F : Fx fa fn cs xs K mg) : FnAt P w K mg base 30 "tellable" 4 sp_tellable :=
  at_of (k := 29) F 29 rfl (by simp [fa]) sc_tellable (GAll.bltF F (by simp [fa]) (GAll.bltF F (by simp [fa]) (GAll.bltF F (by simp [fa]) (GAll.bltF F (by simp [fa]) (GAll.bltF F (by simp [fa]) (GAll.bltF F (by simp [fa]) GAll.nil)))))) (fun _ _ _ _ _ _ us hl => match us, hl with | [_, _, _, _], _ => rfl) c_tellable ok_tellable
theorem at_look_moves (F : Fx fa fn cs xs K mg) : FnAt P w K mg base 31 "look_moves" 4 sp_look_moves :=
  at_of (k := 30) F 30 rfl (by simp [fa]) sc_look_moves (GAll.fn (at_moved F) (by decide) (GAll.fn (at_has_other F) (by decide) (GAll.fn (at_tellable F) (by decide) (GAll.fn (at_spot_behind F) (by decide) GAll.nil)))) (fun _ _ _ _ _ _ us hl => match us, hl with | [_, _, _, _], _ => rfl) c_look_moves ok_look_moves
theorem at_moves_of (F : Fx fa fn cs xs K mg) : FnAt P w K mg base 32 "moves_of" 2 sp_moves_of :=
  at_of (k := 31) F 31 rfl (by simp [fa]) sc_moves_of (GAll.bltF F (by simp [fa]) (GAll.fn (at_moved F) (by decide) (GAll.fn (at_write_moves F) (by decide) (GAll.fn (at_look_moves F) (by decide) (GAll.bltF F (by simp [fa]) GAll.nil))))) (fun _ _ _ _ _ _ us hl => match us, hl with | [_, _], _ => rfl) c_moves_of ok_moves_of
theorem at_pair_steps (F : Fx fa fn cs xs K mg) : FnAt P w K mg base 33 "pair_steps" 2 sp_pair_steps :=
  at_of (k := 32) F 32 rfl (by simp [fa]) sc_pair_steps (GAll.fn (at_check_template F) (by decide) (GAll.fn (at_is_pair F) (by decide) (GAll.excF F (GAll.fn (at_moves_of F) (by decide) GAll.nil)))) (fun _ _ _ _ _ _ us hl => match us, hl with | [_, _], _ => rfl) c_pair_steps ok_pair_steps
theorem at_law_right (F : Fx fa fn cs xs K mg) : FnAt P w K mg base 34 "_law_right" 2 sp_law_right :=
  at_of (k := 33) F 33 rfl (by simp [fa]) sc_law_right (GAll.fn (at_law_first_pairs F) (by decide) (GAll.fn (at_law_drawn_pair F) (by decide) (GAll.bltF F (by simp [fa]) (GAll.bltF F (by simp [fa]) (GAll.fn (at_first_pair F) (by decide) (GAll.fn (at_pair_steps F) (by decide) (GAll.bltF F (by simp [fa]) (GAll.fn (at_law_pair_next F) (by decide) (GAll.bltF F (by simp [fa]) (GAll.bltF F (by simp [fa]) GAll.nil)))))))))) (fun _ _ _ _ _ _ us hl => match us, hl with | [_, _], _ => rfl) c_law_right ok_law_right
theorem at_law_mixed (F : Fx fa fn cs xs K mg) : FnAt P w K mg base 35 "_law_mixed" 1 sp_law_mixed :=
  at_of (k := 34) F 34 rfl (by simp [fa]) sc_law_mixed GAll.nil (fun _ _ _ _ _ _ us hl => match us, hl with | [_], _ => rfl) c_law_mixed ok_law_mixed
theorem at_law_pack (F : Fx fa fn cs xs K mg) : FnAt P w K mg base 36 "_law_pack" 2 sp_law_pack :=
  at_of (k := 35) F 35 rfl (by simp [fa]) sc_law_pack (GAll.fn (at_law_mixed F) (by decide) GAll.nil) (fun _ _ _ _ _ _ us hl => match us, hl with | [_, _], _ => rfl) c_law_pack ok_law_pack
theorem at_law_numbers (F : Fx fa fn cs xs K mg) : FnAt P w K mg base 37 "_law_numbers" 2 sp_law_numbers :=
  at_of (k := 36) F 36 rfl (by simp [fa]) sc_law_numbers (GAll.fn (at_law_take F) (by decide) (GAll.bltF F (by simp [fa]) (GAll.bltF F (by simp [fa]) GAll.nil))) (fun _ _ _ _ _ _ us hl => match us, hl with | [_, _], _ => rfl) c_law_numbers ok_law_numbers
theorem at_law_template_row (F : Fx fa fn cs xs K mg) : FnAt P w K mg base 38 "_law_template_row" 4 sp_law_template_row :=
  at_of (k := 37) F 37 rfl (by simp [fa]) sc_law_template_row (GAll.fn (at_law_take F) (by decide) (GAll.bltF F (by simp [fa]) (GAll.fn (at_law_numbers F) (by decide) GAll.nil))) (fun _ _ _ _ _ _ us hl => match us, hl with | [_, _, _, _], _ => rfl) c_law_template_row ok_law_template_row
theorem at_law_template (F : Fx fa fn cs xs K mg) : FnAt P w K mg base 39 "_law_template" 2 sp_law_template :=
  at_of (k := 38) F 38 rfl (by simp [fa]) sc_law_template (GAll.fn (at_law_take F) (by decide) (GAll.bltF F (by simp [fa]) (GAll.fn (at_law_template_row F) (by decide) (GAll.bltF F (by simp [fa]) (GAll.bltF F (by simp [fa]) (GAll.bltF F (by simp [fa]) GAll.nil)))))) (fun _ _ _ _ _ _ us hl => match us, hl with | [_, _], _ => rfl) c_law_template ok_law_template
theorem at_law {f : Addr} (F : Fx fa fn cs xs K mg) (hf : mg ("law" : Str) = some (.ref f)) : ∃ fd : FuncData, (∀ (s : Shared) (v : Value), BindsTo s fd ⟨[v], []⟩ [("_law_script", v)]) ∧ ∀ base : Heap, FnOk P w K mg base (CXE P) 40 f fd ["_law_script"] (spOf K ⟨mg, w⟩ 1 sp_law) :=
  law_of (k := 39) F 39 rfl (by simp [fa]) sc_law (fun base => (GAll.bltF F (by simp [fa]) (GAll.bltF F (by simp [fa]) (GAll.bltF F (by simp [fa]) (GAll.bltF F (by simp [fa]) (GAll.fn (at_law_right F) (by decide) (GAll.fn (at_law_pack F) (by decide) (GAll.fn (at_law_template F) (by decide) GAll.nil)))))))) (fun _ _ _ _ _ _ us hl => match us, hl with | [_], _ => rfl) c_law ok_law hf
end
end Ow.K46
open PySem PySem.W PySem.Calls PyProof.Rows
theorem PySem.Challenge.cw_onewithin_k46_steps_of_pairs_holds : PySem.Challenge.rw_onewithin_k46_steps_of_pairs.Holds := by
  w_on; o_law
  refine HandSHeadRun.head_any (r := (OpenLaw.row PySem.Challenge.rw_onewithin_k46_steps_of_pairs)) (q := view (OpenLaw.row PySem.Challenge.rw_onewithin_k46_steps_of_pairs).prog [55]) (H := Ow.K46.hk) (ob := Ow.K46.ob) (M := 40000) (loose := Ow.K46.loose) (d := HandSHeadRun.topDef (OpenLaw.row PySem.Challenge.rw_onewithin_k46_steps_of_pairs).prog 55) (kwd := []) Ow.K46.ob_eq
    (by kernel_rfl) (fun s => by kernel_rfl) Ow.K46.run (by kernel_rfl) (by kernel_rfl) (by kernel_rfl) (by rfl) (by first | assumption | decide +kernel) (by decide +kernel) ⟨rfl, rfl, rfl, rfl, rfl, by decide +kernel⟩ ?hw ?hc
  case hw => w_witness2
  case hc =>
    refine L2.walk_ofE (l := PySem.Challenge.rw_onewithin_k46_steps_of_pairs) (n := 63) (k := 40) (x := "_law_script") (CX := Ow.CXE (PySem.Challenge.rw_onewithin_k46_steps_of_pairs).prog) rfl (by decide) (by kernel_rfl) ⟨rfl, by decide, by decide⟩ ?F (fun _ _ _ _ z => Ow.cx_end z)
    intro w mg fa h Y G hmg0
    obtain ⟨K, KX, c⟩ := Y
    have hmg : mg ("law" : PySem.Str) = some (.ref fa) := by
      have e : (HandSHeadRun.topDef (OpenLaw.row PySem.Challenge.rw_onewithin_k46_steps_of_pairs).prog 55).name = ("law" : PySem.Str) := by kernel_rfl
      rw [← e]
      exact hmg0
    obtain ⟨fd, hb, hF⟩ := Ow.K46.at_law (P := (PySem.Challenge.rw_onewithin_k46_steps_of_pairs).prog) (w := w) (Ow.SaysV.fx c KX G) hmg
    exact ⟨K, fd, Ow.spOf K ⟨mg, w⟩ 1 Ow.K46.sp_law, KX, hb, fun H a ns hl hO hS => Ow.law_end hO hS ⟨ns, rfl, hl⟩ (fun _ _ z => z.2) (fun _ _ z => z), fun base _ _ => hF base⟩
